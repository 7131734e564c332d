import PyProof.Rows.All
import Wide.All
import OpenK.AllK
import Wide.FinOn
import PySem.Challenge.RW_nn0297_01
set_option compiler.extract_closed false
section
open PySem PySem.W PyProof.Rows
set_option Elab.async false
set_option linter.all false

namespace Mine

/-- abstract values -/
inductive V where
  | int (i : Int)
  | bool (b : Bool)
  | none
  | list (l : List V)
  | tup (l : List V)
  | box (n : Nat)
  | rng (n : Int)

abbrev Boxes := List (List V)
abbrev Loc := List (Str × V)
abbrev Gh := Addr → Option Obj

mutual
inductive Rd (I : Gh) (f : List Addr) : Value → V → Prop
  | int (i : Int) (t : Tok) : Rd I f (.int i t) (.int i)
  | bool (b : Bool) : Rd I f (.bool b) (.bool b)
  | none : Rd I f .none .none
  | list (a : Addr) (o : Obj) (items : Array Value) (n : Nat) (vs : List V) (h1 : I a = some o) (h2 : o.cls = .type "list") (h3 : o.data = .seq items n) (h4 : RdL I f items.toList vs) : Rd I f (.ref a) (.list vs)
  | tup (a : Addr) (o : Obj) (items : Array Value) (n : Nat) (vs : List V) (h1 : I a = some o) (h2 : o.cls = .type "tuple") (h3 : o.data = .seq items n) (h4 : RdL I f items.toList vs) : Rd I f (.ref a) (.tup vs)
  | box (n : Nat) (a : Addr) (h : f[n]? = some a) : Rd I f (.ref a) (.box n)
  | rng (a : Addr) (n : Int) (t u v : Tok) (h : I a = some { cls := .type "range", dict := Option.none, data := .fields #[.int 0 t, .int n u, .int 1 v], slots := #[] }) : Rd I f (.ref a) (.rng n)
inductive RdL (I : Gh) (f : List Addr) : List Value → List V → Prop
  | nil : RdL I f [] []
  | cons (v : Value) (x : V) (vs : List Value) (xs : List V) (h : Rd I f v x) (t : RdL I f vs xs) : RdL I f (v :: vs) (x :: xs)
end

def Le (I I' : Gh) : Prop := ∀ (a : Addr) (o : Obj), I a = some o → I' a = some o
def Px (f f' : List Addr) : Prop := ∀ (n : Nat) (a : Addr), f[n]? = some a → f'[n]? = some a

theorem Le.refl (I : Gh) : Le I I := fun _ _ h => h
theorem Le.trans {I I' I'' : Gh} (h : Le I I') (h' : Le I' I'') : Le I I'' := fun a o e => h' a o (h a o e)
theorem Px.refl (f : List Addr) : Px f f := fun _ _ h => h
theorem Px.trans {f f' f'' : List Addr} (h : Px f f') (h' : Px f' f'') : Px f f'' := fun a o e => h' a o (h a o e)
theorem Px.app (f g : List Addr) : Px f (f ++ g) := fun n a h => by
  rw [List.getElem?_append_left]
  · exact h
  · exact (List.getElem?_eq_some_iff.mp h).1

theorem Rd.mono {I I' : Gh} {f f' : List Addr} (hI : Le I I') (hf : Px f f') {v : Value} {x : V} (h : Rd I f v x) : Rd I' f' v x :=
  Rd.rec (motive_1 := fun v x _ => Rd I' f' v x) (motive_2 := fun vs xs _ => RdL I' f' vs xs)
    (fun i t => .int i t) (fun b => .bool b) .none (fun a o items n vs h1 h2 h3 _ ih => .list a o items n vs (hI _ _ h1) h2 h3 ih)
    (fun a o items n vs h1 h2 h3 _ ih => .tup a o items n vs (hI _ _ h1) h2 h3 ih) (fun n a h => .box n a (hf _ _ h)) (fun a n t u v h => .rng a n t u v (hI _ _ h))
    .nil (fun v x vs xs _ _ ih1 ih2 => .cons v x vs xs ih1 ih2) h
theorem RdL.mono {I I' : Gh} {f f' : List Addr} (hI : Le I I') (hf : Px f f') {v : List Value} {x : List V} (h : RdL I f v x) : RdL I' f' v x :=
  RdL.rec (motive_1 := fun v x _ => Rd I' f' v x) (motive_2 := fun vs xs _ => RdL I' f' vs xs)
    (fun i t => .int i t) (fun b => .bool b) .none (fun a o items n vs h1 h2 h3 _ ih => .list a o items n vs (hI _ _ h1) h2 h3 ih)
    (fun a o items n vs h1 h2 h3 _ ih => .tup a o items n vs (hI _ _ h1) h2 h3 ih) (fun n a h => .box n a (hf _ _ h)) (fun a n t u v h => .rng a n t u v (hI _ _ h))
    .nil (fun v x vs xs _ _ ih1 ih2 => .cons v x vs xs ih1 ih2) h

mutual
/-- no box within -/
inductive Pure : V → Prop
  | int (i : Int) : Pure (.int i)
  | bool (b : Bool) : Pure (.bool b)
  | none : Pure .none
  | list (l : List V) (h : PureL l) : Pure (.list l)
  | tup (l : List V) (h : PureL l) : Pure (.tup l)
  | rng (n : Int) : Pure (.rng n)
inductive PureL : List V → Prop
  | nil : PureL []
  | cons (x : V) (xs : List V) (h : Pure x) (t : PureL xs) : PureL (x :: xs)
end

theorem Rd.anyF {I : Gh} {f f' : List Addr} {v : Value} {x : V} (h : Rd I f v x) : Pure x → Rd I f' v x :=
  Rd.rec (motive_1 := fun v x _ => Pure x → Rd I f' v x) (motive_2 := fun vs xs _ => PureL xs → RdL I f' vs xs)
    (fun i t _ => .int i t) (fun b _ => .bool b) (fun _ => .none) (fun a o items n vs h1 h2 h3 _ ih p => .list a o items n vs h1 h2 h3 (ih (by cases p; assumption)))
    (fun a o items n vs h1 h2 h3 _ ih p => .tup a o items n vs h1 h2 h3 (ih (by cases p; assumption))) (fun n a h p => nomatch p) (fun a n t u v h _ => .rng a n t u v h)
    (fun _ => .nil) (fun v x vs xs _ _ ih1 ih2 p => by cases p with | cons _ _ p1 p2 => exact .cons v x vs xs (ih1 p1) (ih2 p2)) h
theorem RdL.anyF {I : Gh} {f f' : List Addr} {v : List Value} {x : List V} (h : RdL I f v x) : PureL x → RdL I f' v x :=
  RdL.rec (motive_1 := fun v x _ => Pure x → Rd I f' v x) (motive_2 := fun vs xs _ => PureL xs → RdL I f' vs xs)
    (fun i t _ => .int i t) (fun b _ => .bool b) (fun _ => .none) (fun a o items n vs h1 h2 h3 _ ih p => .list a o items n vs h1 h2 h3 (ih (by cases p; assumption)))
    (fun a o items n vs h1 h2 h3 _ ih p => .tup a o items n vs h1 h2 h3 (ih (by cases p; assumption))) (fun n a h p => nomatch p) (fun a n t u v h _ => .rng a n t u v h)
    (fun _ => .nil) (fun v x vs xs _ _ ih1 ih2 p => by cases p with | cons _ _ p1 p2 => exact .cons v x vs xs (ih1 p1) (ih2 p2)) h

theorem RdL.length {I : Gh} {f : List Addr} : ∀ {v : List Value} {x : List V}, RdL I f v x → v.length = x.length
  | _, _, .nil => rfl
  | _, _, .cons _ _ _ _ _ t => by simp [RdL.length t]
theorem RdL.get {I : Gh} {f : List Addr} : ∀ {vs : List Value} {xs : List V}, RdL I f vs xs → ∀ {n : Nat} {x : V}, xs[n]? = some x → ∃ v, vs[n]? = some v ∧ Rd I f v x
  | _, _, .cons v x vs xs h t, 0, y, e => by simp at e; subst e; exact ⟨v, by simp, h⟩
  | _, _, .cons v x vs xs h t, n + 1, y, e => by
    obtain ⟨w, hw, r⟩ := RdL.get t (n := n) (x := y) (by simpa using e)
    exact ⟨w, by simpa using hw, r⟩
theorem RdL.append {I : Gh} {f : List Addr} : ∀ {vs : List Value} {xs : List V} {ws ys}, RdL I f vs xs → RdL I f ws ys → RdL I f (vs ++ ws) (xs ++ ys)
  | _, _, _, _, .nil, h => h
  | _, _, _, _, .cons v x vs xs h t, h' => .cons v x _ _ h (RdL.append t h')
theorem RdL.one {I : Gh} {f : List Addr} {v : Value} {x : V} (h : Rd I f v x) : RdL I f [v] [x] := .cons _ _ _ _ h .nil
theorem RdL.take {I : Gh} {f : List Addr} : ∀ {vs : List Value} {xs : List V}, RdL I f vs xs → ∀ n, RdL I f (vs.take n) (xs.take n)
  | _, _, _, 0 => by simpa using RdL.nil
  | _, _, .nil, n + 1 => by simpa using RdL.nil
  | _, _, .cons v x vs xs h t, n + 1 => by simpa using RdL.cons _ _ _ _ h (RdL.take t n)
theorem RdL.drop {I : Gh} {f : List Addr} : ∀ {vs : List Value} {xs : List V}, RdL I f vs xs → ∀ n, RdL I f (vs.drop n) (xs.drop n)
  | _, _, h, 0 => by simpa using h
  | _, _, .nil, n + 1 => by simpa using RdL.nil
  | _, _, .cons v x vs xs h t, n + 1 => by simpa using RdL.drop t n
theorem RdL.set {I : Gh} {f : List Addr} : ∀ {vs : List Value} {xs : List V}, RdL I f vs xs → ∀ n {v x}, Rd I f v x → RdL I f (vs.set n v) (xs.set n x)
  | _, _, .nil, n, _, _, _ => by simpa using RdL.nil
  | _, _, .cons v x vs xs h t, 0, _, _, r => .cons _ _ _ _ r t
  | _, _, .cons v x vs xs h t, n + 1, _, _, r => .cons _ _ _ _ h (RdL.set t n r)

/-- the state's relation -/
structure St (h : Heap) (I : Gh) (f : List Addr) (b : Boxes) : Prop where
  imm : ∀ (a : Addr) (o : Obj), I a = some o → h.get? a = some o
  box : ∀ (n : Nat) (vs : List V), b[n]? = some vs → ∃ (a : Addr) (items : Array Value), f[n]? = some a ∧ h.PlainList a items ∧ RdL I f items.toList vs
  len : f.length = b.length
  nd : f.Nodup
  out : ∀ a : Addr, a ∈ f → I a = none

/-- from s on: what has been kept; W: what may be written beside the boxes -/
structure Post (W : Addr → Prop) (s : Shared) (I : Gh) (f : List Addr) (s' : Shared) (I' : Gh) (f' : List Addr) (b' : Boxes) : Prop where
  same : ∃ h tk, s' = { s with heap := h, toks := tk }
  keep : ∀ (a : Addr) (o : Obj), a ∉ f → ¬ W a → s.heap.get? a = some o → s'.heap.get? a = some o
  live : ∀ a : Addr, s.heap.get? a ≠ none → s'.heap.get? a ≠ none
  le : Le I I'
  old : ∀ a : Addr, s.heap.get? a ≠ none → I' a = I a
  ext : ∃ g, f' = f ++ g ∧ ∀ a, a ∈ g → s.heap.get? a = none
  st : St s'.heap I' f' b'

section
variable {W W' : Addr → Prop} {s s' s'' : Shared} {h : Heap} {I I' I'' : Gh} {f f' f'' : List Addr} {b b' b'' : Boxes}

theorem Post.px (p : Post W s I f s' I' f' b') : Px f f' := by
  obtain ⟨g, rfl, _⟩ := p.ext; exact Px.app f g

theorem Post.refl (p : St s.heap I f b) : Post W s I f s I f b :=
  ⟨⟨_, _, rfl⟩, fun _ _ _ _ h => h, fun _ h => h, Le.refl _, fun _ _ => rfl, ⟨[], by simp, fun _ h => nomatch h⟩, p⟩

theorem Post.trans (p : Post W s I f s' I' f' b') (q : Post W s' I' f' s'' I'' f'' b'') : Post W s I f s'' I'' f'' b'' := by
  obtain ⟨h1, t1, e1⟩ := p.same
  obtain ⟨h2, t2, e2⟩ := q.same
  obtain ⟨g1, f1, n1⟩ := p.ext
  obtain ⟨g2, f2, n2⟩ := q.ext
  have kk : ∀ a o, a ∉ f → ¬ W a → s.heap.get? a = some o → a ∉ f' := fun a o h3 h4 e hm => by
    rw [f1] at hm
    rcases List.mem_append.mp hm with m | m
    · exact h3 m
    · rw [n1 a m] at e; cases e
  refine ⟨⟨h2, t2, by rw [e2, e1]⟩, fun a o h3 h4 e => q.keep a o (kk a o h3 h4 e) h4 (p.keep a o h3 h4 e), fun a h => q.live a (p.live a h), p.le.trans q.le,
    fun a ha => (q.old a (p.live a ha)).trans (p.old a ha), ⟨g1 ++ g2, by rw [f2, f1, List.append_assoc], fun a m => ?_⟩, q.st⟩
  rcases List.mem_append.mp m with m | m
  · exact n1 a m
  · have h5 := n2 a m
    cases e : s.heap.get? a with
    | none => rfl
    | some o => exact absurd h5 (p.live a (by rw [e]; exact fun h => by cases h))

theorem Post.weak (p : Post W s I f s' I' f' b') (hW : ∀ a, W a → W' a ∨ s.heap.get? a = none) : Post W' s I f s' I' f' b' :=
  ⟨p.same, fun a o h1 h2 e => p.keep a o h1 (fun m => (hW a m).elim h2 fun q => by rw [q] at e; cases e) e, p.live, p.le, p.old, p.ext, p.st⟩

theorem St.alive (p : St h I f b) {a : Addr} (m : a ∈ f) : h.get? a ≠ none := by
  obtain ⟨n, hn, e⟩ := List.getElem_of_mem m
  have hb : n < b.length := by rw [← p.len]; exact hn
  obtain ⟨a', items, h1, ⟨k, h2⟩, _⟩ := p.box n b[n] (List.getElem?_eq_getElem hb)
  rw [List.getElem?_eq_getElem hn, e] at h1
  cases h1
  rw [h2]; exact fun h => by cases h
theorem St.tok {t : Nat} (p : St s.heap I f b) : St ({ s with toks := t } : Shared).heap I f b := p

/-- a heap that grew and kept all -/
theorem St.keeps {h' : Heap} (p : St h I f b) (k : ∀ (a : Addr) (o : Obj), h.get? a = some o → h'.get? a = some o) : St h' I f b :=
  ⟨fun a o e => k _ _ (p.imm a o e), fun n vs e => by
    obtain ⟨a, items, h1, ⟨m, h2⟩, h3⟩ := p.box n vs e
    exact ⟨a, items, h1, ⟨m, k _ _ h2⟩, h3⟩, p.len, p.nd, p.out⟩
theorem Post.grow {h' : Heap} {t : Nat} (p : St s.heap I f b) (k : ∀ (a : Addr) (o : Obj), s.heap.get? a = some o → h'.get? a = some o) : Post W s I f { s with heap := h', toks := t } I f b :=
  ⟨⟨_, _, rfl⟩, fun a o _ _ e => k a o e, fun a h => (by
    cases e : s.heap.get? a with
    | none => exact absurd e h
    | some o => show h'.get? a ≠ none; rw [k a o e]; exact (fun h => by cases h)), Le.refl _, fun _ _ => rfl, ⟨[], by simp, fun _ h => nomatch h⟩, p.keeps k⟩

/-- a new immutable object -/
def addI (I : Gh) (a : Addr) (o : Obj) : Gh := fun x => if x = a then some o else I x
theorem addI_le {a : Addr} {o : Obj} (h : I a = none) : Le I (addI I a o) := fun x y e => by
  unfold addI
  by_cases hx : x = a
  · subst hx; rw [h] at e; cases e
  · rw [if_neg hx]; exact e
theorem addI_self {a : Addr} {o : Obj} : addI I a o a = some o := by simp [addI]
theorem St.none_of {a : Addr} (p : St h I f b) (e : h.get? a = none) : I a = none := by
  cases q : I a with
  | none => rfl
  | some o => rw [p.imm a o q] at e; cases e
theorem St.notin_of {a : Addr} (p : St h I f b) (e : h.get? a = none) : a ∉ f := fun m => p.alive m e
theorem Post.newI {h' : Heap} {t : Nat} {a : Addr} {o : Obj} (p : St s.heap I f b) (ha : s.heap.get? a = none) (k : ∀ (a : Addr) (o : Obj), s.heap.get? a = some o → h'.get? a = some o)
    (e : h'.get? a = some o) : Post W s I f { s with heap := h', toks := t } (addI I a o) f b := by
  have hn := p.none_of ha
  refine ⟨⟨_, _, rfl⟩, fun a o _ _ e => k a o e, (Post.grow (W := W) (t := t) p k).live, addI_le hn, fun x hx => ?_, ⟨[], by simp, fun _ h => nomatch h⟩, ⟨fun x y q => ?_, fun n vs q => ?_, p.len, p.nd, fun x m => ?_⟩⟩
  · unfold addI; rw [if_neg]; rintro rfl; exact hx ha
  · unfold addI at q
    by_cases hx : x = a
    · subst hx; rw [if_pos rfl] at q; cases q; exact e
    · rw [if_neg hx] at q; exact k _ _ (p.imm _ _ q)
  · obtain ⟨c, items, h1, ⟨m, h2⟩, h3⟩ := p.box n vs q
    exact ⟨c, items, h1, ⟨m, k _ _ h2⟩, h3.mono (addI_le hn) (Px.refl _)⟩
  · unfold addI; rw [if_neg]
    · exact p.out x m
    · rintro rfl; exact p.notin_of ha m
/-- a new box -/
theorem Post.newB {h' : Heap} {t : Nat} {a : Addr} {items : Array Value} {vs : List V} (p : St s.heap I f b) (ha : s.heap.get? a = none) (k : ∀ (a : Addr) (o : Obj), s.heap.get? a = some o → h'.get? a = some o)
    (e : h'.PlainList a items) (r : RdL I f items.toList vs) : Post W s I f { s with heap := h', toks := t } I (f ++ [a]) (b ++ [vs]) := by
  have hn := p.none_of ha
  refine ⟨⟨_, _, rfl⟩, fun a o _ _ e => k a o e, (Post.grow (W := W) (t := t) p k).live, Le.refl _, fun x hx => rfl, ⟨[a], rfl, fun x m => ?_⟩, ⟨fun x y q => k _ _ (p.imm _ _ q), fun n ws q => ?_, by simp [p.len], ?_, fun x m => ?_⟩⟩
  · simp at m; subst m; exact ha
  · by_cases hlt : n < b.length
    · rw [List.getElem?_append_left hlt] at q
      obtain ⟨c, its, h1, ⟨m, h2⟩, h3⟩ := p.box n ws q
      exact ⟨c, its, Px.app f [a] n c h1, ⟨m, k _ _ h2⟩, h3.mono (Le.refl _) (Px.app f [a])⟩
    · have hnb : n = b.length := by
        have := (List.getElem?_eq_some_iff.mp q).1
        simp at this; omega
      subst hnb
      simp at q; subst q
      exact ⟨a, items, by rw [← p.len]; simp, e, r.mono (Le.refl _) (Px.app f [a])⟩
  · refine List.nodup_append.mpr ⟨p.nd, by simp, fun x hx y hy => ?_⟩
    simp at hy; subst hy; rintro rfl; exact p.notin_of ha hx
  · rcases List.mem_append.mp m with m | m
    · exact p.out x m
    · simp at m; subst m; exact hn
/-- a box is written -/
theorem Post.setB {h' : Heap} {t : Nat} {n : Nat} {a : Addr} {items : Array Value} {vs : List V} (p : St s.heap I f b) (hn : f[n]? = some a) (k : Heap.SameBut a s.heap h')
    (e : h'.PlainList a items) (r : RdL I f items.toList vs) : Post W s I f { s with heap := h', toks := t } I f (b.set n vs) := by
  have hm : a ∈ f := List.mem_of_getElem? hn
  refine ⟨⟨_, _, rfl⟩, fun x o h1 _ e => (k.2 x (by rintro rfl; exact h1 hm)).trans e, fun x hx => ?_, Le.refl _, fun x hx => rfl, ⟨[], by simp, fun _ h => nomatch h⟩,
    ⟨fun x y q => (k.2 x (by rintro rfl; rw [p.out _ hm] at q; cases q)).trans (p.imm _ _ q), fun j ws q => ?_, by simp [p.len], p.nd, p.out⟩⟩
  · show h'.get? x ≠ none
    by_cases hx' : x = a
    · subst hx'; obtain ⟨m, h2⟩ := e; rw [h2]; exact fun h => by cases h
    · rw [k.2 x hx']; exact hx
  · by_cases hj : j = n
    · subst hj
      have hl : j < b.length := by rw [← p.len]; exact (List.getElem?_eq_some_iff.mp hn).1
      rw [List.getElem?_set_self hl] at q
      cases q
      exact ⟨a, items, hn, e, r⟩
    · rw [List.getElem?_set_ne (Ne.symm hj)] at q
      obtain ⟨c, its, h1, ⟨m, h2⟩, h3⟩ := p.box j ws q
      refine ⟨c, its, h1, ⟨m, (k.2 c ?_).trans h2⟩, h3⟩
      rintro rfl
      obtain ⟨l1, e1⟩ := List.getElem?_eq_some_iff.mp h1
      obtain ⟨l2, e2⟩ := List.getElem?_eq_some_iff.mp hn
      exact hj ((List.getElem_inj p.nd).mp (e1.trans e2.symm))
end
end Mine
end
section
open PySem PySem.W PyProof.Rows
set_option Elab.async false
set_option linter.all false
namespace Mine

structure Cx where
  prog : Program
  w : World
  H0 : Heap

structure EnvOK (env : Env) (sc : List (Str × NameKind)) : Prop where
  names : env.scope.names = sc
  kind : env.scope.kind = .function
  glob : env.globals = mainGlobals
  blt : env.builtins = builtinsNs
  cel : ∀ x, sc.lookup x = some .cell → ∃ a, env.cells.lookup x = some a

def NoW : Addr → Prop := fun _ => False
def fpOf (env : Env) : Addr → Prop := fun a => a = env.locals ∨ ∃ x, env.cells.lookup x = some a

structure EnvR (h : Heap) (I : Gh) (f : List Addr) (env : Env) (r : Loc) : Prop where
  loc : ∃ m, h.Ns env.locals m ∧ ∀ (x : Str) (y : V), r.lookup x = some y → env.kindOf x = some .local → ∃ v, m x = some v ∧ Rd I f v y
  cel : ∀ (x : Str) (y : V), r.lookup x = some y → env.kindOf x ≠ some .local → env.kindOf x = some .cell ∧ ∃ a v, env.cells.lookup x = some a ∧ h.IsCell a (some v) ∧ Rd I f v y
  isc : ∀ (x : Str) (a : Addr), env.cells.lookup x = some a → ∃ v, h.IsCell a v
  inj : ∀ (x y : Str) (a : Addr), env.cells.lookup x = some a → env.cells.lookup y = some a → x = y
  out : ∀ a, fpOf env a → I a = none ∧ a ∉ f
  neL : ∀ (x : Str) (a : Addr), env.cells.lookup x = some a → a ≠ env.locals

theorem ns_live {h : Heap} {a : Addr} {m} (n : h.Ns a m) : h.get? a ≠ none := by
  obtain ⟨o, _, _, e, _⟩ := n; rw [e]; exact fun h => by cases h
theorem cell_live {h : Heap} {a : Addr} {m} (n : h.IsCell a m) : h.get? a ≠ none := by
  obtain ⟨o, e, _⟩ := n; rw [e]; exact fun h => by cases h

section
variable {W : Addr → Prop} {s s' s'' : Shared} {h : Heap} {I I' I'' : Gh} {f f' f'' : List Addr} {b b' b'' : Boxes} {env : Env} {r r' : Loc} {sc : List (Str × NameKind)}

theorem EnvR.live (e : EnvR h I f env r) {a : Addr} (m : fpOf env a) : h.get? a ≠ none := by
  rcases m with rfl | ⟨x, hx⟩
  · obtain ⟨m, hm, _⟩ := e.loc; exact ns_live hm
  · obtain ⟨v, hv⟩ := e.isc x a hx; exact cell_live hv

theorem EnvR.post (e : EnvR s.heap I f env r) (p : Post W s I f s' I' f' b') (hW : ∀ a, fpOf env a → ¬ W a) : EnvR s'.heap I' f' env r := by
  have hk : ∀ a o, fpOf env a → s.heap.get? a = some o → s'.heap.get? a = some o := fun a o m q => p.keep a o (e.out a m).2 (hW a m) q
  refine ⟨?_, fun x y hx hl => ?_, fun x a hx => ?_, e.inj, fun a m => ⟨?_, fun hm => ?_⟩, e.neL⟩
  · obtain ⟨m, hm, h2⟩ := e.loc
    refine ⟨m, hm.at' fun o q => hk _ o (.inl rfl) q, fun x y hx hl => ?_⟩
    obtain ⟨v, h3, h4⟩ := h2 x y hx hl
    exact ⟨v, h3, h4.mono p.le p.px⟩
  · obtain ⟨h1, a, v, h2, ⟨o, h3, h3'⟩, h4⟩ := e.cel x y hx hl
    exact ⟨h1, a, v, h2, ⟨o, hk _ _ (.inr ⟨x, h2⟩) h3, h3'⟩, h4.mono p.le p.px⟩
  · obtain ⟨v, o, h3, h3'⟩ := e.isc x a hx
    exact ⟨v, o, hk _ _ (.inr ⟨x, hx⟩) h3, h3'⟩
  · rw [p.old a (e.live m)]; exact (e.out a m).1
  · obtain ⟨g, rfl, hg⟩ := p.ext
    rcases List.mem_append.mp hm with q | q
    · exact (e.out a m).2 q
    · exact e.live m (hg a q)

def Sub (r' r : Loc) : Prop := ∀ (x : Str) (y : V), r'.lookup x = some y → r.lookup x = some y
theorem Sub.refl : Sub r r := fun _ _ h => h
theorem Sub.nil : Sub [] r := fun _ _ h => by cases h
theorem Sub.cons {x : Str} {y : V} (h : r.lookup x = some y) (t : Sub r' r) : Sub ((x, y) :: r') r := fun z u e => by
  rw [List.lookup_cons] at e
  cases q : z == x with
  | true => rw [q] at e; cases e; rw [beq_iff_eq.mp q]; exact h
  | false => rw [q] at e; exact t z u e
theorem EnvR.sub (e : EnvR h I f env r) (hs : Sub r' r) : EnvR h I f env r' := by
  obtain ⟨m, hm, h2⟩ := e.loc
  exact ⟨⟨m, hm, fun x y hx hl => h2 x y (hs x y hx) hl⟩, fun x y hx hl => e.cel x y (hs x y hx) hl, e.isc, e.inj, e.out, e.neL⟩
end

structure Pre (C : Cx) (s : Shared) (I : Gh) (f : List Addr) (b : Boxes) (env : Env) (sc : List (Str × NameKind)) (r : Loc) : Prop where
  base : ∀ (a : Addr) (o : Obj), C.H0.get? a = some o → I a = some o
  st : St s.heap I f b
  ok : EnvOK env sc
  er : EnvR s.heap I f env r

def Res {α : Type} (W : Addr → Prop) (s : Shared) (I : Gh) (f : List Addr) (b' : Boxes) (P : Gh → List Addr → α → Prop) : α → Shared → Prop :=
  fun x s' => ∃ I' f', Post W s I f s' I' f' b' ∧ P I' f' x

section
variable {α : Type} {C : Cx} {W : Addr → Prop} {s s' s'' : Shared} {I I' I'' : Gh} {f f' f'' : List Addr} {b b' b'' : Boxes} {env : Env} {r r' : Loc} {sc : List (Str × NameKind)}
  {P : Gh → List Addr → α → Prop}

theorem Pre.post (e : Pre C s I f b env sc r) (p : Post NoW s I f s' I' f' b') : Pre C s' I' f' b' env sc r :=
  ⟨fun a o h => p.le _ _ (e.base a o h), p.st, e.ok, e.er.post p fun _ _ => id⟩
theorem Pre.base_heap (e : Pre C s I f b env sc r) : ∀ (a : Addr) (o : Obj), C.H0.get? a = some o → s.heap.get? a = some o := fun a o h => e.st.imm a o (e.base a o h)
theorem Pre.sub (e : Pre C s I f b env sc r) (hs : Sub r' r) : Pre C s I f b env sc r' := ⟨e.base, e.st, e.ok, e.er.sub hs⟩

theorem Res.trans {x : α} (p : Post W s I f s' I' f' b') (q : Res W s' I' f' b'' P x s'') : Res W s I f b'' P x s'' := by
  obtain ⟨I2, f2, q1, q2⟩ := q
  exact ⟨I2, f2, p.trans q1, q2⟩
theorem Res.mk {x : α} (p : Post W s I f s' I' f' b') (q : P I' f' x) : Res W s I f b' P x s' := ⟨I', f', p, q⟩
end

/-- e comes to v -/
structure Ev (C : Cx) (A : Around) (sc : List (Str × NameKind)) (e : Expr) (r : Loc) (b : Boxes) (v : V) (b' : Boxes) : Prop where
  run : ∀ (env : Env) (s : Shared) (I : Gh) (f : List Addr) (E : Value → Shared → Prop), Pre C s I f b env sc r →
    wpAny (model C.prog C.w) A (eval e env) (Res NoW s I f b' fun I' f' x => Rd I' f' x v) E s
/-- the test e comes to t -/
structure Tr (C : Cx) (A : Around) (sc : List (Str × NameKind)) (e : Expr) (r : Loc) (b : Boxes) (t : Bool) (b' : Boxes) : Prop where
  run : ∀ (env : Env) (s : Shared) (I : Gh) (f : List Addr) (E : Value → Shared → Prop), Pre C s I f b env sc r →
    wpAny (model C.prog C.w) A (isTrue e env (eval e env)) (Res NoW s I f b' fun _ _ x => x = t) E s
/-- arguments -/
structure EvL (C : Cx) (A : Around) (sc : List (Str × NameKind)) (pos : Pos) (es : List Expr) (r : Loc) (b : Boxes) (vs : List V) (b' : Boxes) : Prop where
  run : ∀ (env : Env) (s : Shared) (I : Gh) (f : List Addr) (E : Value → Shared → Prop), Pre C s I f b env sc r →
    wpAny (model C.prog C.w) A (spliced (backTo pos (starEach es env))) (Res NoW s I f b' fun I' f' x => RdL I' f' x vs) E s

/-- an operation upon values -/
structure Bop (C : Cx) (A : Around) (op : Operator) (x y : V) (b : Boxes) (z : V) : Prop where
  run : ∀ (X Y : Value) (s : Shared) (I : Gh) (f : List Addr) (E : Value → Shared → Prop), (∀ (a : Addr) (o : Obj), C.H0.get? a = some o → I a = some o) → St s.heap I f b → Rd I f X x → Rd I f Y y →
    wpAny (model C.prog C.w) A (binaryOp op X Y) (Res NoW s I f b fun I' f' x => Rd I' f' x z) E s
structure Iop (C : Cx) (A : Around) (op : Operator) (x y : V) (b : Boxes) (z : V) : Prop where
  run : ∀ (X Y : Value) (s : Shared) (I : Gh) (f : List Addr) (E : Value → Shared → Prop), (∀ (a : Addr) (o : Obj), C.H0.get? a = some o → I a = some o) → St s.heap I f b → Rd I f X x → Rd I f Y y →
    wpAny (model C.prog C.w) A (inplaceOp op X Y) (Res NoW s I f b fun I' f' x => Rd I' f' x z) E s
structure Cop (C : Cx) (A : Around) (op : CmpOp) (x y : V) (b : Boxes) (t : Bool) : Prop where
  run : ∀ (X Y : Value) (s : Shared) (I : Gh) (f : List Addr) (E : Value → Shared → Prop), (∀ (a : Addr) (o : Obj), C.H0.get? a = some o → I a = some o) → St s.heap I f b → Rd I f X x → Rd I f Y y →
    wpAny (model C.prog C.w) A (compareOp op X Y) (Res NoW s I f b fun _ _ x => x = .bool t) E s

section
variable {C : Cx} {A : Around} {sc : List (Str × NameKind)} {r : Loc} {b b1 b2 b3 : Boxes} {pos p p1 p2 : Pos}

theorem Ev.sub {e : Expr} {v : V} {r' : Loc} (h : Ev C A sc e r' b v b1) (hs : Sub r' r) : Ev C A sc e r b v b1 := .mk fun env s I f E pr => h.run env s I f E (pr.sub hs)

theorem rd_tok {s : Shared} {I : Gh} {f : List Addr} {t : Nat} {P : Gh → List Addr → Value → Prop} {x : Value} (st : St s.heap I f b) (h : P I f x) : Res NoW s I f b P x { s with toks := t } :=
  ⟨I, f, Post.grow (h' := s.heap) st (fun _ _ e => e), h⟩
theorem rd_same {α : Type} {s : Shared} {I : Gh} {f : List Addr} {P : Gh → List Addr → α → Prop} {x : α} (st : St s.heap I f b) (h : P I f x) : Res NoW s I f b P x s :=
  ⟨I, f, Post.refl st, h⟩

theorem Ev.int {i : Int} {k} : Ev C A sc (.Constant (.int i) k pos) r b (.int i) b := .mk fun env s I f E pr =>
  wpAny_Constant_int (rd_tok pr.st (.int i _))
theorem Ev.bool {i : Bool} {k} : Ev C A sc (.Constant (.bool i) k pos) r b (.bool i) b := .mk fun env s I f E pr => by
  show wpAny _ _ (pure (Value.bool i)) _ _ _
  exact wpAny_pure (rd_same pr.st (.bool i))

theorem dbg {x : Str} {y : V} (h : r.lookup x = some y) (hd : (x == ("__debug__" : Str)) = false := by with_unfolding_all decide) : (x == ("__debug__" : Str)) = false := hd

theorem Ev.name {x : Str} {v : V} (h : r.lookup x = some v) (hd : (x == ("__debug__" : Str)) = false := by with_unfolding_all decide) : Ev C A sc (.Name x pos) r b v b := .mk fun env s I f E pr => by
  refine wpAny_Name ?_ hd
  by_cases hl : env.kindOf x = some .local
  · obtain ⟨m, hm, h2⟩ := pr.er.loc
    obtain ⟨y, h3, h4⟩ := h2 x v h hl
    exact wpAny_loadName_local pr.ok.kind hl hm h3 (rd_same pr.st h4)
  · obtain ⟨h1, a, y, h2, h3, h4⟩ := pr.er.cel x v h hl
    exact wpAny_loadName_cell pr.ok.kind h1 h2 h3 (rd_same pr.st h4)

theorem Ev.binop {l rr : Expr} {op : Operator} {x y z : V} (h1 : Ev C A sc l r b x b1) (h2 : Ev C A sc rr r b1 y b2) (h3 : Bop C A op x y b2 z) :
    Ev C A sc (.BinOp l op rr pos) r b z b2 := .mk fun env s I f E pr => by
  refine wpAny_BinOp (wpAny_mono (h1.run env s I f E pr) (fun X s1 ⟨I1, f1, p1, r1⟩ => ?_) fun _ _ h => h)
  have pr1 := pr.post p1
  refine wpAny_mono (h2.run env s1 I1 f1 E pr1) (fun Y s2 ⟨I2, f2, p2, r2⟩ => ?_) fun _ _ h => h
  have pr2 := pr1.post p2
  exact wpAny_mono (h3.run X Y s2 I2 f2 E pr2.base pr2.st (r1.mono p2.le p2.px) r2) (fun Z s3 q => Res.trans (p1.trans p2) q) fun _ _ h => h

theorem Ev.neg {e : Expr} {i : Int} (h : Ev C A sc e r b (.int i) b1) : Ev C A sc (.UnaryOp .USub e pos) r b (.int (-i)) b1 := .mk fun env s I f E pr => by
  show wpAny _ _ (do let v ← eval e env; standAt pos; holding [v] (unaryOp .USub v)) _ _ _
  refine wpAny_bind (wpAny_mono (h.run env s I f E pr) (fun X s1 ⟨I1, f1, p1, r1⟩ => ?_) fun _ _ h => h)
  refine wpAny_bind (wpAny_standAt (wpAny_holding ?_))
  cases r1
  exact PySem.P.neg_int (Res.trans p1 (rd_tok p1.st (.int _ _)))

theorem Ev.ifT {t e1 e2 : Expr} {v : V} (h1 : Tr C A sc t r b true b1) (h2 : Ev C A sc e1 r b1 v b2) : Ev C A sc (.IfExp t e1 e2 pos) r b v b2 := .mk fun env s I f E pr => by
  show wpAny _ _ (do if ← isTrue t env (eval t env) then eval e1 env else eval e2 env) _ _ _
  refine wpAny_bind (wpAny_mono (h1.run env s I f E pr) (fun X s1 ⟨I1, f1, p1, r1⟩ => ?_) fun _ _ h => h)
  subst r1
  simp only [if_true]
  exact wpAny_mono (h2.run env s1 I1 f1 E (pr.post p1)) (fun Z s3 q => Res.trans p1 q) fun _ _ h => h
theorem Ev.ifF {t e1 e2 : Expr} {v : V} (h1 : Tr C A sc t r b false b1) (h2 : Ev C A sc e2 r b1 v b2) : Ev C A sc (.IfExp t e1 e2 pos) r b v b2 := .mk fun env s I f E pr => by
  show wpAny _ _ (do if ← isTrue t env (eval t env) then eval e1 env else eval e2 env) _ _ _
  refine wpAny_bind (wpAny_mono (h1.run env s I f E pr) (fun X s1 ⟨I1, f1, p1, r1⟩ => ?_) fun _ _ h => h)
  subst r1
  simp only [Bool.false_eq_true, if_false]
  exact wpAny_mono (h2.run env s1 I1 f1 E (pr.post p1)) (fun Z s3 q => Res.trans p1 q) fun _ _ h => h

theorem Ev.cmp {l rr : Expr} {op : CmpOp} {x y : V} {t : Bool} (h1 : Ev C A sc l r b x b1) (h2 : Ev C A sc rr r b1 y b2) (h3 : Cop C A op x y b2 t)
    (hm : behindInMarks op rr = false := by with_unfolding_all rfl) : Ev C A sc (.Compare l [op] [rr] pos) r b (.bool t) b2 := .mk fun env s I f E pr => by
  refine wpAny_Compare1 (wpAny_mono (h1.run env s I f E pr) (fun X s1 ⟨I1, f1, p1, r1⟩ => ?_) fun _ _ h => h) hm
  have pr1 := pr.post p1
  refine wpAny_mono (h2.run env s1 I1 f1 E pr1) (fun Y s2 ⟨I2, f2, p2, r2⟩ => ?_) fun _ _ h => h
  have pr2 := pr1.post p2
  refine wpAny_mono (h3.run X Y s2 I2 f2 E pr2.base pr2.st (r1.mono p2.le p2.px) r2) (fun Z s3 ⟨I3, f3, p3, r3⟩ => ?_) fun _ _ h => h
  subst r3
  exact ⟨I3, f3, (p1.trans p2).trans p3, .bool t⟩
theorem Tr.cmp {l rr : Expr} {op : CmpOp} {x y : V} {t : Bool} (h1 : Ev C A sc l r b x b1) (h2 : Ev C A sc rr r b1 y b2) (h3 : Cop C A op x y b2 t)
    (hm : behindInMarks op rr = false := by with_unfolding_all rfl) : Tr C A sc (.Compare l [op] [rr] pos) r b t b2 := .mk fun env s I f E pr => by
  refine wpAny_isTrue_Compare1 (wpAny_mono (h1.run env s I f E pr) (fun X s1 ⟨I1, f1, p1, r1⟩ => ?_) fun _ _ h => h) hm
  have pr1 := pr.post p1
  refine wpAny_mono (h2.run env s1 I1 f1 E pr1) (fun Y s2 ⟨I2, f2, p2, r2⟩ => ?_) fun _ _ h => h
  have pr2 := pr1.post p2
  refine wpAny_mono (h3.run X Y s2 I2 f2 E pr2.base pr2.st (r1.mono p2.le p2.px) r2) (fun Z s3 ⟨I3, f3, p3, r3⟩ => ?_) fun _ _ h => h
  subst r3
  exact wpAny_truthy_bool ⟨I3, f3, (p1.trans p2).trans p3, rfl⟩
theorem wpAny_rel {M : Model} {A : Around} {E : Value → Shared → Prop} {s : Shared} {vs keep : List Value} {Q : Unit → Shared → Prop} (h : Q () s) : wpAny M A (release vs keep) Q E s := fun Γ p _ => by
  rw [Sem.wp_release]; exact h
/-- a chain of two -/
theorem Tr.cmp2 {l m rr : Expr} {o1 o2 : CmpOp} {x y z : V} {t : Bool} (h1 : Ev C A sc l r b x b1) (h2 : Ev C A sc m r b1 y b2) (h3 : Cop C A o1 x y b2 true) (h4 : Ev C A sc rr r b2 z b3) (h5 : Cop C A o2 y z b3 t)
    (hm : ∀ env, markedEach [o1, o2] [m, rr] (evalEach [m, rr] env) = [eval m env, eval rr env] := by intro _; with_unfolding_all rfl) : Tr C A sc (.Compare l [o1, o2] [m, rr] pos) r b t b3 := .mk fun env s I f E pr => by
  show wpAny _ _ (do testChain pos (← eval l env) [o1, o2] (markedEach [o1, o2] [m, rr] (evalEach [m, rr] env))) _ _ _
  rw [hm]
  refine wpAny_bind (wpAny_mono (h1.run env s I f E pr) (fun X s1 ⟨I1, f1, p1, r1⟩ => ?_) fun _ _ h => h)
  have pr1 := pr.post p1
  show wpAny _ _ (do
    let rv ← holding [X] (eval m env)
    standAt pos
    let c ← holding [X, rv] (compareOp o1 X rv)
    release [X, rv] [c]
    if ← holding [c, rv] (truthy c) then testChain pos rv [o2] [eval rr env] else pure false) _ _ _
  refine wpAny_bind (wpAny_holding (wpAny_mono (h2.run env s1 I1 f1 E pr1) (fun Y s2 ⟨I2, f2, p2, r2⟩ => ?_) fun _ _ h => h))
  have pr2 := pr1.post p2
  refine wpAny_bind (wpAny_standAt (wpAny_bind (wpAny_holding (wpAny_mono (h3.run X Y s2 I2 f2 E pr2.base pr2.st (r1.mono p2.le p2.px) r2) (fun Z s3 ⟨I3, f3, p3, r3⟩ => ?_) fun _ _ h => h))))
  subst r3
  have pr3 := pr2.post p3
  refine wpAny_bind (wpAny_rel ?_)
  refine wpAny_bind (wpAny_holding (wpAny_truthy_bool ?_))
  simp only [if_true]
  show wpAny _ _ (do
    let rv ← holding [Y] (eval rr env)
    standAt pos
    let c ← operate [Y, rv] (compareOp o2 Y rv)
    holding [c] (truthy c)) _ _ _
  refine wpAny_bind (wpAny_holding (wpAny_mono (h4.run env s3 I3 f3 E pr3) (fun U s4 ⟨I4, f4, p4, r4⟩ => ?_) fun _ _ h => h))
  have pr4 := pr3.post p4
  have p34 := p3.trans p4
  refine wpAny_bind (wpAny_standAt (wpAny_bind (wpAny_operating (wpAny_mono (h5.run Y U s4 I4 f4 E pr4.base pr4.st (r2.mono p34.le p34.px) r4) (fun Z s5 ⟨I5, f5, p5, r5⟩ => ?_) fun _ _ h => h))))
  subst r5
  exact wpAny_holding (wpAny_truthy_bool ⟨I5, f5, ((p1.trans p2).trans p34).trans p5, rfl⟩)

theorem Tr.not {e : Expr} {t : Bool} (h : Tr C A sc e r b t b1) : Tr C A sc (.UnaryOp .Not e pos) r b (!t) b1 := .mk fun env s I f E pr => by
  show wpAny _ _ (do return !(← isTrue e env (eval e env))) _ _ _
  refine wpAny_bind (wpAny_mono (h.run env s I f E pr) (fun X s1 ⟨I1, f1, p1, r1⟩ => ?_) fun _ _ h => h)
  subst r1
  exact wpAny_pure ⟨I1, f1, p1, rfl⟩

/-- and, or -/
structure TrAll (C : Cx) (A : Around) (sc : List (Str × NameKind)) (op : BoolOp) (es : List Expr) (r : Loc) (b : Boxes) (t : Bool) (b' : Boxes) : Prop where
  run : ∀ (env : Env) (s : Shared) (I : Gh) (f : List Addr) (E : Value → Shared → Prop), Pre C s I f b env sc r →
    wpAny (model C.prog C.w) A (allTrue op es env) (Res NoW s I f b' fun _ _ x => x = t) E s
theorem Tr.boolop {op : BoolOp} {es : List Expr} {t : Bool} (h : TrAll C A sc op es r b t b1) : Tr C A sc (.BoolOp op es pos) r b t b1 := .mk fun env s I f E pr => h.run env s I f E pr
theorem TrAll.nil {op : BoolOp} : TrAll C A sc op [] r b (op == .And) b := .mk fun env s I f E pr => wpAny_pure (rd_same pr.st rfl)
theorem TrAll.stopAnd {e : Expr} {es : List Expr} (h : Tr C A sc e r b false b1) : TrAll C A sc .And (e :: es) r b false b1 := .mk fun env s I f E pr => by
  show wpAny _ _ (do match BoolOp.And, ← isTrue e env (eval e env) with | .And, false => pure false | .Or, true => pure true | _, _ => allTrue .And es env) _ _ _
  refine wpAny_bind (wpAny_mono (h.run env s I f E pr) (fun X s1 ⟨I1, f1, p1, r1⟩ => ?_) fun _ _ h => h)
  subst r1
  exact wpAny_pure ⟨I1, f1, p1, rfl⟩
theorem TrAll.goAnd {e : Expr} {es : List Expr} {t : Bool} (h : Tr C A sc e r b true b1) (h2 : TrAll C A sc .And es r b1 t b2) : TrAll C A sc .And (e :: es) r b t b2 := .mk fun env s I f E pr => by
  show wpAny _ _ (do match BoolOp.And, ← isTrue e env (eval e env) with | .And, false => pure false | .Or, true => pure true | _, _ => allTrue .And es env) _ _ _
  refine wpAny_bind (wpAny_mono (h.run env s I f E pr) (fun X s1 ⟨I1, f1, p1, r1⟩ => ?_) fun _ _ h => h)
  subst r1
  exact wpAny_mono (h2.run env s1 I1 f1 E (pr.post p1)) (fun Z s3 q => Res.trans p1 q) fun _ _ h => h
theorem TrAll.stopOr {e : Expr} {es : List Expr} (h : Tr C A sc e r b true b1) : TrAll C A sc .Or (e :: es) r b true b1 := .mk fun env s I f E pr => by
  show wpAny _ _ (do match BoolOp.Or, ← isTrue e env (eval e env) with | .And, false => pure false | .Or, true => pure true | _, _ => allTrue .Or es env) _ _ _
  refine wpAny_bind (wpAny_mono (h.run env s I f E pr) (fun X s1 ⟨I1, f1, p1, r1⟩ => ?_) fun _ _ h => h)
  subst r1
  exact wpAny_pure ⟨I1, f1, p1, rfl⟩
theorem TrAll.goOr {e : Expr} {es : List Expr} {t : Bool} (h : Tr C A sc e r b false b1) (h2 : TrAll C A sc .Or es r b1 t b2) : TrAll C A sc .Or (e :: es) r b t b2 := .mk fun env s I f E pr => by
  show wpAny _ _ (do match BoolOp.Or, ← isTrue e env (eval e env) with | .And, false => pure false | .Or, true => pure true | _, _ => allTrue .Or es env) _ _ _
  refine wpAny_bind (wpAny_mono (h.run env s I f E pr) (fun X s1 ⟨I1, f1, p1, r1⟩ => ?_) fun _ _ h => h)
  subst r1
  exact wpAny_mono (h2.run env s1 I1 f1 E (pr.post p1)) (fun Z s3 q => Res.trans p1 q) fun _ _ h => h

/-- any other test that is a bool -/
theorem Tr.val {e : Expr} {t : Bool} (h : Ev C A sc e r b (.bool t) b1) (hs : ∀ env, isTrue e env (eval e env) = (do let v ← eval e env; standAt e.pos; holding [v] (truthy v)) := by intro _; with_unfolding_all rfl) : Tr C A sc e r b t b1 := .mk fun env s I f E pr => by
  rw [hs]
  refine wpAny_bind (wpAny_mono (h.run env s I f E pr) (fun X s1 ⟨I1, f1, p1, r1⟩ => ?_) fun _ _ h => h)
  cases r1
  exact wpAny_bind (wpAny_standAt (wpAny_holding (wpAny_truthy_bool ⟨I1, f1, p1, rfl⟩)))

theorem EvL.nil : EvL C A sc pos [] r b [] b := .mk fun env s I f E pr => spliced_none (rd_same pr.st .nil)
theorem EvL.cons {e : Expr} {es : List Expr} {v : V} {vs : List V} (h : Ev C A sc e r b v b1) (t : EvL C A sc pos es r b1 vs b2)
    (he : ∀ env, starEach (e :: es) env = (false, eval e env) :: starEach es env := by intro _; with_unfolding_all rfl) : EvL C A sc pos (e :: es) r b (v :: vs) b2 := .mk fun env s I f E pr => by
  refine spliced_more (wpAny_mono (h.run env s I f E pr) (fun X s1 ⟨I1, f1, p1, r1⟩ => ?_) fun _ _ h => h) (he env)
  refine wpAny_mono (t.run env s1 I1 f1 E (pr.post p1)) (fun Y s2 ⟨I2, f2, p2, r2⟩ => ?_) fun _ _ h => h
  exact ⟨I2, f2, p1.trans p2, .cons _ _ _ _ (r1.mono p2.le p2.px) r2⟩
end
end Mine
end
section
open PySem PySem.W PyProof.Rows
set_option Elab.async false
set_option linter.all false
namespace Mine

abbrev N (n : Nat) : V := .int (n : Int)

theorem band (a b : Nat) : Builtin.bitAnd (a : Int) (b : Int) = ((a &&& b : Nat) : Int) := by
  have h1 : decide ((0:Int) ≤ (a : Int)) = true := by simp
  have h2 : decide ((0:Int) ≤ (b : Int)) = true := by simp
  unfold Builtin.bitAnd
  rw [h1, h2]
  simp
theorem bor (a b : Nat) : Builtin.bitOr (a : Int) (b : Int) = ((a ||| b : Nat) : Int) := by
  unfold Builtin.bitOr Builtin.bitAnd Builtin.bitNot
  have h1 : decide ((0:Int) ≤ -(a : Int) - 1) = false := by simp; omega
  have h2 : decide ((0:Int) ≤ -(b : Int) - 1) = false := by simp; omega
  rw [h1, h2]
  simp only []
  have e1 : (-(-(a : Int) - 1) - 1).toNat = a := by omega
  have e2 : (-(-(b : Int) - 1) - 1).toNat = b := by omega
  rw [e1, e2]
  omega
theorem nat_or_bit (a b : Nat) : (a ||| b) % 2 = (a ^^^ b) % 2 + (a &&& b) % 2 := by
  have o : (a ||| b) % 2 = a % 2 ||| b % 2 := Nat.or_mod_two_pow (n := 1)
  have x : (a ^^^ b) % 2 = a % 2 ^^^ b % 2 := Nat.xor_mod_two_pow (n := 1)
  have y : (a &&& b) % 2 = a % 2 &&& b % 2 := Nat.and_mod_two_pow (n := 1)
  rw [o, x, y]
  rcases Nat.mod_two_eq_zero_or_one a with p | p <;> rcases Nat.mod_two_eq_zero_or_one b with q | q <;> rw [p, q] <;> decide
theorem nat_half {o x y : Nat} (h1 : o / 2 = x / 2 + y / 2) (h2 : o % 2 = x % 2 + y % 2) : o = x + y := by
  rw [← Nat.div_add_mod o 2, h1, h2, ← Nat.div_add_mod x 2, ← Nat.div_add_mod y 2]
  simp only [Nat.mul_add_mod, Nat.mul_add_div (by decide : 0 < 2), Nat.mod_mod, Nat.mod_div_self, Nat.add_zero, Nat.mul_add]
  ac_rfl
theorem nat_or_xor' (n : Nat) : ∀ a b : Nat, a < 2 ^ n → b < 2 ^ n → a ||| b = (a ^^^ b) + (a &&& b) := by
  induction n with
  | zero =>
    intro a b ha hb
    rw [Nat.pow_zero] at ha hb
    rw [Nat.lt_one_iff.mp ha, Nat.lt_one_iff.mp hb]; rfl
  | succ n ih =>
    intro a b ha hb
    rw [Nat.pow_succ] at ha hb
    have h1 := ih (a / 2) (b / 2) (Nat.div_lt_of_lt_mul (by rw [Nat.mul_comm]; exact ha)) (Nat.div_lt_of_lt_mul (by rw [Nat.mul_comm]; exact hb))
    rw [← Nat.or_div_two, ← Nat.xor_div_two, ← Nat.and_div_two] at h1
    exact nat_half h1 (nat_or_bit a b)
theorem nat_or_xor (a b : Nat) : a ||| b = (a ^^^ b) + (a &&& b) :=
  nat_or_xor' (a + b) a b (Nat.lt_of_lt_of_le Nat.lt_two_pow_self (Nat.pow_le_pow_right (by decide) (Nat.le_add_right _ _))) (Nat.lt_of_lt_of_le Nat.lt_two_pow_self (Nat.pow_le_pow_right (by decide) (Nat.le_add_left _ _)))
theorem bxor (a b : Nat) : Builtin.bitXor (a : Int) (b : Int) = ((a ^^^ b : Nat) : Int) := by
  unfold Builtin.bitXor
  rw [bor, band, nat_or_xor]
  omega
theorem fdivN (a b : Nat) : (a : Int).fdiv (b : Int) = ((a / b : Nat) : Int) := by
  rw [Int.fdiv_eq_ediv_of_nonneg _ (by omega)]; rfl
theorem fmodN (a b : Nat) : (a : Int).fmod (b : Int) = ((a % b : Nat) : Int) := by
  rw [Int.fmod_eq_emod_of_nonneg _ (by omega)]; rfl

section
variable {C : Cx} {A : Around} {b : Boxes} {x y : Int} {m n : Nat}

theorem Bop.add : Bop C A .Add (.int x) (.int y) b (.int (x + y)) := .mk fun X Y s I f E hb st hx hy => by
  cases hx; cases hy; exact PySem.P.add_int (rd_tok st (.int _ _))
theorem Bop.sub : Bop C A .Sub (.int x) (.int y) b (.int (x - y)) := .mk fun X Y s I f E hb st hx hy => by
  cases hx; cases hy; exact PySem.P.sub_int (rd_tok st (.int _ _))
theorem Bop.mul (h : -(2 ^ 62) ≤ y ∧ y < 2 ^ 62) : Bop C A .Mult (.int x) (.int y) b (.int (x * y)) := .mk fun X Y s I f E hb st hx hy => by
  cases hx; cases hy
  exact PySem.P.mul_int (rd_tok st (.int _ _)) (IntMulOk.of_right (intBits_le_64 (by omega) (by omega)))
theorem Bop.addN : Bop C A .Add (N m) (N n) b (N (m + n)) := by
  have := Bop.add (C := C) (A := A) (b := b) (x := m) (y := n)
  rwa [show (m : Int) + (n : Int) = ((m + n : Nat) : Int) by omega] at this
theorem Bop.subN (h : n ≤ m) : Bop C A .Sub (N m) (N n) b (N (m - n)) := by
  have := Bop.sub (C := C) (A := A) (b := b) (x := m) (y := n)
  rwa [show (m : Int) - (n : Int) = ((m - n : Nat) : Int) by omega] at this
theorem Bop.mulN (h : n < 2 ^ 62) : Bop C A .Mult (N m) (N n) b (N (m * n)) := by
  have := Bop.mul (C := C) (A := A) (b := b) (x := m) (y := n) ⟨by omega, by omega⟩
  rwa [show (m : Int) * (n : Int) = ((m * n : Nat) : Int) by push_cast; rfl] at this
theorem Bop.andN : Bop C A .BitAnd (N m) (N n) b (N (m &&& n)) := .mk fun X Y s I f E hb st hx hy => by
  cases hx; cases hy; exact and_int (rd_tok st (by rw [band]; exact .int _ _))
theorem Bop.orN : Bop C A .BitOr (N m) (N n) b (N (m ||| n)) := .mk fun X Y s I f E hb st hx hy => by
  cases hx; cases hy; exact or_int (rd_tok st (by rw [bor]; exact .int _ _))
theorem Bop.xorN : Bop C A .BitXor (N m) (N n) b (N (m ^^^ n)) := .mk fun X Y s I f E hb st hx hy => by
  cases hx; cases hy; exact xor_int (rd_tok st (by rw [bxor]; exact .int _ _))
theorem Iop.andN : Iop C A .BitAnd (N m) (N n) b (N (m &&& n)) := .mk fun X Y s I f E hb st hx hy => by
  cases hx; cases hy; exact iand_int (rd_tok st (by rw [band]; exact .int _ _))
theorem Iop.orN : Iop C A .BitOr (N m) (N n) b (N (m ||| n)) := .mk fun X Y s I f E hb st hx hy => by
  cases hx; cases hy; exact ior_int (rd_tok st (by rw [bor]; exact .int _ _))
theorem Iop.sub : Iop C A .Sub (.int x) (.int y) b (.int (x - y)) := .mk fun X Y s I f E hb st hx hy => by
  cases hx; cases hy; exact PySem.P.isub_int (rd_tok st (.int _ _))
theorem Bop.fdivN (h : 0 < n) (hs : n < 1073741824) : Bop C A .FloorDiv (N m) (N n) b (N (m / n)) := .mk fun X Y s I f E hb st hx hy => by
  cases hx; cases hy; exact floordiv_int (by omega) (rd_tok st (by rw [Mine.fdivN]; exact .int _ _)) (Or.inl (PyProof.noPylong_small (by omega)))
theorem Bop.fmodN (h : 0 < n) : Bop C A .Mod (N m) (N n) b (N (m % n)) := .mk fun X Y s I f E hb st hx hy => by
  cases hx; cases hy; exact mod_int' (by omega) (rd_tok st (by rw [Mine.fmodN]; exact .int _ _))
theorem Bop.fmod (h : 0 < n) : Bop C A .Mod (.int x) (N n) b (N (x % (n : Int)).toNat) := .mk fun X Y s I f E hb st hx hy => by
  cases hx; cases hy
  refine mod_int' (by omega) (rd_tok st ?_)
  have e : x.fmod (n : Int) = (((x % (n : Int)).toNat : Nat) : Int) := by
    rw [Int.fmod_eq_emod_of_nonneg _ (by omega), Int.toNat_of_nonneg (Int.emod_nonneg _ (by omega))]
  rw [e]; exact .int _ _
theorem Bop.shlN (h : n ≤ 1000000) (hs : m < 2 ^ 64) : Bop C A .LShift (N m) (N n) b (N (m <<< n)) := .mk fun X Y s I f E hb st hx hy => by
  cases hx; cases hy
  refine lshift_int_small (by omega) (by omega) (by omega) (rd_tok st ?_)
  rw [show (m : Int) * 2 ^ (n : Int).toNat = ((m <<< n : Nat) : Int) by rw [Nat.shiftLeft_eq, Int.toNat_natCast]; push_cast; rfl]
  exact .int _ _
theorem Bop.shrN : Bop C A .RShift (N m) (N n) b (N (m >>> n)) := .mk fun X Y s I f E hb st hx hy => by
  cases hx; cases hy
  refine rshift_int (by omega) (rd_tok st ?_)
  rw [show (m : Int).fdiv (2 ^ (n : Int).toNat) = ((m >>> n : Nat) : Int) by
    rw [Nat.shiftRight_eq_div_pow, Int.toNat_natCast, show ((2 : Int) ^ n) = ((2 ^ n : Nat) : Int) by push_cast; rfl, Mine.fdivN]]
  exact .int _ _
theorem Bop.powN (h : n ≤ 1000000) (hs : m < 2 ^ 64) : Bop C A .Pow (N m) (N n) b (N (m ^ n)) := .mk fun X Y s I f E hb st hx hy => by
  cases hx; cases hy
  refine pow_int_small (by omega) (by omega) (by omega) (rd_tok st ?_)
  rw [show (m : Int) ^ (n : Int).toNat = ((m ^ n : Nat) : Int) by rw [Int.toNat_natCast]; push_cast; rfl]
  exact .int _ _

theorem Cop.eq : Cop C A .Eq (.int x) (.int y) b (decide (x = y)) := .mk fun X Y s I f E hb st hx hy => by
  cases hx; cases hy; exact PySem.P.eq_int (rd_same st rfl)
theorem Cop.ne : Cop C A .NotEq (.int x) (.int y) b (decide (x ≠ y)) := .mk fun X Y s I f E hb st hx hy => by
  cases hx; cases hy; exact PySem.P.ne_int (rd_same st (by congr 1; by_cases h : x = y <;> simp [h]))
theorem Cop.ge : Cop C A .GtE (.int x) (.int y) b (decide (x ≥ y)) := .mk fun X Y s I f E hb st hx hy => by
  cases hx; cases hy; exact PySem.P.ge_int (rd_same st rfl)
theorem Cop.gt : Cop C A .Gt (.int x) (.int y) b (decide (x > y)) := .mk fun X Y s I f E hb st hx hy => by
  cases hx; cases hy; exact PySem.P.gt_int (rd_same st rfl)
theorem Cop.le : Cop C A .LtE (.int x) (.int y) b (decide (x ≤ y)) := .mk fun X Y s I f E hb st hx hy => by
  cases hx; cases hy; exact PySem.P.le_int (rd_same st rfl)
theorem Cop.eqN : Cop C A .Eq (N m) (N n) b (decide (m = n)) := by
  have := Cop.eq (C := C) (A := A) (b := b) (x := m) (y := n)
  rwa [show decide ((m : Int) = (n : Int)) = decide (m = n) from decide_eq_decide.mpr Int.ofNat_inj] at this
theorem Cop.neN : Cop C A .NotEq (N m) (N n) b (decide (m ≠ n)) := by
  have := Cop.ne (C := C) (A := A) (b := b) (x := m) (y := n)
  rwa [show decide ((m : Int) ≠ (n : Int)) = decide (m ≠ n) from decide_eq_decide.mpr (not_congr Int.ofNat_inj)] at this
theorem Cop.geN : Cop C A .GtE (N m) (N n) b (decide (m ≥ n)) := by
  have := Cop.ge (C := C) (A := A) (b := b) (x := m) (y := n); simpa using this
theorem Cop.gtN : Cop C A .Gt (N m) (N n) b (decide (m > n)) := by
  have := Cop.gt (C := C) (A := A) (b := b) (x := m) (y := n); simpa using this
theorem Cop.leN : Cop C A .LtE (N m) (N n) b (decide (m ≤ n)) := by
  have := Cop.le (C := C) (A := A) (b := b) (x := m) (y := n); simpa using this
theorem Cop.neB {t u : Bool} : Cop C A .NotEq (.bool t) (.bool u) b (t != u) := .mk fun X Y s I f E hb st hx hy => by
  cases hx; cases hy; exact (PySem.SeqAt.RcNeAt.bool_bool t u) C.prog C.w E _ (rd_same st rfl)

/-- a list of ints, frozen or a box -/
inductive IntsV (b : Boxes) : V → List Int → Prop
  | list (ns : List Int) : IntsV b (.list (ns.map V.int)) ns
  | box (k : Nat) (ns : List Int) (h : b[k]? = some (ns.map V.int)) : IntsV b (.box k) ns
theorem ints_are {I : Gh} {f : List Addr} : ∀ {vs : List Value} {ns : List Int}, RdL I f vs (ns.map V.int) → IntsAre vs ns
  | [], [], _ => .nil
  | _, [], h => by cases h; exact .nil
  | [], _ :: _, h => by cases h
  | _ :: _, n :: ns, h => by
    cases h with
    | cons v x vs xs h t => cases h; exact .cons _ _ (ints_are t)
theorem IntsV.isList {s : Shared} {I : Gh} {f : List Addr} {X : Value} {v : V} {ns : List Int} (st : St s.heap I f b) (h : IntsV b v ns) (r : Rd I f X v) :
    ∃ a vs, X = .ref a ∧ s.heap.IsList a vs.toArray ∧ IntsAre vs ns := by
  cases h with
  | list ns =>
    cases r with
    | list a o items n vs h1 h2 h3 h4 => exact ⟨a, items.toList, rfl, ⟨o, st.imm _ _ h1, h2, n, by simpa using h3⟩, ints_are h4⟩
  | box k ns h =>
    cases r with
    | box n a h' =>
      obtain ⟨a', items, e1, e2, e3⟩ := st.box k _ h
      rw [h'] at e1; cases e1
      exact ⟨a, items.toList, rfl, by simpa using e2.isList, ints_are e3⟩
theorem Cop.eqL {u v : V} {ns ms : List Int} (hu : A.units + 64 < cLine) (h1 : IntsV b u ns) (h2 : IntsV b v ms) : Cop C A .Eq u v b (decide (ns = ms)) := .mk fun X Y s I f E hb st hx hy => by
  obtain ⟨a, vs, rfl, l1, i1⟩ := h1.isList st hx
  obtain ⟨c, us, rfl, l2, i2⟩ := h2.isList st hy
  exact eq_intsK l1 i1 l2 i2 hu (rd_same st rfl)
theorem Cop.neL {u v : V} {ns ms : List Int} (hu : A.units + 64 < cLine) (h1 : IntsV b u ns) (h2 : IntsV b v ms) : Cop C A .NotEq u v b (!decide (ns = ms)) := .mk fun X Y s I f E hb st hx hy => by
  obtain ⟨a, vs, rfl, l1, i1⟩ := h1.isList st hx
  obtain ⟨c, us, rfl, l2, i2⟩ := h2.isList st hy
  exact ne_intsK l1 i1 l2 i2 hu (rd_same st rfl)
end
end Mine
end
section
open PySem PySem.W PyProof.Rows
set_option Elab.async false
set_option linter.all false
namespace Mine

/-- the names' facts -/
structure Bs (C : Cx) (mg mb : Str → Option Value) : Prop where
  g : C.H0.Ns mainGlobals mg
  b : C.H0.Ns builtinsNs mb
  nl : C.H0.NoLimit

/-- a call of a value -/
structure CallV (C : Cx) (A : Around) (F : Value) (vs : List V) (b : Boxes) (v : V) (b' : Boxes) : Prop where
  run : ∀ (xs : List Value) (s : Shared) (I : Gh) (f : List Addr) (E : Value → Shared → Prop), (∀ (a : Addr) (o : Obj), C.H0.get? a = some o → I a = some o) → St s.heap I f b → RdL I f xs vs →
    wpAny (model C.prog C.w) A (call F xs) (Res NoW s I f b' fun I' f' x => Rd I' f' x v) E s
/-- a call of a def of the text -/
def CallF (C : Cx) (mg : Str → Option Value) (A : Around) (x : Str) (vs : List V) (b : Boxes) (v : V) (b' : Boxes) : Prop :=
  ∃ fa o fd, mg x = some (.ref fa) ∧ C.H0.get? fa = some o ∧ o.data = .func fd ∧ CallV C A (.ref fa) vs b v b'

inductive SeqV (b : Boxes) : V → List V → Prop
  | list (l : List V) : SeqV b (.list l) l
  | box (k : Nat) (l : List V) (h : b[k]? = some l) : SeqV b (.box k) l

section
variable {C : Cx} {A : Around} {sc : List (Str × NameKind)} {r : Loc} {b b1 b2 b3 : Boxes} {pos p p1 p2 : Pos} {mg mb : Str → Option Value}

theorem SeqV.isList {s : Shared} {I : Gh} {f : List Addr} {X : Value} {v : V} {l : List V} (st : St s.heap I f b) (h : SeqV b v l) (r : Rd I f X v) :
    ∃ a vs, X = .ref a ∧ s.heap.IsList a vs.toArray ∧ RdL I f vs l := by
  cases h with
  | list l =>
    cases r with
    | list a o items n vs h1 h2 h3 h4 => exact ⟨a, items.toList, rfl, ⟨o, st.imm _ _ h1, h2, n, by simpa using h3⟩, h4⟩
  | box k l h =>
    cases r with
    | box n a h' =>
      obtain ⟨a', items, e1, e2, e3⟩ := st.box k _ h
      rw [h'] at e1; cases e1
      exact ⟨a, items.toList, rfl, by simpa using e2.isList, e3⟩
theorem SeqV.ofInts {v : V} {ns : List Int} (h : SeqV b v (ns.map V.int)) : IntsV b v ns := by
  cases h with
  | list => exact .list ns
  | box k _ h => exact .box k ns h
theorem isTup_of {s : Shared} {I : Gh} {f : List Addr} {X : Value} {l : List V} (st : St s.heap I f b) (r : Rd I f X (.tup l)) :
    ∃ a vs, X = .ref a ∧ s.heap.IsTuple a vs.toArray ∧ RdL I f vs l := by
  cases r with
  | tup a o items n vs h1 h2 h3 h4 => exact ⟨a, items.toList, rfl, ⟨o, st.imm _ _ h1, h2, n, by simpa using h3⟩, h4⟩

/-- a name of the globals or of the built-ins -/
theorem name_global {x : Str} {env : Env} {s : Shared} {I : Gh} {f : List Addr} {E : Value → Shared → Prop} {v : Value} {Q : Value → Shared → Prop} (B : Bs C mg mb) (pr : Pre C s I f b env sc r) (hk : sc.lookup x = some .globalImplicit)
    (hd : (x == ("__debug__" : Str)) = false) (hv : mg x = some v) (h : Q v s) : wpAny (model C.prog C.w) A (eval (.Name x pos) env) Q E s := by
  have hg : s.heap.Ns env.globals mg := by rw [pr.ok.glob]; exact B.g.keeps pr.base_heap
  exact Calls.Name_function_global pr.ok.kind (by show env.scope.names.lookup x = _; rw [pr.ok.names]; exact hk) (Calls.loadGlobal_global hg hv h) hd
theorem name_builtin {x : Str} {env : Env} {s : Shared} {I : Gh} {f : List Addr} {E : Value → Shared → Prop} {v : Value} {Q : Value → Shared → Prop} (B : Bs C mg mb) (pr : Pre C s I f b env sc r) (hk : sc.lookup x = some .globalImplicit)
    (hd : (x == ("__debug__" : Str)) = false) (hn : mg x = none) (hv : mb x = some v) (h : Q v s) : wpAny (model C.prog C.w) A (eval (.Name x pos) env) Q E s := by
  have hg : s.heap.Ns env.globals mg := by rw [pr.ok.glob]; exact B.g.keeps pr.base_heap
  have hb : s.heap.Ns env.builtins mb := by rw [pr.ok.blt]; exact B.b.keeps pr.base_heap
  exact Calls.Name_function_global pr.ok.kind (by show env.scope.names.lookup x = _; rw [pr.ok.names]; exact hk) (Calls.loadGlobal_builtin hg hn hb hv h) hd

theorem Ev.callF {x : Str} {e : Expr} {es : List Expr} {vs : List V} {v : V} (B : Bs C mg mb) (hk : sc.lookup x = some .globalImplicit) (h1 : EvL C A sc pos (e :: es) r b vs b1) (h2 : CallF C mg A x vs b1 v b2)
    (hd : (x == ("__debug__" : Str)) = false := by with_unfolding_all decide)
    (he : ∀ env, starEach (e :: es) env = (false, eval e env) :: starEach es env := by intro _; with_unfolding_all rfl) : Ev C A sc (.Call (.Name x p) (e :: es) [] pos) r b v b2 := .mk fun env s I f E pr => by
  obtain ⟨fa, o, fd, hv, ho, hfd, hc⟩ := h2
  refine Call_Name rfl (name_global B pr hk hd hv ?_)
  refine callWith_def (o := o) (fd := fd) hfd (wpAny_mono (h1.run env s I f E pr) (fun xs s1 ⟨I1, f1, p1, r1⟩ => ?_) fun _ _ h => h) (he env)
  have pr1 := pr.post p1
  exact ⟨pr1.base_heap _ _ ho, wpAny_mono (hc.run xs s1 I1 f1 E pr1.base pr1.st r1) (fun Z s3 q => Res.trans p1 q) fun _ _ h => h⟩
theorem Ev.callB {x : Str} {id : String} {e : Expr} {es : List Expr} {vs : List V} {v : V} (B : Bs C mg mb) (hk : sc.lookup x = some .globalImplicit) (hn : mg x = none) (hv : mb x = some (.builtin id))
    (h1 : EvL C A sc pos (e :: es) r b vs b1) (h2 : CallV C A (.builtin id) vs b1 v b2)
    (hd : (x == ("__debug__" : Str)) = false := by with_unfolding_all decide)
    (he : ∀ env, starEach (e :: es) env = (false, eval e env) :: starEach es env := by intro _; with_unfolding_all rfl)
    (hp : ∀ env, (backTo pos (starEach es env)).any (·.1) = false := by intro _; with_unfolding_all rfl) : Ev C A sc (.Call (.Name x p) (e :: es) [] pos) r b v b2 := .mk fun env s I f E pr => by
  refine Call_Name rfl (name_builtin B pr hk hd hn hv ?_)
  refine callWith_builtin1 (wpAny_mono (h1.run env s I f E pr) (fun xs s1 ⟨I1, f1, p1, r1⟩ => ?_) fun _ _ h => h) (he env) (hp env)
  have pr1 := pr.post p1
  exact wpAny_mono (h2.run xs s1 I1 f1 E pr1.base pr1.st r1) (fun Z s3 q => Res.trans p1 q) fun _ _ h => h
theorem Ev.callT {x : Str} {T : String} {e : Expr} {es : List Expr} {vs : List V} {v : V} (B : Bs C mg mb) (hk : sc.lookup x = some .globalImplicit) (hn : mg x = none) (hv : mb x = some (.type T))
    (h1 : EvL C A sc pos (e :: es) r b vs b1) (h2 : CallV C A (.type T) vs b1 v b2)
    (hd : (x == ("__debug__" : Str)) = false := by with_unfolding_all decide)
    (he : ∀ env, starEach (e :: es) env = (false, eval e env) :: starEach es env := by intro _; with_unfolding_all rfl)
    (hp : ∀ env, (backTo pos (starEach es env)).any (·.1) = false := by intro _; with_unfolding_all rfl) : Ev C A sc (.Call (.Name x p) (e :: es) [] pos) r b v b2 := .mk fun env s I f E pr => by
  refine Call_Name rfl (name_builtin B pr hk hd hn hv ?_)
  refine PyProof.Rows.callWith_type1 (wpAny_mono (h1.run env s I f E pr) (fun xs s1 ⟨I1, f1, p1, r1⟩ => ?_) fun _ _ h => h) (he env) (hp env)
  have pr1 := pr.post p1
  exact wpAny_mono (h2.run xs s1 I1 f1 E pr1.base pr1.st r1) (fun Z s3 q => Res.trans p1 q) fun _ _ h => h

theorem rd_push {s : Shared} {I : Gh} {f : List Addr} {o : Obj} {t : Nat} {x : V} (st : St s.heap I f b) (hf : o.isFreed = false) (h : Rd (addI I s.heap.objs.size o) f (.ref s.heap.objs.size) x) :
    Res NoW s I f b (fun I' f' y => Rd I' f' y x) (.ref s.heap.objs.size) { s with heap := s.heap.push o, toks := t } := by
  have hn : s.heap.get? s.heap.objs.size = none := by
    cases e : s.heap.get? s.heap.objs.size with
    | none => rfl
    | some o' => exact absurd (Heap.lt_size e) (Nat.lt_irrefl _)
  exact ⟨_, f, Post.newI st hn (fun _ _ e => Heap.get?_push_of_some _ e) (Heap.get?_push_size _ hf), h⟩
theorem none_size (h : Heap) : h.get? h.objs.size = none := by
  cases e : h.get? h.objs.size with
  | none => rfl
  | some o' => exact absurd (Heap.lt_size e) (Nat.lt_irrefl _)

/-- len -/
theorem CallV.len {v : V} {l : List V} (h : SeqV b v l) (hl : l.length ≤ 1000000) : CallV C A (.builtin "len") [v] b (N l.length) b := .mk fun xs s I f E hb st hx => by
  cases hx with
  | cons X _ _ _ hx t =>
    cases t
    obtain ⟨a, vs, rfl, h1, h2⟩ := h.isList st hx
    have e := h2.length
    refine Calls.call_len_list h1 (by rw [List.size_toArray]; omega) (rd_tok st ?_)
    rw [List.size_toArray, e]; exact .int _ _
theorem CallV.lenT {l : List V} (hl : l.length ≤ 1000000) : CallV C A (.builtin "len") [.tup l] b (N l.length) b := .mk fun xs s I f E hb st hx => by
  cases hx with
  | cons X _ _ _ hx t =>
    cases t
    obtain ⟨a, vs, rfl, h1, h2⟩ := isTup_of st hx
    have e := h2.length
    refine len_tuple h1 (by rw [List.size_toArray]; omega) (rd_tok st ?_)
    rw [List.size_toArray, e]; exact .int _ _
/-- sum -/
theorem CallV.sum {v : V} {ns : List Int} (hh : A.handled = none) (h : IntsV b v ns) : CallV C A (.builtin "sum") [v] b (.int ns.sum) b := .mk fun xs s I f E hb st hx => by
  cases hx with
  | cons X _ _ _ hx t =>
    cases t
    obtain ⟨a, vs, rfl, h1, h2⟩ := h.isList st hx
    obtain ⟨ys, e⟩ := h2.allInts.items
    have hn := h2.numsOf
    have hn' : ys.toList.map (·.1) = ns := by
      rw [← hn, ← nums_intItems, ← e]
    rw [e] at h1
    refine sum_intListG hh h1 fun h' tk t' hk => ?_
    rw [preSum_eq, List.take_of_length_le (by simp), hn']
    exact ⟨I, f, Post.grow st hk, .int _ _⟩
/-- max, min of two -/
theorem CallV.max {x y : Int} (hh : A.handled = none) : CallV C A (.builtin "max") [.int x, .int y] b (.int (if y > x then y else x)) b := .mk fun xs s I f E hb st hx => by
  cases hx with
  | cons X _ _ _ hx t =>
    cases t with
    | cons Y _ _ _ hy t =>
      cases t; cases hx; cases hy
      refine max_two_ints hh fun h' tk hk => ?_
      by_cases h : y > x
      · rw [if_pos h, if_pos h]; exact ⟨I, f, Post.grow st hk, .int _ _⟩
      · rw [if_neg h, if_neg h]; exact ⟨I, f, Post.grow st hk, .int _ _⟩
theorem CallV.min {x y : Int} (hh : A.handled = none) : CallV C A (.builtin "min") [.int x, .int y] b (.int (if y < x then y else x)) b := .mk fun xs s I f E hb st hx => by
  cases hx with
  | cons X _ _ _ hx t =>
    cases t with
    | cons Y _ _ _ hy t =>
      cases t; cases hx; cases hy
      refine min_two_ints hh fun h' tk hk => ?_
      by_cases h : y < x
      · rw [if_pos h, if_pos h]; exact ⟨I, f, Post.grow st hk, .int _ _⟩
      · rw [if_neg h, if_neg h]; exact ⟨I, f, Post.grow st hk, .int _ _⟩
theorem CallV.maxN {m n : Nat} (hh : A.handled = none) : CallV C A (.builtin "max") [N m, N n] b (N (Nat.max m n)) b := by
  have := CallV.max (C := C) (A := A) (b := b) (x := m) (y := n) hh
  rwa [show (if (n : Int) > m then (n : Int) else m) = ((Nat.max m n : Nat) : Int) by split <;> (show _ = ((Max.max m n : Nat) : Int)) <;> omega] at this
theorem CallV.minN {m n : Nat} (hh : A.handled = none) : CallV C A (.builtin "min") [N m, N n] b (N (Nat.min m n)) b := by
  have := CallV.min (C := C) (A := A) (b := b) (x := m) (y := n) hh
  rwa [show (if (n : Int) < m then (n : Int) else m) = ((Nat.min m n : Nat) : Int) by split <;> (show _ = ((Min.min m n : Nat) : Int)) <;> omega] at this
/-- range -/
theorem CallV.range {n : Int} : CallV C A (.type "range") [.int n] b (.rng n) b := .mk fun xs s I f E hb st hx => by
  cases hx with
  | cons X _ _ _ hx t =>
    cases t; cases hx
    exact call_range_1 (rd_push st rfl (.rng _ _ _ _ _ addI_self))
/-- list, tuple -/
theorem CallV.list {v : V} {l : List V} (h : SeqV b v l) (hl : l.length ≤ 1000000) : CallV C A (.type "list") [v] b (.list l) b := .mk fun xs s I f E hb st hx => by
  cases hx with
  | cons X _ _ _ hx t =>
    cases t
    obtain ⟨a, vs, rfl, ⟨o, h1, h2, n, h3⟩, h4⟩ := h.isList st hx
    have e := h4.length
    refine call_list_seq a (.inl rfl) h1 h2 h3 (fun h' c' hk hD => ?_) (by rw [List.size_toArray, sizeLine_eq]; omega)
    have p := Post.newI (W := NoW) (t := s.toks) st (none_size s.heap) hk hD
    exact ⟨_, f, p, .list _ _ _ _ _ addI_self rfl rfl (h4.mono p.le (Px.refl _))⟩
theorem CallV.tuple {v : V} {l : List V} (h : SeqV b v l) (hl : l.length ≤ 1000000) : CallV C A (.type "tuple") [v] b (.tup l) b := .mk fun xs s I f E hb st hx => by
  cases hx with
  | cons X _ _ _ hx t =>
    cases t
    obtain ⟨a, vs, rfl, h1, h4⟩ := h.isList st hx
    have e := h4.length
    refine call_tuple_list h1 (fun h' hk => ?_) (by rw [List.size_toArray, sizeLine_eq]; omega)
    have hn : s.heap.get? h'.objs.size = none := by
      cases q : s.heap.get? h'.objs.size with
      | none => rfl
      | some o' => have := hk _ _ q; rw [none_size] at this; cases this
    have p := Post.newI (W := NoW) (t := s.toks) st hn (fun a o q => Heap.get?_push_of_some _ (hk a o q)) (Heap.get?_push_size h' (o := { cls := .type "tuple", data := .seq vs.toArray }) rfl)
    exact ⟨_, f, p, .tup _ _ _ _ _ addI_self rfl rfl (h4.mono p.le (Px.refl _))⟩

/-- displays -/
theorem Ev.tupD {es : List Expr} {vs : List V} {k : _} (h : EvL C A sc pos es r b vs b1) (hl : vs.length ≤ 1000000) : Ev C A sc (.Tuple es k pos) r b (.tup vs) b1 := .mk fun env s I f E pr => by
  refine wpAny_Tuple_spliced (wpAny_mono (h.run env s I f E pr) (fun xs s1 ⟨I1, f1, p1, r1⟩ => ?_) fun _ _ h => h)
  have e := r1.length
  refine ⟨by rw [sizeLine_eq]; omega, Res.trans p1 ?_⟩
  have p := Post.newI (W := NoW) (t := s1.toks) p1.st (none_size s1.heap) (fun a o q => Heap.get?_push_of_some _ q) (Heap.get?_push_size s1.heap (o := { cls := .type "tuple", data := .seq xs.toArray }) rfl)
  exact ⟨_, f1, p, .tup _ _ _ _ _ addI_self rfl rfl (r1.mono p.le (Px.refl _))⟩
/-- a list display is a box -/
theorem Ev.listD {es : List Expr} {vs : List V} (h : EvL C A sc pos es r b vs b1) (hl : vs.length ≤ 1000000) : Ev C A sc (.List es pos) r b (.box b1.length) (b1 ++ [vs]) := .mk fun env s I f E pr => by
  refine wpAny_List_spliced (wpAny_mono (h.run env s I f E pr) (fun xs s1 ⟨I1, f1, p1, r1⟩ => ?_) fun _ _ h => h)
  have e := r1.length
  refine ⟨by rw [sizeLine_eq]; omega, Res.trans p1 ?_⟩
  have p := Post.newB (W := NoW) (t := s1.toks) p1.st (none_size s1.heap) (fun a o q => Heap.get?_push_of_some _ q) ⟨0, Heap.get?_push_size s1.heap (o := { cls := .type "list", data := .seq xs.toArray }) rfl⟩ (by simpa using r1)
  exact ⟨_, _, p, .box _ _ (by rw [← p1.st.len]; simp)⟩

/-- an item -/
def plainSlice (e : Expr) : Prop := ∀ o i, subscripted e false o i = operate [o, i] (getItem o i)
theorem Ev.item {e i : Expr} {v x : V} {l : List V} {n : Nat} (h1 : Ev C A sc e r b v b1) (h2 : Ev C A sc i r b1 (N n) b2) (h3 : SeqV b2 v l) (h4 : l[n]? = some x) (hl : n < 1000000)
    (hs : ∀ o j, subscripted i false o j = operate [o, j] (getItem o j) := by intro _ _; with_unfolding_all rfl) : Ev C A sc (.Subscript e i pos) r b x b2 := .mk fun env s I f E pr => by
  refine Subscript_ (wpAny_mono (h1.run env s I f E pr) (fun X s1 ⟨I1, f1, p1, r1⟩ => ?_) fun _ _ h => h)
  have pr1 := pr.post p1
  refine wpAny_mono (h2.run env s1 I1 f1 E pr1) (fun Y s2 ⟨I2, f2, p2, r2⟩ => ?_) fun _ _ h => h
  cases r2
  obtain ⟨a, vs, rfl, h5, h6⟩ := h3.isList p2.st (r1.mono p2.le p2.px)
  obtain ⟨y, h7, h8⟩ := h6.get h4
  exact tail_any h5.typeIs slot_list_getitem.lookup (wpAny_getItem_list h5 (by omega) (by omega) (by simpa using h7) ⟨I2, f2, p1.trans p2, h8⟩) (hs _ _)
theorem Ev.itemT {e i : Expr} {x : V} {l : List V} {n : Nat} (h1 : Ev C A sc e r b (.tup l) b1) (h2 : Ev C A sc i r b1 (N n) b2) (h4 : l[n]? = some x) (hl : n < 1000000)
    (hs : ∀ o j, subscripted i false o j = operate [o, j] (getItem o j) := by intro _ _; with_unfolding_all rfl) : Ev C A sc (.Subscript e i pos) r b x b2 := .mk fun env s I f E pr => by
  refine Subscript_ (wpAny_mono (h1.run env s I f E pr) (fun X s1 ⟨I1, f1, p1, r1⟩ => ?_) fun _ _ h => h)
  have pr1 := pr.post p1
  refine wpAny_mono (h2.run env s1 I1 f1 E pr1) (fun Y s2 ⟨I2, f2, p2, r2⟩ => ?_) fun _ _ h => h
  cases r2
  obtain ⟨a, vs, rfl, h5, h6⟩ := isTup_of p2.st (r1.mono p2.le p2.px)
  obtain ⟨y, h7, h8⟩ := h6.get h4
  have hlen := (List.getElem?_eq_some_iff.mp h7).1
  refine tail_any (Heap.IsTuple.typeIs h5) slot_tuple_getitem.lookup (getItem_tuple (j := n) h5 (by omega) (by omega) ?_ (by simpa using h7) ⟨I2, f2, p1.trans p2, h8⟩) (hs _ _)
  unfold seqIndex?
  rw [List.size_toArray]
  simp
  omega
/-- xs[:n] -/
theorem Ev.upto {e i : Expr} {v : V} {l : List V} {n : Nat} (h1 : Ev C A sc e r b v b1) (h2 : Ev C A sc i r b1 (N n) b2) (h3 : SeqV b2 v l) (hl : l.length ≤ 1000000)
    (ht : ∀ o r, letTemporaryGo e o r = pure () := by intro _ _; with_unfolding_all rfl) : Ev C A sc (.Subscript e (.Slice none (some i) none p) pos) r b (.list (l.take n)) b2 := .mk fun env s I f E pr => by
  refine wpAny_Subscript_list_slice (wpAny_mono (h1.run env s I f E pr) (fun X s1 ⟨I1, f1, p1, r1⟩ => ?_) fun _ _ h => h) ht
  have pr1 := pr.post p1
  refine evalPart_none_step (evalPart_some_step (wpAny_mono (h2.run env s1 I1 f1 E pr1) (fun Y s2 ⟨I2, f2, p2, r2⟩ => ?_) fun _ _ h => h))
  cases r2 with
  | int _ t =>
  obtain ⟨a, vs, rfl, h5, h6⟩ := h3.isList p2.st (r1.mono p2.le p2.px)
  have e := h6.length
  refine ⟨a, vs.toArray, none, some (n : Int), rfl, h5, by rw [List.size_toArray, sizeLine_eq]; omega, .none, .int _ _, ?_⟩
  rw [slicePick_upto']
  refine Res.trans (p1.trans p2) ?_
  have hn : s2.heap.get? (s2.heap.objs.size + 1) = none := by
    cases q : s2.heap.get? (s2.heap.objs.size + 1) with
    | none => rfl
    | some o' => exact absurd (Heap.lt_size q) (Nat.not_lt.mpr (Nat.le_succ _))
  have hN := Heap.get?_push_size (s2.heap.push { cls := .type "slice", data := .fields #[.none, .int (n : Int) t, .none] }) (o := { cls := .type "list", data := .seq (vs.toArray.toList.take n).toArray }) rfl
  rw [Heap.size_push] at hN
  have p := Post.newI (W := NoW) (t := s2.toks) p2.st hn (fun a o q => Heap.get?_push_of_some _ (Heap.get?_push_of_some _ q)) hN
  exact ⟨_, f2, p, .list _ _ _ _ _ addI_self rfl rfl (by simpa using (h6.take n).mono p.le (Px.refl _))⟩
/-- xs + ys -/
theorem Bop.cat {u v : V} {l m : List V} (h1 : SeqV b u l) (h2 : SeqV b v m) (hl : l.length + m.length ≤ 1000000) : Bop C A .Add u v b (.list (l ++ m)) := .mk fun X Y s I f E hb st hx hy => by
  obtain ⟨a, vs, rfl, ⟨⟨cls, dd, data, sl⟩, ho, hc, n, hd⟩, r1⟩ := h1.isList st hx
  obtain ⟨c, ws, rfl, ⟨⟨cls2, dd2, data2, sl2⟩, ho2, hc2, n2, hd2⟩, r2⟩ := h2.isList st hy
  simp only at hc hd hc2 hd2
  subst hc hd hc2 hd2
  have e1 := r1.length
  have e2 := r2.length
  have e : vs.toArray ++ ws.toArray = (vs ++ ws).toArray := by simp
  refine concat_meets ⟨_, ho, rfl⟩ ⟨_, ho2, rfl⟩ noFill_list_add seq_list_add PySem.F.slot_list_add PySem.F.entry_list_add (PySem.F.args_list_add_2 _ _) (list_addW a c vs.toArray ws.toArray n n2 dd dd2 sl sl2 (by rw [List.size_toArray, List.size_toArray, sizeLine_eq]; omega)) ⟨ho, ho2, ?_⟩
  rw [e]
  have p := Post.newI (W := NoW) (t := s.toks) st (none_size s.heap) (fun a o q => Heap.get?_push_of_some _ q) (Heap.get?_push_size s.heap (o := { cls := .type "list", data := .seq (vs ++ ws).toArray }) rfl)
  exact ⟨_, f, p, .list _ _ _ _ _ addI_self rfl rfl (by simpa using (r1.append r2).mono p.le (Px.refl _))⟩
end
end Mine
end
section
open PySem PySem.W PyProof.Rows
set_option Elab.async false
set_option linter.all false
set_option maxRecDepth 100000
namespace Mine

inductive Fl where
  | next
  | ret (v : V)
def FlR (I : Gh) (f : List Addr) : Flow → Fl → Prop
  | .next, .next => True
  | .ret x, .ret v => Rd I f x v
  | _, _ => False

structure Ex (C : Cx) (A : Around) (sc : List (Str × NameKind)) (st : Stmt) (r : Loc) (b : Boxes) (fl : Fl) (r' : Loc) (b' : Boxes) : Prop where
  run : ∀ (env : Env) (s : Shared) (I : Gh) (f : List Addr) (E : Value → Shared → Prop), Pre C s I f b env sc r →
    wpAny (model C.prog C.w) A (exec st env) (fun x s' => ∃ I' f', Post (fpOf env) s I f s' I' f' b' ∧ EnvR s'.heap I' f' env r' ∧ FlR I' f' x fl) E s
structure Exs (C : Cx) (A : Around) (sc : List (Str × NameKind)) (st : List Stmt) (r : Loc) (b : Boxes) (fl : Fl) (r' : Loc) (b' : Boxes) : Prop where
  run : ∀ (env : Env) (s : Shared) (I : Gh) (f : List Addr) (E : Value → Shared → Prop), Pre C s I f b env sc r →
    wpAny (model C.prog C.w) A (execs st env) (fun x s' => ∃ I' f', Post (fpOf env) s I f s' I' f' b' ∧ EnvR s'.heap I' f' env r' ∧ FlR I' f' x fl) E s

section
variable {C : Cx} {A : Around} {sc : List (Str × NameKind)} {r r1 r2 r' : Loc} {b b1 b2 b3 : Boxes} {pos p p1 p2 : Pos} {mg mb : Str → Option Value} {fl : Fl}
  {W : Addr → Prop} {s s' s'' : Shared} {I I' I'' : Gh} {f f' f'' : List Addr} {env : Env}

theorem Post.w (p : Post NoW s I f s' I' f' b1) : Post W s I f s' I' f' b1 := p.weak fun a h => absurd h id
theorem Pre.step (e : Pre C s I f b env sc r) (p : Post W s I f s' I' f' b1) (q : EnvR s'.heap I' f' env r1) : Pre C s' I' f' b1 env sc r1 :=
  ⟨fun a o h => p.le _ _ (e.base a o h), p.st, e.ok, q⟩

/-- one own address is written -/
theorem Post.write {h' : Heap} {t : Nat} {a : Addr} (p : St s.heap I f b) (k : Heap.SameBut a s.heap h') (hl : h'.get? a ≠ none) (h1 : I a = none) (h2 : a ∉ f) (hW : W a) : Post W s I f { s with heap := h', toks := t } I f b := by
  refine ⟨⟨_, _, rfl⟩, fun x o _ hx e => (k.2 x (by rintro rfl; exact hx hW)).trans e, fun x hx => ?_, Le.refl _, fun x hx => rfl, ⟨[], by simp, fun _ h => nomatch h⟩,
    ⟨fun x y q => (k.2 x (by rintro rfl; rw [h1] at q; cases q)).trans (p.imm _ _ q), fun j ws q => ?_, p.len, p.nd, p.out⟩⟩
  · show h'.get? x ≠ none
    by_cases hx' : x = a
    · subst hx'; exact hl
    · rw [k.2 x hx']; exact hx
  · obtain ⟨c, its, g1, ⟨m, g2⟩, g3⟩ := p.box j ws q
    refine ⟨c, its, g1, ⟨m, (k.2 c ?_).trans g2⟩, g3⟩
    rintro rfl
    exact h2 (List.mem_of_getElem? g1)

theorem lookup_cons_self {x : Str} {v : V} : ((x, v) :: r).lookup x = some v := by simp [List.lookup_cons]

def stOf (env : Env) (x : Str) : Addr → Prop := fun a => a = env.locals ∨ env.cells.lookup x = some a
theorem stOf_fp {env : Env} {x : Str} {a : Addr} (h : stOf env x a) : fpOf env a := h.elim .inl fun q => .inr ⟨x, q⟩
/-- a name is stored -/
theorem storeS {x : Str} {X : Value} {v : V} {E : Value → Shared → Prop} (pr : Pre C s I f b env sc r) (hx : Rd I f X v) (hk : sc.lookup x = some .local ∨ sc.lookup x = some .cell) :
    wpAny (model C.prog C.w) A (storeName env x X) (fun _ s' => Post (stOf env x) s I f s' I f b ∧ EnvR s'.heap I f env ((x, v) :: r)) E s := by
  have hkind : ∀ y, env.kindOf y = sc.lookup y := fun y => by show env.scope.names.lookup y = _; rw [pr.ok.names]
  rcases hk with hk | hk
  · obtain ⟨m, hm, h2⟩ := pr.er.loc
    refine wpAny_storeName_local (by rw [hkind]; exact hk) hm (fun h' hn hs => ?_) (by rw [pr.ok.kind]; rfl)
    have ho := pr.er.out env.locals (.inl rfl)
    refine ⟨Post.write pr.st hs (ns_live hn) ho.1 ho.2 (.inl rfl), ⟨⟨_, hn, fun y u hy hl => ?_⟩, fun y u hy hl => ?_, fun y a hy => ?_, pr.er.inj, pr.er.out, pr.er.neL⟩⟩
    · by_cases e : y = x
      · subst e
        rw [lookup_cons_self] at hy
        cases hy
        exact ⟨X, by simp, hx⟩
      · rw [List.lookup_cons] at hy
        have hb : (y == x) = false := beq_eq_false_iff_ne.mpr e
        rw [hb] at hy
        obtain ⟨w, h3, h4⟩ := h2 y u hy hl
        exact ⟨w, by simp [e, h3], h4⟩
    · rw [List.lookup_cons] at hy
      cases hb : y == x with
      | true => rw [beq_iff_eq.mp hb] at hl; exact absurd (by rw [hkind]; exact hk) hl
      | false =>
        rw [hb] at hy
        obtain ⟨h1, a, w, h3, ⟨o, h4, h4'⟩, h5⟩ := pr.er.cel y u hy hl
        exact ⟨h1, a, w, h3, ⟨o, (hs.2 a (pr.er.neL _ _ h3)).trans h4, h4'⟩, h5⟩
    · obtain ⟨w, o, h4, h4'⟩ := pr.er.isc y a hy
      exact ⟨w, o, (hs.2 a (pr.er.neL _ _ hy)).trans h4, h4'⟩
  · obtain ⟨a, ha⟩ := pr.ok.cel x hk
    obtain ⟨v0, hv0⟩ := pr.er.isc x a ha
    refine wpAny_storeName_cell pr.ok.kind (by rw [hkind]; exact hk) ha hv0 fun h' hc hs => ?_
    have ho := pr.er.out a (.inr ⟨x, ha⟩)
    refine ⟨Post.write (t := s.toks) pr.st hs (cell_live hc) ho.1 ho.2 (.inr ha), ⟨?_, fun y u hy hl => ?_, fun y c hy => ?_, pr.er.inj, pr.er.out, pr.er.neL⟩⟩
    · obtain ⟨m, hm, h2⟩ := pr.er.loc
      refine ⟨m, hm.sameBut hs (Ne.symm (pr.er.neL _ _ ha)), fun y u hy hl => ?_⟩
      rw [List.lookup_cons] at hy
      cases hb : y == x with
      | true => rw [beq_iff_eq.mp hb, hkind, hk] at hl; cases hl
      | false => rw [hb] at hy; exact h2 y u hy hl
    · by_cases e : y = x
      · subst e
        rw [lookup_cons_self] at hy
        cases hy
        exact ⟨by rw [hkind]; exact hk, a, X, ha, hc, hx⟩
      · rw [List.lookup_cons] at hy
        have hb : (y == x) = false := beq_eq_false_iff_ne.mpr e
        rw [hb] at hy
        obtain ⟨h1, c, w, h3, ⟨o, h4, h4'⟩, h5⟩ := pr.er.cel y u hy hl
        exact ⟨h1, c, w, h3, ⟨o, (hs.2 c (by rintro rfl; exact e (pr.er.inj _ _ _ h3 ha))).trans h4, h4'⟩, h5⟩
    · by_cases e : c = a
      · subst e; exact ⟨_, hc⟩
      · obtain ⟨w, o, h4, h4'⟩ := pr.er.isc y c hy
        exact ⟨w, o, (hs.2 c e).trans h4, h4'⟩

theorem store {x : Str} {X : Value} {v : V} {E : Value → Shared → Prop} (pr : Pre C s I f b env sc r) (hx : Rd I f X v) (hk : sc.lookup x = some .local ∨ sc.lookup x = some .cell) :
    wpAny (model C.prog C.w) A (storeName env x X) (fun _ s' => Post (fpOf env) s I f s' I f b ∧ EnvR s'.heap I f env ((x, v) :: r)) E s :=
  wpAny_mono (storeS pr hx hk) (fun _ _ ⟨p, e⟩ => ⟨p.weak fun _ h => .inl (stOf_fp h), e⟩) fun _ _ h => h

theorem Exs.nil : Exs C A sc [] r b .next r b := .mk fun env s I f E pr => wpAny_execs_nil ⟨I, f, Post.refl pr.st, pr.er, trivial⟩
theorem Exs.cons {st : Stmt} {sts : List Stmt} (h1 : Ex C A sc st r b .next r1 b1) (h2 : Exs C A sc sts r1 b1 fl r2 b2) : Exs C A sc (st :: sts) r b fl r2 b2 := .mk fun env s I f E pr => by
  refine wpAny_execs_cons (wpAny_mono (h1.run env s I f E pr) (fun x s1 ⟨I1, f1, p1, e1, q1⟩ => ?_) fun _ _ h => h)
  cases x <;> first
    | exact q1.elim
    | exact wpAny_mono (h2.run env s1 I1 f1 E (pr.step p1 e1)) (fun x s2 ⟨I2, f2, p2, e2, q2⟩ => ⟨I2, f2, p1.trans p2, e2, q2⟩) fun _ _ h => h
theorem Exs.ret {st : Stmt} {sts : List Stmt} {v : V} (h1 : Ex C A sc st r b (.ret v) r1 b1) : Exs C A sc (st :: sts) r b (.ret v) r1 b1 := .mk fun env s I f E pr => by
  refine wpAny_execs_cons (wpAny_mono (h1.run env s I f E pr) (fun x s1 ⟨I1, f1, p1, e1, q1⟩ => ?_) fun _ _ h => h)
  cases x <;> first
    | exact q1.elim
    | exact ⟨I1, f1, p1, e1, q1⟩
theorem EvX {e : Expr} {v : V} (h : Ev C A sc e r b v b1) : ∀ (env : Env) (s : Shared) (I : Gh) (f : List Addr) (E : Value → Shared → Prop), Pre C s I f b env sc r →
    wpAny (model C.prog C.w) A (eval e env) (fun x s' => ∃ I' f', Post NoW s I f s' I' f' b1 ∧ Rd I' f' x v ∧ Pre C s' I' f' b1 env sc r) E s := fun env s I f E pr =>
  wpAny_mono (h.run env s I f E pr) (fun x s1 ⟨I1, f1, p1, r1⟩ => ⟨I1, f1, p1, r1, pr.post p1⟩) fun _ _ h => h

theorem Ex.assign {x : Str} {e : Expr} {v : V} (hk : sc.lookup x = some .local ∨ sc.lookup x = some .cell) (h : Ev C A sc e r b v b1)
    (hs : ∀ env, EnvOK env sc → swapsWith e (some (.Name x p)) pos.line env = pure false := by intro _ _; with_unfolding_all rfl) : Ex C A sc (.Assign [.Name x p] e pos) r b .next ((x, v) :: r) b1 := .mk fun env s I f E pr => by
  refine wpAny_Assign_Name (wpAny_mono (EvX h env s I f E pr) (fun X s1 ⟨I1, f1, p1, r1, pr1⟩ => ?_) fun _ _ h => h) (hs env pr.ok)
  exact wpAny_mono (store pr1 r1 hk) (fun _ s2 ⟨p2, e2⟩ => ⟨I1, f1, p1.w.trans p2, e2, trivial⟩) fun _ _ h => h
theorem loadN {x : Str} {v : V} {E : Value → Shared → Prop} (pr : Pre C s I f b env sc r) (h : r.lookup x = some v) :
    wpAny (model C.prog C.w) A (loadName env x) (fun X s' => s' = s ∧ Rd I f X v) E s := by
  by_cases hl : env.kindOf x = some .local
  · obtain ⟨m, hm, h2⟩ := pr.er.loc
    obtain ⟨y, h3, h4⟩ := h2 x v h hl
    exact wpAny_loadName_local pr.ok.kind hl hm h3 ⟨rfl, h4⟩
  · obtain ⟨h1, a, y, h2, h3, h4⟩ := pr.er.cel x v h hl
    exact wpAny_loadName_cell pr.ok.kind h1 h2 h3 ⟨rfl, h4⟩
theorem Ex.aug {x : Str} {e : Expr} {op : Operator} {u v w : V} (hk : sc.lookup x = some .local ∨ sc.lookup x = some .cell) (h0 : r.lookup x = some u) (h : Ev C A sc e r b v b1) (h2 : Iop C A op u v b1 w) :
    Ex C A sc (.AugAssign (.Name x p) op e pos) r b .next ((x, w) :: r) b1 := .mk fun env s I f E pr => by
  refine wpAny_AugAssign_Name (wpAny_mono (loadN pr h0) (fun X s0 ⟨e0, r0⟩ => ?_) fun _ _ h => h)
  subst e0
  refine wpAny_mono (EvX h env s0 I f E pr) (fun Y s1 ⟨I1, f1, p1, r1, pr1⟩ => ?_) fun _ _ h => h
  refine wpAny_mono (h2.run X Y s1 I1 f1 E pr1.base pr1.st (r0.mono p1.le p1.px) r1) (fun Z s2 ⟨I2, f2, p2, r2⟩ => ?_) fun _ _ h => h
  exact wpAny_mono (store (pr1.post p2) r2 hk) (fun _ s3 ⟨p3, e3⟩ => ⟨I2, f2, (p1.trans p2).w.trans p3, e3, trivial⟩) fun _ _ h => h
theorem Ex.ret {e : Expr} {v : V} (h : Ev C A sc e r b v b1) : Ex C A sc (.Return (some e) pos) r b (.ret v) r b1 := .mk fun env s I f E pr => by
  refine wpAny_Return_some (wpAny_mono (EvX h env s I f E pr) (fun X s1 ⟨I1, f1, p1, r1, pr1⟩ => ?_) fun _ _ h => h)
  exact ⟨I1, f1, p1.w, pr1.er, r1⟩
theorem Ex.ifT {t : Expr} {b1s b2s : List Stmt} (h : Tr C A sc t r b true b1) (h2 : Exs C A sc b1s r b1 fl r2 b2) : Ex C A sc (.If t b1s b2s pos) r b fl r2 b2 := .mk fun env s I f E pr => by
  refine wpAny_If (wpAny_mono (h.run env s I f E pr) (fun X s1 ⟨I1, f1, p1, r1⟩ => ?_) fun _ _ h => h)
  subst r1
  simp only [if_true]
  exact wpAny_mono (h2.run env s1 I1 f1 E (pr.post p1)) (fun x s2 ⟨I2, f2, p2, e2, q2⟩ => ⟨I2, f2, p1.w.trans p2, e2, q2⟩) fun _ _ h => h
theorem Ex.ifF {t : Expr} {b1s b2s : List Stmt} (h : Tr C A sc t r b false b1) (h2 : Exs C A sc b2s r b1 fl r2 b2) : Ex C A sc (.If t b1s b2s pos) r b fl r2 b2 := .mk fun env s I f E pr => by
  refine wpAny_If (wpAny_mono (h.run env s I f E pr) (fun X s1 ⟨I1, f1, p1, r1⟩ => ?_) fun _ _ h => h)
  subst r1
  simp only [Bool.false_eq_true, if_false]
  exact wpAny_mono (h2.run env s1 I1 f1 E (pr.post p1)) (fun x s2 ⟨I2, f2, p2, e2, q2⟩ => ⟨I2, f2, p1.w.trans p2, e2, q2⟩) fun _ _ h => h
/-- an if without else that is not taken -/
theorem Ex.skip {t : Expr} {b1s : List Stmt} (h : Tr C A sc t r b false b1) : Ex C A sc (.If t b1s [] pos) r b .next r b1 := Ex.ifF h Exs.nil
theorem Ex.sub {st : Stmt} (h : Ex C A sc st r1 b fl r2 b1) (h1 : Sub r1 r) (h2 : Sub r' r2) : Ex C A sc st r b fl r' b1 := .mk fun env s I f E pr =>
  wpAny_mono (h.run env s I f E (pr.sub h1)) (fun x s1 ⟨I1, f1, p1, e1, q1⟩ => ⟨I1, f1, p1, e1.sub h2, q1⟩) fun _ _ h => h
theorem Exs.sub {st : List Stmt} (h : Exs C A sc st r1 b fl r2 b1) (h1 : Sub r1 r) (h2 : Sub r' r2) : Exs C A sc st r b fl r' b1 := .mk fun env s I f E pr =>
  wpAny_mono (h.run env s I f E (pr.sub h1)) (fun x s1 ⟨I1, f1, p1, e1, q1⟩ => ⟨I1, f1, p1, e1.sub h2, q1⟩) fun _ _ h => h

/-- a, b = t -/
theorem Ex.assign2 {x y : Str} {e : Expr} {v w : V} {k : _} {q : Pos} (hh : A.handled = none) (hk : sc.lookup x = some .local ∨ sc.lookup x = some .cell) (hk2 : sc.lookup y = some .local ∨ sc.lookup y = some .cell) (h : Ev C A sc e r b (.tup [v, w]) b1)
    (hs : ∀ env, swapsWithSole [.Tuple [.Name x p, .Name y p1] k q] e pos.line env = pure false := by intro _; with_unfolding_all rfl)
    (hs2 : ∀ env, swappedStores [.Tuple [.Name x p, .Name y p1] k q] e env = pure none := by intro _; with_unfolding_all rfl) :
    Ex C A sc (.Assign [.Tuple [.Name x p, .Name y p1] k q] e pos) r b .next ((y, w) :: (x, v) :: r) b1 := .mk fun env s I f E pr => by
  rw [arm_exec_Assign, hs]
  refine wpAny_bind (wpAny_standAt (wpAny_bind (wpAny_pure ?_)))
  simp only [Bool.false_eq_true, if_false]
  refine wpAny_bind (wpAny_mono (EvX h env s I f E pr) (fun X s1 ⟨I1, f1, p1, r1, pr1⟩ => ?_) fun _ _ h => h)
  rw [hs2]
  refine wpAny_bind (wpAny_pure ?_)
  show wpAny _ A (do assignAll X [PySem.assign (.Tuple [.Name x p, .Name y _] k q) env]; pure Flow.next) _ _ _
  refine wpAny_bind ?_
  show wpAny _ A (PySem.assign (.Tuple [.Name x p, .Name y _] k q) env X) _ _ _
  obtain ⟨a, vs, rfl, h5, h6⟩ := isTup_of p1.st r1
  cases h6 with
  | cons V1 _ _ _ g1 t =>
    cases t with
    | cons V2 _ _ _ g2 t =>
      cases t
      refine wpAny_assign_Tuple hh h5 rfl rfl fun h' hk' => ?_
      have hkeep : ∀ (a : Addr) (o : Obj), s1.heap.get? a = some o → h'.get? a = some o := fun a o q => hk' a o (by rintro rfl; rw [none_size] at q; cases q) q
      have pg : Post (fpOf env) s1 I1 f1 { s1 with heap := h', toks := s1.toks } I1 f1 b1 := Post.grow p1.st hkeep
      have pr2 : Pre C { s1 with heap := h', toks := s1.toks } I1 f1 b1 env sc r := pr1.post (Post.grow p1.st hkeep)
      show wpAny _ A (do holding [V2] (PySem.assign (.Name x p) env V1); (do holding [] (PySem.assign (.Name y _) env V2); pure ())) _ _ _
      refine wpAny_bind (wpAny_holding (wpAny_assign_Name (wpAny_mono (store pr2 g1 hk) (fun _ s3 ⟨p3, e3⟩ => ?_) fun _ _ h => h)))
      have pr3 := pr2.step p3 e3
      refine wpAny_bind (wpAny_holding (wpAny_assign_Name (wpAny_mono (store pr3 g2 hk2) (fun _ s4 ⟨p4, e4⟩ => ?_) fun _ _ h => h)))
      exact wpAny_pure (wpAny_pure ⟨I1, f1, ((p1.w.trans pg).trans p3).trans p4, e4, trivial⟩)

/-- xs[n] = v, xs a box -/
theorem Ex.setItem {o i e : Expr} {v : V} {k n : Nat} {l : List V} (h1 : Ev C A sc e r b v b1) (h2 : Ev C A sc o r b1 (.box k) b2) (h3 : Ev C A sc i r b2 (N n) b3) (h4 : b3[k]? = some l) (hn : n < l.length) (hn2 : n < 1000000)
    (hs : ∀ env, swapsWithSole [.Subscript o i p] e pos.line env = pure false := by intro _; with_unfolding_all rfl)
    (hs2 : ∀ env, swappedStores [.Subscript o i p] e env = pure none := by intro _; with_unfolding_all rfl) :
    Ex C A sc (.Assign [.Subscript o i p] e pos) r b .next r (b3.set k (l.set n v)) := .mk fun env s I f E pr => by
  rw [arm_exec_Assign, hs]
  refine wpAny_bind (wpAny_standAt (wpAny_bind (wpAny_pure ?_)))
  simp only [Bool.false_eq_true, if_false]
  refine wpAny_bind (wpAny_mono (EvX h1 env s I f E pr) (fun X s1 ⟨I1, f1, p1, r1, pr1⟩ => ?_) fun _ _ h => h)
  rw [hs2]
  refine wpAny_bind (wpAny_pure ?_)
  show wpAny _ A (do assignAll X [PySem.assign (.Subscript o i p) env]; pure Flow.next) _ _ _
  refine wpAny_bind ?_
  show wpAny _ A (PySem.assign (.Subscript o i p) env X) _ _ _
  rw [arm_assign_Subscript]
  refine wpAny_bind (wpAny_holding (wpAny_mono (EvX h2 env s1 I1 f1 E pr1) (fun Y s2 ⟨I2, f2, p2, r2, pr2⟩ => ?_) fun _ _ h => h))
  refine wpAny_bind (wpAny_holding (wpAny_mono (EvX h3 env s2 I2 f2 E pr2) (fun Z s3 ⟨I3, f3, p3, r3, pr3⟩ => ?_) fun _ _ h => h))
  refine wpAny_bind (wpAny_standAt (wpAny_bind (wpAny_holding ?_)))
  cases r3 with
  | int _ t =>
    cases r2 with
    | box _ a ha =>
      have ha3 := p3.px _ _ ha
      obtain ⟨a', items, g1, ⟨m, g2⟩, g3⟩ := p3.st.box k l h4
      rw [ha3] at g1; cases g1
      have e3 := g3.length
      have hsz : items.toList.length = items.size := Array.length_toList
      refine ki_setAt g2 (by omega) (by omega) (by omega) (wpAny_rel (wpAny_pure ?_))
      have q := PySem.IsL.update g2 (·.setIfInBounds ((n : Int)).toNat X)
      have pb := Post.setB (W := NoW) (t := s3.toks) (h' := s3.heap.update a (Obj.mapSeq (·.setIfInBounds ((n : Int)).toNat X))) (vs := l.set n v) p3.st ha3 (Heap.SameBut.update ..) ⟨_, q⟩ (by
        have hz : (items.setIfInBounds ((n : Int)).toNat X).toList = items.toList.set n X := by simp
        rw [hz]
        exact g3.set n ((r1.mono p2.le p2.px).mono p3.le p3.px))
      refine ⟨I3, f3, ((p1.w.trans p2.w).trans p3.w).trans pb.w, pr3.er.post pb fun _ _ => id, trivial⟩

theorem interactive_no {env : Env} (h : env.scope.kind = .function) : interactive env = false := by unfold interactive; rw [h]; rfl

/-- xs.append(e) -/
theorem Ex.append {o e : Expr} {ap cp : Pos} {v : V} {k : Nat} {l : List V} (h1 : Ev C A sc o r b (.box k) b1) (h2 : EvL C A sc cp [e] r b1 [v] b2) (h4 : b2[k]? = some l) (hl : l.length ≤ 1000000)
    (hm : ∀ env, ∃ pl, eval (.Call (.Attribute o (Str.ofString "append") ap) [e] [] cp) env = (do
      let ov ← eval o env
      standAt ap.atName
      let (f, first) ← holding [ov] (getMethod ov (Str.ofString "append") pl)
      callWith cp f first (backTo cp (starEach [e] env)) []) := by intro _; exact ⟨_, rfl⟩)
    (hs : ∀ env, swapsWith (.Call (.Attribute o (Str.ofString "append") ap) [e] [] cp) none pos.line env = pure false := by intro _; with_unfolding_all rfl)
    (he : ∀ env, starEach [e] env = (false, eval e env) :: starEach [] env := by intro _; with_unfolding_all rfl) :
    Ex C A sc (.Expr (.Call (.Attribute o (Str.ofString "append") ap) [e] [] cp) pos) r b .next r (b2.set k (l ++ [v])) := .mk fun env s I f E pr => by
  obtain ⟨pl, hm⟩ := hm env
  refine wpAny_Expr_any ?_ (interactive_no pr.ok.kind) (hs env)
  refine MethodCall_ (pl := pl) ?_ hm
  refine wpAny_mono (EvX h1 env s I f E pr) (fun Y s1 ⟨I1, f1, p1, r1, pr1⟩ => ?_) fun _ _ h => h
  cases r1 with
  | box _ a ha =>
    have hal := p1.st.alive (List.mem_of_getElem? ha)
    have hkb : k < b1.length := by rw [← p1.st.len]; exact (List.getElem?_eq_some_iff.mp ha).1
    obtain ⟨a', items0, g1, ⟨m0, g2⟩, g3⟩ := p1.st.box k b1[k] (List.getElem?_eq_getElem hkb)
    rw [ha] at g1; cases g1
    refine Calls.getMethod_list_append g2 rfl rfl ?_
    refine callWith_method1 (wpAny_mono (h2.run env s1 I1 f1 E pr1) (fun xs s2 ⟨I2, f2, p2, r2⟩ => ?_) fun _ _ h => h) (he env)
    cases r2 with
    | cons X _ _ _ rx t =>
      cases t
      have pr2 := pr1.post p2
      have ha2 := p2.px _ _ ha
      obtain ⟨a', items, g1, g2, g3⟩ := p2.st.box k l h4
      rw [ha2] at g1; cases g1
      have e3 := g3.length
      have hsz : items.toList.length = items.size := Array.length_toList
      refine wpAny_list_append_plain g2 (fun h' hp hsb => ?_) (by rw [sizeLine_eq]; omega)
      have rr : RdL I2 f2 (items.push X).toList (l ++ [v]) := by rw [Array.toList_push]; exact g3.append (.one rx)
      refine ⟨I2, f2, (p1.w.trans p2.w).trans (Post.setB (t := s2.toks) p2.st ha2 hsb hp rr), ?_, trivial⟩
      exact pr2.er.post (W := NoW) (Post.setB (W := NoW) (t := s2.toks) p2.st ha2 hsb hp rr) fun _ _ => id

def insF (z : Int) (Y : Value) : Array Value → Array Value := fun xs => have k := if z < 0 then (z + (xs.size : Int)).toNat else min z.toNat xs.size; (xs.extract 0 k).push Y ++ xs.extract k
theorem insert_wp {z : Int} {a : Addr} {m : Nat} {li : Array Value} {tt : Tok} {Y : Value} {E : Value → Shared → Prop} {Q : Value → Shared → Prop} (g2 : s.heap.get? a = some { cls := .type "list", data := .seq li m }) (hf : Builtin.List.listFitsIndex z = true) (hsz : li.size ≤ sizeLine)
    (h : Q .none { s with heap := s.heap.update a (Obj.mapSeq (insF z Y)) }) : wpAny (model C.prog C.w) A (call (.builtin "list.insert") [.ref a, .int z tt, Y]) Q E s :=
  call_meets PySem.F.slot_list_insert ⟨_, g2, rfl⟩ PySem.F.entry_list_insert (PySem.F.args_list_insert_3 _ _ _) (PySem.AutoSeq1.list_insert_list_int_val_1 a li m z tt Y (by rw [hf]; exact Bool.false_ne_true) hsz) ⟨g2, h⟩
theorem insF_eq (li : List Value) (n : Nat) (z : Int) (hz : z = (n : Int)) (Y : Value) : (insF z Y li.toArray).toList = li.take n ++ Y :: li.drop n := by
  show (((li.toArray.extract 0 (if z < 0 then (z + (li.toArray.size : Int)).toNat else min z.toNat li.toArray.size)).push Y ++ li.toArray.extract (if z < 0 then (z + (li.toArray.size : Int)).toNat else min z.toNat li.toArray.size))).toList = _
  rw [kl_ins_eq]
  subst hz
  have hlt : ¬ ((n : Int) < 0) := by omega
  rw [if_neg hlt, List.size_toArray, Int.toNat_natCast]
  rcases Nat.le_total n li.length with hc | hc
  · rw [Nat.min_eq_left hc]
  · rw [Nat.min_eq_right hc, List.take_of_length_le (Nat.le_refl _), List.drop_of_length_le (Nat.le_refl _), List.take_of_length_le hc, List.drop_of_length_le hc]
def insAt (l : List V) (i : Nat) (x : V) : List V := l.take i ++ x :: l.drop i
/-- xs.insert(i, e) -/
theorem Ex.insert {o i e : Expr} {ap cp : Pos} {v : V} {k n : Nat} {l : List V} (h1 : Ev C A sc o r b (.box k) b1) (h2 : EvL C A sc cp [i, e] r b1 [N n, v] b2) (h4 : b2[k]? = some l) (hl : l.length ≤ 1000000) (hn : n < 1000000)
    (hm : ∀ env, ∃ pl, eval (.Call (.Attribute o (Str.ofString "insert") ap) [i, e] [] cp) env = (do
      let ov ← eval o env
      standAt ap.atName
      let (f, first) ← holding [ov] (getMethod ov (Str.ofString "insert") pl)
      callWith cp f first (backTo cp (starEach [i, e] env)) []) := by intro _; exact ⟨_, rfl⟩)
    (hs : ∀ env, swapsWith (.Call (.Attribute o (Str.ofString "insert") ap) [i, e] [] cp) none pos.line env = pure false := by intro _; with_unfolding_all rfl)
    (he : ∀ env, starEach [i, e] env = (false, eval i env) :: starEach [e] env := by intro _; with_unfolding_all rfl)
    (hp : ∀ env, (backTo cp (starEach [e] env)).any (·.1) = false := by intro _; with_unfolding_all rfl) :
    Ex C A sc (.Expr (.Call (.Attribute o (Str.ofString "insert") ap) [i, e] [] cp) pos) r b .next r (b2.set k (insAt l n v)) := .mk fun env s I f E pr => by
  obtain ⟨pl, hm⟩ := hm env
  refine wpAny_Expr_any ?_ (interactive_no pr.ok.kind) (hs env)
  refine MethodCall_ (pl := pl) ?_ hm
  refine wpAny_mono (EvX h1 env s I f E pr) (fun Y s1 ⟨I1, f1, p1, r1, pr1⟩ => ?_) fun _ _ h => h
  cases r1 with
  | box _ a ha =>
    have hkb : k < b1.length := by rw [← p1.st.len]; exact (List.getElem?_eq_some_iff.mp ha).1
    obtain ⟨a', items0, g1, ⟨m0, g2⟩, g3⟩ := p1.st.box k b1[k] (List.getElem?_eq_getElem hkb)
    rw [ha] at g1; cases g1
    refine getMethod_list_of (items := items0) PySem.F.slot_list_insert PySem.F.type_list_insert ⟨_, g2, rfl, _, rfl⟩ ⟨_, g2, rfl⟩ ?_
    refine callWith_method1 (wpAny_mono (h2.run env s1 I1 f1 E pr1) (fun xs s2 ⟨I2, f2, p2, r2⟩ => ?_) fun _ _ h => h) (he env) (hp env)
    cases r2 with
    | cons X _ _ _ rx t =>
      cases t with
      | cons Y _ _ _ ry t =>
        cases t
        cases rx with
        | int _ tt =>
          have pr2 := pr1.post p2
          have ha2 := p2.px _ _ ha
          obtain ⟨a', items, g1, ⟨m, g2⟩, g3⟩ := p2.st.box k l h4
          rw [ha2] at g1; cases g1
          have e3 := g3.length
          have hsz : items.toList.length = items.size := Array.length_toList
          obtain ⟨li, rfl⟩ : ∃ li : List Value, items = li.toArray := ⟨items.toList, by rw [Array.toArray_toList]⟩
          have hfx : Builtin.List.listFitsIndex (n : Int) = true := fitsIndex_of (by omega) (by omega)
          have hsz2 : li.toArray.size ≤ sizeLine := by rw [sizeLine_eq]; omega
          have g3' : RdL I2 f2 li l := by simpa using g3
          refine insert_wp g2 hfx hsz2 ?_
          have q := PySem.IsL.update g2 (insF (n : Int) Y)
          have rr : RdL I2 f2 (insF (n : Int) Y li.toArray).toList (insAt l n v) := by
            rw [insF_eq li n _ rfl]; exact (g3'.take n).append (.cons _ _ _ _ ry (g3'.drop n))
          refine ⟨I2, f2, (p1.w.trans p2.w).trans (Post.setB (t := s2.toks) p2.st ha2 (Heap.SameBut.update ..) ⟨_, q⟩ rr), ?_, trivial⟩
          exact pr2.er.post (W := NoW) (Post.setB (W := NoW) (t := s2.toks) p2.st ha2 (Heap.SameBut.update ..) ⟨_, q⟩ rr) fun _ _ => id
end
end Mine
end
section
open PySem PySem.W PyProof.Rows
set_option Elab.async false
set_option linter.all false
set_option maxRecDepth 100000
namespace Mine

/-- what a loop goes over -/
inductive ItV (b : Boxes) : V → List V → Prop
  | list (l : List V) : ItV b (.list l) l
  | tup (l : List V) : ItV b (.tup l) l
  | rng (n : Nat) (h : n < 1000000) : ItV b (.rng n) ((List.range n).map N)

section
variable {C : Cx} {A : Around} {sc : List (Str × NameKind)} {r r1 r2 r' : Loc} {b b1 b2 b3 b' : Boxes} {pos p p1 p2 : Pos} {mg mb : Str → Option Value} {fl : Fl}
  {W : Addr → Prop} {s s' s'' : Shared} {I I' I'' : Gh} {f f' f'' : List Addr} {env : Env}

structure Itr (C : Cx) (A : Around) (I : Gh) (f : List Addr) (vs : List V) (it : Addr) (fpw : List Addr) (P : Nat → Value → Prop) (SS : Nat → Heap → Prop) : Prop where
  w : Walks C.prog C.w A it fpw [it] vs.length P SS
  rd : ∀ i v x, P i v → vs[i]? = some x → Rd I f v x
  alive : ∀ i h, SS i h → h.get? it ≠ none
  fp : ∀ a, a ∈ fpw → a = it ∨ ∃ o, I a = some o

theorem rangeSize_nat (n : Nat) : Builtin.Range.rangeSize 0 (n : Int) 1 = (n : Int) := by
  unfold Builtin.Range.rangeSize
  by_cases h : (0 : Int) < (n : Int)
  · simp [h]; try omega
  · simp [h]; try omega
theorem range_small (n : Nat) (h : n < 1000000) : Builtin.Range.small 0 (n : Int) 1 = true := by
  unfold Builtin.Range.small
  rw [rangeSize_nat]
  have e : ∀ x : Int, 0 ≤ x → x < 2000000 → Builtin.Range.rangeFitsLong x = true := fun x h1 h2 => by
    unfold Builtin.Range.rangeFitsLong
    simp
    omega
  rw [e 0 (by omega) (by omega), e n (by omega) (by omega), e 1 (by omega) (by omega)]
  simp
  right
  exact e _ (by omega) (by omega)

theorem iter_of {X : Value} {v : V} {vs : List V} {E : Value → Shared → Prop} {Q : Value → Shared → Prop} (hh : A.handled = none) (st : St s.heap I f b) (rd : Rd I f X v) (h : ItV b v vs)
    (hQ : ∀ it fpw P SS h', Itr C A I f vs it fpw P SS → s.heap.get? it = none → SS 0 h' → (∀ (a : Addr) (o : Obj), s.heap.get? a = some o → h'.get? a = some o) → Q (.ref it) { s with heap := h' }) :
    wpAny (model C.prog C.w) A (pyIter X) Q E s := by
  cases h with
  | list l =>
    obtain ⟨a, ws, rfl, h1, h2⟩ := (SeqV.list vs : SeqV b _ _).isList st rd
    have hne : a ≠ s.heap.objs.size := by rintro rfl; obtain ⟨o, ho, _⟩ := h1; rw [none_size] at ho; cases ho
    have hI : ∃ o, I a = some o := by cases rd with | list _ o _ _ _ g => exact ⟨o, g⟩
    have hw := Walks.list (prog := C.prog) (w := C.w) (A := A) hh s.heap.objs.size a hne ws.toArray
    have hsz : ws.toArray.size = vs.length := by rw [List.size_toArray]; exact h2.length
    rw [hsz] at hw
    refine wpAny_pyIter_list h1 (hQ s.heap.objs.size _ _ _ _ ⟨hw, fun i y x g1 g2 => ?_, fun i h g => ?_, fun c hc => ?_⟩ (none_size _) ⟨⟨_, Heap.get?_push_size _ rfl, rfl, rfl⟩, h1.push _⟩ fun c o e => Heap.get?_push_of_some _ e)
    · obtain ⟨y', g3, g4⟩ := h2.get g2
      have : some y' = some y := by rw [← g3, ← g1]; simp
      cases this; exact g4
    · obtain ⟨⟨o, ho, _⟩, _⟩ := g; rw [ho]; exact fun h => by cases h
    · simp at hc
      rcases hc with rfl | rfl
      · exact .inl rfl
      · exact .inr hI
  | tup l =>
    obtain ⟨a, ws, rfl, h1, h2⟩ := isTup_of st rd
    have hne : a ≠ s.heap.objs.size := by rintro rfl; obtain ⟨o, ho, _⟩ := h1; rw [none_size] at ho; cases ho
    have hI : ∃ o, I a = some o := by cases rd with | tup _ o _ _ _ g => exact ⟨o, g⟩
    have hw := Walks.tuple (prog := C.prog) (w := C.w) (A := A) hh s.heap.objs.size a hne ws.toArray
    have hsz : ws.toArray.size = vs.length := by rw [List.size_toArray]; exact h2.length
    rw [hsz] at hw
    refine wpAny_pyIter_tuple h1 (hQ s.heap.objs.size _ _ _ _ ⟨hw, fun i y x g1 g2 => ?_, fun i h g => ?_, fun c hc => ?_⟩ (none_size _) ⟨⟨_, Heap.get?_push_size _ rfl, rfl, rfl⟩, h1.push _⟩ fun c o e => Heap.get?_push_of_some _ e)
    · obtain ⟨y', g3, g4⟩ := h2.get g2
      have : some y' = some y := by rw [← g3, ← g1]; simp
      cases this; exact g4
    · obtain ⟨⟨o, ho, _⟩, _⟩ := g; rw [ho]; exact fun h => by cases h
    · simp at hc
      rcases hc with rfl | rfl
      · exact .inl rfl
      · exact .inr hI
  | rng n hn =>
    cases rd with
    | rng a _ t u w hI =>
      have hr := st.imm _ _ hI
      have hw := Walks.range (prog := C.prog) (w := C.w) (A := A) hh s.heap.objs.size 0 1 n
      have hl : ((List.range n).map N).length = n := by simp
      refine wpAny_pyIter_range hr (range_small n hn) (hQ s.heap.objs.size _ _ _ _ ⟨by rw [hl]; exact hw, fun i y x g1 g2 => ?_, fun i h g => ?_, fun c hc => ?_⟩ (none_size _) ?_ fun c o e => Heap.get?_push_of_some _ e)
      · obtain ⟨t, rfl⟩ := g1
        have : x = N i := by
          obtain ⟨hi, e⟩ := List.getElem?_eq_some_iff.mp g2
          rw [← e]; simp
        subst this
        have e : (0 : Int) + (i : Int) * 1 = (i : Int) := by omega
        rw [e]; exact .int _ _
      · rw [g]; exact fun h => by cases h
      · simp at hc; exact .inl hc
      · rw [rangeSize_nat]
        show Heap.get? _ _ = _
        have := Heap.get?_push_size s.heap (o := { cls := .type "range_iterator", data := .fields #[rawInt 0, rawInt (n : Int), rawInt 1] }) rfl
        simpa using this

/-- all but one fresh address is kept -/
theorem Post.but {h' : Heap} {t : Nat} {a : Addr} (p : Post W s I f s' I' f' b') (ha : s.heap.get? a = none) (k : ∀ (c : Addr) (o : Obj), c ≠ a → s'.heap.get? c = some o → h'.get? c = some o) (h1 : I' a = none) (h2 : a ∉ f') :
    Post W s I f { s' with heap := h', toks := t } I' f' b' := by
  have hne : ∀ c, s.heap.get? c ≠ none → c ≠ a := fun c hc => by rintro rfl; exact hc ha
  obtain ⟨h0, t0, e0⟩ := p.same
  refine ⟨⟨h', t, by rw [e0]⟩, fun c o g1 g2 e => k c o (hne c (by rw [e]; exact fun h => by cases h)) (p.keep c o g1 g2 e), fun c hc => ?_, p.le, p.old, p.ext, ⟨fun c o e => k c o (by rintro rfl; rw [h1] at e; cases e) (p.st.imm c o e), fun n vs e => ?_, p.st.len, p.st.nd, p.st.out⟩⟩
  · have := p.live c hc
    cases q : s'.heap.get? c with
    | none => exact absurd q this
    | some o => show h'.get? c ≠ none; rw [k c o (hne c hc) q]; exact fun h => by cases h
  · obtain ⟨c, its, g1, ⟨m, g2⟩, g3⟩ := p.st.box n vs e
    exact ⟨c, its, g1, ⟨m, k c _ (by rintro rfl; exact h2 (List.mem_of_getElem? g1)) g2⟩, g3⟩
theorem EnvR.but {h h' : Heap} {a : Addr} (e : EnvR h I f env r) (ha : ¬ fpOf env a) (k : ∀ (c : Addr) (o : Obj), c ≠ a → h.get? c = some o → h'.get? c = some o) : EnvR h' I f env r := by
  have kk : ∀ c o, fpOf env c → h.get? c = some o → h'.get? c = some o := fun c o m q => k c o (by rintro rfl; exact ha m) q
  refine ⟨?_, fun x y hx hl => ?_, fun x c hx => ?_, e.inj, e.out, e.neL⟩
  · obtain ⟨m, hm, h2⟩ := e.loc
    exact ⟨m, hm.at' fun o q => kk _ o (.inl rfl) q, h2⟩
  · obtain ⟨h1, c, v, h2, ⟨o, h3, h3'⟩, h4⟩ := e.cel x y hx hl
    exact ⟨h1, c, v, h2, ⟨o, kk _ _ (.inr ⟨x, h2⟩) h3, h3'⟩, h4⟩
  · obtain ⟨v, o, h3, h3'⟩ := e.isc x c hx
    exact ⟨v, o, kk _ _ (.inr ⟨x, hx⟩) h3, h3'⟩

/-- the turns of a for -/
inductive Loop (C : Cx) (A : Around) (sc : List (Str × NameKind)) (x : Str) (body : List Stmt) : List V → Loc → Boxes → Fl → Loc → Boxes → Prop
  | nil {r : Loc} {b : Boxes} {r' : Loc} (h : Sub r' r) : Loop C A sc x body [] r b .next r' b
  | step {v : V} {vs : List V} {r : Loc} {b : Boxes} {r1 : Loc} {b1 : Boxes} {fl : Fl} {r' : Loc} {b' : Boxes} (h : Exs C A sc body ((x, v) :: r) b .next r1 b1) (t : Loop C A sc x body vs r1 b1 fl r' b') : Loop C A sc x body (v :: vs) r b fl r' b'
  | ret {v : V} {vs : List V} {r : Loc} {b : Boxes} {u : V} {r' : Loc} {b' : Boxes} (h : Exs C A sc body ((x, v) :: r) b (.ret u) r' b') : Loop C A sc x body (v :: vs) r b (.ret u) r' b'

/-- what holds between two turns of a for -/
inductive FInv (C : Cx) (A : Around) (sc : List (Str × NameKind)) (x : Str) (body : List Stmt) (fl : Fl) (r' : Loc) (b' : Boxes) (vs : List V) (it : Addr) (SS : Nat → Heap → Prop) (s0 : Shared) (I0 : Gh) (f0 : List Addr) (env : Env) (k : Nat) (s' : Shared) : Prop
  | mk (i : Nat) (rest : List V) (ri : Loc) (bi : Boxes) (Ii : Gh) (fi : List Addr) (h : Loop C A sc x body rest ri bi fl r' b') (hR : ∀ j : Nat, rest[j]? = vs[i + j]?) (hlen : i + rest.length = vs.length) (hk : k = rest.length) (hSS : SS i s'.heap)
      (hP : Post (fpOf env) s0 I0 f0 s' Ii fi bi) (hPre : Pre C s' Ii fi bi env sc ri) (hI : Ii it = none) (hf : it ∉ fi) : FInv C A sc x body fl r' b' vs it SS s0 I0 f0 env k s'

theorem Ex.for {x : Str} {iter : Expr} {body : List Stmt} {v : V} {vs : List V} (hh : A.handled = none) (hk : sc.lookup x = some .local ∨ sc.lookup x = some .cell) (h1 : Ev C A sc iter r b v b1) (h2 : ItV b1 v vs) (h3 : Loop C A sc x body vs r b1 fl r' b')
    (hs : ∀ env x, foldedSetIterable iter env x = pure x := by intro _ _; with_unfolding_all rfl) : Ex C A sc (.For (.Name x p) iter body [] pos) r b fl r' b' := .mk fun env s I f E pr => by
  refine wpAny_For (wpAny_mono (EvX h1 env s I f E pr) (fun X s0 ⟨I0, f0, p0, r0, pr0⟩ => ?_) fun _ _ h => h) (hs env)
  refine iter_of (C := C) hh p0.st r0 h2 fun it fpw P SS h' T hfr hS0 hkeep => ?_
  have pg : Post (fpOf env) s0 I0 f0 { s0 with heap := h' } I0 f0 b1 := Post.grow (t := s0.toks) p0.st hkeep
  have prg : Pre C { s0 with heap := h' } I0 f0 b1 env sc r := pr0.post (Post.grow (t := s0.toks) p0.st hkeep)
  have hnfp : ¬ fpOf env it := fun m => pr0.er.live m hfr
  refine codeAny_forLoop (FInv C A sc x body fl r' b' vs it SS s0 I0 f0 env) ?_
    vs.length ⟨0, vs, r, b1, I0, f0, h3, by simp, by simp, rfl, hS0, pg, prg, p0.st.none_of hfr, p0.st.notin_of hfr⟩
  rintro k s1 ⟨i, rest, ri, bi, Ii, fi, hL, hR, hlen, rfl, hSS, hP, hPre, hI, hf⟩
  cases hL with
  | nil hsub =>
    refine T.w.done s1 _ _ (by simp at hlen; rw [← hlen]; exact hSS) fun h2 tk hk2 => ?_
    have k2 : ∀ (c : Addr) (o : Obj), c ≠ it → s1.heap.get? c = some o → h2.get? c = some o := fun c o hc e => hk2 c o (by simpa using hc) e
    refine wpAny_execs_nil ⟨Ii, fi, p0.w.trans (Post.but hP hfr k2 hI hf), (hPre.er.but hnfp k2).sub hsub, trivial⟩
  | step hb ht =>
    rename_i v vs' r1 b2
    refine T.w.item i s1 _ _ (by simp at hlen; omega) hSS fun y h2 tk hPi hS2 hk2 => ?_
    have k2 : ∀ (c : Addr) (o : Obj), c ≠ it → s1.heap.get? c = some o → h2.get? c = some o := fun c o hc e => hk2 c o (by simpa using hc) e
    have P2 := Post.but (t := tk) hP hfr k2 hI hf
    have pr2 : Pre C { s1 with heap := h2, toks := tk } Ii fi bi env sc ri := ⟨hPre.base, P2.st, hPre.ok, hPre.er.but hnfp k2⟩
    have hrd : Rd Ii fi y v := (T.rd i y v hPi (by have := hR 0; simp at this; exact this.symm)).mono P2.le P2.px
    refine wpAny_assign_Name (wpAny_mono (store pr2 hrd hk) (fun _ s3 ⟨p3, e3⟩ => ?_) fun _ _ h => h)
    have pr3 := pr2.step p3 e3
    refine wpAny_mono (hb.run env s3 Ii fi _ pr3) (fun fl1 s4 ⟨I4, f4, p4, e4, q4⟩ => ?_) fun _ _ h => h
    have P34 := p3.trans p4
    have hlive : ({ s1 with heap := h2, toks := tk } : Shared).heap.get? it ≠ none := T.alive _ _ hS2
    have goal : ∃ m, m < (v :: vs').length ∧ FInv C A sc x body fl r' b' vs it SS s0 I0 f0 env m s4 := by
      refine ⟨vs'.length, by simp, i + 1, vs', r1, b2, I4, f4, ht, fun j => ?_, by simp at hlen; omega, rfl, ?_, P2.trans P34, pr2.step P34 e4, (P34.old it hlive).trans hI, fun m => ?_⟩
      · have := hR (j + 1)
        simp at this
        rw [this]; congr 1; omega
      · refine T.w.frame _ _ _ hS2 fun c hc o e => ?_
        rcases T.fp c hc with rfl | ⟨o', ho'⟩
        · exact P34.keep c o hf hnfp e
        · have h5 := P2.le c o' ho'
          have h6 := P2.st.imm c o' h5
          rw [h6] at e; cases e
          exact p4.st.imm c o (P34.le c o h5)
      · obtain ⟨g, rfl, hg⟩ := P34.ext
        rcases List.mem_append.mp m with q | q
        · exact hf q
        · exact hlive (hg it q)
    cases fl1 with
    | next => exact goal
    | cont => exact q4.elim
    | brk => exact q4.elim
    | ret u => exact q4.elim
  | ret hb =>
    rename_i v vs' u
    refine T.w.item i s1 _ _ (by simp at hlen; omega) hSS fun y h2 tk hPi hS2 hk2 => ?_
    have k2 : ∀ (c : Addr) (o : Obj), c ≠ it → s1.heap.get? c = some o → h2.get? c = some o := fun c o hc e => hk2 c o (by simpa using hc) e
    have P2 := Post.but (t := tk) hP hfr k2 hI hf
    have pr2 : Pre C { s1 with heap := h2, toks := tk } Ii fi bi env sc ri := ⟨hPre.base, P2.st, hPre.ok, hPre.er.but hnfp k2⟩
    have hrd : Rd Ii fi y v := (T.rd i y v hPi (by have := hR 0; simp at this; exact this.symm)).mono P2.le P2.px
    refine wpAny_assign_Name (wpAny_mono (store pr2 hrd hk) (fun _ s3 ⟨p3, e3⟩ => ?_) fun _ _ h => h)
    have pr3 := pr2.step p3 e3
    refine wpAny_mono (hb.run env s3 Ii fi _ pr3) (fun fl1 s4 ⟨I4, f4, p4, e4, q4⟩ => ?_) fun _ _ h => h
    cases fl1 with
    | next => exact q4.elim
    | cont => exact q4.elim
    | brk => exact q4.elim
    | ret w => exact ⟨I4, f4, p0.w.trans (P2.trans (p3.trans p4)), e4, q4⟩

/-- a while -/
inductive Wh (C : Cx) (A : Around) (sc : List (Str × NameKind)) (test : Expr) (body : List Stmt) : Nat → Loc → Boxes → Fl → Loc → Boxes → Prop
  | stop {r : Loc} {b : Boxes} {r' : Loc} {b' : Boxes} (h : Tr C A sc test r b false b') (hs : Sub r' r) : Wh C A sc test body 0 r b .next r' b'
  | go {n : Nat} {r : Loc} {b b1 : Boxes} {r1 : Loc} {b2 : Boxes} {fl : Fl} {r' : Loc} {b' : Boxes} (h : Tr C A sc test r b true b1) (h2 : Exs C A sc body r b1 .next r1 b2) (t : Wh C A sc test body n r1 b2 fl r' b') : Wh C A sc test body (n + 1) r b fl r' b'
inductive WInv (C : Cx) (A : Around) (sc : List (Str × NameKind)) (test : Expr) (body : List Stmt) (fl : Fl) (r' : Loc) (b' : Boxes) (s : Shared) (I : Gh) (f : List Addr) (env : Env) (k : Nat) (s' : Shared) : Prop
  | mk (ri : Loc) (bi : Boxes) (Ii : Gh) (fi : List Addr) (h : Wh C A sc test body k ri bi fl r' b') (hP : Post (fpOf env) s I f s' Ii fi bi) (hPre : Pre C s' Ii fi bi env sc ri) : WInv C A sc test body fl r' b' s I f env k s'
theorem Ex.while {n : Nat} {test : Expr} {body : List Stmt} (h : Wh C A sc test body n r b fl r' b') : Ex C A sc (.While test body [] pos) r b fl r' b' := .mk fun env s I f E pr => by
  refine wpAny_While (codeAny_whileLoop (WInv C A sc test body fl r' b' s I f env) ?_ n ⟨r, b, I, f, h, Post.refl pr.st, pr⟩)
  rintro k s1 ⟨ri, bi, Ii, fi, hW, hP, hPre⟩
  cases hW with
  | stop h hs =>
    refine wpAny_mono (h.run env s1 Ii fi _ hPre) (fun X s2 ⟨I2, f2, p2, e2⟩ => ?_) fun _ _ h => h
    subst e2
    simp only [Bool.false_eq_true, if_false]
    exact wpAny_execs_nil ⟨I2, f2, hP.trans p2.w, (hPre.post p2).er.sub hs, trivial⟩
  | go h h2 t =>
    refine wpAny_mono (h.run env s1 Ii fi _ hPre) (fun X s2 ⟨I2, f2, p2, e2⟩ => ?_) fun _ _ h => h
    subst e2
    simp only [if_true]
    have pr2 := hPre.post p2
    refine wpAny_mono (h2.run env s2 I2 f2 _ pr2) (fun fl1 s3 ⟨I3, f3, p3, e3, q3⟩ => ?_) fun _ _ h => h
    cases fl1 with
    | next => exact ⟨_, Nat.lt_succ_self _, _, _, I3, f3, t, (hP.trans p2.w).trans p3, pr2.step p3 e3⟩
    | cont => exact q3.elim
    | brk => exact q3.elim
    | ret u => exact q3.elim
end
end Mine
end
section
open PySem PySem.W PyProof.Rows
set_option Elab.async false
set_option linter.all false
set_option maxRecDepth 100000
namespace Mine

/-- the names of a comprehension's block, as they read in it -/
def relN (sc : List (Str × NameKind)) (names : List (Str × NameKind)) : List (Str × NameKind) :=
  names.map fun (n, k) => if (k == .free && sc.lookup n == some .cell) then (n, .cell) else (n, k)

theorem relN_lookup (sc : List (Str × NameKind)) (x : Str) : ∀ names : List (Str × NameKind), (relN sc names).lookup x = (names.lookup x).map fun k => if (k == .free && sc.lookup x == some .cell) then .cell else k
  | [] => rfl
  | (n, k) :: r => by
    have ih := relN_lookup sc x r
    show List.lookup x ((if (k == NameKind.free && sc.lookup n == some NameKind.cell) = true then (n, NameKind.cell) else (n, k)) :: relN sc r) = _
    by_cases hc : (k == NameKind.free && sc.lookup n == some NameKind.cell) = true
    · rw [if_pos hc, List.lookup_cons, List.lookup_cons]
      cases hb : x == n with
      | true => rw [beq_iff_eq.mp hb]; simp only [Option.map_some]; rw [if_pos hc]
      | false => exact ih
    · rw [if_neg hc, List.lookup_cons, List.lookup_cons]
      cases hb : x == n with
      | true => rw [beq_iff_eq.mp hb]; simp only [Option.map_some]; rw [if_neg hc]
      | false => exact ih

theorem cellsFrom_app : ∀ (names : List (Str × NameKind)) (n : Nat) (acc : List (Str × Addr)), cellsFrom n names acc = cellsFrom n names [] ++ acc
  | [], _, _ => rfl
  | (x, k) :: r, n, acc => by
    unfold cellsFrom
    by_cases hk : (k == NameKind.cell) = true
    · rw [if_pos hk, if_pos hk, cellsFrom_app r (n + 1) ((x, n) :: acc), cellsFrom_app r (n + 1) [(x, n)], List.append_assoc]; rfl
    · rw [if_neg hk, if_neg hk, cellsFrom_app r n acc]
theorem cellsFrom_mem : ∀ (names : List (Str × NameKind)) (n : Nat) (acc : List (Str × Addr)) (p : Str × Addr), p ∈ cellsFrom n names acc → p ∈ acc ∨ (p.1, NameKind.cell) ∈ names
  | [], _, _, _, h => .inl h
  | (x, k) :: r, n, acc, p, h => by
    unfold cellsFrom at h
    by_cases hk : (k == NameKind.cell) = true
    · rw [if_pos hk] at h
      rcases cellsFrom_mem r _ _ p h with q | q
      · rcases List.mem_cons.mp q with rfl | q
        · right; simp only [List.mem_cons]; left; rw [beq_iff_eq.mp hk]
        · exact .inl q
      · exact .inr (.tail _ q)
    · rw [if_neg hk] at h
      rcases cellsFrom_mem r _ _ p h with q | q
      · exact .inl q
      · exact .inr (.tail _ q)

/-- the captured cells -/
structure ClOf (env : Env) (names : List (Str × NameKind)) (cl : List (Str × Addr)) : Prop where
  sound : ∀ p, p ∈ cl → env.cells.lookup p.1 = some p.2 ∧ (p.1, NameKind.free) ∈ names
  full : ∀ x, (x, NameKind.free) ∈ names → ∃ a, (x, a) ∈ cl

theorem lookup_isSome_of_mem {x : Str} {a : Addr} : ∀ {l : List (Str × Addr)}, (x, a) ∈ l → ∃ c, l.lookup x = some c
  | (y, c) :: r, h => by
    rw [List.lookup_cons]
    cases hb : x == y with
    | true => exact ⟨c, rfl⟩
    | false =>
      rcases List.mem_cons.mp h with e | h
      · cases e; rw [beq_self_eq_true] at hb; cases hb
      · exact lookup_isSome_of_mem h

theorem closureFor_go {env : Env} (f : Str × NameKind → List (Str × Addr) → Sem (ForInStep (List (Str × Addr))))
    (hf : ∀ n k cs, f (n, k) cs = if k == .free then (do let a ← cellOf env n; pure (.yield ((n, a) :: cs))) else pure (.yield cs)) :
    ∀ (names : List (Str × NameKind)) (acc : List (Str × Addr)), (∀ x, (x, NameKind.free) ∈ names → ∃ a, env.cells.lookup x = some a) →
      ∃ cl, forIn names acc f = pure cl ∧ (∀ p, p ∈ cl → p ∈ acc ∨ (env.cells.lookup p.1 = some p.2 ∧ (p.1, NameKind.free) ∈ names)) ∧ (∀ p, p ∈ acc → p ∈ cl) ∧ (∀ x, (x, NameKind.free) ∈ names → ∃ a, (x, a) ∈ cl)
  | [], acc, _ => ⟨acc, by rw [List.forIn_nil], fun p h => .inl h, fun _ h => h, fun _ h => nomatch h⟩
  | (n, k) :: r, acc, hc => by
    rw [List.forIn_cons, hf]
    by_cases hk : (k == NameKind.free) = true
    · rw [if_pos hk]
      have hk' := beq_iff_eq.mp hk
      subst hk'
      obtain ⟨a, ha⟩ := hc n List.mem_cons_self
      obtain ⟨cl, h1, h2, h3, h4⟩ := closureFor_go f hf r ((n, a) :: acc) fun x hx => hc x (.tail _ hx)
      refine ⟨cl, ?_, fun p hp => ?_, fun p hp => h3 p (.tail _ hp), fun x hx => ?_⟩
      · have : cellOf env n = pure a := by unfold cellOf; rw [ha]
        rw [this]; simp only [pure_bind]; exact h1
      · rcases h2 p hp with q | q
        · rcases List.mem_cons.mp q with rfl | q
          · exact .inr ⟨ha, List.mem_cons_self⟩
          · exact .inl q
        · exact .inr ⟨q.1, .tail _ q.2⟩
      · rcases List.mem_cons.mp hx with e | hx
        · cases e; exact ⟨a, h3 _ List.mem_cons_self⟩
        · exact h4 x hx
    · rw [if_neg hk]
      obtain ⟨cl, h1, h2, h3, h4⟩ := closureFor_go f hf r acc fun x hx => hc x (.tail _ hx)
      refine ⟨cl, by simp only [pure_bind]; exact h1, fun p hp => ?_, h3, fun x hx => ?_⟩
      · rcases h2 p hp with q | q
        · exact .inl q
        · exact .inr ⟨q.1, .tail _ q.2⟩
      · rcases List.mem_cons.mp hx with e | hx
        · cases e; exact absurd rfl hk
        · exact h4 x hx
theorem closure_of {env : Env} {scope : Scope} (h : ∀ x, (x, NameKind.free) ∈ scope.names → ∃ a, env.cells.lookup x = some a) : ∃ cl, closureFor scope env = pure cl ∧ ClOf env scope.names cl := by
  unfold closureFor
  obtain ⟨cl, h1, h2, h3, h4⟩ := closureFor_go (env := env) (fun (x : Str × NameKind) (r : List (Str × Addr)) => (do
    if x.2 == .free then (do let a ← cellOf env x.1; pure (.yield ((x.1, a) :: r))) else pure (.yield r) : Sem (ForInStep (List (Str × Addr))))) (fun _ _ _ => rfl) scope.names [] h
  refine ⟨cl, ?_, ⟨fun p hp => (h2 p hp).elim (fun q => nomatch q) id, h4⟩⟩
  simp only [] at h1 ⊢
  first
    | (rw [h1]; rfl)
    | (refine (congrArg (· >>= _) ?_).trans (pure_bind _ _); exact h1)

theorem newEnv_comp {M : Model} {A : Around} {E : Value → Shared → Prop} {s : Shared} {scope : Scope} {cl : List (Str × Addr)} {env : Env} {Q : Env → Shared → Prop}
    (hQ : Q { scope := scope, locals := s.heap.objs.size, globals := env.globals, cells := cellsFrom (s.heap.objs.size + 1) scope.names cl, qual := env.qual, func := none, code := env.code, frame := env.frame, builtins := env.builtins }
      { s with heap := pushCells (s.heap.push { cls := .type "dict", data := .dict #[] }) scope.names }) :
    wpAny M A (newFunctionEnv scope env.globals cl [] env.qual none .none (some env)) Q E s := by
  simp only [newFunctionEnv, Option.isSome_some, if_true]
  refine wpAny_bind (wpAny_alloc ?_)
  refine wpAny_bind (wpAny_layCells _ (fun name kind cells => by cases hkc : kind == NameKind.cell <;> simp [hkc]) _ _ _ _ ?_)
  rw [show ({ s with heap := s.heap.push { cls := .type "dict", data := .dict #[] } } : Shared).heap.objs.size = s.heap.objs.size + 1 from Heap.size_push ..]
  refine wpAny_bind ?_
  rw [List.forIn_nil]
  exact wpAny_pure (wpAny_pure hQ)
end Mine
end
section
open PySem PySem.W PyProof.Rows
set_option Elab.async false
set_option linter.all false
set_option maxRecDepth 100000
namespace Mine

def compOkB (sc names : List (Str × NameKind)) (x : Str) : Bool :=
  names.all (fun p => (p.2 != .free || sc.lookup p.1 == some .cell) && names.lookup p.1 == some p.2) && (names.lookup x == some .local || names.lookup x == some .cell)
theorem compOk {sc names : List (Str × NameKind)} {x : Str} (h : compOkB sc names x = true) :
    (∀ y, (y, NameKind.free) ∈ names → sc.lookup y = some .cell) ∧ (∀ p, p ∈ names → names.lookup p.1 = some p.2) ∧ (names.lookup x = some .local ∨ names.lookup x = some .cell) := by
  unfold compOkB at h
  rw [Bool.and_eq_true] at h
  have h1 := List.all_eq_true.mp h.1
  refine ⟨fun y hy => ?_, fun p hp => ?_, ?_⟩
  · have := h1 _ hy
    rw [Bool.and_eq_true] at this
    have t := this.1
    rw [Bool.or_eq_true] at t
    rcases t with t | t
    · simp at t
    · exact beq_iff_eq.mp t
  · have := h1 _ hp
    rw [Bool.and_eq_true] at this
    exact beq_iff_eq.mp this.2
  · rcases Bool.or_eq_true_iff.mp h.2 with t | t
    · exact .inl (beq_iff_eq.mp t)
    · exact .inr (beq_iff_eq.mp t)

def SubF (r' : Loc) (names : List (Str × NameKind)) (r : Loc) : Prop := ∀ (y : Str) (v : V), r'.lookup y = some v → names.lookup y = some .free ∧ r.lookup y = some v
theorem SubF.nil {names : List (Str × NameKind)} {r : Loc} : SubF [] names r := fun _ _ h => by cases h
theorem SubF.cons {names : List (Str × NameKind)} {r r' : Loc} {x : Str} {y : V} (h0 : names.lookup x = some .free) (h : r.lookup x = some y) (t : SubF r' names r) : SubF ((x, y) :: r') names r := fun z u e => by
  rw [List.lookup_cons] at e
  cases q : z == x with
  | true => rw [q] at e; cases e; rw [beq_iff_eq.mp q]; exact ⟨h0, h⟩
  | false => rw [q] at e; exact t z u e

structure TrL (C : Cx) (A : Around) (sc : List (Str × NameKind)) (ifs : List Expr) (r : Loc) (b : Boxes) (t : Bool) (b' : Boxes) : Prop where
  run : ∀ (env : Env) (s : Shared) (I : Gh) (f : List Addr) (E : Value → Shared → Prop), Pre C s I f b env sc r →
    wpAny (model C.prog C.w) A (forIn ifs true fun c r => if r = true then do let ok ← isTrue c env (eval c env); pure (ForInStep.yield ok) else pure (ForInStep.yield r)) (Res NoW s I f b' fun _ _ x => x = t) E s

/-- the turns of a comprehension -/
inductive Cmp (C : Cx) (A : Around) (sc : List (Str × NameKind)) (x : Str) (ifs : List Expr) (elt : Expr) (r : Loc) : List V → Boxes → List V → Boxes → Prop
  | nil {b : Boxes} : Cmp C A sc x ifs elt r [] b [] b
  | keep {v y : V} {vs ys : List V} {b b1 b2 b3 : Boxes} (h : TrL C A sc ifs ((x, v) :: r) b true b1) (h2 : Ev C A sc elt ((x, v) :: r) b1 y b2) (t : Cmp C A sc x ifs elt r vs b2 ys b3) : Cmp C A sc x ifs elt r (v :: vs) b (y :: ys) b3
  | drop {v : V} {vs ys : List V} {b b1 b3 : Boxes} (h : TrL C A sc ifs ((x, v) :: r) b false b1) (t : Cmp C A sc x ifs elt r vs b1 ys b3) : Cmp C A sc x ifs elt r (v :: vs) b ys b3

section
variable {C : Cx} {A : Around} {sc : List (Str × NameKind)} {r r1 r2 r' : Loc} {b b1 b2 b3 b' b'' : Boxes} {pos p px p1 p2 : Pos} {mg mb : Str → Option Value} {fl : Fl}
  {W : Addr → Prop} {s s' s'' : Shared} {I I' I'' : Gh} {f f' f'' : List Addr} {env : Env}

theorem TrL.nil : TrL C A sc [] r b true b := .mk fun env s I f E pr => wpAny_tests_nil (rd_same pr.st rfl)
theorem TrL.one {c : Expr} {t : Bool} (h : Tr C A sc c r b t b1) : TrL C A sc [c] r b t b1 := .mk fun env s I f E pr => wpAny_tests_one (h.run env s I f E pr)

theorem Post.trans2 (p : Post NoW s I f s' I' f' b') (q : Post W s' I' f' s'' I'' f'' b'') (hW : ∀ a, W a → s.heap.get? a = none) : Post NoW s I f s'' I'' f'' b'' :=
  (p.w.trans q).weak fun a h => .inr (hW a h)
theorem Post.freeze {a : Addr} {o : Obj} (p : Post W s I f s' I' f' b') (ha : s.heap.get? a = none) (e : s'.heap.get? a = some o) (h1 : I' a = none) (h2 : a ∉ f') : Post W s I f s' (addI I' a o) f' b' :=
  ⟨p.same, p.keep, p.live, p.le.trans (addI_le h1), fun x hx => by
    unfold addI; rw [if_neg (by rintro rfl; exact hx ha)]; exact p.old x hx, p.ext,
   ⟨fun x y q => by
      unfold addI at q
      by_cases hx : x = a
      · subst hx; rw [if_pos rfl] at q; cases q; exact e
      · rw [if_neg hx] at q; exact p.st.imm _ _ q,
    fun n vs q => by
      obtain ⟨c, its, g1, g2, g3⟩ := p.st.box n vs q
      exact ⟨c, its, g1, g2, g3.mono (addI_le h1) (Px.refl _)⟩, p.st.len, p.st.nd, fun x m => by
      unfold addI; rw [if_neg (by rintro rfl; exact h2 m)]; exact p.st.out x m⟩⟩

/-- what holds between two turns of a comprehension -/
inductive CInv (C : Cx) (A : Around) (sc : List (Str × NameKind)) (x : Str) (ifs : List Expr) (elt : Expr) (r' : Loc) (b2 : Boxes) (vs ys : List V) (it D : Addr) (SS : Nat → Heap → Prop) (s0 : Shared) (I0 : Gh) (f0 : List Addr) (cenv : Env) (k : Nat) (s' : Shared) : Prop
  | mk (i : Nat) (rest : List V) (bi : Boxes) (Ii : Gh) (fi : List Addr) (done restys : List V) (items : Array Value) (h : Cmp C A sc x ifs elt r' rest bi restys b2) (hR : ∀ j : Nat, rest[j]? = vs[i + j]?)
      (hlen : i + rest.length = vs.length) (hk : k = rest.length) (hSS : SS i s'.heap) (hP : Post NoW s0 I0 f0 s' Ii fi bi) (hPre : Pre C s' Ii fi bi cenv sc r') (hI : Ii it = none ∧ it ∉ fi) (hDn : Ii D = none ∧ D ∉ fi)
      (hPl : s'.heap.PlainList D items) (hRd : RdL Ii fi items.toList done) (hys : done ++ restys = ys) (hsz : items.size + rest.length ≤ vs.length) : CInv C A sc x ifs elt r' b2 vs ys it D SS s0 I0 f0 cenv k s'

theorem comp_core {x : Str} {elt iter : Expr} {ifs : List Expr} {scope : Scope} {v : V} {vs ys : List V} {use : Option (Value → Sem Unit)} {E : Value → Shared → Prop} {Q : Value → Shared → Prop} {q : Pos}
    (hh : A.handled = none) (hok : compOkB sc scope.names x = true) (hkind : scope.kind = .function) (hsub : SubF r' scope.names r) (h1 : Ev C A sc iter r b v b1) (h2 : ItV b1 v vs)
    (h3 : Cmp C A (relN sc scope.names) x ifs elt r' vs b1 ys b2) (hl : vs.length ≤ 1000000)
    (hs : ∀ env x, foldedSetIterable iter env x = pure x)
    (pr : Pre C s I f b env sc r)
    (hQ : ∀ (D Cc : Addr) (s' : Shared) (I' : Gh) (f' : List Addr) m, Post NoW s I f s' I' f' b2 → Rd I' f' (.ref D) (.list ys) → s'.heap.Ns Cc m → s.heap.get? Cc = none → I' Cc = none → Cc ∉ f' →
      compPost (model C.prog C.w) A E use Q (.ref D) Cc (.ok .next) s') :
    wpAny (model C.prog C.w) A (comprehension (.ListComp elt [⟨.Name x px, iter, ifs, 0⟩] scope pos) scope env q (newList []) false (eval iter env) use) Q E s := by
  obtain ⟨okf, oku, okx⟩ := compOk hok
  obtain ⟨cl, hcl, clo⟩ := closure_of (env := env) (scope := scope) fun y hy => pr.ok.cel y (okf y hy)
  refine wpAny_comprehension_free (use := use) (g := ⟨.Name x px, iter, ifs, 0⟩) (gs := []) rfl (fun x => hs env x) hcl hkind (fun y hy hy2 => by have := oku y hy; rw [hy2] at this; exact this) ?_
  refine wpAny_mono (EvX h1 env s I f E pr) (fun X s0 ⟨I0, f0, p0, r0, pr0⟩ => ?_) fun _ _ h => h
  refine iter_of (C := C) hh p0.st r0 h2 fun it fpw P SS hp T hfr hS0 hkeep => ?_
  refine wpAny_newList (items := []) ?_
  refine newEnv_comp ?_
  -- the addresses
  have hD : hp.get? hp.objs.size = none := none_size hp
  generalize hH1 : hp.push { cls := .type "list", data := .seq ([] : List Value).toArray } = H1
  have hL : H1.objs.size = hp.objs.size + 1 := by rw [← hH1, Heap.size_push]
  generalize hH2 : H1.push { cls := .type "dict", data := .dict #[] } = H2
  have hC : H2.objs.size = H1.objs.size + 1 := by rw [← hH2, Heap.size_push]
  have k1 : ∀ (a : Addr) (o : Obj), hp.get? a = some o → H1.get? a = some o := fun a o e => by rw [← hH1]; exact Heap.get?_push_of_some _ e
  have k2 : ∀ (a : Addr) (o : Obj), H1.get? a = some o → H2.get? a = some o := fun a o e => by rw [← hH2]; exact Heap.get?_push_of_some _ e
  have k3 : ∀ (a : Addr) (o : Obj), H2.get? a = some o → (pushCells H2 scope.names).get? a = some o := fun a o e => pushCells_keeps _ _ _ _ e
  have k03 : ∀ (a : Addr) (o : Obj), s0.heap.get? a = some o → (pushCells H2 scope.names).get? a = some o := fun a o e => k3 a o (k2 a o (k1 a o (hkeep a o e)))
  have fresh : ∀ a, hp.objs.size ≤ a → s0.heap.get? a = none := fun a ha => by
    cases e : s0.heap.get? a with
    | none => rfl
    | some o => exact absurd (Heap.lt_size (hkeep a o e)) (Nat.not_lt.mpr ha)
  have hIt : it < hp.objs.size := by
    have := T.alive _ _ hS0
    cases e : hp.get? it with
    | none => exact absurd e this
    | some o => exact Heap.lt_size e
  have own := cellsFrom_ok scope.names H2 (H1.objs.size + 1) [] ⟨fun _ _ hm => (nomatch hm), List.Pairwise.nil⟩ (by rw [hC]; exact Nat.le_refl _)
  have hcells := cellsFrom_app scope.names H2.objs.size cl
  rw [show H1.objs.size + 1 = H2.objs.size from hC.symm]
  rw [show H1.objs.size + 1 = H2.objs.size from hC.symm] at own
  generalize hown : cellsFrom H2.objs.size scope.names [] = ow at own hcells
  rw [hcells]
  show codeAny _ A (.compStart (.ListComp elt [⟨.Name x px, iter, ifs, 0⟩] scope pos) 0 (.ref it) (.ref hp.objs.size) { scope := relabel scope env, locals := H1.objs.size, globals := env.globals, cells := ow ++ cl, qual := env.qual, func := none, code := env.code, frame := env.frame, builtins := env.builtins })
    (compPost (model C.prog C.w) A E use Q (.ref hp.objs.size) H1.objs.size) { s0 with heap := pushCells H2 scope.names }
  generalize hcenv : ({ scope := relabel scope env, locals := H1.objs.size, globals := env.globals, cells := ow ++ cl, qual := env.qual, func := none, code := env.code, frame := env.frame, builtins := env.builtins } : Env) = cenv
  have ecl : cenv.cells = ow ++ cl := by rw [← hcenv]
  have elo : cenv.locals = H1.objs.size := by rw [← hcenv]
  have ownN : ∀ p, p ∈ ow → (p.1, NameKind.cell) ∈ scope.names := fun p hp => by
    rw [← hown] at hp
    exact (cellsFrom_mem _ _ _ p hp).elim (fun q => nomatch q) id
  have lk : ∀ y a, cenv.cells.lookup y = some a → ((y, a) ∈ ow ∨ (ow.lookup y = none ∧ (y, a) ∈ cl)) := fun y a e => by
    rw [ecl, List.lookup_append] at e
    cases g : ow.lookup y with
    | none => rw [g] at e; exact .inr ⟨rfl, mem_of_lookup (by simpa using e)⟩
    | some a' => rw [g] at e; simp at e; subst e; exact .inl (mem_of_lookup g)
  have clk : ∀ y a, (y, a) ∈ cl → env.cells.lookup y = some a ∧ scope.names.lookup y = some .free := fun y a m => ⟨(clo.sound _ m).1, oku _ (clo.sound _ m).2⟩
  have kN : ∀ y, env.kindOf y = sc.lookup y := fun y => by show env.scope.names.lookup y = _; rw [pr.ok.names]
  have hnames : cenv.scope.names = relN sc scope.names := by
    rw [← hcenv]
    show (relabel scope env).names = _
    unfold relabel relN
    apply List.map_congr_left
    intro ⟨n, k⟩ _
    simp only [kN, pr.ok.kind]
    have : (ScopeKind.function == ScopeKind.function) = true := by decide
    rw [this, Bool.and_true]
  have hfl : ∀ (y : Str) (a : Addr), fpOf cenv a → a = H1.objs.size ∨ (∃ y : Str, (y, a) ∈ ow) ∨ (∃ y : Str, (y, a) ∈ cl) := fun y a h => by
    rcases h with h | ⟨y, hy⟩
    · left; rw [h, elo]
    · rcases lk y a hy with m | m
      · exact .inr (.inl ⟨y, m⟩)
      · exact .inr (.inr ⟨y, m.2⟩)
  have p3 : Post NoW s0 I0 f0 { s0 with heap := pushCells H2 scope.names } I0 f0 b1 := Post.grow (t := s0.toks) p0.st k03
  have owf : ∀ y a, (y, a) ∈ ow → s0.heap.get? a = none ∧ H2.objs.size ≤ a := fun y a m => ⟨fresh a (by have := (own.empty y a m).2; omega), (own.empty y a m).2⟩
  have clf : ∀ y a, (y, a) ∈ cl → s0.heap.get? a ≠ none ∧ I0 a = none ∧ a ∉ f0 := fun y a m => by
    have e := (clk y a m).1
    exact ⟨pr0.er.live (.inr ⟨y, e⟩), pr0.er.out a (.inr ⟨y, e⟩)⟩
  have hLf : s0.heap.get? H1.objs.size = none := fresh _ (by omega)
  have hns : (pushCells H2 scope.names).Ns H1.objs.size (fun _ => none) := by
    have : H2.Ns H1.objs.size (fun _ => none) := by rw [← hH2]; exact Heap.Ns.new H1 (.type "dict")
    exact this.keeps k3
  have prC : Pre C { s0 with heap := pushCells H2 scope.names } I0 f0 b1 cenv (relN sc scope.names) r' := by
    refine ⟨pr0.base, p3.st, ⟨hnames, by rw [← hcenv]; exact hkind, by rw [← hcenv]; exact pr.ok.glob, by rw [← hcenv]; exact pr.ok.blt, fun y hy => ?_⟩, ⟨⟨_, by rw [elo]; exact hns, fun y u hy hlo => ?_⟩, fun y u hy hlo => ?_, fun y a hy => ?_, fun y z a hy hz => ?_, fun a m => ?_, fun y a hy => ?_⟩⟩
    · rw [relN_lookup] at hy
      rw [ecl, List.lookup_append]
      cases g : scope.names.lookup y with
      | none => rw [g] at hy; cases hy
      | some k =>
        rw [g] at hy
        simp only [Option.map_some] at hy
        by_cases hk : k = .free
        · subst hk
          obtain ⟨a, ha⟩ := clo.full y (mem_of_lookup g)
          obtain ⟨c, hc⟩ := lookup_isSome_of_mem ha
          rw [hc]
          cases ow.lookup y with
          | none => exact ⟨c, rfl⟩
          | some d => exact ⟨d, rfl⟩
        · have hk' : (k == NameKind.free) = false := by simpa using hk
          rw [hk', Bool.false_and] at hy
          simp at hy
          subst hy
          have := cellsFrom_some scope.names H2.objs.size [] (x := y) (.inl g)
          rw [hown] at this
          obtain ⟨c, hc⟩ := Option.isSome_iff_exists.mp this
          rw [hc]; exact ⟨c, rfl⟩
    · exfalso
      have := (hsub y u hy).1
      have e : cenv.kindOf y = (relN sc scope.names).lookup y := by show cenv.scope.names.lookup y = _; rw [hnames]
      rw [e, relN_lookup, this] at hlo
      simp only [Option.map_some] at hlo
      rw [okf y (mem_of_lookup this)] at hlo
      simp at hlo
    · obtain ⟨g1, g2⟩ := hsub y u hy
      have hsc := okf y (mem_of_lookup g1)
      obtain ⟨g3, a, w, g4, ⟨o, g5, g5'⟩, g6⟩ := pr0.er.cel y u g2 (by rw [kN, hsc]; exact fun h => by cases h)
      refine ⟨?_, a, w, ?_, ⟨o, k03 a o g5, g5'⟩, g6⟩
      · show cenv.scope.names.lookup y = _
        rw [hnames, relN_lookup, g1]
        simp only [Option.map_some]
        rw [hsc]; simp
      · rw [ecl, List.lookup_append]
        have hno : ow.lookup y = none := by
          cases g : ow.lookup y with
          | none => rfl
          | some c =>
            have := oku _ (ownN _ (mem_of_lookup g))
            rw [g1] at this; cases this
        rw [hno]
        obtain ⟨c, hc⟩ := clo.full y (mem_of_lookup g1)
        obtain ⟨d, hd⟩ := lookup_isSome_of_mem hc
        have := (clk y d (mem_of_lookup hd)).1
        rw [g4] at this; cases this
        rw [hd]; rfl
    · rcases lk y a hy with m | ⟨_, m⟩
      · exact ⟨none, (own.empty y a m).1⟩
      · obtain ⟨w, o, g1, g2⟩ := pr0.er.isc y a (clk y a m).1
        exact ⟨w, o, k03 a o g1, g2⟩
    · rcases lk y a hy with m | ⟨_, m⟩ <;> rcases lk z a hz with n | ⟨_, n⟩
      · exact name_of_addr own.apart m n
      · exact absurd (owf y a m).1 (clf z a n).1
      · exact absurd (owf z a n).1 (clf y a m).1
      · exact pr0.er.inj y z a (clk y a m).1 (clk z a n).1
    · rcases hfl x a m with rfl | ⟨y, m⟩ | ⟨y, m⟩
      · exact ⟨p0.st.none_of hLf, p0.st.notin_of hLf⟩
      · exact ⟨p0.st.none_of (owf y a m).1, p0.st.notin_of (owf y a m).1⟩
      · exact (clf y a m).2
    · rw [elo]
      rcases lk y a hy with m | ⟨_, m⟩
      · have := (owf y a m).2; intro e; rw [e, hC] at this; exact absurd this (Nat.not_le.mpr (Nat.lt_succ_self _))
      · intro e; rw [e] at m; exact (clf y _ m).1 hLf
  have hst : ∀ a, stOf cenv x a → H1.objs.size ≤ a := fun a h => by
    rcases h with h | h
    · rw [h, elo]; exact Nat.le_refl _
    · rcases lk x a h with m | ⟨_, m⟩
      · have := (owf x a m).2; rw [hC] at this; exact Nat.le_of_succ_le this
      · have := (clk x a m).2
        rcases okx with g | g <;> rw [g] at this <;> cases this
  have hstf : ∀ a, stOf cenv x a → s0.heap.get? a = none := fun a h => fresh a (Nat.le_trans (by rw [hL]; exact Nat.le_succ _) (hst a h))
  have hDI : ∀ a, stOf cenv x a → a ≠ hp.objs.size ∧ a ≠ it := fun a h => by
    have := hst a h
    rw [hL] at this
    exact ⟨Nat.ne_of_gt this, Nat.ne_of_gt (Nat.lt_of_lt_of_le hIt (Nat.le_of_succ_le this))⟩
  have hfpI : ¬ fpOf cenv it := fun m => by
    rcases hfl x it m with h | ⟨y, m⟩ | ⟨y, m⟩
    · rw [h, hL] at hIt; exact absurd hIt (Nat.not_lt.mpr (Nat.le_succ _))
    · have := (owf y it m).2; rw [hC, hL] at this; exact absurd hIt (Nat.not_lt.mpr (Nat.le_trans (Nat.le_succ _) (Nat.le_trans (Nat.le_succ _) this)))
    · exact (clf y it m).1 hfr
  have hfpD : ¬ fpOf cenv hp.objs.size := fun m => by
    rcases hfl x _ m with h | ⟨y, m⟩ | ⟨y, m⟩
    · rw [hL] at h; exact absurd h (Nat.ne_of_lt (Nat.lt_succ_self _))
    · have := (owf y _ m).2; rw [hC, hL] at this; exact absurd this (Nat.not_le.mpr (Nat.lt_trans (Nat.lt_succ_self _) (Nat.lt_succ_self _)))
    · exact (clf y _ m).1 (fresh _ (Nat.le_refl _))
  have hDf : s0.heap.get? hp.objs.size = none := fresh _ (Nat.le_refl _)
  have hS3 : SS 0 (pushCells H2 scope.names) := T.w.frame _ _ _ hS0 fun c _ o e => k3 c o (k2 c o (k1 c o e))
  have hDl : (pushCells H2 scope.names).PlainList hp.objs.size #[] := ⟨0, k3 _ _ (k2 _ _ (by rw [← hH1]; exact Heap.get?_push_size _ rfl))⟩
  have loop : codeAny (model C.prog C.w) A (.compLoop (.ListComp elt [⟨.Name x px, iter, ifs, 0⟩] scope pos) 0 (.ref it) (.ref hp.objs.size) cenv) (compPost (model C.prog C.w) A E use Q (.ref hp.objs.size) H1.objs.size) { s0 with heap := pushCells H2 scope.names } := by
    refine codeAny_compLoop_tests (CInv C A (relN sc scope.names) x ifs elt r' b2 vs ys it hp.objs.size SS s0 I0 f0 cenv) ?_ vs.length
      ⟨0, vs, b1, I0, f0, [], ys, #[], h3, by simp, by simp, rfl, hS3, p3, prC, ⟨p0.st.none_of hfr, p0.st.notin_of hfr⟩, ⟨p0.st.none_of hDf, p0.st.notin_of hDf⟩, hDl, .nil, by simp, by simp⟩
    rintro k s1 ⟨i, rest, bi, Ii, fi, done, restys, items, hL9, hR, hlen, rfl, hSS, hP, hPre, hI, hDn, hPl, hRd, hys, hsz⟩
    have kbut : ∀ (h2 : Heap), (∀ b o, b ∉ [it] → s1.heap.get? b = some o → h2.get? b = some o) → ∀ (c : Addr) (o : Obj), c ≠ it → s1.heap.get? c = some o → h2.get? c = some o := fun h2 hk c o hc e => hk c o (by simpa using hc) e
    have hDit : hp.objs.size ≠ it := Nat.ne_of_gt hIt
    cases hL9 with
    | nil =>
      refine T.w.done s1 _ _ (by simp at hlen; rw [← hlen]; exact hSS) fun h2 tk hk2 => ?_
      have k2' := kbut h2 hk2
      have P2 := Post.but (t := tk) hP hfr k2' hI.1 hI.2
      obtain ⟨m, hPl'⟩ := hPl
      have hPl2 := k2' _ _ hDit hPl'
      have PF := Post.freeze P2 hDf hPl2 hDn.1 hDn.2
      obtain ⟨mm, hmm, _⟩ := (hPre.er.but hfpI k2').loc
      rw [elo] at hmm
      have ho := hPre.er.out H1.objs.size (.inl elo.symm)
      refine hQ _ _ _ _ _ _ (p0.trans PF) (.list _ _ _ _ _ addI_self rfl rfl ?_) hmm ?_ ?_ ho.2
      · have e : done = ys := by simpa using hys
        rw [← e]; exact hRd.mono (addI_le hDn.1) (Px.refl _)
      · cases e : s.heap.get? H1.objs.size with
        | none => rfl
        | some o => exact absurd hLf (p0.live _ (by rw [e]; exact fun h => by cases h))
      · unfold addI
        rw [if_neg (by rw [hL]; exact Nat.ne_of_gt (Nat.lt_succ_self _))]
        exact ho.1
    | keep ht he htl =>
      rename_i vv yy vs' ys' b3 b4
      refine T.w.item i s1 _ _ (by simp at hlen; omega) hSS fun y h2 tk hPi hS2 hk2 => ?_
      have k2' := kbut h2 hk2
      have P2 := Post.but (t := tk) hP hfr k2' hI.1 hI.2
      have pr2 : Pre C { s1 with heap := h2, toks := tk } Ii fi bi cenv (relN sc scope.names) r' := ⟨hPre.base, P2.st, hPre.ok, hPre.er.but hfpI k2'⟩
      have hrd : Rd Ii fi y vv := (T.rd i y vv hPi (by have := hR 0; simp at this; exact this.symm)).mono P2.le P2.px
      obtain ⟨m, hPl'⟩ := hPl
      have hPl2 : h2.PlainList hp.objs.size items := ⟨m, k2' _ _ hDit hPl'⟩
      refine wpAny_assign_Name (wpAny_mono (storeS pr2 hrd (by
        rw [relN_lookup]
        rcases okx with g | g <;> rw [g] <;> simp)) (fun _ s3 ⟨p3', e3⟩ => ?_) fun _ _ h => h)
      have P3 := P2.trans2 p3' hstf
      have pr3 : Pre C s3 Ii fi bi cenv (relN sc scope.names) ((x, vv) :: r') := ⟨hPre.base, P3.st, hPre.ok, e3⟩
      have hPl3 : s3.heap.PlainList hp.objs.size items := by
        obtain ⟨m, q⟩ := hPl2
        exact ⟨m, p3'.keep _ _ hDn.2 (fun h => (hDI _ h).1 rfl) q⟩
      refine wpAny_mono (ht.run cenv s3 Ii fi _ pr3) (fun ok s4 ⟨I4, f4, p4, e4⟩ => ?_) fun _ _ h => h
      subst e4
      rw [if_pos rfl]
      have pr4 := pr3.post p4
      refine wpAny_mono (he.run cenv s4 I4 f4 _ pr4) (fun z s5 ⟨I5, f5, p5, r5⟩ => ?_) fun _ _ h => h
      have pr5 := pr4.post p5
      have p45 := p4.trans p5
      have lD3 : s3.heap.get? hp.objs.size ≠ none := by obtain ⟨m, q⟩ := hPl3; rw [q]; exact fun h => by cases h
      have lI2 : h2.get? it ≠ none := T.alive _ _ hS2
      have kI3 : ∀ o, h2.get? it = some o → s3.heap.get? it = some o := fun o q => p3'.keep _ _ hI.2 (fun h => (hDI _ h).2 rfl) q
      have lI3 : s3.heap.get? it ≠ none := p3'.live it lI2
      have hDn5 : I5 hp.objs.size = none ∧ hp.objs.size ∉ f5 := by
        refine ⟨(p45.old _ lD3).trans hDn.1, fun mm => ?_⟩
        obtain ⟨g, rfl, hg⟩ := p45.ext
        rcases List.mem_append.mp mm with q | q
        · exact hDn.2 q
        · exact lD3 (hg _ q)
      have hI5 : I5 it = none ∧ it ∉ f5 := by
        refine ⟨(p45.old _ lI3).trans hI.1, fun mm => ?_⟩
        obtain ⟨g, rfl, hg⟩ := p45.ext
        rcases List.mem_append.mp mm with q | q
        · exact hI.2 q
        · exact lI3 (hg _ q)
      have hPl5 : s5.heap.PlainList hp.objs.size items := by
        obtain ⟨m, q⟩ := hPl3
        exact ⟨m, p45.keep _ _ hDn.2 id q⟩
      have hln : (vv :: vs').length = vs'.length + 1 := rfl
      refine wpAny_list_append_plain hPl5 (fun h6 hPl6 hs6 => ?_) (by rw [sizeLine_eq]; omega)
      have P5 := P3.trans p45
      have k6 : ∀ (c : Addr) (o : Obj), c ≠ hp.objs.size → s5.heap.get? c = some o → h6.get? c = some o := fun c o hc e => (hs6.2 c hc).trans e
      have P6 := Post.but (t := s5.toks) P5 hDf k6 hDn5.1 hDn5.2
      have pr6 : Pre C { s5 with heap := h6 } I5 f5 b4 cenv (relN sc scope.names) r' := (show Pre C { s5 with heap := h6, toks := s5.toks } I5 f5 b4 cenv (relN sc scope.names) ((x, vv) :: r') from ⟨pr5.base, P6.st, pr5.ok, pr5.er.but hfpD k6⟩).sub (fun yv u hy => by
        rw [List.lookup_cons]
        cases g : yv == x with
        | false => exact hy
        | true =>
          exfalso
          have := (hsub yv u hy).1
          rw [beq_iff_eq.mp g] at this
          rcases okx with q | q <;> rw [q] at this <;> cases this)
      refine ⟨vs'.length, by simp, i + 1, vs', b4, I5, f5, done ++ [yy], ys', items.push z, htl, fun j => ?_, by simp at hlen; omega, rfl, ?_, P6, pr6, hI5, hDn5, hPl6, ?_, by rw [List.append_assoc]; exact hys, by rw [Array.size_push]; omega⟩
      · have := hR (j + 1)
        simp at this
        rw [this]; congr 1; omega
      · refine T.w.frame _ _ _ hS2 fun c hc o e => ?_
        rcases T.fp c hc with rfl | ⟨o', ho'⟩
        · exact k6 _ _ (Ne.symm hDit) (p45.keep _ _ hI.2 id (kI3 o e))
        · have h5 := P2.le c o' ho'
          have h6' := P2.st.imm c o' h5
          rw [h6'] at e; cases e
          exact P6.st.imm c o (p45.le c o h5)
      · rw [Array.toList_push]
        exact (hRd.mono p45.le p45.px).append (.one r5)
    | drop ht htl =>
      rename_i vv vs' b3
      refine T.w.item i s1 _ _ (by simp at hlen; omega) hSS fun y h2 tk hPi hS2 hk2 => ?_
      have k2' := kbut h2 hk2
      have P2 := Post.but (t := tk) hP hfr k2' hI.1 hI.2
      have pr2 : Pre C { s1 with heap := h2, toks := tk } Ii fi bi cenv (relN sc scope.names) r' := ⟨hPre.base, P2.st, hPre.ok, hPre.er.but hfpI k2'⟩
      have hrd : Rd Ii fi y vv := (T.rd i y vv hPi (by have := hR 0; simp at this; exact this.symm)).mono P2.le P2.px
      obtain ⟨m, hPl'⟩ := hPl
      have hPl2 : h2.PlainList hp.objs.size items := ⟨m, k2' _ _ hDit hPl'⟩
      refine wpAny_assign_Name (wpAny_mono (storeS pr2 hrd (by
        rw [relN_lookup]
        rcases okx with g | g <;> rw [g] <;> simp)) (fun _ s3 ⟨p3', e3⟩ => ?_) fun _ _ h => h)
      have P3 := P2.trans2 p3' hstf
      have pr3 : Pre C s3 Ii fi bi cenv (relN sc scope.names) ((x, vv) :: r') := ⟨hPre.base, P3.st, hPre.ok, e3⟩
      have hPl3 : s3.heap.PlainList hp.objs.size items := by
        obtain ⟨m, q⟩ := hPl2
        exact ⟨m, p3'.keep _ _ hDn.2 (fun h => (hDI _ h).1 rfl) q⟩
      refine wpAny_mono (ht.run cenv s3 Ii fi _ pr3) (fun ok s4 ⟨I4, f4, p4, e4⟩ => ?_) fun _ _ h => h
      subst e4
      rw [if_neg Bool.false_ne_true]
      have pr4 := pr3.post p4
      have lD3 : s3.heap.get? hp.objs.size ≠ none := by obtain ⟨m, q⟩ := hPl3; rw [q]; exact fun h => by cases h
      have lI2 : h2.get? it ≠ none := T.alive _ _ hS2
      have kI3 : ∀ o, h2.get? it = some o → s3.heap.get? it = some o := fun o q => p3'.keep _ _ hI.2 (fun h => (hDI _ h).2 rfl) q
      have lI3 : s3.heap.get? it ≠ none := p3'.live it lI2
      have hDn5 : I4 hp.objs.size = none ∧ hp.objs.size ∉ f4 := by
        refine ⟨(p4.old _ lD3).trans hDn.1, fun mm => ?_⟩
        obtain ⟨g, rfl, hg⟩ := p4.ext
        rcases List.mem_append.mp mm with q | q
        · exact hDn.2 q
        · exact lD3 (hg _ q)
      have hI5 : I4 it = none ∧ it ∉ f4 := by
        refine ⟨(p4.old _ lI3).trans hI.1, fun mm => ?_⟩
        obtain ⟨g, rfl, hg⟩ := p4.ext
        rcases List.mem_append.mp mm with q | q
        · exact hI.2 q
        · exact lI3 (hg _ q)
      have hPl5 : s4.heap.PlainList hp.objs.size items := by
        obtain ⟨m, q⟩ := hPl3
        exact ⟨m, p4.keep _ _ hDn.2 id q⟩
      have hln : (vv :: vs').length = vs'.length + 1 := rfl
      have P5 := P3.trans p4
      have pr6 : Pre C s4 I4 f4 b3 cenv (relN sc scope.names) r' := pr4.sub (fun yv u hy => by
        rw [List.lookup_cons]
        cases g : yv == x with
        | false => exact hy
        | true =>
          exfalso
          have := (hsub yv u hy).1
          rw [beq_iff_eq.mp g] at this
          rcases okx with q | q <;> rw [q] at this <;> cases this)
      refine ⟨vs'.length, by simp, i + 1, vs', b3, I4, f4, done, restys, items, htl, fun j => ?_, by simp at hlen; omega, rfl, ?_, P5, pr6, hI5, hDn5, hPl5, hRd.mono p4.le p4.px, hys, by omega⟩
      · have := hR (j + 1)
        simp at this
        rw [this]; congr 1; omega
      · refine T.w.frame _ _ _ hS2 fun c hc o e => ?_
        rcases T.fp c hc with rfl | ⟨o', ho'⟩
        · exact p4.keep _ _ hI.2 id (kI3 o e)
        · have h5 := P2.le c o' ho'
          have h6' := P2.st.imm c o' h5
          rw [h6'] at e; cases e
          exact P5.st.imm c o (p4.le c o h5)
  exact codeAny_compStart_list loop (T.w.self 0 _ _ _ hS3 loop)
end
end Mine
end
section
open PySem PySem.W PyProof.Rows
set_option Elab.async false
set_option linter.all false
set_option maxRecDepth 100000
namespace Mine

structure OKA (k : Nat) (A : Around) : Prop where
  h : A.handled = none
  d : A.depth + k ≤ 600
  u : A.units + 5 * k ≤ 5000
theorem OKA.mono {k m : Nat} {A : Around} (h : OKA k A) (hm : m ≤ k) : OKA m A := ⟨h.h, by have := h.d; omega, by have := h.u; omega⟩
theorem OKA.deeper {k : Nat} {A : Around} (h : OKA (k + 1) A) (env : Env) : OKA k (A.deeper env) := by
  refine ⟨h.h, ?_, ?_⟩
  · have := h.d; show A.depth + 1 + k ≤ 600; omega
  · have := h.u; show A.units + 3 + 5 * k ≤ 5000; omega
theorem OKA.units {k : Nat} {A : Around} (h : OKA k A) : A.units + 64 < cLine := by
  have := h.u; show A.units + 64 < 9900; omega

mutual
/-- boxes below k alone -/
inductive Bnd (k : Nat) : V → Prop
  | int (i : Int) : Bnd k (.int i)
  | bool (b : Bool) : Bnd k (.bool b)
  | none : Bnd k .none
  | list (l : List V) (h : BndL k l) : Bnd k (.list l)
  | tup (l : List V) (h : BndL k l) : Bnd k (.tup l)
  | rng (n : Int) : Bnd k (.rng n)
  | box (n : Nat) (h : n < k) : Bnd k (.box n)
inductive BndL (k : Nat) : List V → Prop
  | nil : BndL k []
  | cons (x : V) (xs : List V) (h : Bnd k x) (t : BndL k xs) : BndL k (x :: xs)
end
theorem RdL.bnd {I : Gh} {f : List Addr} {v : List Value} {x : List V} (h : RdL I f v x) : BndL f.length x :=
  RdL.rec (motive_1 := fun v x _ => Bnd f.length x) (motive_2 := fun vs xs _ => BndL f.length xs)
    (fun i t => .int i) (fun b => .bool b) .none (fun a o items n vs h1 h2 h3 _ ih => .list vs ih)
    (fun a o items n vs h1 h2 h3 _ ih => .tup vs ih) (fun n a h => .box n (List.getElem?_eq_some_iff.mp h).1) (fun a n t u v h => .rng n)
    .nil (fun v x vs xs _ _ ih1 ih2 => .cons x xs ih1 ih2) h
theorem RdL.cut {I : Gh} {f g : List Addr} {v : List Value} {x : List V} (h : RdL I (f ++ g) v x) : BndL f.length x → RdL I f v x :=
  RdL.rec (motive_1 := fun v x _ => Bnd f.length x → Rd I f v x) (motive_2 := fun vs xs _ => BndL f.length xs → RdL I f vs xs)
    (fun i t _ => .int i t) (fun b _ => .bool b) (fun _ => .none) (fun a o items n vs h1 h2 h3 _ ih p => .list a o items n vs h1 h2 h3 (ih (by cases p; assumption)))
    (fun a o items n vs h1 h2 h3 _ ih p => .tup a o items n vs h1 h2 h3 (ih (by cases p; assumption)))
    (fun n a h p => .box n a (by cases p with | box _ hn => rw [List.getElem?_append_left hn] at h; exact h)) (fun a n t u v h _ => .rng a n t u v h)
    (fun _ => .nil) (fun v x vs xs _ _ ih1 ih2 p => by cases p with | cons _ _ p1 p2 => exact .cons v x vs xs (ih1 p1) (ih2 p2)) h

section
variable {C : Cx} {A : Around} {sc : List (Str × NameKind)} {r r1 r2 r' : Loc} {b b1 b2 b3 b' b'' : Boxes} {pos p px py p1 p2 : Pos} {mg mb : Str → Option Value} {fl : Fl}
  {W : Addr → Prop} {s s' s'' : Shared} {I I' I'' : Gh} {f f' f'' : List Addr} {env : Env}

theorem Ev.comp {x : Str} {elt iter : Expr} {ifs : List Expr} {scope : Scope} {v : V} {vs ys : List V}
    (hh : A.handled = none) (hok : compOkB sc scope.names x = true) (hsub : SubF r' scope.names r) (h1 : Ev C A sc iter r b v b1) (h2 : ItV b1 v vs)
    (h3 : Cmp C A (relN sc scope.names) x ifs elt r' vs b1 ys b2) (hl : vs.length ≤ 1000000) (hkind : scope.kind = .function := by with_unfolding_all rfl)
    (hs : ∀ env x, foldedSetIterable iter env x = pure x := by intro _ _; with_unfolding_all rfl) :
    Ev C A sc (.ListComp elt [⟨.Name x px, iter, ifs, 0⟩] scope pos) r b (.list ys) b2 := .mk fun env s I f E pr => by
  rw [eval_ListComp]
  refine comp_core (use := none) hh hok hkind hsub h1 h2 h3 hl hs pr fun D Cc s' I' f' m hP hR hN hf hI hF => ?_
  refine ⟨m, hN, fun h'' hsb => ?_⟩
  exact ⟨I', f', Post.but (t := s'.toks) hP hf (fun c o hc e => (hsb.2 c hc).trans e) hI hF, hR⟩

theorem swaps_cell {y : Str} {e : Expr} {line : Nat} {elt : Expr} {gens : List Comprehension} {scope : Scope} (hk : sc.lookup y = some .cell) (ok : EnvOK env sc) :
    swapsWith (.ListComp elt gens scope pos) (some (.Name y py)) line env = pure false := by
  have e : env.kindOf y = some .cell := by show env.scope.names.lookup y = _; rw [ok.names]; exact hk
  show (pure (env.blockKind == .function && env.kindOf y == some .local && py.line == pos.line && !(scope.names.any fun (n, k) => n == y && (k == .local || k == .cell))) : Sem Bool) = _
  rw [e]
  have : (some NameKind.cell == some NameKind.local) = false := by decide
  rw [this, Bool.and_false, Bool.false_and, Bool.false_and]

/-- y = [..], y a plain local: stored within -/
theorem Ex.assignC {x y : Str} {elt iter : Expr} {ifs : List Expr} {scope : Scope} {v : V} {vs ys : List V} {spos : Pos}
    (hh : A.handled = none) (hy : sc.lookup y = some .local) (hok : compOkB sc scope.names x = true) (hsub : SubF r' scope.names r) (h1 : Ev C A sc iter r b v b1) (h2 : ItV b1 v vs)
    (h3 : Cmp C A (relN sc scope.names) x ifs elt r' vs b1 ys b2) (hl : vs.length ≤ 1000000) (hline : (py.line == pos.line) = true := by with_unfolding_all rfl)
    (hno : (scope.names.any fun (n, k) => n == y && (k == .local || k == .cell)) = false := by with_unfolding_all rfl) (hkind : scope.kind = .function := by with_unfolding_all rfl)
    (hs : ∀ env x, foldedSetIterable iter env x = pure x := by intro _ _; with_unfolding_all rfl) :
    Ex C A sc (.Assign [.Name y py] (.ListComp elt [⟨.Name x px, iter, ifs, 0⟩] scope pos) spos) r b .next ((y, .list ys) :: r) b2 := .mk fun env s I f E pr => by
  have e : env.kindOf y = some .local := by show env.scope.names.lookup y = _; rw [pr.ok.names]; exact hy
  have hsw : swapsWith (.ListComp elt [⟨.Name x px, iter, ifs, 0⟩] scope pos) (some (.Name y py)) spos.line env = pure true := by
    show (pure (env.blockKind == .function && env.kindOf y == some .local && py.line == pos.line && !(scope.names.any fun (n, k) => n == y && (k == .local || k == .cell))) : Sem Bool) = _
    rw [e, hline, hno]
    have : env.blockKind = .function := by unfold Env.blockKind; rw [pr.ok.kind]; rfl
    rw [this]
    rfl
  rw [exec_Assign_Name_used _ _ _ _ hsw]
  refine wpAny_bind (wpAny_standAt (wpAny_bind ?_))
  show wpAny _ A (do let _ ← comprehension (.ListComp elt [⟨.Name x px, iter, ifs, 0⟩] scope pos) scope env _ (newList []) false (eval iter env) (some (PySem.assign (.Name y py) env))) _ _ s
  refine wpAny_bind (wpAny_mono (comp_core (use := some (PySem.assign (.Name y py) env)) (Q := fun _ s' => ∃ I' f', Post (fpOf env) s I f s' I' f' b2 ∧ EnvR s'.heap I' f' env ((y, .list ys) :: r)) hh hok hkind hsub h1 h2 h3 hl hs pr fun D Cc s' I' f' m hP hR hN hf hI hF => ?_)
    (fun _ s' hq => wpAny_pure (wpAny_pure ?_)) fun _ _ e => e)
  · show wpAny _ A (PySem.assign (.Name y py) env (.ref D)) _ _ _
    have pr' := pr.post hP
    refine wpAny_assign_Name (wpAny_mono (store pr' hR (.inl hy)) (fun _ s3 ⟨p3, e3⟩ => ?_) fun _ _ h => h)
    have hne : Cc ∉ f' := hF
    have hnf : ¬ fpOf env Cc := fun q => pr.er.live q hf
    obtain ⟨o, es, ep, ho, hrest⟩ := hN
    have hN3 : s3.heap.Ns Cc m := ⟨o, es, ep, p3.keep _ _ hF hnf ho, hrest⟩
    refine ⟨m, hN3, fun h'' hsb => ⟨I', f', ?_, ?_⟩⟩
    · exact Post.but (t := s3.toks) (hP.w.trans p3) hf (fun c o hc e => (hsb.2 c hc).trans e) hI hF
    · exact e3.but hnf fun c o hc e => (hsb.2 c hc).trans e
  · obtain ⟨I', f', q1, q2⟩ := hq
    exact ⟨I', f', q1, q2, trivial⟩

def ExsE (C : Cx) (A : Around) (sc : List (Str × NameKind)) (st : List Stmt) (r : Loc) (b : Boxes) (fl : Fl) (b' : Boxes) : Prop := ∃ r', Exs C A sc st r b fl r' b'
theorem ExsE.mk {st : List Stmt} (h : Exs C A sc st r b fl r' b') : ExsE C A sc st r b fl b' := ⟨r', h⟩
/-- a def of the text -/
def FnAt (C : Cx) (mg : Str → Option Value) (x : Str) (params : Arguments) (body : List Stmt) (scope : Scope) : Prop :=
  ∃ fa o pm cd doc, mg x = some (.ref fa) ∧ C.H0.get? fa = some o ∧ o.data = .func (Calls.docDef x params body scope pm cd doc) ∧ C.H0.CodeRec cd x

inductive RetV (b' : Boxes) (n0 : Nat) : Fl → V → Prop
  | pure (v : V) (h : Pure v) : RetV b' n0 (.ret v) v
  | box (n : Nat) (vs : List V) (h1 : n0 ≤ n) (h2 : b'[n]? = some vs) (h3 : PureL vs) : RetV b' n0 (.ret (.box n)) (.list vs)

theorem bindL_none {k : Str → Option NameKind} {x : Str} : ∀ {l : List (Str × Value)} {m : Str → Option Value}, x ∉ l.map (·.1) → bindL k l m x = m x
  | [], _, _ => rfl
  | (n, v) :: r, m, h => by
    unfold bindL
    have h1 : x ≠ n := fun e => h (by simp [e])
    have h2 : x ∉ r.map (·.1) := fun e => h (by simp at e ⊢; exact .inr e)
    rw [bindL_none h2]
    by_cases hk : k n = some .local
    · rw [if_pos hk, if_neg h1]
    · rw [if_neg hk]
theorem bindC_none {k : Str → Option NameKind} {x : Str} : ∀ {l : List (Str × Value)} {m : Str → Option Value}, x ∉ l.map (·.1) → bindC k l m x = m x
  | [], _, _ => rfl
  | (n, v) :: r, m, h => by
    unfold bindC
    have h1 : x ≠ n := fun e => h (by simp [e])
    have h2 : x ∉ r.map (·.1) := fun e => h (by simp at e ⊢; exact .inr e)
    rw [bindC_none h2]
    by_cases hk : k n = some .local
    · rw [if_pos hk]
    · rw [if_neg hk, if_neg h1]
theorem bind_zip {k : Str → Option NameKind} {I : Gh} {f : List Addr} {x : Str} {y : V} : ∀ {ns : List Str} {vals : List Value} {args : List V} {m cm : Str → Option Value}, ns.Nodup → RdL I f vals args → (ns.zip args).lookup x = some y →
    ∃ v, Rd I f v y ∧ (k x = some .local → bindL k (ns.zip vals) m x = some v) ∧ (k x ≠ some .local → bindC k (ns.zip vals) cm x = some v)
  | [], _, _, _, _, _, _, h => by simp at h
  | n :: ns, [], [], _, _, _, .nil, h => by simp at h
  | n :: ns, v :: vals, a :: args, m, cm, hn, .cons _ _ _ _ hv ht, h => by
    rw [List.zip_cons_cons, List.lookup_cons] at h
    have hnd := List.nodup_cons.mp hn
    cases q : x == n with
    | true =>
      rw [q] at h
      cases h
      have e := beq_iff_eq.mp q
      subst e
      have hx : x ∉ (ns.zip vals).map (·.1) := fun hm => hnd.1 (by
        obtain ⟨p, hp, e⟩ := List.mem_map.mp hm
        have := (List.of_mem_zip hp).1
        rw [e] at this; exact this)
      refine ⟨v, hv, fun hk => ?_, fun hk => ?_⟩
      · show bindL k ((x, v) :: ns.zip vals) m x = _
        unfold bindL
        rw [bindL_none hx, if_pos hk]; simp
      · show bindC k ((x, v) :: ns.zip vals) cm x = _
        unfold bindC
        rw [bindC_none hx, if_neg hk]; simp
    | false =>
      rw [q] at h
      obtain ⟨w, h1, h2, h3⟩ := bind_zip (k := k) (m := if k n = some .local then fun y => if y = n then some v else m y else m) (cm := if k n = some .local then cm else fun y => if y = n then some v else cm y) hnd.2 ht h
      exact ⟨w, h1, h2, h3⟩

theorem Post.trunc (p : Post W s I f s' I' f' b') (st0 : St s.heap I f b) (hp : ∀ vs, vs ∈ b'.take f.length → vs ∈ b ∨ PureL vs) : Post W s I f s' I' f (b'.take f.length) := by
  obtain ⟨g, e, hg⟩ := p.ext
  refine ⟨p.same, p.keep, p.live, p.le, p.old, ⟨[], by simp, fun _ h => nomatch h⟩, ⟨p.st.imm, fun n vs q => ?_, ?_, ?_, fun a m => p.st.out a (by rw [e]; simp [m])⟩⟩
  · have hn : n < f.length := by
      have := (List.getElem?_eq_some_iff.mp q).1
      simp at this; omega
    have q' : b'[n]? = some vs := by rw [List.getElem?_take] at q; simpa [hn] using q
    obtain ⟨a, items, h1, h2, h3⟩ := p.st.box n vs q'
    refine ⟨a, items, ?_, h2, ?_⟩
    · rw [e, List.getElem?_append_left hn] at h1
      exact h1
    · rcases hp vs (List.mem_of_getElem? q) with m | m
      · obtain ⟨j, hj, ej⟩ := List.getElem_of_mem m
        obtain ⟨_, items0, _, _, h5⟩ := st0.box j vs (by rw [List.getElem?_eq_getElem hj, ej])
        rw [e] at h3
        exact h3.cut h5.bnd
      · exact h3.anyF m
  · rw [List.length_take, ← p.st.len, e]; simp
  · have := p.st.nd; rw [e] at this; exact (List.nodup_append.mp this).1

theorem CallF.defG {bo : Boxes} {k : Nat} {x : Str} {params : Arguments} {body : List Stmt} {scope : Scope} {args : List V} {v : V} (hA : OKA (k + 1) A) (B : Bs C mg mb) (F : FnAt C mg x params body scope)
    (hbind : ∀ pm cd doc (vals : List Value), vals.length = args.length → bindArgs (Calls.docDef x params body scope pm cd doc) ⟨vals, []⟩ = pure ((params.args.map (·.arg)).zip vals))
    (hkinds : ((params.args.map (·.arg)).all fun y => scope.names.lookup y == some .local || scope.names.lookup y == some .cell) = true)
    (hnd : (params.args.map (·.arg)).Nodup)
    (hr : (params.args.map (·.arg)).zip args = r)
    (hbody : ∀ A', OKA k A' → ∃ b', ExsE C A' scope.names body r b fl b' ∧ RetV b' b.length fl v ∧ (∀ vs, vs ∈ b'.take b.length → vs ∈ b ∨ PureL vs) ∧ b'.take b.length = bo)
    (hco : scope.isCoroutine = false := by with_unfolding_all rfl) (hgen : scope.isGenerator = false := by with_unfolding_all rfl) (hk : scope.kind = .function := by with_unfolding_all rfl) : CallF C mg A x args b v bo := by
  obtain ⟨fa, o, pm, cd, doc, h1, h2, h3, h4⟩ := F
  refine ⟨fa, o, _, h1, h2, h3, .mk fun xs s I f E hb st hx => ?_⟩
  have hk0 : ∀ (a : Addr) (o : Obj), C.H0.get? a = some o → s.heap.get? a = some o := fun a o e => st.imm _ _ (hb a o e)
  have hlen : xs.length = args.length := hx.length
  refine wpAny_call (codeAny_call_cells (fd := Calls.docDef x params body scope pm cd doc) (body := body) (vals := xs) (binds := (params.args.map (·.arg)).zip xs) (by have := hA.d; show A.depth < 1000; omega) (hk0 _ _ h2) h3
    (B.nl.keeps hk0) (h4.keeps hk0) rfl (hbind pm cd doc xs hlen) rfl (fun y hy => ?_) (fun s1 X => ?_) hco hgen hk)
  · have hm : y.1 ∈ params.args.map (·.arg) := (List.of_mem_zip (a := y.1) (b := y.2) hy).1
    have := List.all_eq_true.mp hkinds _ hm
    rcases Bool.or_eq_true_iff.mp this with g | g
    · exact .inl (beq_iff_eq.mp g)
    · exact .inr ⟨beq_iff_eq.mp g, cellsFrom_some _ _ _ (.inl (beq_iff_eq.mp g))⟩
  · generalize henv : callEnvC (Calls.docDef x params body scope pm cd doc) s.heap.objs.size fa = env at X ⊢
    have eN : env.scope.names = scope.names := by rw [← henv]; rfl
    have eK : env.scope.kind = .function := by rw [← henv]; exact hk
    have eC : env.cells = cellsFrom (s.heap.objs.size + 1) scope.names [] := by rw [← henv]; rfl
    obtain ⟨hh, tk, e1⟩ := X.toInCall.same
    have hL : s.heap.get? env.locals = none := by
      cases q : s.heap.get? env.locals with
      | none => rfl
      | some o' => exact absurd (Heap.lt_size q) (Nat.not_lt.mpr X.toInCall.fresh)
    have hCf : ∀ y a, env.cells.lookup y = some a → s.heap.get? a = none ∧ a ≠ env.locals := fun y a q => by
      have := X.above y a (mem_of_lookup q)
      refine ⟨?_, Nat.ne_of_gt this⟩
      cases q' : s.heap.get? a with
      | none => rfl
      | some o' => exact absurd (Heap.lt_size q') (Nat.not_lt.mpr (Nat.le_trans X.toInCall.fresh (Nat.le_of_lt this)))
    have hfp : ∀ a, fpOf env a → s.heap.get? a = none := fun a m => by
      rcases m with rfl | ⟨y, hy⟩
      · exact hL
      · exact (hCf y a hy).1
    have p1 : Post NoW s I f s1 I f b := by rw [e1]; exact Post.grow st (by have := X.toInCall.keep; rw [e1] at this; exact this)
    have pr : Pre C s1 I f b env scope.names r := by
      refine ⟨hb, p1.st, ⟨eN, eK, by rw [← henv]; rfl, by rw [← henv]; rfl, fun y hy => ?_⟩, ⟨⟨_, X.toInCall.ns, fun y u hy hl => ?_⟩, fun y u hy hl => ?_, fun y a hy => ⟨_, X.cell y a hy⟩, fun y z a hy hz => name_of_addr X.apart (mem_of_lookup hy) (mem_of_lookup hz), fun a m => ⟨st.none_of (hfp a m), st.notin_of (hfp a m)⟩, fun y a hy => (hCf y a hy).2⟩⟩
      · rw [eC]; exact Option.isSome_iff_exists.mp (cellsFrom_some _ _ _ (.inl hy))
      · rw [← hr] at hy
        obtain ⟨w, g1, g2, _⟩ := bind_zip (k := env.kindOf) (m := fun _ => none) (cm := fun _ => none) hnd hx hy
        exact ⟨w, g2 hl, g1⟩
      · rw [← hr] at hy
        obtain ⟨w, g1, _, g2⟩ := bind_zip (k := env.kindOf) (m := fun _ => none) (cm := fun _ => none) hnd hx hy
        have hm : y ∈ params.args.map (·.arg) := by
          have := mem_of_lookup hy
          exact (List.of_mem_zip this).1
        have hkk := List.all_eq_true.mp hkinds _ hm
        have hyk : env.kindOf y = scope.names.lookup y := by show env.scope.names.lookup y = _; rw [eN]
        rcases Bool.or_eq_true_iff.mp hkk with g | g
        · rw [hyk, beq_iff_eq.mp g] at hl; exact absurd rfl hl
        · have hc : scope.names.lookup y = some .cell := beq_iff_eq.mp g
          have := cellsFrom_some scope.names (s.heap.objs.size + 1) [] (x := y) (.inl hc)
          rw [← eC] at this
          obtain ⟨a, ha⟩ := Option.isSome_iff_exists.mp this
          have hcell := X.cell y a ha
          rw [g2 hl] at hcell
          exact ⟨by rw [hyk]; exact hc, a, w, ha, hcell, g1⟩
    obtain ⟨b', ⟨r', hbody2⟩, hret, hpure, hbo⟩ := hbody (A.deeper env) (hA.deeper env)
    subst hbo
    refine wpAny_mono (hbody2.run env s1 I f _ pr) (fun fl1 s2 ⟨I2, f2, p2, e2, q2⟩ => ?_) fun _ _ h => h
    have P2 := p1.trans2 p2 hfp
    have hlf : f.length = b.length := st.len
    have PT := P2.trunc st (by rw [hlf]; exact hpure)
    rw [hlf] at PT
    cases hret with
    | pure _ hv =>
      cases fl1 with
      | ret y => exact ⟨I2, f, PT, q2.anyF hv⟩
      | next => exact q2.elim
      | brk => exact q2.elim
      | cont => exact q2.elim
    | box n vs g1 g2 g3 =>
      cases fl1 with
      | ret y =>
        cases q2 with
        | box _ a ha =>
          obtain ⟨a', items, w1, ⟨m, w2⟩, w3⟩ := P2.st.box n vs g2
          rw [ha] at w1; cases w1
          obtain ⟨g, eg, hg⟩ := P2.ext
          have hag : a ∈ g := by
            rw [eg, List.getElem?_append_right (by omega)] at ha
            exact List.mem_of_getElem? ha
          have han : a ∉ f := fun mm => st.alive mm (hg a hag)
          have hI2 : I2 a = none := P2.st.out a (List.mem_of_getElem? ha)
          exact ⟨_, f, Post.freeze PT (hg a hag) w2 hI2 han, .list _ _ _ _ _ addI_self rfl rfl ((w3.mono (addI_le hI2) (Px.refl _)).anyF g3)⟩
      | next => exact q2.elim
      | brk => exact q2.elim
      | cont => exact q2.elim
theorem CallF.def {k : Nat} {x : Str} {params : Arguments} {body : List Stmt} {scope : Scope} {args : List V} {v : V} (hA : OKA (k + 1) A) (B : Bs C mg mb) (F : FnAt C mg x params body scope)
    (hbind : ∀ pm cd doc (vals : List Value), vals.length = args.length → bindArgs (Calls.docDef x params body scope pm cd doc) ⟨vals, []⟩ = pure ((params.args.map (·.arg)).zip vals))
    (hkinds : ((params.args.map (·.arg)).all fun y => scope.names.lookup y == some .local || scope.names.lookup y == some .cell) = true)
    (hnd : (params.args.map (·.arg)).Nodup)
    (hr : (params.args.map (·.arg)).zip args = r)
    (hbody : ∀ A', OKA k A' → ExsE C A' scope.names body r b fl b')
    (hret : RetV b' b.length fl v) (hpure : ∀ vs, vs ∈ b'.take b.length → vs ∈ b ∨ PureL vs)
    (hco : scope.isCoroutine = false := by with_unfolding_all rfl) (hgen : scope.isGenerator = false := by with_unfolding_all rfl) (hk : scope.kind = .function := by with_unfolding_all rfl) : CallF C mg A x args b v (b'.take b.length) :=
  CallF.defG hA B F hbind hkinds hnd hr (fun A' hA' => ⟨b', hbody A' hA', hret, hpure, rfl⟩) hco hgen hk



/-- a def that leaves the caller's boxes alone -/
theorem CallF.def0 {k : Nat} {x : Str} {params : Arguments} {body : List Stmt} {scope : Scope} {args : List V} {v : V} {bx : Boxes} (hA : OKA (k + 1) A) (B : Bs C mg mb) (F : FnAt C mg x params body scope)
    (hbind : ∀ pm cd doc (vals : List Value), vals.length = args.length → bindArgs (Calls.docDef x params body scope pm cd doc) ⟨vals, []⟩ = pure ((params.args.map (·.arg)).zip vals))
    (hkinds : ((params.args.map (·.arg)).all fun y => scope.names.lookup y == some .local || scope.names.lookup y == some .cell) = true)
    (hnd : (params.args.map (·.arg)).Nodup)
    (hr : (params.args.map (·.arg)).zip args = r)
    (hbody : ∀ A', OKA k A' → ExsE C A' scope.names body r b fl (b ++ bx))
    (hret : RetV (b ++ bx) b.length fl v)
    (hco : scope.isCoroutine = false := by with_unfolding_all rfl) (hgen : scope.isGenerator = false := by with_unfolding_all rfl) (hk : scope.kind = .function := by with_unfolding_all rfl) : CallF C mg A x args b v b := by
  have h := CallF.def hA B F hbind hkinds hnd hr hbody hret (fun vs m => by simp at m; exact .inl m) hco hgen hk
  rw [List.take_left'] at h
  · exact h
  · rfl
end
end Mine
end
section
open PySem PySem.W PyProof.Rows
set_option Elab.async false
set_option linter.all false
namespace Mine

inductive SqV (b : Boxes) : V → List V → Prop
  | list (l : List V) : SqV b (.list l) l
  | tup (l : List V) : SqV b (.tup l) l
  | box (k : Nat) (l : List V) (h : b[k]? = some l) : SqV b (.box k) l
/-- a list or a tuple, no box -/
inductive FzV : V → List V → Prop
  | list (l : List V) : FzV (.list l) l
  | tup (l : List V) : FzV (.tup l) l
theorem FzV.sq {b : Boxes} {v : V} {l : List V} (h : FzV v l) : SqV b v l := by
  cases h with
  | list => exact .list _
  | tup => exact .tup _
theorem FzV.it {b : Boxes} {v : V} {l : List V} (h : FzV v l) : ItV b v l := by
  cases h with
  | list => exact .list _
  | tup => exact .tup _

section
variable {C : Cx} {A : Around} {sc : List (Str × NameKind)} {r r1 r2 r' : Loc} {b b1 b2 b3 b' b'' : Boxes} {pos p px p1 p2 : Pos} {mg mb : Str → Option Value} {fl : Fl}

theorem Ev.itemQ {e i : Expr} {v x : V} {l : List V} {n : Nat} (h1 : Ev C A sc e r b v b1) (h2 : Ev C A sc i r b1 (N n) b2) (h3 : SqV b2 v l) (h4 : l[n]? = some x) (hl : n < 1000000)
    (hs : ∀ o j, subscripted i false o j = operate [o, j] (getItem o j) := by intro _ _; with_unfolding_all rfl) : Ev C A sc (.Subscript e i pos) r b x b2 := by
  cases h3 with
  | list l => exact Ev.item h1 h2 (.list l) h4 hl hs
  | tup l => exact Ev.itemT h1 h2 h4 hl hs
  | box k l h => exact Ev.item h1 h2 (.box k l h) h4 hl hs
theorem CallV.lenQ {v : V} {l : List V} (h : SqV b v l) (hl : l.length ≤ 1000000) : CallV C A (.builtin "len") [v] b (N l.length) b := by
  cases h with
  | list l => exact CallV.len (.list l) hl
  | tup l => exact CallV.lenT hl
  | box k l h => exact CallV.len (.box k l h) hl

theorem Exs.ifRet {t : Expr} {tt : Bool} {b1s b2s sts : List Stmt} {v : V} (h : Tr C A sc t r b tt b1) (q : tt = true) (h2 : Exs C A sc b1s r b1 (.ret v) r2 b2) : Exs C A sc (.If t b1s b2s pos :: sts) r b (.ret v) r2 b2 := by
  subst q; exact Exs.ret (Ex.ifT h h2)
theorem Exs.ifSkip {t : Expr} {tt : Bool} {b1s sts : List Stmt} (h : Tr C A sc t r b tt b1) (q : tt = false) (h2 : Exs C A sc sts r b1 fl r2 b2) : Exs C A sc (.If t b1s [] pos :: sts) r b fl r2 b2 := by
  subst q; exact Exs.cons (Ex.skip h) h2
theorem Exs.ifGo {t : Expr} {tt : Bool} {b1s b2s sts : List Stmt} (h : Tr C A sc t r b tt b1) (q : tt = true) (h2 : Exs C A sc b1s r b1 .next r1 b2) (h3 : Exs C A sc sts r1 b2 fl r2 b3) : Exs C A sc (.If t b1s b2s pos :: sts) r b fl r2 b3 := by
  subst q; exact Exs.cons (Ex.ifT h h2) h3
theorem Exs.ifElse {t : Expr} {tt : Bool} {b1s b2s sts : List Stmt} (h : Tr C A sc t r b tt b1) (q : tt = false) (h2 : Exs C A sc b2s r b1 .next r1 b2) (h3 : Exs C A sc sts r1 b2 fl r2 b3) : Exs C A sc (.If t b1s b2s pos :: sts) r b fl r2 b3 := by
  subst q; exact Exs.cons (Ex.ifF h h2) h3
/-- within, from a smaller place -/
theorem Exs.at {st : List Stmt} (r1 : Loc) (h1 : Sub r1 r) (h : Exs C A sc st r1 b fl r2 b1) : Exs C A sc st r b fl r2 b1 := Exs.sub h h1 Sub.refl

theorem Sub.push {x : Str} {v : V} (h : Sub r1 r) : Sub ((x, v) :: r1) ((x, v) :: r) := fun y u e => by
  rw [List.lookup_cons] at e ⊢
  cases q : y == x with
  | true => rw [q] at e; exact e
  | false => rw [q] at e; exact h y u e
theorem Loop.idx {x : Str} {body : List Stmt} (R : Nat → Loc) (Bx : Nat → Boxes) : ∀ (vs : List V) (k : Nat),
    (∀ i (hi : i < vs.length), ∃ r1, Exs C A sc body ((x, vs[i]) :: R (k + i)) (Bx (k + i)) .next r1 (Bx (k + i + 1)) ∧ Sub (R (k + i + 1)) r1) →
    Loop C A sc x body vs (R k) (Bx k) .next (R (k + vs.length)) (Bx (k + vs.length))
  | [], k, _ => .nil Sub.refl
  | v :: vs, k, h => by
    obtain ⟨r1, h1, h2⟩ := h 0 (Nat.succ_pos _)
    have ih := Loop.idx R Bx vs (k + 1) fun i hi => by
      have := h (i + 1) (Nat.succ_lt_succ hi)
      have e : k + 1 + i = k + (i + 1) := by omega
      rw [e]
      exact this
    have e : k + 1 + vs.length = k + (v :: vs).length := by simp only [List.length_cons]; omega
    rw [e] at ih
    exact .step (Exs.sub h1 Sub.refl h2) ih
theorem Loop.range {x : Str} {body : List Stmt} {n : Nat} (R : Nat → Loc) (Bx : Nat → Boxes)
    (h : ∀ i, i < n → ∃ r1, Exs C A sc body ((x, N i) :: R i) (Bx i) .next r1 (Bx (i + 1)) ∧ Sub (R (i + 1)) r1) :
    Loop C A sc x body ((List.range n).map N) (R 0) (Bx 0) .next (R n) (Bx n) := by
  have := Loop.idx (C := C) (A := A) (sc := sc) (x := x) (body := body) R Bx ((List.range n).map N) 0 fun i hi => by
    have hi' : i < n := by simpa using hi
    have := h i hi'
    simpa using this
  simpa using this

theorem Loop.sub0 {x : Str} {body : List Stmt} {vs : List V} (h : Loop C A sc x body vs r1 b fl r' b') (h0 : Sub r1 r) : Loop C A sc x body vs r b fl r' b' := by
  cases h with
  | nil h => exact .nil fun y v e => h0 y v (h y v e)
  | step h t => exact .step (Exs.sub h (Sub.push h0) Sub.refl) t
  | ret h => exact .ret (Exs.sub h (Sub.push h0) Sub.refl)
theorem Cmp.idx {x : Str} {elt : Expr} (Bx : Nat → Boxes) (ys : Nat → V) : ∀ (vs : List V) (k : Nat),
    (∀ i (hi : i < vs.length), Ev C A sc elt ((x, vs[i]) :: r) (Bx (k + i)) (ys (k + i)) (Bx (k + i + 1))) →
    Cmp C A sc x [] elt r vs (Bx k) ((List.range vs.length).map fun i => ys (k + i)) (Bx (k + vs.length))
  | [], k, _ => .nil
  | v :: vs, k, h => by
    have h1 := h 0 (Nat.succ_pos _)
    have ih := Cmp.idx Bx ys vs (k + 1) fun i hi => by
      have := h (i + 1) (Nat.succ_lt_succ hi)
      have e : k + 1 + i = k + (i + 1) := by omega
      rw [e]
      exact this
    have e : k + 1 + vs.length = k + (v :: vs).length := by simp only [List.length_cons]; omega
    rw [e] at ih
    have e2 : (List.range (v :: vs).length).map (fun i => ys (k + i)) = ys k :: (List.range vs.length).map fun i => ys (k + 1 + i) := by
      rw [List.length_cons, List.range_succ_eq_map, List.map_cons, List.map_map]
      congr 1
      apply List.map_congr_left
      intro a _
      show ys (k + (a + 1)) = _
      congr 1; omega
    rw [e2]
    exact .keep TrL.nil h1 ih
theorem Cmp.range {x : Str} {elt : Expr} {n : Nat} (Bx : Nat → Boxes) (ys : Nat → V)
    (h : ∀ i, i < n → Ev C A sc elt ((x, N i) :: r) (Bx i) (ys i) (Bx (i + 1))) :
    Cmp C A sc x [] elt r ((List.range n).map N) (Bx 0) ((List.range n).map ys) (Bx n) := by
  have := Cmp.idx (C := C) (A := A) (sc := sc) (x := x) (elt := elt) (r := r) Bx ys ((List.range n).map N) 0 fun i hi => by
    have hi' : i < n := by simpa using hi
    have := h i hi'
    simpa using this
  simpa using this
/-- no box is touched -/
theorem Cmp.range0 {x : Str} {elt : Expr} {n : Nat} (ys : Nat → V)
    (h : ∀ i, i < n → Ev C A sc elt ((x, N i) :: r) b (ys i) b) :
    Cmp C A sc x [] elt r ((List.range n).map N) b ((List.range n).map ys) b := Cmp.range (fun _ => b) ys h
theorem Cmp.map0 {α : Type} {x : Str} {elt : Expr} (g ys : α → V) : ∀ (l : List α), (∀ a, a ∈ l → Ev C A sc elt ((x, g a) :: r) b (ys a) b) → Cmp C A sc x [] elt r (l.map g) b (l.map ys) b
  | [], _ => .nil
  | a :: l, h => .keep TrL.nil (h a List.mem_cons_self) (Cmp.map0 g ys l fun c hc => h c (.tail _ hc))
theorem Cmp.filter0 {α : Type} {x : Str} {elt c : Expr} (g ys : α → V) (q : α → Bool) : ∀ (l : List α), (∀ a, a ∈ l → Tr C A sc c ((x, g a) :: r) b (q a) b) → (∀ a, a ∈ l → q a = true → Ev C A sc elt ((x, g a) :: r) b (ys a) b) → Cmp C A sc x [c] elt r (l.map g) b ((l.filter q).map ys) b
  | [], _, _ => .nil
  | a :: l, h1, h2 => by
    have ih := Cmp.filter0 g ys q l (fun c hc => h1 c (.tail _ hc)) fun c hc => h2 c (.tail _ hc)
    have t := h1 a List.mem_cons_self
    cases e : q a with
    | true =>
      rw [List.filter_cons_of_pos e]
      rw [e] at t
      exact .keep (TrL.one t) (h2 a List.mem_cons_self e) ih
    | false =>
      rw [List.filter_cons_of_neg (by rw [e]; decide)]
      rw [e] at t
      exact .drop (TrL.one t) ih
theorem ItV.range {n : Nat} (h : n < 1000000) : ItV b (.rng n) ((List.range n).map N) := .rng n h
theorem mapN_get {ps : List Nat} {j : Nat} (h : j < ps.length) : (ps.map N)[j]? = some (N (ps.getD j 0)) := by
  rw [List.getElem?_map, List.getElem?_eq_getElem h]
  simp [List.getD, h]
theorem intsN {ps : List Nat} : ps.map N = (ps.map Int.ofNat).map V.int := by rw [List.map_map]; rfl
theorem SqV.at {v : V} {l l' : List V} (h : SqV b v l) (e : l = l') : SqV b v l' := e ▸ h
end
end Mine
end
section
open PySem PySem.W PyProof.Rows
set_option Elab.async false
set_option linter.all false
set_option maxRecDepth 100000
namespace Mine

def defAt (i : Nat) : Stmt := PySem.Challenge.pw_nn0297_01.main.body.getD i (.Pass default)
def dName : Stmt → Str
  | .FunctionDef n _ _ _ _ _ _ _ _ _ => n
  | _ => Str.empty
def dParams : Stmt → Arguments
  | .FunctionDef _ a _ _ _ _ _ _ _ _ => a
  | _ => default
def dBody : Stmt → List Stmt
  | .FunctionDef _ _ b _ _ _ _ _ _ _ => b
  | _ => []
def dScope : Stmt → Scope
  | .FunctionDef _ _ _ _ _ _ s _ _ _ => s
  | _ => default

theorem Ev.nat {C : Cx} {A : Around} {sc : List (Str × NameKind)} {r : Loc} {b : Boxes} {pos : Pos} {n : Nat} {k : _} : Ev C A sc (.Constant (.int (Int.ofNat n)) k pos) r b (N n) b := Ev.int

theorem Ev.natI {C : Cx} {A : Around} {sc : List (Str × NameKind)} {r : Loc} {b : Boxes} {pos : Pos} {i : Int} {n : Nat} {k : _} (h : i = Int.ofNat n) : Ev C A sc (.Constant (.int i) k pos) r b (N n) b := by rw [h]; exact Ev.nat
section
variable {C : Cx} {A : Around} {sc : List (Str × NameKind)} {r : Loc} {b : Boxes} {pos : Pos} {k : Nat}
theorem Ev.n0 : Ev C A sc (.Constant (.int 0) k pos) r b (N 0) b := Ev.nat
theorem Ev.n1 : Ev C A sc (.Constant (.int 1) k pos) r b (N 1) b := Ev.nat
theorem Ev.n2 : Ev C A sc (.Constant (.int 2) k pos) r b (N 2) b := Ev.nat
theorem Ev.n3 : Ev C A sc (.Constant (.int 3) k pos) r b (N 3) b := Ev.nat
theorem Ev.n5 : Ev C A sc (.Constant (.int 5) k pos) r b (N 5) b := Ev.nat
theorem Ev.n7 : Ev C A sc (.Constant (.int 7) k pos) r b (N 7) b := Ev.nat
theorem Ev.n63 : Ev C A sc (.Constant (.int 63) k pos) r b (N 63) b := Ev.nat
theorem Ev.n100003 : Ev C A sc (.Constant (.int 100003) k pos) r b (N 100003) b := Ev.nat
theorem Ev.n48271 : Ev C A sc (.Constant (.int 48271) k pos) r b (N 48271) b := Ev.nat
theorem Ev.n2147483647 : Ev C A sc (.Constant (.int 2147483647) k pos) r b (N 2147483647) b := Ev.nat
end
/-- the text's facts -/
structure G (C : Cx) (mg mb : Str → Option Value) : Prop where
  B : Bs C mg mb
  fn : ∀ i, (i < 21 ∧ i ≠ 0 ∧ i ≠ 15) → FnAt C mg (dName (defAt i)) (dParams (defAt i)) (dBody (defAt i)) (dScope (defAt i))
  no : ∀ x, x ∈ (["len", "range", "max", "min", "sum", "list", "tuple"] : List String) → mg (Str.ofString x) = none
  bi : ∀ x, x ∈ (["len", "max", "min", "sum"] : List String) → mb (Str.ofString x) = some (.builtin x)
  ty : ∀ x, x ∈ (["range", "list", "tuple"] : List String) → mb (Str.ofString x) = some (.type x)

section
variable {C : Cx} {mg mb : Str → Option Value} {A : Around} {b b' b1 : Boxes} {sc : List (Str × NameKind)} {r : Loc}
theorem Tr.to {e : Expr} {t t' : Bool} (h : Tr C A sc e r b t b') (q : t = t') : Tr C A sc e r b t' b' := q ▸ h
theorem Ev.to {e : Expr} {t t' : V} (h : Ev C A sc e r b t b') (q : t = t') : Ev C A sc e r b t' b' := q ▸ h
end

/- the mirrors -/
def fullT (k : Nat) : Nat := (1 <<< (1 <<< k)) - 1
def varT (i k : Nat) : Nat := fullT k ^^^ fullT k / ((1 <<< (1 <<< i)) + 1)
def cofT (t i bit k : Nat) : Nat :=
  if bit = 1 then (t &&& varT i k) ||| (t &&& varT i k) >>> (1 <<< i)
  else (t ^^^ (t &&& varT i k)) ||| (t ^^^ (t &&& varT i k)) <<< (1 <<< i)
def depT (t i k : Nat) : Bool := decide (cofT t i 0 k ≠ cofT t i 1 k)

theorem sh5 {k : Nat} (h : k ≤ 5) : 1 <<< k ≤ 32 := by
  have : k = 0 ∨ k = 1 ∨ k = 2 ∨ k = 3 ∨ k = 4 ∨ k = 5 := by omega
  rcases this with h | h | h | h | h | h <;> subst h <;> decide
theorem shp (k : Nat) : 1 ≤ 1 <<< k := by rw [Nat.one_shiftLeft]; exact Nat.one_le_two_pow
theorem fullT_lt {k : Nat} (h : k ≤ 5) : fullT k < 4294967296 := by
  have : k = 0 ∨ k = 1 ∨ k = 2 ∨ k = 3 ∨ k = 4 ∨ k = 5 := by omega
  rcases this with h | h | h | h | h | h <;> subst h <;> decide

section
variable {C : Cx} {mg mb : Str → Option Value} {A : Around} {b b' b1 : Boxes} {sc : List (Str × NameKind)} {r r' : Loc} {pos p px : Pos}
theorem Exs.retS {e : Expr} {v : V} {sts : List Stmt} (h : Ev C A sc e r b v b1) : Exs C A sc (.Return (some e) pos :: sts) r b (.ret v) r b1 := Exs.ret (Ex.ret h)
theorem ExsE.to {st : List Stmt} {v v' : V} {b1 b' : Boxes} (h : Exs C A sc st r b (.ret v) r' b1) (hv : v = v') (hb : b1 = b') : ExsE C A sc st r b (.ret v') b' := by
  subst hv hb; exact ⟨r', h⟩
end

section
variable {C : Cx} {mg mb : Str → Option Value} {A : Around} {b b' b1 b2 : Boxes} {sc : List (Str × NameKind)} {r r' : Loc} {pos p px : Pos} {fl : Fl}
theorem Ev.lenQ {e : Expr} {v : V} {l : List V} (g : G C mg mb) (hk : sc.lookup (Str.ofString "len") = some .globalImplicit) (h1 : Ev C A sc e r b v b1) (h2 : SqV b1 v l) (hl : l.length ≤ 1000000)
    (he : ∀ env, starEach [e] env = (false, eval e env) :: starEach [] env := by intro _; with_unfolding_all rfl) : Ev C A sc (.Call (.Name (Str.ofString "len") p) [e] [] pos) r b (N l.length) b1 :=
  Ev.callB g.B hk (g.no "len" (by decide)) (g.bi "len" (by decide)) (EvL.cons h1 EvL.nil he) (CallV.lenQ h2 hl) (by decide +kernel) he (by intro _; with_unfolding_all rfl)
theorem Ev.rangeN {e : Expr} {n : Nat} (g : G C mg mb) (hk : sc.lookup (Str.ofString "range") = some .globalImplicit) (h1 : Ev C A sc e r b (N n) b1)
    (he : ∀ env, starEach [e] env = (false, eval e env) :: starEach [] env := by intro _; with_unfolding_all rfl) : Ev C A sc (.Call (.Name (Str.ofString "range") p) [e] [] pos) r b (.rng n) b1 :=
  Ev.callT g.B hk (g.no "range" (by decide)) (g.ty "range" (by decide)) (EvL.cons h1 EvL.nil he) CallV.range (by decide +kernel) he (by intro _; with_unfolding_all rfl)
theorem Ev.listQ {e : Expr} {v : V} {l : List V} (g : G C mg mb) (hk : sc.lookup (Str.ofString "list") = some .globalImplicit) (h1 : Ev C A sc e r b v b1) (h2 : SeqV b1 v l) (hl : l.length ≤ 1000000)
    (he : ∀ env, starEach [e] env = (false, eval e env) :: starEach [] env := by intro _; with_unfolding_all rfl) : Ev C A sc (.Call (.Name (Str.ofString "list") p) [e] [] pos) r b (.list l) b1 :=
  Ev.callT g.B hk (g.no "list" (by decide)) (g.ty "list" (by decide)) (EvL.cons h1 EvL.nil he) (CallV.list h2 hl) (by decide +kernel) he (by intro _; with_unfolding_all rfl)
theorem Ev.tupleQ {e : Expr} {v : V} {l : List V} (g : G C mg mb) (hk : sc.lookup (Str.ofString "tuple") = some .globalImplicit) (h1 : Ev C A sc e r b v b1) (h2 : SeqV b1 v l) (hl : l.length ≤ 1000000)
    (he : ∀ env, starEach [e] env = (false, eval e env) :: starEach [] env := by intro _; with_unfolding_all rfl) : Ev C A sc (.Call (.Name (Str.ofString "tuple") p) [e] [] pos) r b (.tup l) b1 :=
  Ev.callT g.B hk (g.no "tuple" (by decide)) (g.ty "tuple" (by decide)) (EvL.cons h1 EvL.nil he) (CallV.tuple h2 hl) (by decide +kernel) he (by intro _; with_unfolding_all rfl)
theorem Ev.sumQ {e : Expr} {v : V} {ns : List Int} (g : G C mg mb) (hh : A.handled = none) (hk : sc.lookup (Str.ofString "sum") = some .globalImplicit) (h1 : Ev C A sc e r b v b1) (h2 : IntsV b1 v ns)
    (he : ∀ env, starEach [e] env = (false, eval e env) :: starEach [] env := by intro _; with_unfolding_all rfl) : Ev C A sc (.Call (.Name (Str.ofString "sum") p) [e] [] pos) r b (.int ns.sum) b1 :=
  Ev.callB g.B hk (g.no "sum" (by decide)) (g.bi "sum" (by decide)) (EvL.cons h1 EvL.nil he) (CallV.sum hh h2) (by decide +kernel) he (by intro _; with_unfolding_all rfl)
theorem Ev.maxQ {e e2 : Expr} {m n : Nat} (g : G C mg mb) (hh : A.handled = none) (hk : sc.lookup (Str.ofString "max") = some .globalImplicit) (h1 : Ev C A sc e r b (N m) b1) (h2 : Ev C A sc e2 r b1 (N n) b2)
    (he : ∀ env, starEach [e, e2] env = (false, eval e env) :: starEach [e2] env := by intro _; with_unfolding_all rfl)
    (he2 : ∀ env, starEach [e2] env = (false, eval e2 env) :: starEach [] env := by intro _; with_unfolding_all rfl)
    (hp : ∀ env, (backTo pos (starEach [e2] env)).any (·.1) = false := by intro _; with_unfolding_all rfl) : Ev C A sc (.Call (.Name (Str.ofString "max") p) [e, e2] [] pos) r b (N (Nat.max m n)) b2 :=
  Ev.callB g.B hk (g.no "max" (by decide)) (g.bi "max" (by decide)) (EvL.cons h1 (EvL.cons h2 EvL.nil he2) he) (CallV.maxN hh) (by decide +kernel) he hp
theorem Ev.minQ {e e2 : Expr} {m n : Nat} (g : G C mg mb) (hh : A.handled = none) (hk : sc.lookup (Str.ofString "min") = some .globalImplicit) (h1 : Ev C A sc e r b (N m) b1) (h2 : Ev C A sc e2 r b1 (N n) b2)
    (he : ∀ env, starEach [e, e2] env = (false, eval e env) :: starEach [e2] env := by intro _; with_unfolding_all rfl)
    (he2 : ∀ env, starEach [e2] env = (false, eval e2 env) :: starEach [] env := by intro _; with_unfolding_all rfl)
    (hp : ∀ env, (backTo pos (starEach [e2] env)).any (·.1) = false := by intro _; with_unfolding_all rfl) : Ev C A sc (.Call (.Name (Str.ofString "min") p) [e, e2] [] pos) r b (N (Nat.min m n)) b2 :=
  Ev.callB g.B hk (g.no "min" (by decide)) (g.bi "min" (by decide)) (EvL.cons h1 (EvL.cons h2 EvL.nil he2) he) (CallV.minN hh) (by decide +kernel) he hp
structure ExsN (C : Cx) (A : Around) (sc : List (Str × NameKind)) (st : List Stmt) (r : Loc) (b : Boxes) (R : Loc) (b' : Boxes) : Prop where
  ex : ∃ r1, Exs C A sc st r b .next r1 b' ∧ Sub R r1
theorem ExsN.of {st : List Stmt} {R : Loc} (h : Exs C A sc st r b .next r' b') (q : Sub R r') : ExsN C A sc st r b R b' := ⟨⟨_, h, q⟩⟩
theorem Exs.forR {x : Str} {iter : Expr} {body sts : List Stmt} {n : Nat} (R : Nat → Loc) (Bx : Nat → Boxes) (hh : A.handled = none) (hk : sc.lookup x = some .local ∨ sc.lookup x = some .cell) (h1 : Ev C A sc iter r b (.rng n) b1) (hn : n < 1000000)
    (h0 : Sub (R 0) r) (hb : b1 = Bx 0) (hbody : ∀ i, i < n → ExsN C A sc body ((x, N i) :: R i) (Bx i) (R (i + 1)) (Bx (i + 1)))
    (rest : Exs C A sc sts (R n) (Bx n) fl r' b') (hs : ∀ env x, foldedSetIterable iter env x = pure x := by intro _ _; with_unfolding_all rfl) : Exs C A sc (.For (.Name x px) iter body [] pos :: sts) r b fl r' b' := by
  subst hb
  refine Exs.cons ?_ rest
  have hl := Loop.range (C := C) (A := A) (sc := sc) (x := x) (body := body) (n := n) R Bx fun i hi => (hbody i hi).ex
  have h2 : Ev C A sc iter r b (.rng n) (Bx 0) := h1
  exact Ex.for hh hk h2 (.rng n hn) (Loop.sub0 hl h0) hs
theorem Exs.forL {x : Str} {iter : Expr} {body sts : List Stmt} {v : V} {vs : List V} (R : Nat → Loc) (Bx : Nat → Boxes) (hh : A.handled = none) (hk : sc.lookup x = some .local ∨ sc.lookup x = some .cell) (h1 : Ev C A sc iter r b v b1) (hn : ItV b1 v vs)
    (h0 : Sub (R 0) r) (hb : b1 = Bx 0) (hbody : ∀ i (hi : i < vs.length), ExsN C A sc body ((x, vs[i]) :: R i) (Bx i) (R (i + 1)) (Bx (i + 1)))
    (rest : Exs C A sc sts (R vs.length) (Bx vs.length) fl r' b') (hs : ∀ env x, foldedSetIterable iter env x = pure x := by intro _ _; with_unfolding_all rfl) : Exs C A sc (.For (.Name x px) iter body [] pos :: sts) r b fl r' b' := by
  subst hb
  refine Exs.cons ?_ rest
  have hl := Loop.idx (C := C) (A := A) (sc := sc) (x := x) (body := body) R Bx vs 0 (by simpa using fun i hi => (hbody i hi).ex)
  simp only [Nat.zero_add] at hl
  exact Ex.for hh hk h1 hn (Loop.sub0 hl h0) hs
end
theorem Ex.toB {C : Cx} {A : Around} {sc : List (Str × NameKind)} {st : Stmt} {r r' : Loc} {b b1 b2 : Boxes} {fl : Fl} (h : Ex C A sc st r b fl r' b1) (e : b1 = b2) : Ex C A sc st r b fl r' b2 := e ▸ h
theorem Exs.toB {C : Cx} {A : Around} {sc : List (Str × NameKind)} {st : List Stmt} {r r' : Loc} {b b1 b2 : Boxes} {fl : Fl} (h : Exs C A sc st r b fl r' b1) (e : b1 = b2) : Exs C A sc st r b fl r' b2 := e ▸ h
theorem get_last {α : Type} {b : List α} {l : α} : (b ++ [l])[b.length]? = some l := by simp
theorem set_last {α : Type} {b : List α} {l m : α} : (b ++ [l]).set b.length m = b ++ [m] := by simp
theorem Ex.appendL {C : Cx} {A : Around} {sc : List (Str × NameKind)} {r : Loc} {pos : Pos} {o e : Expr} {ap cp : Pos} {v : V} {b : Boxes} {l : List V} (h1 : Ev C A sc o r (b ++ [l]) (.box b.length) (b ++ [l])) (h2 : EvL C A sc cp [e] r (b ++ [l]) [v] (b ++ [l])) (hl : l.length ≤ 1000000)
    (hm : ∀ env, ∃ pl, eval (.Call (.Attribute o (Str.ofString "append") ap) [e] [] cp) env = (do
      let ov ← eval o env
      standAt ap.atName
      let (f, first) ← holding [ov] (getMethod ov (Str.ofString "append") pl)
      callWith cp f first (backTo cp (starEach [e] env)) []))
    (hs : ∀ env, swapsWith (.Call (.Attribute o (Str.ofString "append") ap) [e] [] cp) none pos.line env = pure false)
    (he : ∀ env, starEach [e] env = (false, eval e env) :: starEach [] env) :
    Ex C A sc (.Expr (.Call (.Attribute o (Str.ofString "append") ap) [e] [] cp) pos) r (b ++ [l]) .next r (b ++ [l ++ [v]]) :=
  Ex.toB (Ex.append h1 h2 get_last hl hm hs he) set_last
def notComp : Expr → Bool
  | .ListComp .. => false
  | _ => true
section
variable {C : Cx} {A : Around} {sc : List (Str × NameKind)} {r r1 r2 r' : Loc} {b b1 b2 b' : Boxes} {pos p : Pos} {fl : Fl} {sts : List Stmt}
theorem Exs.asg {x : Str} {e : Expr} {v : V} (hne : notComp e = true) (hk : sc.lookup x = some .local ∨ sc.lookup x = some .cell) (h : Ev C A sc e r b v b1)
    (hs : ∀ env, EnvOK env sc → swapsWith e (some (.Name x p)) pos.line env = pure false) (rest : Exs C A sc sts ((x, v) :: r) b1 fl r2 b2) : Exs C A sc (.Assign [.Name x p] e pos :: sts) r b fl r2 b2 := Exs.cons (Ex.assign hk h hs) rest
theorem Exs.augS {x : Str} {e : Expr} {op : Operator} {u v w : V} (hk : sc.lookup x = some .local ∨ sc.lookup x = some .cell) (h0 : r.lookup x = some u) (h : Ev C A sc e r b v b1) (h2 : Iop C A op u v b1 w)
    (rest : Exs C A sc sts ((x, w) :: r) b1 fl r2 b2) : Exs C A sc (.AugAssign (.Name x p) op e pos :: sts) r b fl r2 b2 := Exs.cons (Ex.aug hk h0 h h2) rest
theorem Exs.appS {o e : Expr} {ap cp : Pos} {v : V} {l : List V} (h1 : Ev C A sc o r (b ++ [l]) (.box b.length) (b ++ [l])) (h2 : EvL C A sc cp [e] r (b ++ [l]) [v] (b ++ [l])) (hl : l.length ≤ 1000000)
    (hm : ∀ env, ∃ pl, eval (.Call (.Attribute o (Str.ofString "append") ap) [e] [] cp) env = (do
      let ov ← eval o env
      standAt ap.atName
      let (f, first) ← holding [ov] (getMethod ov (Str.ofString "append") pl)
      callWith cp f first (backTo cp (starEach [e] env)) []))
    (hs : ∀ env, swapsWith (.Call (.Attribute o (Str.ofString "append") ap) [e] [] cp) none pos.line env = pure false)
    (he : ∀ env, starEach [e] env = (false, eval e env) :: starEach [] env) (rest : Exs C A sc sts r (b ++ [l ++ [v]]) fl r2 b2) :
    Exs C A sc (.Expr (.Call (.Attribute o (Str.ofString "append") ap) [e] [] cp) pos :: sts) r (b ++ [l]) fl r2 b2 := Exs.cons (Ex.appendL h1 h2 hl hm hs he) rest
theorem Wh.count {test : Expr} {body : List Stmt} (R : Nat → Loc) (hstop : Tr C A sc test (R 0) b false b) : ∀ d, (∀ j, j < d → Tr C A sc test (R (j + 1)) b true b) → (∀ j, j < d → ExsN C A sc body (R (j + 1)) b (R j) b) → Wh C A sc test body d (R d) b .next (R 0) b
  | 0, _, _ => .stop hstop Sub.refl
  | d + 1, h1, h2 => by
    obtain ⟨r1, h3, h4⟩ := (h2 d (Nat.lt_succ_self d)).ex
    exact .go (h1 d (Nat.lt_succ_self d)) (Exs.sub h3 Sub.refl h4) (Wh.count R hstop d (fun j hj => h1 j (by omega)) fun j hj => h2 j (by omega))
theorem Exs.whileC {test : Expr} {body : List Stmt} {d : Nat} (R : Nat → Loc) (h0 : Sub (R d) r) (hstop : Tr C A sc test (R 0) b false b) (hgo : ∀ j, j < d → Tr C A sc test (R (j + 1)) b true b)
    (hbody : ∀ j, j < d → ExsN C A sc body (R (j + 1)) b (R j) b) (rest : Exs C A sc sts (R 0) b fl r' b') : Exs C A sc (.While test body [] pos :: sts) r b fl r' b' :=
  Exs.cons (Ex.sub (Ex.while (Wh.count R hstop d hgo hbody)) h0 Sub.refl) rest
theorem Iop.subN1 {j : Nat} : Iop C A .Sub (N (j + 1)) (N 1) b (N j) := by
  have := Iop.sub (C := C) (A := A) (x := ((j + 1 : Nat) : Int)) (y := 1) (b := b)
  have e : ((j + 1 : Nat) : Int) - 1 = (j : Int) := by omega
  rw [e] at this; exact this
end
theorem lk {x : Str} {α : Type} {r : List (Str × α)} {v : Option α} (h : r.lookup x = v) : r.lookup x = v := h
theorem dbgL {x y : Str} (h : (x == y) = false) : (x == y) = false := h
theorem lkO {x : Str} {α : Type} {r : List (Str × α)} {v w : Option α} (h : r.lookup x = v ∨ r.lookup x = w) : r.lookup x = v ∨ r.lookup x = w := h
theorem cokL {sc names : List (Str × NameKind)} {x : Str} (h : compOkB sc names x = true) : compOkB sc names x = true := h
theorem Ev.compR {C : Cx} {A : Around} {sc : List (Str × NameKind)} {r r' : Loc} {b : Boxes} {pos px : Pos} {x : Str} {elt iter : Expr} {scope : Scope} {n : Nat} (ys : Nat → V)
    (hh : A.handled = none) (hok : compOkB sc scope.names x = true) (hsub : SubF r' scope.names r) (h1 : Ev C A sc iter r b (.rng n) b) (hn : n < 1000)
    (h3 : ∀ i, i < n → Ev C A (relN sc scope.names) elt ((x, N i) :: r') b (ys i) b) (hkind : scope.kind = .function)
    (hs : ∀ env x, foldedSetIterable iter env x = pure x) :
    Ev C A sc (.ListComp elt [⟨.Name x px, iter, [], 0⟩] scope pos) r b (.list ((List.range n).map ys)) b :=
  Ev.comp hh hok hsub h1 (.rng n (by omega)) (Cmp.range0 ys h3) (by simp; omega) hkind hs
theorem Ev.compL {α : Type} {C : Cx} {A : Around} {sc : List (Str × NameKind)} {r r' : Loc} {b : Boxes} {pos px : Pos} {x : Str} {elt iter : Expr} {scope : Scope} {v : V} (g ys : α → V) (l : List α)
    (hh : A.handled = none) (hok : compOkB sc scope.names x = true) (hsub : SubF r' scope.names r) (h1 : Ev C A sc iter r b v b) (h2 : ItV b v (l.map g)) (hn : l.length < 1000)
    (h3 : ∀ a, a ∈ l → Ev C A (relN sc scope.names) elt ((x, g a) :: r') b (ys a) b) (hkind : scope.kind = .function)
    (hs : ∀ env x, foldedSetIterable iter env x = pure x) :
    Ev C A sc (.ListComp elt [⟨.Name x px, iter, [], 0⟩] scope pos) r b (.list (l.map ys)) b :=
  Ev.comp hh hok hsub h1 h2 (Cmp.map0 g ys l h3) (by simp; omega) hkind hs
theorem Ex.assignR {C : Cx} {A : Around} {sc : List (Str × NameKind)} {r r' : Loc} {b : Boxes} {pos px py spos : Pos} {x y : Str} {elt iter : Expr} {scope : Scope} {n : Nat} (ys : Nat → V)
    (hh : A.handled = none) (hy : sc.lookup y = some .local) (hok : compOkB sc scope.names x = true) (hsub : SubF r' scope.names r) (h1 : Ev C A sc iter r b (.rng n) b) (hn : n < 1000)
    (h3 : ∀ i, i < n → Ev C A (relN sc scope.names) elt ((x, N i) :: r') b (ys i) b) (hline : (py.line == pos.line) = true)
    (hno : (scope.names.any fun (n, k) => n == y && (k == .local || k == .cell)) = false) (hkind : scope.kind = .function)
    (hs : ∀ env x, foldedSetIterable iter env x = pure x) :
    Ex C A sc (.Assign [.Name y py] (.ListComp elt [⟨.Name x px, iter, [], 0⟩] scope pos) spos) r b .next ((y, .list ((List.range n).map ys)) :: r) b :=
  Ex.assignC hh hy hok hsub h1 (.rng n (by omega)) (Cmp.range0 ys h3) (by simp; omega) hline hno hkind hs
theorem map_mapN (f : Nat → Nat) (l : List Nat) : (l.map f).map N = l.map fun i => N (f i) := by rw [List.map_map]; rfl
theorem Ev.compN {C : Cx} {A : Around} {sc : List (Str × NameKind)} {r r' : Loc} {b : Boxes} {pos px : Pos} {x : Str} {elt iter : Expr} {scope : Scope} {n : Nat} (f : Nat → Nat)
    (hh : A.handled = none) (hok : compOkB sc scope.names x = true) (hsub : SubF r' scope.names r) (h1 : Ev C A sc iter r b (.rng n) b) (hn : n < 1000)
    (h3 : ∀ i, i < n → Ev C A (relN sc scope.names) elt ((x, N i) :: r') b (N (f i)) b) (hkind : scope.kind = .function)
    (hs : ∀ env x, foldedSetIterable iter env x = pure x) :
    Ev C A sc (.ListComp elt [⟨.Name x px, iter, [], 0⟩] scope pos) r b (.list (((List.range n).map f).map N)) b := by
  rw [map_mapN]; exact Ev.compR (fun i => N (f i)) hh hok hsub h1 hn h3 hkind hs
theorem Ex.assignN {C : Cx} {A : Around} {sc : List (Str × NameKind)} {r r' : Loc} {b : Boxes} {pos px py spos : Pos} {x y : Str} {elt iter : Expr} {scope : Scope} {n : Nat} (f : Nat → Nat)
    (hh : A.handled = none) (hy : sc.lookup y = some .local) (hok : compOkB sc scope.names x = true) (hsub : SubF r' scope.names r) (h1 : Ev C A sc iter r b (.rng n) b) (hn : n < 1000)
    (h3 : ∀ i, i < n → Ev C A (relN sc scope.names) elt ((x, N i) :: r') b (N (f i)) b) (hline : (py.line == pos.line) = true)
    (hno : (scope.names.any fun (n, k) => n == y && (k == .local || k == .cell)) = false) (hkind : scope.kind = .function)
    (hs : ∀ env x, foldedSetIterable iter env x = pure x) :
    Ex C A sc (.Assign [.Name y py] (.ListComp elt [⟨.Name x px, iter, [], 0⟩] scope pos) spos) r b .next ((y, .list (((List.range n).map f).map N)) :: r) b := by
  rw [map_mapN]; exact Ex.assignR (fun i => N (f i)) hh hy hok hsub h1 hn h3 hline hno hkind hs
theorem llen {α : Type} {l : List α} {n : Nat} (h : l.length ≤ n) : l.length ≤ n := h
end Mine
end
section
open PySem PySem.W PyProof.Rows
set_option Elab.async false
set_option linter.all false
set_option maxRecDepth 100000
namespace Mine
local macro_rules | `(tactic| keq_rows) => `(tactic| first
  | with_reducible assumption
  | omega
  | (with_reducible first | exact OKA.mono (by assumption) (by omega) | exact shp _ | exact Nat.succ_pos _)
  | ((with_reducible refine Nat.le_trans (sh5 ?_) ?_) <;> omega)
  | ((with_reducible refine Nat.lt_of_le_of_lt Nat.and_le_right ?_); omega)
  | (with_reducible first | exact mapN_get (by assumption) | exact FzV.sq (by assumption))
  | (rw [List.length_map]; omega)
  | ((with_reducible refine llen ?_); simp))
local macro_rules | `(tactic| kp_flats) => `(tactic| repeat' (first
  | ((with_reducible refine lk ?_); exact (rfl : _ = _))
  | ((with_reducible refine lkO ?_); first | exact Or.inl rfl | exact Or.inr rfl)
  | (intro _; rfl)
  | (intro _ _; rfl)
  | ((with_reducible refine dbgL ?_); decide +kernel)
  | ((with_reducible refine cokL ?_); decide +kernel)
  | (with_reducible first | exact SubF.nil | apply SubF.cons | exact EvL.nil | apply EvL.cons | exact Ev.n1 | exact Ev.n0 | exact Ev.n2 | exact Ev.n3 | exact Ev.n5 | exact Ev.n7 | exact Ev.n63 | exact Ev.n100003 | exact Ev.n48271 | exact Ev.n2147483647 | apply Ev.name | exact Ev.bool | apply Ev.binop | exact Bop.addN | exact Bop.andN | exact Bop.orN | exact Bop.xorN | exact Bop.shrN | apply Bop.shlN | apply Bop.subN | apply Bop.fdivN | apply Bop.fmodN | apply Bop.mulN | apply Bop.powN | apply Ev.lenQ ‹G _ _ _› | apply Ev.rangeN ‹G _ _ _› | apply Ev.listQ ‹G _ _ _› | apply Ev.tupleQ ‹G _ _ _› | apply Ev.maxQ ‹G _ _ _› (OKA.h ‹_›) | apply Ev.minQ ‹G _ _ _› (OKA.h ‹_›) | apply Ev.callF (G.B ‹G _ _ _›) | apply Ev.itemQ | apply Ev.tupD | apply Ev.listD | apply Ev.cmp | exact Cop.eqN | exact Cop.neN | exact Cop.geN | exact Cop.gtN | exact Cop.leN | exact Cop.neB | exact Iop.andN | exact Iop.orN | apply Tr.cmp | apply Tr.not | apply Tr.boolop | apply Tr.val | apply Exs.retS | apply Ex.appendL)
  | ((with_reducible apply Exs.asg); exact (rfl : _ = true))
  | (with_reducible first | apply Exs.augS | apply Exs.appS | exact Exs.nil)
  | k_subL
  | (with_reducible first | exact ItV.list _ | exact Cop.eqN | exact ItV.range (by omega) | exact SqV.list _ | exact SqV.tup _ | exact SeqV.list _ | exact Sub.refl | apply Sub.cons | exact Sub.nil)
  | keq_rows
  | exact (rfl : _ = _)
  | (intro _; exact ⟨_, rfl⟩)))
local macro_rules | `(tactic| keq_hits) => `(tactic| ((with_reducible apply ExsE.to); (conv => pattern (dBody _); whnf); (conv => pattern (Scope.names _); whnf)))
section

def supM (t k : Nat) : Nat → List Nat
  | 0 => []
  | i + 1 => if depT t i k = true then supM t k i ++ [i] else supM t k i
def spreadM (m : Nat) (ps : List Nat) : Nat → Nat
  | 0 => 0
  | j + 1 => spreadM m ps j ||| ((m >>> j &&& 1) <<< ps.getD j 0)
def permM (t : Nat) (f : Nat → Nat) : Nat → Nat
  | 0 => 0
  | m + 1 => permM t f m ||| ((t >>> f m &&& 1) <<< m)
def gatherM (m : Nat) (ps : List Nat) : Nat → Nat
  | 0 => 0
  | j + 1 => gatherM m ps j ||| ((m >>> ps.getD j 0 &&& 1) <<< j)
def flipT (t i k : Nat) : Nat := (t &&& varT i k) >>> (1 <<< i) ||| (t ^^^ (t &&& varT i k)) <<< (1 <<< i)
def swapU (t lo hi k : Nat) : Nat := t &&& varT lo k &&& (fullT k ^^^ varT hi k)
def swapD (t lo hi k : Nat) : Nat := t &&& varT hi k &&& (fullT k ^^^ varT lo k)
def swapT (t i j k : Nat) : Nat :=
  if i = j then t else
    (t ^^^ swapU t (Nat.min i j) (Nat.max i j) k ^^^ swapD t (Nat.min i j) (Nat.max i j) k)
      ||| (swapU t (Nat.min i j) (Nat.max i j) k) <<< ((1 <<< Nat.max i j) - (1 <<< Nat.min i j))
      ||| (swapD t (Nat.min i j) (Nat.max i j) k) >>> ((1 <<< Nat.max i j) - (1 <<< Nat.min i j))
def cubeM (pl va k : Nat) : Nat → Nat
  | 0 => fullT k
  | i + 1 => if pl >>> i &&& 1 = 1 then (if va >>> i &&& 1 = 1 then cubeM pl va k i &&& varT i k else cubeM pl va k i &&& (fullT k ^^^ varT i k)) else cubeM pl va k i
def cubeT (c : Nat × Nat) (k : Nat) : Nat := cubeM c.1 c.2 k k
def coverT (cs : List (Nat × Nat)) (k : Nat) : Nat := cs.foldl (fun a c => a ||| cubeT c k) 0
def cubeV (c : Nat × Nat) : V := .tup [N c.1, N c.2]

section
variable {C : Cx} {mg mb : Str → Option Value} {A : Around} {b : Boxes}

theorem c_full (g : G C mg mb) {k : Nat} (hk : k ≤ 5) (hA : OKA 1 A) : CallF C mg A "full_table" [N k] b (N (fullT k)) b := by
  refine CallF.def0 (bx := []) (r := [("k", N k)]) hA g.B (g.fn 1 (by decide)) (fun pm cd doc vals hl => by
    match vals, hl with
    | [v], _ => rfl) (by rfl) (by decide +kernel) (by rfl) (fun A' hA' => ?_) (.pure _ (.int _))
  rw [List.append_nil]; keq_hits
  kp_flats
local macro_rules | `(tactic| k_subL) => `(tactic| with_reducible apply c_full ‹_›)
theorem q21 {i : Nat} (h : i ≤ 4) : (1 <<< (1 <<< i)) + 1 < 1073741824 := by
  have : i = 0 ∨ i = 1 ∨ i = 2 ∨ i = 3 ∨ i = 4 := by omega
  rcases this with h | h | h | h | h <;> subst h <;> decide
theorem c_var (g : G C mg mb) {i k : Nat} (hk : k ≤ 5) (hi : i ≤ 4) (hA : OKA 2 A) : CallF C mg A "var_table" [N i, N k] b (N (varT i k)) b := by
  have := q21 hi
  refine CallF.def0 (bx := []) (r := [("i", N i), ("k", N k)]) hA g.B (g.fn 2 (by decide)) (fun pm cd doc vals hl => by
    match vals, hl with
    | [v, w], _ => rfl) (by rfl) (by decide +kernel) (by rfl) (fun A' hA' => ?_) (.pure _ (.int _))
  rw [List.append_nil]; keq_hits
  kp_flats
local macro_rules | `(tactic| k_subL) => `(tactic| first | with_reducible apply c_var ‹_› | with_reducible apply c_full ‹_›)
theorem c_cof (g : G C mg mb) {t i bit k : Nat} (ht : t < 4294967296) (hk : k ≤ 5) (hi : i ≤ 4) (hA : OKA 3 A) : CallF C mg A "cofactor" [N t, N i, N bit, N k] b (N (cofT t i bit k)) b := by
  have hx : t ^^^ (t &&& varT i k) < 2 ^ 64 := Nat.xor_lt_two_pow (by omega) (Nat.lt_of_le_of_lt Nat.and_le_left (by omega))
  refine CallF.def0 (bx := []) (r := [("t", N t), ("i", N i), ("bit", N bit), ("k", N k)]) hA g.B (g.fn 3 (by decide)) (fun pm cd doc vals hl => by
    match vals, hl with
    | [_, _, _, _], _ => rfl) (by rfl) (by decide +kernel) (by rfl) (fun A' hA' => ?_) (.pure _ (.int _))
  rw [List.append_nil]
  by_cases hb : bit = 1
  · have e : cofT t i bit k = (t &&& varT i k) ||| (t &&& varT i k) >>> (1 <<< i) := if_pos hb
    rw [e]
    keq_hits
    case h =>
      with_reducible apply Exs.cons
      · with_reducible apply Ex.assign
        all_goals kp_flats
      · refine' Exs.ifRet (Tr.cmp ?_ ?_ Cop.eqN) (decide_eq_true hb) ?_
        all_goals kp_flats
    all_goals rfl
  · have e : cofT t i bit k = (t ^^^ (t &&& varT i k)) ||| (t ^^^ (t &&& varT i k)) <<< (1 <<< i) := if_neg hb
    rw [e]
    keq_hits
    case h =>
      with_reducible apply Exs.cons
      · with_reducible apply Ex.assign
        all_goals kp_flats
      · refine' Exs.ifSkip (Tr.cmp ?_ ?_ Cop.eqN) (decide_eq_false hb) ?_
        all_goals kp_flats
    all_goals rfl
local macro_rules | `(tactic| k_subL) => `(tactic| first | with_reducible apply c_cof ‹_› | with_reducible apply c_var ‹_› | with_reducible apply c_full ‹_›)
theorem c_dep (g : G C mg mb) {t i k : Nat} (ht : t < 4294967296) (hk : k ≤ 5) (hi : i ≤ 4) (hA : OKA 4 A) : CallF C mg A "depends" [N t, N i, N k] b (.bool (depT t i k)) b := by
  refine CallF.def0 (bx := []) (r := [("t", N t), ("i", N i), ("k", N k)]) hA g.B (g.fn 4 (by decide)) (fun pm cd doc vals hl => by
    match vals, hl with
    | [_, _, _], _ => rfl) (by rfl) (by decide +kernel) (by rfl) (fun A' hA' => ?_) (.pure _ (.bool _))
  rw [List.append_nil]; keq_hits
  kp_flats
local macro_rules | `(tactic| k_subL) => `(tactic| first | with_reducible apply c_dep ‹_› | with_reducible apply c_cof ‹_› | with_reducible apply c_var ‹_› | with_reducible apply c_full ‹_›)
theorem c_flip (g : G C mg mb) {t i k : Nat} (ht : t < 4294967296) (hk : k ≤ 5) (hi : i ≤ 4) (hA : OKA 4 A) : CallF C mg A "flip_input" [N t, N i, N k] b (N (flipT t i k)) b := by
  have hx : t ^^^ (t &&& varT i k) < 2 ^ 64 := Nat.xor_lt_two_pow (by omega) (Nat.lt_of_le_of_lt Nat.and_le_left (by omega))
  refine CallF.def0 (bx := []) (r := [("t", N t), ("i", N i), ("k", N k)]) hA g.B (g.fn 10 (by decide)) (fun pm cd doc vals hl => by
    match vals, hl with
    | [_, _, _], _ => rfl) (by rfl) (by decide +kernel) (by rfl) (fun A' hA' => ?_) (.pure _ (.int _))
  rw [List.append_nil]; keq_hits
  kp_flats
end
end
section
theorem supM_length (t k : Nat) : ∀ i, (supM t k i).length ≤ i
  | 0 => Nat.le_refl _
  | i + 1 => by
    have := supM_length t k i
    unfold supM
    split
    · rw [List.length_append]; simp; omega
    · omega
theorem pureL_N (l : List Nat) : PureL (l.map N) := by
  induction l with
  | nil => exact .nil
  | cons a l ih => exact .cons _ _ (.int _) ih
section
variable {C : Cx} {mg mb : Str → Option Value} {A : Around} {b : Boxes}
local macro_rules | `(tactic| k_subL) => `(tactic| first | with_reducible apply c_dep ‹_› | with_reducible apply c_cof ‹_› | with_reducible apply c_var ‹_› | with_reducible apply c_full ‹_›)

theorem c_sup (g : G C mg mb) {t k : Nat} (ht : t < 4294967296) (hk : k ≤ 5) (hA : OKA 5 A) : CallF C mg A "support" [N t, N k] b (.list ((supM t k k).map N)) b := by
  refine CallF.def0 (bx := [(supM t k k).map N]) (r := [("t", N t), ("k", N k)]) hA g.B (g.fn 5 (by decide)) (fun pm cd doc vals hl => by
    match vals, hl with
    | [_, _], _ => rfl) (by rfl) (by decide +kernel) (by rfl) (fun A' hA' => ?_) (.box b.length _ (Nat.le_refl _) get_last (pureL_N _))
  keq_hits
  case h =>
    with_reducible apply Exs.cons
    · with_reducible apply Ex.assign
      all_goals kp_flats
    · with_reducible apply Exs.forR (n := k) (fun i => [("found", .box b.length), ("t", N t), ("k", N k)]) (fun i => b ++ [(supM t k i).map N]) hA'.h
      case hbody =>
        intro i hi
        have hlen := supM_length t k i
        with_reducible apply ExsN.of
        · by_cases hd : depT t i k = true
          · have e : supM t k (i + 1) = supM t k i ++ [i] := if_pos hd
            rw [e, List.map_append]
            simp only [List.map_cons, List.map_nil]
            with_reducible apply Exs.ifGo (q := hd)
            all_goals kp_flats
          · have e : supM t k (i + 1) = supM t k i := if_neg hd
            rw [e]
            with_reducible apply Exs.ifElse (q := eq_false_of_ne_true hd)
            all_goals kp_flats
        · kp_flats
      all_goals kp_flats
  all_goals rfl
local macro_rules | `(tactic| k_subL) => `(tactic| first | with_reducible apply c_sup ‹_› | with_reducible apply c_dep ‹_› | with_reducible apply c_cof ‹_› | with_reducible apply c_var ‹_› | with_reducible apply c_full ‹_›)
theorem c_spread (g : G C mg mb) {m : Nat} {ps : List Nat} {v : V} (hv : FzV v (ps.map N)) (hps : ∀ j, ps.getD j 0 ≤ 5) (hl : ps.length ≤ 5) (hA : OKA 1 A) : CallF C mg A "spread" [N m, v] b (N (spreadM m ps ps.length)) b := by
  refine CallF.def0 (bx := []) (r := [("m", N m), ("places", v)]) hA g.B (g.fn 6 (by decide)) (fun pm cd doc vals hl => by
    match vals, hl with
    | [_, _], _ => rfl) (by rfl) (by decide +kernel) (by rfl) (fun A' hA' => ?_) (.pure _ (.int _))
  rw [List.append_nil]
  keq_hits
  case h =>
    have hm : (ps.map N).length = ps.length := List.length_map _
    with_reducible apply Exs.cons
    · with_reducible apply Ex.assign
      all_goals kp_flats
    · with_reducible apply Exs.forR (n := (ps.map N).length) (fun j => [("row", N (spreadM m ps j)), ("m", N m), ("places", v)]) (fun _ => b) hA'.h
      case hbody =>
        intro j hj
        have hj' : j < ps.length := by omega
        have h5 := hps j
        with_reducible apply ExsN.of
        · kp_flats
        · kp_flats
      all_goals kp_flats
  all_goals first | rfl | (rw [List.length_map])
theorem pl_le {ps : List Nat} (h : ∀ p, p ∈ ps → p ≤ 5) (j : Nat) : ps.getD j 0 ≤ 5 := by
  by_cases hj : j < ps.length
  · have e : ps.getD j 0 = ps[j] := by simp [List.getD, hj]
    rw [e]; exact h _ (List.getElem_mem _)
  · have e : ps.getD j 0 = 0 := by simp [List.getD, List.getElem?_eq_none (Nat.le_of_not_lt hj)]
    omega
local macro_rules | `(tactic| k_subL) => `(tactic| first | with_reducible apply c_spread ‹_› | with_reducible apply c_sup ‹_› | with_reducible apply c_dep ‹_› | with_reducible apply c_cof ‹_› | with_reducible apply c_var ‹_› | with_reducible apply c_full ‹_›)
theorem c_perm (g : G C mg mb) {t k : Nat} {ps : List Nat} {v : V} (hv : FzV v (ps.map N)) (hps : ∀ j, ps.getD j 0 ≤ 5) (hl : ps.length ≤ 5) (hk : k ≤ 5) (hA : OKA 2 A) : CallF C mg A "permute" [N t, v, N k] b (N (permM t (fun m => spreadM m ps ps.length) (1 <<< k))) b := by
  refine CallF.def0 (bx := []) (r := [("t", N t), ("order", v), ("k", N k)]) hA g.B (g.fn 7 (by decide)) (fun pm cd doc vals hl => by
    match vals, hl with
    | [_, _, _], _ => rfl) (by rfl) (by decide +kernel) (by rfl) (fun A' hA' => ?_) (.pure _ (.int _))
  rw [List.append_nil]
  keq_hits
  case h =>
    have hm := sh5 hk
    with_reducible apply Exs.cons
    · with_reducible apply Ex.assign
      all_goals kp_flats
    · with_reducible apply Exs.forR (n := 1 <<< k) (fun m => [("result", N (permM t (fun m => spreadM m ps ps.length) m)), ("t", N t), ("order", v), ("k", N k)]) (fun _ => b) hA'.h
      case hbody =>
        intro j hj
        with_reducible apply ExsN.of
        · kp_flats
        · kp_flats
      all_goals kp_flats
  all_goals rfl
theorem supM_lt (t k : Nat) : ∀ i p, p ∈ supM t k i → p < i
  | 0, p, h => nomatch h
  | i + 1, p, h => by
    unfold supM at h
    split at h
    · rcases List.mem_append.mp h with h | h
      · have := supM_lt t k i p h; omega
      · simp at h; omega
    · have := supM_lt t k i p h; omega
def shrinkT (t k : Nat) : Nat := permM t (fun m => spreadM m (supM t k k) (supM t k k).length) (1 <<< (supM t k k).length)
theorem c_shrink (g : G C mg mb) {t k : Nat} (ht : t < 4294967296) (hk : k ≤ 5) (hA : OKA 6 A) : CallF C mg A "shrink" [N t, N k] b (.tup [N (shrinkT t k), .list ((supM t k k).map N)]) b := by
  refine CallF.def0 (bx := []) (r := [("t", N t), ("k", N k)]) hA g.B (g.fn 8 (by decide)) (fun pm cd doc vals hl => by
    match vals, hl with
    | [_, _], _ => rfl) (by rfl) (by decide +kernel) (by rfl) (fun A' hA' => ?_) (.pure _ (.tup _ (.cons _ _ (.int _) (.cons _ _ (.list _ (pureL_N _)) .nil))))
  rw [List.append_nil]
  keq_hits
  case h =>
    have hl := supM_length t k k
    have hm := sh5 (k := (supM t k k).length) (by omega)
    have hv : FzV (.list ((supM t k k).map N)) ((supM t k k).map N) := .list _
    have hps := pl_le (ps := supM t k k) fun p hp => by have := supM_lt t k k p hp; omega
    have hln : ((supM t k k).map N).length = (supM t k k).length := List.length_map _
    have hsq : SqV b (.list ((supM t k k).map N)) ((supM t k k).map N) := hv.sq
    with_reducible apply Exs.cons
    · with_reducible apply Ex.assign
      all_goals kp_flats
    · with_reducible apply Exs.cons
      · with_reducible apply Ex.assign
        all_goals kp_flats
      · with_reducible apply Exs.forR (n := 1 <<< ((supM t k k).map N).length) (fun m => [("result", N (permM t (fun m => spreadM m (supM t k k) (supM t k k).length) m)), ("kept", .list ((supM t k k).map N)), ("t", N t), ("k", N k)]) (fun _ => b) hA'.h
        case hbody =>
          intro j hj
          rw [hln] at hj
          with_reducible apply ExsN.of
          · kp_flats
          · kp_flats
        case hn => rw [hln]; omega
        all_goals kp_flats
  case hv => rw [List.length_map]; rfl
  all_goals rfl
end
end
section
theorem q17 {i : Nat} (h : i ≤ 4) : 1 <<< i ≤ 16 := by
  have : i = 0 ∨ i = 1 ∨ i = 2 ∨ i = 3 ∨ i = 4 := by omega
  rcases this with h | h | h | h | h <;> subst h <;> decide
def coverU (cs : List (Nat × Nat)) (k i : Nat) : Nat := coverT (cs.take i) k
theorem coverU_succ {cs : List (Nat × Nat)} {k i : Nat} (h : i < cs.length) : coverU cs k (i + 1) = coverU cs k i ||| cubeT cs[i] k := by
  unfold coverU coverT
  rw [List.take_succ, List.getElem?_eq_getElem h, List.foldl_append]; rfl
theorem cubeM_lt {pl va k : Nat} (hk : k ≤ 5) : ∀ i, cubeM pl va k i < 4294967296
  | 0 => fullT_lt hk
  | i + 1 => by
    have := cubeM_lt (pl := pl) (va := va) hk i
    unfold cubeM
    split
    · split <;> exact Nat.lt_of_le_of_lt Nat.and_le_left this
    · exact this
section
variable {C : Cx} {mg mb : Str → Option Value} {A : Around} {b : Boxes}
local macro_rules | `(tactic| k_subL) => `(tactic| first | with_reducible apply c_spread ‹_› | with_reducible apply c_sup ‹_› | with_reducible apply c_dep ‹_› | with_reducible apply c_cof ‹_› | with_reducible apply c_var ‹_› | with_reducible apply c_full ‹_›)
theorem c_expand (g : G C mg mb) {t k : Nat} {ps : List Nat} {v : V} (hv : FzV v (ps.map N)) (hps : ∀ j, ps.getD j 0 ≤ 5) (hl : ps.length ≤ 5) (hk : k ≤ 5) (hA : OKA 2 A) : CallF C mg A "expand" [N t, v, N k] b (N (permM t (fun m => gatherM m ps ps.length) (1 <<< k))) b := by
  refine CallF.def0 (bx := []) (r := [("t", N t), ("places", v), ("k", N k)]) hA g.B (g.fn 9 (by decide)) (fun pm cd doc vals hl => by
    match vals, hl with
    | [_, _, _], _ => rfl) (by rfl) (by decide +kernel) (by rfl) (fun A' hA' => ?_) (.pure _ (.int _))
  rw [List.append_nil]
  keq_hits
  case h =>
    have hm := sh5 hk
    have hln : (ps.map N).length = ps.length := List.length_map _
    with_reducible apply Exs.cons
    · with_reducible apply Ex.assign
      all_goals kp_flats
    · with_reducible apply Exs.forR (n := 1 <<< k) (fun m => [("result", N (permM t (fun m => gatherM m ps ps.length) m)), ("t", N t), ("places", v), ("k", N k)]) (fun _ => b) hA'.h
      case hbody =>
        intro m hj
        with_reducible apply ExsN.of
        · with_reducible apply Exs.cons
          · with_reducible apply Ex.assign
            all_goals kp_flats
          · have er : N (gatherM m ps ps.length) = N (gatherM m ps (ps.map N).length) := by rw [hln]
            with_reducible apply Exs.forR (n := (ps.map N).length) (fun j => [("row", N (gatherM m ps j)), ("m", N m), ("result", N (permM t (fun m => gatherM m ps ps.length) m)), ("t", N t), ("places", v), ("k", N k)]) (fun _ => b) hA'.h
            case hbody =>
              intro j hj
              have hj' : j < ps.length := by omega
              with_reducible apply ExsN.of
              · kp_flats
              · kp_flats
            case rest =>
              rw [hln]
              kp_flats
            all_goals kp_flats
        · kp_flats
      all_goals kp_flats
  all_goals rfl
theorem c_swap (g : G C mg mb) {t i j k : Nat} (ht : t < 4294967296) (hi : i ≤ 4) (hj : j ≤ 4) (hk : k ≤ 5) (hA : OKA 4 A) : CallF C mg A "swap_inputs" [N t, N i, N j, N k] b (N (swapT t i j k)) b := by
  refine CallF.def0 (bx := []) (r := [("t", N t), ("i", N i), ("j", N j), ("k", N k)]) hA g.B (g.fn 11 (by decide)) (fun pm cd doc vals hl => by
    match vals, hl with
    | [_, _, _, _], _ => rfl) (by rfl) (by decide +kernel) (by rfl) (fun A' hA' => ?_) (.pure _ (.int _))
  rw [List.append_nil]
  by_cases hij : i = j
  · have e : swapT t i j k = t := if_pos hij
    rw [e]
    keq_hits
    case h =>
      with_reducible apply Exs.ifRet (q := decide_eq_true hij)
      all_goals kp_flats
    all_goals rfl
  · have e : swapT t i j k = (t ^^^ swapU t (Nat.min i j) (Nat.max i j) k ^^^ swapD t (Nat.min i j) (Nat.max i j) k)
      ||| (swapU t (Nat.min i j) (Nat.max i j) k) <<< ((1 <<< Nat.max i j) - (1 <<< Nat.min i j))
      ||| (swapD t (Nat.min i j) (Nat.max i j) k) >>> ((1 <<< Nat.max i j) - (1 <<< Nat.min i j)) := if_neg hij
    rw [e]
    have h1 : Nat.min i j ≤ 4 := Nat.le_trans (Nat.min_le_left _ _) hi
    have h2 : Nat.max i j ≤ 4 := Nat.max_le.mpr ⟨hi, hj⟩
    have h3 : 1 <<< Nat.min i j ≤ 1 <<< Nat.max i j := by
      rw [Nat.one_shiftLeft, Nat.one_shiftLeft]
      exact Nat.pow_le_pow_right (by decide) (Nat.le_trans (Nat.min_le_left _ _) (Nat.le_max_left _ _))
    have h4 := q17 h2
    have h6 : 1 <<< Nat.max i j - 1 <<< Nat.min i j ≤ 1000000 := Nat.le_trans (Nat.sub_le _ _) (by omega)
    have h5 : (t &&& varT (Nat.min i j) k &&& (fullT k ^^^ varT (Nat.max i j) k)) < 2 ^ 64 := Nat.lt_of_le_of_lt Nat.and_le_left (Nat.lt_of_le_of_lt Nat.and_le_left (by omega))
    keq_hits
    case h =>
      with_reducible apply Exs.ifSkip (q := decide_eq_false hij)
      all_goals kp_flats
    all_goals rfl
theorem c_cube (g : G C mg mb) {c : Nat × Nat} {k : Nat} (hk : k ≤ 5) (hA : OKA 3 A) : CallF C mg A "cube_table" [cubeV c, N k] b (N (cubeT c k)) b := by
  refine CallF.def0 (bx := []) (r := [("cube", .tup [N c.1, N c.2]), ("k", N k)]) hA g.B (g.fn 12 (by decide)) (fun pm cd doc vals hl => by
    match vals, hl with
    | [_, _], _ => rfl) (by rfl) (by decide +kernel) (by rfl) (fun A' hA' => ?_) (.pure _ (.int _))
  rw [List.append_nil]
  keq_hits
  case h =>
    with_reducible apply Exs.cons
    · with_reducible apply Ex.assign2 hA'.h
      all_goals kp_flats
    · with_reducible apply Exs.cons
      · with_reducible apply Ex.assign
        all_goals kp_flats
      · with_reducible apply Exs.cons
        · with_reducible apply Ex.assign
          all_goals kp_flats
        · with_reducible apply Exs.forR (n := k) (fun i => [("result", N (cubeM c.1 c.2 k i)), ("full", N (fullT k)), ("places", N c.1), ("values", N c.2), ("k", N k)]) (fun _ => b) hA'.h
          case hbody =>
            intro i hi
            by_cases h1 : c.1 >>> i &&& 1 = 1
            · by_cases h2 : c.2 >>> i &&& 1 = 1
              · have e : cubeM c.1 c.2 k (i + 1) = cubeM c.1 c.2 k i &&& varT i k := by rw [cubeM, if_pos h1, if_pos h2]
                rw [e]
                with_reducible apply ExsN.of
                · with_reducible apply Exs.ifGo (q := decide_eq_true h1)
                  case h => kp_flats
                  case h2 =>
                    with_reducible apply Exs.ifGo (q := decide_eq_true h2)
                    all_goals kp_flats
                  all_goals kp_flats
                · kp_flats
              · have e : cubeM c.1 c.2 k (i + 1) = cubeM c.1 c.2 k i &&& (fullT k ^^^ varT i k) := by rw [cubeM, if_pos h1, if_neg h2]
                rw [e]
                with_reducible apply ExsN.of
                · with_reducible apply Exs.ifGo (q := decide_eq_true h1)
                  case h => kp_flats
                  case h2 =>
                    with_reducible apply Exs.ifElse (q := decide_eq_false h2)
                    all_goals kp_flats
                  all_goals kp_flats
                · kp_flats
            · have e : cubeM c.1 c.2 k (i + 1) = cubeM c.1 c.2 k i := by rw [cubeM, if_neg h1]
              rw [e]
              with_reducible apply ExsN.of
              · with_reducible apply Exs.ifElse (q := decide_eq_false h1)
                all_goals kp_flats
              · kp_flats
          all_goals kp_flats
  all_goals rfl
local macro_rules | `(tactic| k_subL) => `(tactic| first | with_reducible apply c_cube ‹_› | with_reducible apply c_spread ‹_› | with_reducible apply c_sup ‹_› | with_reducible apply c_dep ‹_› | with_reducible apply c_cof ‹_› | with_reducible apply c_var ‹_› | with_reducible apply c_full ‹_›)
theorem c_cover (g : G C mg mb) {cs : List (Nat × Nat)} {k : Nat} (hk : k ≤ 5) (hA : OKA 4 A) : CallF C mg A "cover_table" [.list (cs.map cubeV), N k] b (N (coverT cs k)) b := by
  refine CallF.def0 (bx := []) (r := [("cubes", .list (cs.map cubeV)), ("k", N k)]) hA g.B (g.fn 13 (by decide)) (fun pm cd doc vals hl => by
    match vals, hl with
    | [_, _], _ => rfl) (by rfl) (by decide +kernel) (by rfl) (fun A' hA' => ?_) (.pure _ (.int _))
  rw [List.append_nil]
  keq_hits
  case h =>
    with_reducible apply Exs.cons
    · with_reducible apply Ex.assign
      all_goals kp_flats
    · with_reducible apply Exs.forL (vs := cs.map cubeV) (fun i => [("result", N (coverU cs k i)), ("cubes", .list (cs.map cubeV)), ("k", N k)]) (fun _ => b) hA'.h
      case hbody =>
        intro i hi
        have hi' : i < cs.length := by simpa using hi
        have e : (cs.map cubeV)[i] = cubeV cs[i] := by simp
        rw [e]
        with_reducible apply ExsN.of
        · kp_flats
        · rw [coverU_succ hi']
          kp_flats
      case rest =>
        have e : coverU cs k (cs.map cubeV).length = coverT cs k := by unfold coverU; rw [List.length_map, List.take_length]
        rw [e]
        kp_flats
      all_goals kp_flats
  all_goals rfl
end
end
section
def bitT (t row : Nat) : Nat := t / 2 ^ row % 2
def rowsT (l : List Nat) : Nat := ((List.range l.length).map fun i => l.getD i 0 * 2 ^ i).sum
def fixT (row one bit : Nat) : Nat := row - row / 2 ^ one % 2 * 2 ^ one + bit * 2 ^ one
theorem sum_ofNat (l : List Nat) : (l.map Int.ofNat).sum = ((l.sum : Nat) : Int) := by
  induction l with
  | nil => rfl
  | cons a l ih => rw [List.map_cons, List.sum_cons, List.sum_cons, ih]; push_cast; rfl
theorem p30 {n : Nat} (h : n ≤ 29) : 2 ^ n < 1073741824 :=
  Nat.lt_of_le_of_lt (Nat.pow_le_pow_right (by decide) h) (by decide)
theorem p2pos (n : Nat) : 0 < 2 ^ n := Nat.two_pow_pos n
section
variable {C : Cx} {mg mb : Str → Option Value} {A : Around} {b b1 b2 b3 : Boxes} {sc : List (Str × NameKind)} {r : Loc} {pos p : Pos}
theorem Ev.sumN {e : Expr} {l : List Nat} (g : G C mg mb) (hh : A.handled = none) (hk : sc.lookup (Str.ofString "sum") = some .globalImplicit) (h1 : Ev C A sc e r b (.list (l.map N)) b1)
    (he : ∀ env, starEach [e] env = (false, eval e env) :: starEach [] env) : Ev C A sc (.Call (.Name (Str.ofString "sum") p) [e] [] pos) r b (N l.sum) b1 := by
  have := Ev.sumQ (p := p) (pos := pos) (ns := l.map Int.ofNat) g hh hk h1 (by rw [intsN]; exact IntsV.list _) he
  rw [sum_ofNat] at this
  exact this
theorem Bop.subNI {m n : Nat} : Bop C A .Sub (N m) (N n) b (.int ((m : Int) - (n : Int))) := Bop.sub
theorem Bop.mulIN {x : Int} {n : Nat} (h : n < 2 ^ 62) : Bop C A .Mult (.int x) (N n) b (.int (x * (n : Int))) := Bop.mul ⟨by omega, by omega⟩
theorem Bop.addNI {x : Int} {m : Nat} : Bop C A .Add (N m) (.int x) b (.int ((m : Int) + x)) := Bop.add
theorem fix_eq (row one bit : Nat) : (V.int ((row : Int) + ((bit : Int) - ((row / 2 ^ one % 2 : Nat) : Int)) * ((2 ^ one : Nat) : Int))) = N (fixT row one bit) := by
  unfold N fixT
  congr 1
  have h : row / 2 ^ one % 2 * 2 ^ one ≤ row := Nat.le_trans (Nat.mul_le_mul_right _ (Nat.mod_le _ _)) (Nat.div_mul_le_self _ _)
  rw [Int.sub_mul, ← Int.natCast_mul, ← Int.natCast_mul]
  generalize row / 2 ^ one % 2 * 2 ^ one = u at *
  generalize bit * 2 ^ one = w at *
  omega
end
section
variable {C : Cx} {mg mb : Str → Option Value} {A : Around} {b : Boxes}
theorem c_bit (g : G C mg mb) {t row : Nat} (hr : row ≤ 29) (hA : OKA 1 A) : CallF C mg A "_law_bit" [N t, N row] b (N (bitT t row)) b := by
  have h1 := p30 hr
  have h2 := p2pos row
  refine CallF.def0 (bx := []) (r := [("table", N t), ("row", N row)]) hA g.B (g.fn 17 (by decide)) (fun pm cd doc vals hl => by
    match vals, hl with
    | [_, _], _ => rfl) (by rfl) (by decide +kernel) (by rfl) (fun A' hA' => ?_) (.pure _ (.int _))
  rw [List.append_nil]; keq_hits
  kp_flats
theorem c_fix (g : G C mg mb) {row one bit : Nat} (hr : one ≤ 29) (hA : OKA 1 A) : CallF C mg A "_law_fixed" [N row, N one, N bit] b (N (fixT row one bit)) b := by
  have h1 := p30 hr
  have h2 := p2pos one
  rw [← fix_eq]
  refine CallF.def0 (bx := []) (r := [("row", N row), ("one", N one), ("bit", N bit)]) hA g.B (g.fn 19 (by decide)) (fun pm cd doc vals hl => by
    match vals, hl with
    | [_, _, _], _ => rfl) (by rfl) (by decide +kernel) (by rfl) (fun A' hA' => ?_) (.pure _ (.int _))
  rw [List.append_nil]; keq_hits
  case h =>
    with_reducible apply Exs.retS
    with_reducible apply Ev.binop
    case h1 => kp_flats
    case h2 =>
      with_reducible apply Ev.binop
      case h1 =>
        with_reducible apply Ev.binop
        case h1 => kp_flats
        case h2 => kp_flats
        case h3 => exact Bop.subNI
      case h2 => kp_flats
      case h3 => exact Bop.mulIN (by omega)
    case h3 => exact Bop.addNI
  all_goals rfl
theorem c_rows (g : G C mg mb) {l : List Nat} (hl : l.length ≤ 32) (hA : OKA 2 A) : CallF C mg A "_law_rows" [.list (l.map N)] b (N (rowsT l)) b := by
  have hln : (l.map N).length = l.length := List.length_map _
  refine CallF.def0 (bx := []) (r := [("bits", .list (l.map N))]) hA g.B (g.fn 18 (by decide)) (fun pm cd doc vals hl => by
    match vals, hl with
    | [_], _ => rfl) (by rfl) (by decide +kernel) (by rfl) (fun A' hA' => ?_) (.pure _ (.int _))
  rw [List.append_nil]; keq_hits
  case h =>
    with_reducible apply Exs.retS
    with_reducible apply Ev.sumN (l := (List.range l.length).map fun i => l.getD i 0 * 2 ^ i) g hA'.h
    case h1 =>
      with_reducible apply Ev.compN (n := l.length) (r' := [("bits", .list (l.map N))]) (fun i => l.getD i 0 * 2 ^ i) hA'.h
      case h3 =>
        intro i hi
        have h3 : (2 : Nat) ^ i < 2 ^ 62 := Nat.pow_lt_pow_right (by decide) (by omega)
        have h4 : (l.map N)[i]? = some (N (l.getD i 0)) := mapN_get hi
        kp_flats
      case h1 =>
        rw [← hln]
        kp_flats
      all_goals kp_flats
    all_goals kp_flats
  all_goals rfl
end
end
section
structure Hs where
  p : Nat
  c : Nat
  g : Nat
def hv (ns : List Int) (h : Hs) : List V := [.list (ns.map V.int), N h.p, N h.c, N h.g]
def pickD (ns : List Int) (l : Nat) (h : Hs) : Nat :=
  if h.c = 0 then (if h.p = ns.length then h.g * 48271 % 2147483647 / 7 % l else (ns.getD h.p 0).natAbs % l) else h.c % l
def pickS (ns : List Int) (l : Nat) (h : Hs) : Hs :=
  if h.c = 0 then (if h.p = ns.length then ⟨h.p, h.c, h.g * 48271 % 2147483647⟩ else ⟨h.p + 1, (ns.getD h.p 0).natAbs / l, h.g⟩) else ⟨h.p, h.c / l, h.g⟩
theorem pickD_lt (ns : List Int) {l : Nat} (hl : 0 < l) (h : Hs) : pickD ns l h < l := by
  unfold pickD
  split
  · split <;> exact Nat.mod_lt _ hl
  · exact Nat.mod_lt _ hl
theorem pickS_p (ns : List Int) (l : Nat) {h : Hs} (hp : h.p ≤ ns.length) : (pickS ns l h).p ≤ ns.length := by
  unfold pickS
  split
  · split
    · exact hp
    · show h.p + 1 ≤ _; omega
  · exact hp
section
variable {C : Cx} {A : Around} {sc : List (Str × NameKind)} {r : Loc} {pos p px : Pos} {b b' : Boxes}
theorem Ex.setH {o i e : Expr} {v : V} {k n : Nat} {l l' : List V} (h1 : Ev C A sc e r b v b) (h2 : Ev C A sc o r b (.box k) b) (h3 : Ev C A sc i r b (N n) b) (h4 : b[k]? = some l) (hn : n < l.length) (hn2 : n < 1000000) (hl : l.set n v = l') (hb : b.set k l' = b')
    (hs : ∀ env, swapsWithSole [.Subscript o i p] e pos.line env = pure false)
    (hs2 : ∀ env, swappedStores [.Subscript o i p] e env = pure none) :
    Ex C A sc (.Assign [.Subscript o i p] e pos) r b .next r b' := by
  subst hl hb
  exact Ex.setItem h1 h2 h3 h4 hn hn2 hs hs2
theorem set_set' {α : Type} {b : List α} {n : Nat} {x y : α} : (b.set n x).set n y = b.set n y := by simp
theorem get_set' {α : Type} {b : List α} {n : Nat} {x y : α} (h : b[n]? = some x) : (b.set n y)[n]? = some y := by
  have := (List.getElem?_eq_some_iff.mp h).1
  simp [this]
theorem intsN_get {ns : List Int} {j : Nat} (h : j < ns.length) : (ns.map V.int)[j]? = some (.int (ns.getD j 0)) := by
  rw [List.getElem?_map, List.getElem?_eq_getElem h]
  simp [List.getD, h]
theorem N_abs (x : Int) : (if x ≥ 0 then V.int x else V.int (-x)) = N x.natAbs := by
  unfold N
  split <;> congr 1 <;> omega
theorem pureL_hv (ns : List Int) (h : Hs) : PureL (hv ns h) := by
  refine .cons _ _ (.list _ ?_) (.cons _ _ (.int _) (.cons _ _ (.int _) (.cons _ _ (.int _) .nil)))
  induction ns with
  | nil => exact .nil
  | cons a l ih => exact .cons _ _ (.int _) ih
theorem hpureH {b : Boxes} {n : Nat} {l : List V} (hp : PureL l) : ∀ vs, vs ∈ (b.set n l).take b.length → vs ∈ b ∨ PureL vs := fun vs m => by
  rcases List.mem_or_eq_of_mem_set (List.mem_of_mem_take m) with h | rfl
  · exact .inl h
  · exact .inr hp
theorem take_set {b : Boxes} {n : Nat} {l : List V} : (b.set n l).take b.length = b.set n l := List.take_of_length_le (by simp)
end
section
variable {C : Cx} {mg mb : Str → Option Value} {A : Around} {b : Boxes}
theorem c_pick (g : G C mg mb) {ns : List Int} {h : Hs} {n l : Nat} (hb : b[n]? = some (hv ns h)) (hp : h.p ≤ ns.length) (hlen : ns.length ≤ 63) (hl : 0 < l) (hl2 : l < 1073741824) (hA : OKA 1 A) :
    CallF C mg A "_law_pick" [.box n, N l] b (N (pickD ns l h)) (b.set n (hv ns (pickS ns l h))) := by
  have key : ∀ A', OKA 0 A' → ExsE C A' (dScope (defAt 16)).names (dBody (defAt 16)) [("hand", .box n), ("limit", N l)] b (.ret (N (pickD ns l h))) (b.set n (hv ns (pickS ns l h))) := by
    intro A' hA'
    have hq : SqV b (.box n) (hv ns h) := .box _ _ hb
    have i0 : (hv ns h)[0]? = some (.list (ns.map V.int)) := rfl
    have i1 : (hv ns h)[1]? = some (N h.p) := rfl
    have i2 : (hv ns h)[2]? = some (N h.c) := rfl
    have i3 : (hv ns h)[3]? = some (N h.g) := rfl
    have hln : (ns.map V.int).length = ns.length := List.length_map _
    by_cases h0 : h.c = 0
    · by_cases h1 : h.p = ns.length
      · have e1 : pickD ns l h = h.g * 48271 % 2147483647 / 7 % l := by unfold pickD; rw [if_pos h0, if_pos h1]
        have e2 : pickS ns l h = ⟨h.p, h.c, h.g * 48271 % 2147483647⟩ := by unfold pickS; rw [if_pos h0, if_pos h1]
        rw [e1, e2]
        have hb1 := get_set' (y := hv ns ⟨h.p, h.c, h.g * 48271 % 2147483647⟩) hb
        have hq1 : SqV (b.set n (hv ns ⟨h.p, h.c, h.g * 48271 % 2147483647⟩)) (.box n) (hv ns ⟨h.p, h.c, h.g * 48271 % 2147483647⟩) := .box _ _ hb1
        have j3 : (hv ns ⟨h.p, h.c, h.g * 48271 % 2147483647⟩)[3]? = some (N (h.g * 48271 % 2147483647)) := rfl
        keq_hits
        case h =>
          with_reducible apply Exs.ifRet (q := decide_eq_true h0)
          case h => kp_flats
          case h2 =>
            with_reducible apply Exs.ifRet (tt := decide (h.p = (ns.map V.int).length)) (q := decide_eq_true (h1.trans hln.symm))
            case h => kp_flats
            case h2 =>
              with_reducible apply Exs.cons
              case h1 =>
                with_reducible apply Ex.setH (n := 3) (l := hv ns h) (l' := hv ns ⟨h.p, h.c, h.g * 48271 % 2147483647⟩)
                case hn => exact (by decide : 3 < 4)
                case hl => rfl
                case hb => rfl
                all_goals kp_flats
              case h2 => kp_flats
        all_goals rfl
      · have e1 : pickD ns l h = (ns.getD h.p 0).natAbs % l := by unfold pickD; rw [if_pos h0, if_neg h1]
        have e2 : pickS ns l h = ⟨h.p + 1, (ns.getD h.p 0).natAbs / l, h.g⟩ := by unfold pickS; rw [if_pos h0, if_neg h1]
        rw [e1, e2]
        have hp' : h.p < ns.length := by omega
        have h1' : ¬ h.p = (ns.map V.int).length := by rw [hln]; exact h1
        have in0 := intsN_get hp'
        have hp6 : h.p < 1000000 := by omega
        generalize ns.getD h.p 0 = x at *
        have hb1 := get_set' (y := hv ns ⟨h.p + 1, h.c, h.g⟩) hb
        have hq1 : SqV (b.set n (hv ns ⟨h.p + 1, h.c, h.g⟩)) (.box n) (hv ns ⟨h.p + 1, h.c, h.g⟩) := .box _ _ hb1
        have hb2 := get_set' (y := hv ns ⟨h.p + 1, x.natAbs, h.g⟩) hb
        have hq2 : SqV (b.set n (hv ns ⟨h.p + 1, x.natAbs, h.g⟩)) (.box n) (hv ns ⟨h.p + 1, x.natAbs, h.g⟩) := .box _ _ hb2
        have j2 : (hv ns ⟨h.p + 1, x.natAbs, h.g⟩)[2]? = some (N x.natAbs) := rfl
        keq_hits
        case h =>
          with_reducible apply Exs.ifGo (q := decide_eq_true h0)
          case h => kp_flats
          case h2 =>
            with_reducible apply Exs.ifSkip (tt := decide (h.p = (ns.map V.int).length)) (q := decide_eq_false h1')
            case h => kp_flats
            case h2 =>
              with_reducible apply Exs.cons
              case h1 =>
                with_reducible apply Ex.assign
                all_goals kp_flats
              case h2 =>
                with_reducible apply Exs.cons
                case h1 =>
                  with_reducible apply Ex.setH (n := 1) (l := hv ns h) (l' := hv ns ⟨h.p + 1, h.c, h.g⟩)
                  case hn => exact (by decide : 1 < 4)
                  case hl => rfl
                  case hb => rfl
                  all_goals kp_flats
                case h2 =>
                  with_reducible apply Exs.cons
                  case h1 =>
                    with_reducible apply Ex.setH (v := N x.natAbs) (n := 2) (l := hv ns ⟨h.p + 1, h.c, h.g⟩) (l' := hv ns ⟨h.p + 1, x.natAbs, h.g⟩) (b' := b.set n (hv ns ⟨h.p + 1, x.natAbs, h.g⟩))
                    case hn => exact (by decide : 2 < 4)
                    case hl => rfl
                    case hb => exact set_set'
                    case h1 =>
                      by_cases hx : x ≥ 0
                      · have e : N x.natAbs = .int x := by rw [← N_abs, if_pos hx]
                        rw [e]
                        refine Ev.ifT (Tr.to (Tr.cmp (x := .int x) (y := .int 0) (b1 := b.set n (hv ns ⟨h.p + 1, h.c, h.g⟩)) (b2 := b.set n (hv ns ⟨h.p + 1, h.c, h.g⟩)) ?_ Ev.int Cop.ge ?_) (decide_eq_true hx)) ?_
                        all_goals kp_flats
                      · have e : N x.natAbs = .int (-x) := by rw [← N_abs, if_neg hx]
                        rw [e]
                        refine Ev.ifF (Tr.to (Tr.cmp (x := .int x) (y := .int 0) (b1 := b.set n (hv ns ⟨h.p + 1, h.c, h.g⟩)) (b2 := b.set n (hv ns ⟨h.p + 1, h.c, h.g⟩)) ?_ Ev.int Cop.ge ?_) (decide_eq_false hx)) (Ev.neg ?_)
                        all_goals kp_flats
                    all_goals kp_flats
                  case h2 => kp_flats
          case h3 =>
            with_reducible apply Exs.cons
            case h1 =>
              with_reducible apply Ex.assign
              all_goals kp_flats
            case h2 =>
              with_reducible apply Exs.cons
              case h1 =>
                with_reducible apply Ex.setH (v := N (x.natAbs / l)) (n := 2) (l := hv ns ⟨h.p + 1, x.natAbs, h.g⟩) (l' := hv ns ⟨h.p + 1, x.natAbs / l, h.g⟩) (b' := b.set n (hv ns ⟨h.p + 1, x.natAbs / l, h.g⟩))
                case hn => exact (by decide : 2 < 4)
                case hl => rfl
                case hb => exact set_set'
                all_goals kp_flats
              case h2 => kp_flats
        all_goals rfl
    · have e1 : pickD ns l h = h.c % l := by unfold pickD; rw [if_neg h0]
      have e2 : pickS ns l h = ⟨h.p, h.c / l, h.g⟩ := by unfold pickS; rw [if_neg h0]
      rw [e1, e2]
      keq_hits
      case h =>
        with_reducible apply Exs.ifElse (q := decide_eq_false h0)
        case h => kp_flats
        case h2 => kp_flats
        case h3 =>
          with_reducible apply Exs.cons
          case h1 =>
            with_reducible apply Ex.assign
            all_goals kp_flats
          case h2 =>
            with_reducible apply Exs.cons
            case h1 =>
              with_reducible apply Ex.setH (v := N (h.c / l)) (n := 2) (l := hv ns h) (l' := hv ns ⟨h.p, h.c / l, h.g⟩) (b' := b.set n (hv ns ⟨h.p, h.c / l, h.g⟩))
              case hn => exact (by decide : 2 < 4)
              case hl => rfl
              case hb => rfl
              all_goals kp_flats
            case h2 => kp_flats
      all_goals rfl
  have := CallF.def (C := C) (mg := mg) (mb := mb) (x := "_law_pick") (args := [.box n, N l]) (v := N (pickD ns l h)) (fl := .ret (N (pickD ns l h))) (b' := b.set n (hv ns (pickS ns l h))) (r := [("hand", .box n), ("limit", N l)]) hA g.B (g.fn 16 (by decide)) (fun pm cd doc vals hl => by
    match vals, hl with
    | [_, _], _ => rfl) (by rfl) (by decide +kernel) (by rfl) key (.pure _ (.int _)) (hpureH (pureL_hv _ _))
  rw [take_set] at this
  exact this
end
end
end Mine
end
section
open PySem PySem.W PyProof.Rows
set_option Elab.async false
set_option linter.all false
set_option maxRecDepth 100000
namespace Mine

def idxs : List Nat := [1, 2, 3, 4, 5, 6, 7, 8, 9, 10, 11, 12, 13, 14, 16, 17, 18, 19, 20]
def noNames : List String := ["len", "range", "max", "min", "sum", "list", "tuple"]
theorem mem_idxs : ∀ i, i < 21 → (i = 0 ∨ i = 15 ∨ i ∈ idxs) := by decide +kernel
theorem mem_no : ∀ x, x ∈ noNames → (Str.ofString x ≠ "__name__") := by decide +kernel
theorem connect {p : Program} {prog : Program} {w : World} {loose : List Str} {mean : ExcName → Option Value} {mg mb : Str → Option Value} {h : Heap} (T : Top p loose mean mg mb h)
    (hv : (recsOf p).map (fun d => (d.name, d.params, d.body, d.scope)) = idxs.map fun i => (dName (defAt i), dParams (defAt i), dBody (defAt i), dScope (defAt i)))
    (hn : (noNames.all fun x => !(startupNames.contains (Str.ofString x)) && !(loose.contains (Str.ofString x)) && !(((recsOf p).map (·.name)).contains (Str.ofString x)) && !(((litsOf p).map (·.1)).contains (Str.ofString x)) && !(((clssOf p loose).map (·.name)).contains (Str.ofString x))) = true) :
    G ⟨prog, w, h⟩ mg mb := by
  refine ⟨⟨T.g, T.b, T.nolimit⟩, fun i hi => ?_, fun x hx => ?_, fun x hx => ?_, fun x hx => ?_⟩
  · have hm : i ∈ idxs := by
      rcases mem_idxs i hi.1 with q | q | q
      · exact absurd q hi.2.1
      · exact absurd q hi.2.2
      · exact q
    have : (dName (defAt i), dParams (defAt i), dBody (defAt i), dScope (defAt i)) ∈ (recsOf p).map (fun d => (d.name, d.params, d.body, d.scope)) := by
      rw [hv]; exact List.mem_map.mpr ⟨i, hm, rfl⟩
    obtain ⟨d, hd, e⟩ := List.mem_map.mp this
    obtain ⟨a, o, pm, code, doc, h1, h2, h3, h4⟩ := T.fn d hd
    injection e with e1 e
    injection e with e2 e
    injection e with e3 e4
    rw [← e1, ← e2, ← e3, ← e4]
    exact ⟨a, o, pm, code, doc, h1, h2, h3, h4⟩
  · have := List.all_eq_true.mp hn x hx
    simp only [Bool.and_eq_true, Bool.not_eq_true', List.contains_eq_mem, decide_eq_false_iff_not] at this
    obtain ⟨⟨⟨⟨a1, a2⟩, a3⟩, a4⟩, a5⟩ := this
    exact T.free _ a1 a2 a3 a4 a5
  · have hne : Str.ofString x ≠ "__name__" := mem_no x (by simp only [List.mem_cons, List.not_mem_nil, or_false] at hx; rcases hx with rfl | rfl | rfl | rfl <;> decide)
    show mb _ = _
    rw [T.builtins _ hne]
    simp only [List.mem_cons, List.not_mem_nil, or_false] at hx
    rcases hx with rfl | rfl | rfl | rfl <;> rfl
  · have hne : Str.ofString x ≠ "__name__" := mem_no x (by simp only [List.mem_cons, List.not_mem_nil, or_false] at hx; rcases hx with rfl | rfl | rfl <;> decide)
    show mb _ = _
    rw [T.builtins _ hne]
    simp only [List.mem_cons, List.not_mem_nil, or_false] at hx
    rcases hx with rfl | rfl | rfl <;> rfl

theorem rdL_ints {I : Gh} {f : List Addr} {vs : List Value} {ns : List Int} (h : IntsAre vs ns) : RdL I f vs (ns.map V.int) := by
  induction h with
  | nil => exact .nil
  | cons n t _ ih => exact .cons _ _ _ _ (.int n t) ih
theorem rd_script {h : Heap} {f : List Addr} {l : Addr} {vs : List Value} {ns : List Int} (hL : h.IsList l vs.toArray) (hI : IntsAre vs ns) : Rd h.get? f (.ref l) (.list (ns.map V.int)) := by
  obtain ⟨o, h1, h2, n, h3⟩ := hL
  exact .list l o _ n _ h1 h2 h3 (by simpa using rdL_ints hI)
theorem okA_caller : OKA 20 callerA := ⟨rfl, by decide +kernel, by decide +kernel⟩
theorem finish {prog : Program} {w : World} {s₁ : Shared} {mg : Str → Option Value} {fa l : Addr} {vs : List Value} {ns : List Int} {Q : Value → Shared → Prop} {E : Value → Shared → Prop}
    (hc : CallF ⟨prog, w, s₁.heap⟩ mg callerA "law" [.list (ns.map V.int)] [] (.bool true) []) (hmg : mg "law" = some (.ref fa)) (hL : s₁.heap.IsList l vs.toArray) (hI : IntsAre vs ns)
    (hQ : ∀ s', (∃ h tk, s' = { s₁ with heap := h, toks := tk }) → (∀ b o, s₁.heap.get? b = some o → s'.heap.get? b = some o) → Q (.bool true) s') :
    wpAny (model prog w) callerA (call (.ref fa) [.ref l]) Q E s₁ := by
  obtain ⟨fa', o, fd, h1, h2, h3, h4⟩ := hc
  rw [hmg] at h1
  cases h1
  refine wpAny_mono (h4.run [.ref l] s₁ s₁.heap.get? [] E (fun _ _ e => e) ⟨fun _ _ e => e, fun n vs e => by simp at e, rfl, List.nodup_nil, fun _ m => nomatch m⟩ (.cons _ _ _ _ (rd_script hL hI) .nil)) (fun v s' ⟨I', f', p, r⟩ => ?_) fun _ _ h => h
  cases r
  exact hQ s' p.same fun b o e => p.keep b o (fun m => nomatch m) (fun m => m) e
end Mine
end
section
set_option Elab.async false
set_option linter.all false
set_option maxRecDepth 100000
set_option synthInstance.maxSize 4096
set_option synthInstance.maxHeartbeats 400000
namespace Mine

def Tb (t k : Nat) : Prop := t < 2 ^ 2 ^ k
theorem Tb.off {t k m : Nat} (h : Tb t k) (hm : ¬ m < 2 ^ k) : t.testBit m = false :=
  Nat.testBit_lt_two_pow (Nat.lt_of_lt_of_le h (Nat.pow_le_pow_right (by decide) (Nat.le_of_not_lt hm)))
theorem Tb.of {t k : Nat} (h : ∀ m, ¬ m < 2 ^ k → t.testBit m = false) : Tb t k :=
  Nat.lt_pow_two_of_testBit _ fun m hm => h m (Nat.not_lt.mpr hm)
theorem Tb.lt32 {t k : Nat} (h : Tb t k) (hk : k ≤ 5) : t < 4294967296 := by
  have : 2 ^ 2 ^ k ≤ 2 ^ 2 ^ 5 := Nat.pow_le_pow_right (by decide) (Nat.pow_le_pow_right (by decide) hk)
  exact Nat.lt_of_lt_of_le h this
theorem tab_ext {a b k : Nat} (h1 : Tb a k) (h2 : Tb b k) (h : ∀ m, m < 2 ^ k → a.testBit m = b.testBit m) : a = b :=
  Nat.eq_of_testBit_eq fun m => by
    by_cases hm : m < 2 ^ k
    · exact h m hm
    · rw [h1.off hm, h2.off hm]
theorem fullT_eq (k : Nat) : fullT k = 2 ^ 2 ^ k - 1 := by unfold fullT; rw [Nat.one_shiftLeft, Nat.one_shiftLeft]
theorem fullT_bit (k m : Nat) : (fullT k).testBit m = decide (m < 2 ^ k) := by rw [fullT_eq, Nat.testBit_two_pow_sub_one]
theorem fullT_tb (k : Nat) : Tb (fullT k) k := Tb.of fun m hm => by rw [fullT_bit]; exact decide_eq_false hm

theorem varT_fin : ∀ k, k < 6 → ∀ i, i < k → ∀ m, m < 32 → (varT i k).testBit m = (decide (m < 2 ^ k) && m.testBit i) := by decide +kernel
theorem varT_fin2 : ∀ k, k < 6 → ∀ i, i < k → varT i k < 2 ^ 2 ^ k := by decide +kernel
theorem pow32 {k m : Nat} (hk : k ≤ 5) (h : m < 2 ^ k) : m < 32 := Nat.lt_of_lt_of_le h (Nat.pow_le_pow_right (by decide) hk : 2 ^ k ≤ 2 ^ 5)
theorem varT_bit {k i m : Nat} (hk : k ≤ 5) (hi : i < k) : (varT i k).testBit m = (decide (m < 2 ^ k) && m.testBit i) := by
  by_cases hm : m < 2 ^ k
  · exact varT_fin k (by omega) i hi m (pow32 hk hm)
  · rw [Tb.off (varT_fin2 k (by omega) i hi) hm, decide_eq_false hm]; rfl
theorem varT_tb {k i : Nat} (hk : k ≤ 5) (hi : i < k) : Tb (varT i k) k := varT_fin2 k (by omega) i hi

theorem fix_finA : ∀ k, k < 6 → ∀ i, i < k → ∀ m, m < 2 ^ k → (fixT m i 0 < 2 ^ k ∧ fixT m i 1 < 2 ^ k) := by decide +kernel
theorem fix_finB : ∀ k, k < 6 → ∀ i, i < k → ∀ m, m < 2 ^ k → (m.testBit i = false ∨ (fixT m i 1 = m ∧ fixT m i 0 = m - 2 ^ i ∧ 2 ^ i ≤ m ∧ (m - 2 ^ i).testBit i = false ∧ (m + 2 ^ i).testBit i = false)) := by decide +kernel
theorem fix_finC : ∀ k, k < 6 → ∀ i, i < k → ∀ m, m < 2 ^ k → (m.testBit i = true ∨ (fixT m i 0 = m ∧ fixT m i 1 = m + 2 ^ i ∧ (m + 2 ^ i).testBit i = true ∧ m + 2 ^ i < 2 ^ k ∧ (m < 2 ^ i ∨ (m - 2 ^ i).testBit i = true))) := by decide +kernel
theorem fix_fin (k : Nat) (hk : k < 6) (i : Nat) (hi : i < k) (m : Nat) (hm : m < 2 ^ k) :
    fixT m i 0 < 2 ^ k ∧ fixT m i 1 < 2 ^ k ∧ (m.testBit i = true → fixT m i 1 = m ∧ fixT m i 0 = m - 2 ^ i ∧ 2 ^ i ≤ m ∧ (m - 2 ^ i).testBit i = false ∧ (m + 2 ^ i).testBit i = false) ∧
    (m.testBit i = false → fixT m i 0 = m ∧ fixT m i 1 = m + 2 ^ i ∧ (m + 2 ^ i).testBit i = true ∧ m + 2 ^ i < 2 ^ k ∧ (2 ^ i ≤ m → (m - 2 ^ i).testBit i = true)) := by
  obtain ⟨a1, a2⟩ := fix_finA k hk i hi m hm
  refine ⟨a1, a2, fun q => ?_, fun q => ?_⟩
  · rcases fix_finB k hk i hi m hm with h | h
    · rw [q] at h; cases h
    · exact h
  · rcases fix_finC k hk i hi m hm with h | ⟨h1, h2, h3, h4, h5⟩
    · rw [q] at h; cases h
    · refine ⟨h1, h2, h3, h4, fun h => ?_⟩
      rcases h5 with h5 | h5
      · omega
      · exact h5
theorem bit_div (m i : Nat) : m.testBit i = decide (m / 2 ^ i % 2 = 1) := by
  rw [Nat.testBit_eq_decide_div_mod_eq]
theorem two_cases {b : Nat} (h : b < 2) : b = 0 ∨ b = 1 := by omega
theorem fix_lt {k i m b : Nat} (hk : k ≤ 5) (hi : i < k) (hm : m < 2 ^ k) (hb : b < 2) : fixT m i b < 2 ^ k := by
  have := fix_fin k (by omega) i hi m hm
  rcases two_cases hb with rfl | rfl
  · exact this.1
  · exact this.2.1
theorem fix_bits : ∀ i, i < 5 → ∀ m, m < 32 → ∀ b, b < 2 → ∀ j, j < 5 → (fixT m i b).testBit j = if j = i then decide (b = 1) else m.testBit j := by decide +kernel
theorem fix_fix : ∀ i, i < 5 → ∀ m, m < 32 → ∀ b, b < 2 → ∀ c, c < 2 → fixT (fixT m i c) i b = fixT m i b := by decide +kernel
theorem fix_comm : ∀ i, i < 5 → ∀ j, j < 5 → ∀ m, m < 32 → ∀ b, b < 2 → ∀ c, c < 2 → (i = j ∨ fixT (fixT m j c) i b = fixT (fixT m i b) j c) := by decide +kernel
theorem fix_self : ∀ i, i < 5 → ∀ m, m < 32 → fixT m i (m / 2 ^ i % 2) = m := by decide +kernel

theorem high_bit {t k i m : Nat} (ht : Tb t k) (hk : k ≤ 5) (hi : i < k) : (t &&& varT i k).testBit m = (t.testBit m && m.testBit i) := by
  rw [Nat.testBit_and, varT_bit hk hi]
  by_cases hm : m < 2 ^ k
  · rw [decide_eq_true hm]; simp
  · rw [ht.off hm]; simp
theorem low_bit {t k i m : Nat} (ht : Tb t k) (hk : k ≤ 5) (hi : i < k) : (t ^^^ (t &&& varT i k)).testBit m = (t.testBit m && !m.testBit i) := by
  rw [Nat.testBit_xor, high_bit ht hk hi]
  cases t.testBit m <;> cases m.testBit i <;> rfl
theorem up_bit {t k i m : Nat} (ht : Tb t k) (hk : k ≤ 5) (hi : i < k) (hm : m < 2 ^ k) : ((t &&& varT i k) >>> (1 <<< i)).testBit m = (!m.testBit i && t.testBit (fixT m i 1)) := by
  rw [Nat.testBit_shiftRight, Nat.one_shiftLeft, Nat.add_comm, high_bit ht hk hi]
  obtain ⟨_, _, f1, f0⟩ := fix_fin k (by omega) i hi m hm
  cases q : m.testBit i with
  | true => obtain ⟨_, _, _, _, e⟩ := f1 q; rw [e]; simp
  | false => obtain ⟨_, e1, e2, _⟩ := f0 q; rw [e2, e1]; simp
theorem up_off {t k i m : Nat} (ht : Tb t k) (hm : ¬ m < 2 ^ k) : ((t &&& varT i k) >>> (1 <<< i)).testBit m = false := by
  rw [Nat.testBit_shiftRight, Nat.testBit_and, ht.off (fun q => hm (Nat.lt_of_le_of_lt (Nat.le_add_left _ _) q))]; rfl
theorem down_bit {t k i m : Nat} (ht : Tb t k) (hk : k ≤ 5) (hi : i < k) (hm : m < 2 ^ k) : ((t ^^^ (t &&& varT i k)) <<< (1 <<< i)).testBit m = (m.testBit i && t.testBit (fixT m i 0)) := by
  rw [Nat.testBit_shiftLeft, Nat.one_shiftLeft, low_bit ht hk hi]
  obtain ⟨_, _, f1, f0⟩ := fix_fin k (by omega) i hi m hm
  cases q : m.testBit i with
  | true => obtain ⟨_, e1, e2, e3, _⟩ := f1 q; rw [e3, e1]; simp [e2]
  | false =>
    obtain ⟨_, _, _, _, e⟩ := f0 q
    by_cases h : 2 ^ i ≤ m
    · rw [e h]; simp
    · simp [h]
theorem off_fin : ∀ k, k < 6 → ∀ i, i < k → ∀ m, m < 64 → (m < 2 ^ k ∨ m < 2 ^ i ∨ 2 ^ k ≤ m - 2 ^ i ∨ (m - 2 ^ i).testBit i = true) := by decide +kernel
theorem down_off {t k i m : Nat} (ht : Tb t k) (hk : k ≤ 5) (hi : i < k) (hm : ¬ m < 2 ^ k) : ((t ^^^ (t &&& varT i k)) <<< (1 <<< i)).testBit m = false := by
  rw [Nat.testBit_shiftLeft, Nat.one_shiftLeft, low_bit ht hk hi]
  by_cases h : 2 ^ i ≤ m
  · by_cases h2 : m - 2 ^ i < 2 ^ k
    · have : 2 ^ i ≤ 2 ^ k := Nat.pow_le_pow_right (by decide) (by omega)
      have h32 : 2 ^ k ≤ 2 ^ 5 := Nat.pow_le_pow_right (by decide) hk
      have e : (m - 2 ^ i).testBit i = true := by
        rcases off_fin k (by omega) i hi m (by omega) with q | q | q | q
        · exact absurd q hm
        · omega
        · omega
        · exact q
      rw [e]; simp
    · rw [ht.off h2]; simp
  · simp [h]

theorem cofT_bit {t k i b m : Nat} (ht : Tb t k) (hk : k ≤ 5) (hi : i < k) (hb : b < 2) (hm : m < 2 ^ k) : (cofT t i b k).testBit m = t.testBit (fixT m i b) := by
  obtain ⟨_, _, f1, f0⟩ := fix_fin k (by omega) i hi m hm
  unfold cofT
  rcases two_cases hb with rfl | rfl
  · rw [if_neg (by decide), Nat.testBit_or, low_bit ht hk hi, down_bit ht hk hi hm]
    cases q : m.testBit i with
    | true => simp
    | false => rw [(f0 q).1]; simp
  · rw [if_pos rfl, Nat.testBit_or, high_bit ht hk hi, up_bit ht hk hi hm]
    cases q : m.testBit i with
    | true => rw [(f1 q).1]; simp
    | false => simp
theorem cofT_tb {t k i b : Nat} (ht : Tb t k) (hk : k ≤ 5) (hi : i < k) : Tb (cofT t i b k) k := Tb.of fun m hm => by
  unfold cofT
  split
  · rw [Nat.testBit_or, high_bit ht hk hi, up_off ht hm, ht.off hm]; simp
  · rw [Nat.testBit_or, low_bit ht hk hi, down_off ht hk hi hm, ht.off hm]; simp
theorem flipT_bit {t k i m : Nat} (ht : Tb t k) (hk : k ≤ 5) (hi : i < k) (hm : m < 2 ^ k) : (flipT t i k).testBit m = t.testBit (fixT m i (1 - m / 2 ^ i % 2)) := by
  unfold flipT
  rw [Nat.testBit_or, up_bit ht hk hi hm, down_bit ht hk hi hm]
  cases q : m.testBit i with
  | true =>
    rw [bit_div] at q
    rw [of_decide_eq_true q]; simp
  | false =>
    rw [bit_div] at q
    have : m / 2 ^ i % 2 = 0 := by have := of_decide_eq_false q; omega
    rw [this]; simp
theorem flipT_tb {t k i : Nat} (ht : Tb t k) (hk : k ≤ 5) (hi : i < k) : Tb (flipT t i k) k := Tb.of fun m hm => by
  unfold flipT
  rw [Nat.testBit_or, up_off ht hm, down_off ht hk hi hm]; rfl
/-- not dependent -/
def Ind (t i k : Nat) : Prop := ∀ m, m < 2 ^ k → t.testBit (fixT m i 0) = t.testBit (fixT m i 1)
theorem dep_iff {t k i : Nat} (ht : Tb t k) (hk : k ≤ 5) (hi : i < k) : depT t i k = false ↔ Ind t i k := by
  unfold depT
  constructor
  · intro h m hm
    have e : cofT t i 0 k = cofT t i 1 k := by simpa using h
    rw [← cofT_bit ht hk hi (by decide) hm, ← cofT_bit ht hk hi (by decide) hm, e]
  · intro h
    apply decide_eq_false
    intro hne
    refine hne (tab_ext (cofT_tb ht hk hi) (cofT_tb ht hk hi) fun m hm => ?_)
    rw [cofT_bit ht hk hi (by decide) hm, cofT_bit ht hk hi (by decide) hm]; exact h m hm
theorem Ind.fix {t i k m b : Nat} (h : Ind t i k) (hk : k ≤ 5) (hi : i < k) (hm : m < 2 ^ k) (hb : b < 2) : t.testBit (fixT m i b) = t.testBit m := by
  obtain ⟨_, _, f1, f0⟩ := fix_fin k (by omega) i hi m hm
  have := h m hm
  cases q : m.testBit i with
  | true =>
    have e := (f1 q).1
    rcases two_cases hb with rfl | rfl
    · rw [this, e]
    · rw [e]
  | false =>
    have e := (f0 q).1
    rcases two_cases hb with rfl | rfl
    · rw [e]
    · rw [← this, e]
end Mine
end
section
set_option Elab.async false
set_option linter.all false
set_option maxRecDepth 100000
namespace Mine

def mt (c : Nat × Nat) (m : Nat) : Bool := decide (m &&& c.1 = c.2)
def upc0 (i : Nat) (c : Nat × Nat) : Nat × Nat := (c.1 ||| 1 <<< i, c.2)
def upc1 (i : Nat) (c : Nat × Nat) : Nat × Nat := (c.1 ||| 1 <<< i, c.2 ||| 1 <<< i)

structure Good (on up k n : Nat) (cs : List (Nat × Nat)) : Prop where
  pl : ∀ c, c ∈ cs → c.1 < 2 ^ n
  va : ∀ c, c ∈ cs → c.2 &&& c.1 = c.2
  cov : ∀ m, m < 2 ^ k → on.testBit m = true → ∃ c, c ∈ cs ∧ mt c m = true
  upp : ∀ m, m < 2 ^ k → ∀ c, c ∈ cs → mt c m = true → up.testBit m = true
  irr : ∀ c, c ∈ cs → ∃ m, m < 2 ^ k ∧ on.testBit m = true ∧ mt c m = true ∧ cs.countP (fun d => mt d m) = 1
  len : cs.length ≤ 3 ^ n

theorem and_eq_iff {m p v : Nat} : m &&& p = v ↔ ∀ l, (m.testBit l && p.testBit l) = v.testBit l :=
  ⟨fun h l => by rw [← h, Nat.testBit_and], fun h => Nat.eq_of_testBit_eq fun l => by rw [Nat.testBit_and, h l]⟩
theorem hi_off {p i l : Nat} (h : p < 2 ^ i) (hl : i ≤ l) : p.testBit l = false :=
  Nat.testBit_lt_two_pow (Nat.lt_of_lt_of_le h (Nat.pow_le_pow_right (by decide) hl))
theorem va_lt {p v i : Nat} (h : p < 2 ^ i) (hv : v &&& p = v) : v < 2 ^ i := Nat.lt_of_le_of_lt (hv ▸ Nat.and_le_right) h
theorem mt_fix {c : Nat × Nat} {i j m b : Nat} (hc : c.1 < 2 ^ i) (hij : i ≤ j) (hj : j < 5) (hm : m < 32) (hb : b < 2) : mt c (fixT m j b) = mt c m := by
  have e : fixT m j b &&& c.1 = m &&& c.1 := Nat.eq_of_testBit_eq fun l => by
    rw [Nat.testBit_and, Nat.testBit_and]
    by_cases hl : l < i
    · rw [fix_bits j hj m hm b hb l (by omega), if_neg (by omega)]
    · rw [hi_off hc (by omega)]; simp
  unfold mt
  rw [e]
theorem pi_bit {p i l : Nat} : (p ||| 1 <<< i).testBit l = (p.testBit l || decide (i = l)) := by
  rw [Nat.testBit_or, Nat.one_shiftLeft, Nat.testBit_two_pow]
theorem bool_dec {p : Prop} [Decidable p] {b : Bool} (h : p ↔ b = true) : decide p = b := by
  cases b with
  | true => exact decide_eq_true (h.mpr rfl)
  | false => exact decide_eq_false fun q => by have := h.mp q; cases this
theorem mt_up0 {c : Nat × Nat} {i m : Nat} (hc : c.1 < 2 ^ i) (hv : c.2 &&& c.1 = c.2) : mt (upc0 i c) m = (!m.testBit i && mt c m) := by
  have hv2 := va_lt hc hv
  refine bool_dec ?_
  show m &&& (c.1 ||| 1 <<< i) = c.2 ↔ _
  rw [and_eq_iff, Bool.and_eq_true]
  constructor
  · intro h
    have hi := h i
    rw [pi_bit, hi_off hv2 (Nat.le_refl _), decide_eq_true rfl, Bool.or_true, Bool.and_true] at hi
    refine ⟨by rw [hi]; rfl, decide_eq_true (and_eq_iff.mpr fun l => ?_)⟩
    have := h l
    rw [pi_bit] at this
    by_cases hl : i = l
    · subst hl; rw [hi, hi_off hv2 (Nat.le_refl _)]; rfl
    · rw [decide_eq_false hl, Bool.or_false] at this; exact this
  · rintro ⟨h1, h2⟩ l
    have h3 := and_eq_iff.mp (of_decide_eq_true h2) l
    rw [pi_bit]
    by_cases hl : i = l
    · subst hl; rw [hi_off hv2 (Nat.le_refl _)]
      have : m.testBit i = false := by simpa using h1
      rw [this]; rfl
    · rw [decide_eq_false hl, Bool.or_false]; exact h3
theorem mt_up1 {c : Nat × Nat} {i m : Nat} (hc : c.1 < 2 ^ i) (hv : c.2 &&& c.1 = c.2) : mt (upc1 i c) m = (m.testBit i && mt c m) := by
  have hv2 := va_lt hc hv
  refine bool_dec ?_
  show m &&& (c.1 ||| 1 <<< i) = c.2 ||| 1 <<< i ↔ _
  rw [and_eq_iff, Bool.and_eq_true]
  constructor
  · intro h
    have hi := h i
    rw [pi_bit, pi_bit, decide_eq_true rfl, Bool.or_true, Bool.or_true, Bool.and_true] at hi
    refine ⟨hi, decide_eq_true (and_eq_iff.mpr fun l => ?_)⟩
    have := h l
    rw [pi_bit, pi_bit] at this
    by_cases hl : i = l
    · subst hl; rw [hi_off hv2 (Nat.le_refl _), hi_off hc (Nat.le_refl _)]; simp
    · rw [decide_eq_false hl, Bool.or_false, Bool.or_false] at this; exact this
  · rintro ⟨h1, h2⟩ l
    have h3 := and_eq_iff.mp (of_decide_eq_true h2) l
    rw [pi_bit, pi_bit]
    by_cases hl : i = l
    · subst hl; rw [decide_eq_true rfl, h1]; simp
    · rw [decide_eq_false hl, Bool.or_false, Bool.or_false]; exact h3

/- the tables of cubes -/
theorem and1_iff {x i : Nat} : (x >>> i &&& 1 = 1) ↔ x.testBit i = true := by
  unfold Nat.testBit
  rw [Nat.and_comm 1]
  have : x >>> i &&& 1 = (x >>> i) % 2 := by rw [Nat.and_one_is_mod]
  rw [this]
  rcases Nat.mod_two_eq_zero_or_one (x >>> i) with h | h <;> simp [h]
theorem nfull_bit {k x m : Nat} : (fullT k ^^^ x).testBit m = (decide (m < 2 ^ k) != x.testBit m) := by
  rw [Nat.testBit_xor, fullT_bit]
theorem cubeM_bit {p v k m : Nat} (hk : k ≤ 5) (hm : m < 2 ^ k) : ∀ i, i ≤ k → ((cubeM p v k i).testBit m = true ↔ ∀ j, j < i → p.testBit j = true → v.testBit j = m.testBit j)
  | 0, _ => by
    unfold cubeM
    rw [fullT_bit, decide_eq_true hm]
    exact ⟨fun _ j hj => absurd hj (Nat.not_lt_zero _), fun _ => rfl⟩
  | i + 1, hi => by
    have ih := cubeM_bit (p := p) (v := v) hk hm i (by omega)
    unfold cubeM
    by_cases hp : p.testBit i = true
    · rw [if_pos (and1_iff.mpr hp)]
      by_cases hv : v.testBit i = true
      · rw [if_pos (and1_iff.mpr hv), Nat.testBit_and, varT_bit hk (by omega), decide_eq_true hm, Bool.true_and, Bool.and_eq_true, ih]
        constructor
        · rintro ⟨h1, h2⟩ j hj hpj
          by_cases e : j = i
          · subst e; rw [hv, h2]
          · exact h1 j (by omega) hpj
        · intro h
          refine ⟨fun j hj hpj => h j (by omega) hpj, ?_⟩
          rw [← h i (by omega) hp, hv]
      · have hv' : v.testBit i = false := by simpa using hv
        rw [if_neg (fun q => hv (and1_iff.mp q)), Nat.testBit_and, nfull_bit, varT_bit hk (by omega), decide_eq_true hm, Bool.true_and, Bool.and_eq_true, ih]
        constructor
        · rintro ⟨h1, h2⟩ j hj hpj
          by_cases e : j = i
          · subst e
            rw [hv']
            cases q : m.testBit j with
            | true => rw [q] at h2; cases h2
            | false => rfl
          · exact h1 j (by omega) hpj
        · intro h
          refine ⟨fun j hj hpj => h j (by omega) hpj, ?_⟩
          rw [← h i (by omega) hp, hv']; rfl
    · rw [if_neg (fun q => hp (and1_iff.mp q)), ih]
      constructor
      · intro h j hj hpj
        by_cases e : j = i
        · subst e; exact absurd hpj hp
        · exact h j (by omega) hpj
      · intro h j hj hpj
        exact h j (by omega) hpj
theorem cubeM_tb {p v k : Nat} : ∀ i, Tb (cubeM p v k i) k
  | 0 => fullT_tb k
  | i + 1 => Tb.of fun m hm => by
    have := (cubeM_tb (p := p) (v := v) (k := k) i).off hm
    unfold cubeM
    split
    · split <;> rw [Nat.testBit_and, this] <;> rfl
    · exact this
theorem cubeT_bit {c : Nat × Nat} {k m : Nat} (hk : k ≤ 5) (hm : m < 2 ^ k) (hp : c.1 < 2 ^ k) (hv : c.2 &&& c.1 = c.2) : (cubeT c k).testBit m = mt c m := by
  unfold cubeT mt
  refine (bool_dec ?_).symm
  rw [cubeM_bit hk hm k (Nat.le_refl _), and_eq_iff]
  have hv1 := and_eq_iff.mp hv
  constructor
  · intro h j hj hpj
    have := h j
    rw [hpj, Bool.and_true] at this
    exact this.symm
  · intro h l
    have h2 := hv1 l
    cases hpl : c.1.testBit l with
    | true =>
      have hl : l < k := by
        by_cases q : l < k
        · exact q
        · rw [hi_off hp (by omega)] at hpl; cases hpl
      rw [Bool.and_true]; exact (h l hl hpl).symm
    | false => rw [hpl] at h2; rw [Bool.and_false] at h2 ⊢; exact h2
theorem coverT_nil (k : Nat) : coverT [] k = 0 := rfl
theorem cover_fold {k m : Nat} : ∀ (cs : List (Nat × Nat)) (a : Nat), (cs.foldl (fun a c => a ||| cubeT c k) a).testBit m = (a.testBit m || cs.any fun c => (cubeT c k).testBit m)
  | [], a => by simp
  | c :: cs, a => by
    rw [List.foldl_cons, cover_fold cs, Nat.testBit_or, List.any_cons, Bool.or_assoc]
theorem coverT_bit {cs : List (Nat × Nat)} {k m : Nat} (hk : k ≤ 5) (hm : m < 2 ^ k) (hp : ∀ c, c ∈ cs → c.1 < 2 ^ k) (hv : ∀ c, c ∈ cs → c.2 &&& c.1 = c.2) : (coverT cs k).testBit m = cs.any fun c => mt c m := by
  unfold coverT
  rw [cover_fold, Nat.zero_testBit, Bool.false_or]
  induction cs with
  | nil => rfl
  | cons c cs ih =>
    rw [List.any_cons, List.any_cons, cubeT_bit hk hm (hp c List.mem_cons_self) (hv c List.mem_cons_self), ih (fun d hd => hp d (.tail _ hd)) fun d hd => hv d (.tail _ hd)]
theorem coverT_tb {cs : List (Nat × Nat)} {k : Nat} : Tb (coverT cs k) k := Tb.of fun m hm => by
  unfold coverT
  rw [cover_fold, Nat.zero_testBit, Bool.false_or, List.any_eq_false]
  intro c _
  rw [show (cubeT c k).testBit m = false from (cubeM_tb k).off hm]; decide
end Mine
end
section
set_option Elab.async false
set_option linter.all false
set_option maxRecDepth 100000
namespace Mine

theorem Good.mono {on up k n n' : Nat} {cs : List (Nat × Nat)} (g : Good on up k n cs) (h : n ≤ n') : Good on up k n' cs :=
  ⟨fun c hc => Nat.lt_of_lt_of_le (g.pl c hc) (Nat.pow_le_pow_right (by decide) h), g.va, g.cov, g.upp, g.irr, Nat.le_trans g.len (Nat.pow_le_pow_right (by decide) h)⟩
theorem good_nil {up k n : Nat} : Good 0 up k n [] :=
  ⟨fun _ h => (nomatch h), fun _ h => (nomatch h), fun m _ h => (by rw [Nat.zero_testBit] at h; cases h), fun _ _ _ h => (nomatch h), fun _ h => (nomatch h), Nat.zero_le _⟩
theorem exists_bit {on k : Nat} (h : Tb on k) (h0 : on ≠ 0) : ∃ m, m < 2 ^ k ∧ on.testBit m = true := by
  obtain ⟨m, hm⟩ := Nat.exists_testBit_of_ne_zero h0
  refine ⟨m, ?_, hm⟩
  by_cases q : m < 2 ^ k
  · exact q
  · rw [h.off q] at hm; cases hm
theorem mt_zero (m : Nat) : mt (0, 0) m = true := by unfold mt; simp
theorem good_all {on k n : Nat} (h : Tb on k) (h0 : on ≠ 0) : Good on (fullT k) k n [(0, 0)] := by
  refine ⟨fun c hc => ?_, fun c hc => ?_, fun m hm _ => ⟨(0, 0), List.mem_cons_self, mt_zero m⟩, fun m hm c hc _ => by rw [fullT_bit]; exact decide_eq_true hm, fun c hc => ?_, Nat.one_le_pow _ _ (by decide)⟩
  · rcases List.mem_singleton.mp hc with rfl; exact Nat.two_pow_pos n
  · rcases List.mem_singleton.mp hc with rfl; rfl
  · rcases List.mem_singleton.mp hc with rfl
    obtain ⟨m, h1, h2⟩ := exists_bit h h0
    refine ⟨m, h1, h2, mt_zero m, ?_⟩
    rw [List.countP_cons, List.countP_nil, mt_zero]; rfl

section
variable {on up k n i : Nat} {c0 c1 c2 : List (Nat × Nat)}
def on0 (on i k : Nat) : Nat := cofT on i 0 k
def on1 (on i k : Nat) : Nat := cofT on i 1 k
def lo0 (on up i k : Nat) : Nat := on0 on i k &&& (fullT k ^^^ on1 up i k)
def lo1 (on up i k : Nat) : Nat := on1 on i k &&& (fullT k ^^^ on0 up i k)
def re0 (on i k : Nat) (cs : List (Nat × Nat)) : Nat := on0 on i k &&& (fullT k ^^^ coverT cs k)
def re1 (on i k : Nat) (cs : List (Nat × Nat)) : Nat := on1 on i k &&& (fullT k ^^^ coverT cs k)
def joinC (i : Nat) (c0 c1 c2 : List (Nat × Nat)) : List (Nat × Nat) := c0.map (upc0 i) ++ c1.map (upc1 i) ++ c2

theorem Good.join (ton : Tb on k) (tup : Tb up k) (hk : k ≤ 5) (hi : i < n) (hn : n ≤ k)
    (g0 : Good (lo0 on up i k) (on0 up i k) k i c0) (g1 : Good (lo1 on up i k) (on1 up i k) k i c1)
    (g2 : Good (re0 on i k c0 ||| re1 on i k c1) (on0 up i k &&& on1 up i k) k i c2) : Good on up k n (joinC i c0 c1 c2) := by
  have hik : i < k := by omega
  have pw : 2 ^ i ≤ 2 ^ k := Nat.pow_le_pow_right (by decide) (by omega)
  have b_on0 : ∀ m, m < 2 ^ k → (on0 on i k).testBit m = on.testBit (fixT m i 0) := fun m hm => cofT_bit ton hk hik (by decide) hm
  have b_on1 : ∀ m, m < 2 ^ k → (on1 on i k).testBit m = on.testBit (fixT m i 1) := fun m hm => cofT_bit ton hk hik (by decide) hm
  have b_up0 : ∀ m, m < 2 ^ k → (on0 up i k).testBit m = up.testBit (fixT m i 0) := fun m hm => cofT_bit tup hk hik (by decide) hm
  have b_up1 : ∀ m, m < 2 ^ k → (on1 up i k).testBit m = up.testBit (fixT m i 1) := fun m hm => cofT_bit tup hk hik (by decide) hm
  have cv0 : ∀ m, m < 2 ^ k → (coverT c0 k).testBit m = c0.any fun c => mt c m := fun m hm => coverT_bit hk hm (fun c hc => Nat.lt_of_lt_of_le (g0.pl c hc) pw) g0.va
  have cv1 : ∀ m, m < 2 ^ k → (coverT c1 k).testBit m = c1.any fun c => mt c m := fun m hm => coverT_bit hk hm (fun c hc => Nat.lt_of_lt_of_le (g1.pl c hc) pw) g1.va
  have b_lo0 : ∀ m, m < 2 ^ k → (lo0 on up i k).testBit m = (on.testBit (fixT m i 0) && !up.testBit (fixT m i 1)) := fun m hm => by
    unfold lo0; rw [Nat.testBit_and, nfull_bit, b_on0 m hm, b_up1 m hm, decide_eq_true hm, Bool.true_bne]
  have b_lo1 : ∀ m, m < 2 ^ k → (lo1 on up i k).testBit m = (on.testBit (fixT m i 1) && !up.testBit (fixT m i 0)) := fun m hm => by
    unfold lo1; rw [Nat.testBit_and, nfull_bit, b_on1 m hm, b_up0 m hm, decide_eq_true hm, Bool.true_bne]
  have b_re0 : ∀ m, m < 2 ^ k → (re0 on i k c0).testBit m = (on.testBit (fixT m i 0) && !c0.any fun c => mt c m) := fun m hm => by
    unfold re0; rw [Nat.testBit_and, nfull_bit, b_on0 m hm, cv0 m hm, decide_eq_true hm, Bool.true_bne]
  have b_re1 : ∀ m, m < 2 ^ k → (re1 on i k c1).testBit m = (on.testBit (fixT m i 1) && !c1.any fun c => mt c m) := fun m hm => by
    unfold re1; rw [Nat.testBit_and, nfull_bit, b_on1 m hm, cv1 m hm, decide_eq_true hm, Bool.true_bne]
  have fz : ∀ m, m < 2 ^ k → m.testBit i = false → fixT m i 0 = m := fun m hm q => ((fix_fin k (by omega) i hik m hm).2.2.2 q).1
  have fo : ∀ m, m < 2 ^ k → m.testBit i = true → fixT m i 1 = m := fun m hm q => ((fix_fin k (by omega) i hik m hm).2.2.1 q).1
  have fl : ∀ m b, m < 2 ^ k → b < 2 → fixT m i b < 2 ^ k := fun m b hm hb => fix_lt hk hik hm hb
  have fb : ∀ m b, m < 2 ^ k → b < 2 → (fixT m i b).testBit i = decide (b = 1) := fun m b hm hb => by
    rw [fix_bits i (by omega) m (pow32 hk hm) b hb i (by omega), if_pos rfl]
  have ff : ∀ m b c, m < 2 ^ k → b < 2 → c < 2 → fixT (fixT m i c) i b = fixT m i b := fun m b c hm hb hc => fix_fix i (by omega) m (pow32 hk hm) b hb c hc
  have m0 : ∀ c, c ∈ c0 → ∀ m, mt (upc0 i c) m = (!m.testBit i && mt c m) := fun c hc m => mt_up0 (g0.pl c hc) (g0.va c hc)
  have m1 : ∀ c, c ∈ c1 → ∀ m, mt (upc1 i c) m = (m.testBit i && mt c m) := fun c hc m => mt_up1 (g1.pl c hc) (g1.va c hc)
  have x0 : ∀ c, c ∈ c0 → ∀ m b, m < 2 ^ k → b < 2 → mt c (fixT m i b) = mt c m := fun c hc m b hm hb => mt_fix (g0.pl c hc) (Nat.le_refl _) (by omega) (pow32 hk hm) hb
  have x1 : ∀ c, c ∈ c1 → ∀ m b, m < 2 ^ k → b < 2 → mt c (fixT m i b) = mt c m := fun c hc m b hm hb => mt_fix (g1.pl c hc) (Nat.le_refl _) (by omega) (pow32 hk hm) hb
  have x2 : ∀ c, c ∈ c2 → ∀ m b, m < 2 ^ k → b < 2 → mt c (fixT m i b) = mt c m := fun c hc m b hm hb => mt_fix (g2.pl c hc) (Nat.le_refl _) (by omega) (pow32 hk hm) hb
  -- counts at a row whose input i is 0, or 1
  have ct : ∀ m, (joinC i c0 c1 c2).countP (fun d => mt d m) = c0.countP (fun c => mt (upc0 i c) m) + c1.countP (fun c => mt (upc1 i c) m) + c2.countP (fun c => mt c m) := fun m => by
    unfold joinC
    rw [List.countP_append, List.countP_append, List.countP_map, List.countP_map]; rfl
  have k0 : ∀ m b, m < 2 ^ k → b < 2 → c0.countP (fun c => mt (upc0 i c) (fixT m i b)) = if b = 1 then 0 else c0.countP (fun c => mt c m) := fun m b hm hb => by
    rcases two_cases hb with rfl | rfl
    · rw [if_neg (by decide)]
      refine List.countP_congr fun c hc => ?_
      rw [m0 c hc, fb m 0 hm (by decide), x0 c hc m 0 hm (by decide)]; simp
    · rw [if_pos rfl, List.countP_eq_zero]
      intro c hc
      rw [m0 c hc, fb m 1 hm (by decide)]; simp
  have k1 : ∀ m b, m < 2 ^ k → b < 2 → c1.countP (fun c => mt (upc1 i c) (fixT m i b)) = if b = 1 then c1.countP (fun c => mt c m) else 0 := fun m b hm hb => by
    rcases two_cases hb with rfl | rfl
    · rw [if_neg (by decide), List.countP_eq_zero]
      intro c hc
      rw [m1 c hc, fb m 0 hm (by decide)]; simp
    · rw [if_pos rfl]
      refine List.countP_congr fun c hc => ?_
      rw [m1 c hc, fb m 1 hm (by decide), x1 c hc m 1 hm (by decide)]; simp
  have k2 : ∀ m b, m < 2 ^ k → b < 2 → c2.countP (fun c => mt c (fixT m i b)) = c2.countP (fun c => mt c m) := fun m b hm hb =>
    List.countP_congr fun c hc => by rw [x2 c hc m b hm hb]
  have z2 : ∀ m, m < 2 ^ k → (up.testBit (fixT m i 0) = false ∨ up.testBit (fixT m i 1) = false) → c2.countP (fun c => mt c m) = 0 := fun m hm h => by
    rw [List.countP_eq_zero]
    intro c hc q
    have := g2.upp m hm c hc q
    rw [Nat.testBit_and, b_up0 m hm, b_up1 m hm, Bool.and_eq_true] at this
    rcases h with h | h
    · rw [h] at this; exact absurd this.1 (by decide)
    · rw [h] at this; exact absurd this.2 (by decide)
  have zc : ∀ (cs : List (Nat × Nat)) m, (cs.any fun c => mt c m) = false → cs.countP (fun c => mt c m) = 0 := fun cs m h => by
    rw [List.countP_eq_zero]; exact List.any_eq_false.mp h
  refine ⟨fun c hc => ?_, fun c hc => ?_, fun m hm h => ?_, fun m hm c hc h => ?_, fun c hc => ?_, ?_⟩
  · have e2 : 2 ^ i < 2 ^ n := Nat.pow_lt_pow_right (by decide) hi
    unfold joinC at hc
    rcases List.mem_append.mp hc with hc | hc
    · rcases List.mem_append.mp hc with hc | hc
      · obtain ⟨d, hd, rfl⟩ := List.mem_map.mp hc
        exact Nat.or_lt_two_pow (Nat.lt_trans (g0.pl d hd) e2) (by rw [Nat.one_shiftLeft]; exact e2)
      · obtain ⟨d, hd, rfl⟩ := List.mem_map.mp hc
        exact Nat.or_lt_two_pow (Nat.lt_trans (g1.pl d hd) e2) (by rw [Nat.one_shiftLeft]; exact e2)
    · exact Nat.lt_trans (g2.pl c hc) e2
  · unfold joinC at hc
    rcases List.mem_append.mp hc with hc | hc
    · rcases List.mem_append.mp hc with hc | hc
      · obtain ⟨d, hd, rfl⟩ := List.mem_map.mp hc
        have hv := and_eq_iff.mp (g0.va d hd)
        refine and_eq_iff.mpr fun l => ?_
        show (d.2.testBit l && (d.1 ||| 1 <<< i).testBit l) = d.2.testBit l
        rw [pi_bit]
        have := hv l
        cases a : d.2.testBit l with
        | true => rw [a] at this; rw [Bool.true_and] at this; rw [this]; rfl
        | false => rfl
      · obtain ⟨d, hd, rfl⟩ := List.mem_map.mp hc
        have hv := and_eq_iff.mp (g1.va d hd)
        refine and_eq_iff.mpr fun l => ?_
        show ((d.2 ||| 1 <<< i).testBit l && (d.1 ||| 1 <<< i).testBit l) = (d.2 ||| 1 <<< i).testBit l
        rw [pi_bit, pi_bit]
        have := hv l
        cases a : d.2.testBit l with
        | true => rw [a] at this; rw [Bool.true_and] at this; rw [this]; rfl
        | false => cases decide (i = l) <;> simp
    · exact g2.va c hc
  · cases q : m.testBit i with
    | false =>
      have e := fz m hm q
      cases w : c0.any fun c => mt c m with
      | true =>
        obtain ⟨c, hc, hmt⟩ := List.any_eq_true.mp w
        refine ⟨upc0 i c, List.mem_append.mpr (.inl (List.mem_append.mpr (.inl (List.mem_map.mpr ⟨c, hc, rfl⟩)))), ?_⟩
        rw [m0 c hc, q, hmt]; rfl
      | false =>
        obtain ⟨c, hc, hmt⟩ := g2.cov m hm (by rw [Nat.testBit_or, b_re0 m hm, e, h, w]; rfl)
        exact ⟨c, List.mem_append.mpr (.inr hc), hmt⟩
    | true =>
      have e := fo m hm q
      cases w : c1.any fun c => mt c m with
      | true =>
        obtain ⟨c, hc, hmt⟩ := List.any_eq_true.mp w
        refine ⟨upc1 i c, List.mem_append.mpr (.inl (List.mem_append.mpr (.inr (List.mem_map.mpr ⟨c, hc, rfl⟩)))), ?_⟩
        rw [m1 c hc, q, hmt]; rfl
      | false =>
        obtain ⟨c, hc, hmt⟩ := g2.cov m hm (by rw [Nat.testBit_or, b_re1 m hm, e, h, w]; simp)
        exact ⟨c, List.mem_append.mpr (.inr hc), hmt⟩
  · unfold joinC at hc
    rcases List.mem_append.mp hc with hc | hc
    · rcases List.mem_append.mp hc with hc | hc
      · obtain ⟨d, hd, rfl⟩ := List.mem_map.mp hc
        rw [m0 d hd, Bool.and_eq_true] at h
        have q : m.testBit i = false := by simpa using h.1
        have := g0.upp m hm d hd h.2
        rw [b_up0 m hm, fz m hm q] at this
        exact this
      · obtain ⟨d, hd, rfl⟩ := List.mem_map.mp hc
        rw [m1 d hd, Bool.and_eq_true] at h
        have := g1.upp m hm d hd h.2
        rw [b_up1 m hm, fo m hm h.1] at this
        exact this
    · have := g2.upp m hm c hc h
      rw [Nat.testBit_and, b_up0 m hm, b_up1 m hm, Bool.and_eq_true] at this
      cases q : m.testBit i with
      | false => rw [fz m hm q] at this; exact this.1
      | true => rw [fo m hm q] at this; exact this.2
  · unfold joinC at hc
    rcases List.mem_append.mp hc with hc | hc
    · rcases List.mem_append.mp hc with hc | hc
      · obtain ⟨d, hd, rfl⟩ := List.mem_map.mp hc
        obtain ⟨m, hm, h1, h2, h3⟩ := g0.irr d hd
        rw [b_lo0 m hm, Bool.and_eq_true] at h1
        refine ⟨fixT m i 0, fl m 0 hm (by decide), h1.1, ?_, ?_⟩
        · rw [m0 d hd, fb m 0 hm (by decide), x0 d hd m 0 hm (by decide), h2]; rfl
        · rw [ct, k0 m 0 hm (by decide), k1 m 0 hm (by decide), k2 m 0 hm (by decide), h3, z2 m hm (.inr (by simpa using h1.2))]; rfl
      · obtain ⟨d, hd, rfl⟩ := List.mem_map.mp hc
        obtain ⟨m, hm, h1, h2, h3⟩ := g1.irr d hd
        rw [b_lo1 m hm, Bool.and_eq_true] at h1
        refine ⟨fixT m i 1, fl m 1 hm (by decide), h1.1, ?_, ?_⟩
        · rw [m1 d hd, fb m 1 hm (by decide), x1 d hd m 1 hm (by decide), h2]; rfl
        · rw [ct, k0 m 1 hm (by decide), k1 m 1 hm (by decide), k2 m 1 hm (by decide), h3, z2 m hm (.inl (by simpa using h1.2))]; rfl
    · obtain ⟨m, hm, h1, h2, h3⟩ := g2.irr c hc
      rw [Nat.testBit_or, b_re0 m hm, b_re1 m hm, Bool.or_eq_true, Bool.and_eq_true, Bool.and_eq_true] at h1
      rcases h1 with h1 | h1
      · refine ⟨fixT m i 0, fl m 0 hm (by decide), h1.1, ?_, ?_⟩
        · rw [x2 c hc m 0 hm (by decide), h2]
        · rw [ct, k0 m 0 hm (by decide), k1 m 0 hm (by decide), k2 m 0 hm (by decide), h3, if_neg (by decide), if_neg (by decide), zc c0 m (by simpa using h1.2)]
      · refine ⟨fixT m i 1, fl m 1 hm (by decide), h1.1, ?_, ?_⟩
        · rw [x2 c hc m 1 hm (by decide), h2]
        · rw [ct, k0 m 1 hm (by decide), k1 m 1 hm (by decide), k2 m 1 hm (by decide), h3, if_pos rfl, if_pos rfl, zc c1 m (by simpa using h1.2)]
  · unfold joinC
    rw [List.length_append, List.length_append, List.length_map, List.length_map]
    have : 3 ^ (i + 1) ≤ 3 ^ n := Nat.pow_le_pow_right (by decide) hi
    have e : 3 ^ (i + 1) = 3 ^ i * 3 := Nat.pow_succ _ _
    have := g0.len; have := g1.len; have := g2.len
    omega
end
end Mine
end
section
set_option Elab.async false
set_option linter.all false
set_option maxRecDepth 100000
namespace Mine

structure IsIn (on up k n : Nat) : Prop where
  ton : Tb on k
  tup : Tb up k
  sub : ∀ m, m < 2 ^ k → on.testBit m = true → up.testBit m = true
  ind : ∀ j, n ≤ j → j < k → Ind on j k ∧ Ind up j k

theorem clear_fin : ∀ n, n < 5 → ∀ m, m < 32 → fixT (m / 2 ^ n * 2 ^ n) n 0 = m / 2 ^ (n + 1) * 2 ^ (n + 1) := by decide +kernel
theorem const_of {t k : Nat} (hk : k ≤ 5) (h : ∀ i, i < k → Ind t i k) {m : Nat} (hm : m < 2 ^ k) : ∀ n, n ≤ k → t.testBit m = t.testBit (m / 2 ^ n * 2 ^ n)
  | 0, _ => by simp
  | n + 1, hn => by
    rw [const_of hk h hm n (by omega), ← clear_fin n (by omega) m (pow32 hk hm)]
    exact ((h n (by omega)).fix hk (by omega) (Nat.lt_of_le_of_lt (Nat.div_mul_le_self _ _) hm) (by decide)).symm
theorem const0 {t k : Nat} (hk : k ≤ 5) (h : ∀ i, i < k → Ind t i k) {m : Nat} (hm : m < 2 ^ k) : t.testBit m = t.testBit 0 := by
  rw [const_of hk h hm k (Nat.le_refl _), Nat.div_eq_of_lt hm, Nat.zero_mul]
def nd (on up j k : Nat) : Prop := depT on j k = false ∧ depT up j k = false
theorem find_down {on up k : Nat} : ∀ d, d ≤ k → (∃ i, i < k ∧ ¬ nd on up i k ∧ ∀ j, i < j → j < k → nd on up j k) ∨ (∀ j, k - d ≤ j → j < k → nd on up j k)
  | 0, _ => .inr fun j h1 h2 => by omega
  | d + 1, hd => by
    rcases find_down (on := on) (up := up) (k := k) d (by omega) with h | h
    · exact .inl h
    · by_cases q : nd on up (k - (d + 1)) k
      · refine .inr fun j h1 h2 => ?_
        by_cases e : j = k - (d + 1)
        · rw [e]; exact q
        · exact h j (by omega) h2
      · exact .inl ⟨k - (d + 1), by omega, q, fun j h1 h2 => h j (show k - d ≤ j by omega) h2⟩
theorem IsIn.find {on up k n : Nat} (h : IsIn on up k n) (hk : k ≤ 5) (h0 : on ≠ 0) (h1 : up ≠ fullT k) : ∃ i, i < n ∧ i < k ∧ ¬ nd on up i k ∧ ∀ j, i < j → j < k → nd on up j k := by
  rcases find_down (on := on) (up := up) (k := k) k (Nat.le_refl _) with ⟨i, hi, q, hj⟩ | q
  · refine ⟨i, ?_, hi, q, hj⟩
    by_cases e : i < n
    · exact e
    · obtain ⟨a, b⟩ := h.ind i (by omega) hi
      exact absurd ⟨(dep_iff h.ton hk hi).mpr a, (dep_iff h.tup hk hi).mpr b⟩ q
  · exfalso
    have a : ∀ i, i < k → Ind on i k := fun i hi => (dep_iff h.ton hk hi).mp (q i (by omega) hi).1
    have b : ∀ i, i < k → Ind up i k := fun i hi => (dep_iff h.tup hk hi).mp (q i (by omega) hi).2
    obtain ⟨m, hm, hb⟩ := exists_bit h.ton h0
    have c : up.testBit 0 = true := by
      rw [← const0 hk b hm]; exact h.sub m hm hb
    exact h1 (tab_ext h.tup (fullT_tb k) fun m hm => by rw [const0 hk b hm, c, fullT_bit, decide_eq_true hm])

theorem Ind.pt {t k j : Nat} (hj : j < k) (hk : k ≤ 5) (F : Nat → Bool) (h : ∀ m, m < 2 ^ k → t.testBit m = F m) (hF : ∀ m, m < 2 ^ k → F (fixT m j 0) = F (fixT m j 1)) : Ind t j k := fun m hm => by
  rw [h _ (fix_lt hk hj hm (by decide)), h _ (fix_lt hk hj hm (by decide)), hF m hm]
theorem cof_ind {t k i j b : Nat} (ht : Tb t k) (hk : k ≤ 5) (hi : i < k) (hj : j < k) (hb : b < 2) (h : i = j ∨ Ind t j k) : Ind (cofT t i b k) j k := by
  refine Ind.pt hj hk (fun m => t.testBit (fixT m i b)) (fun m hm => cofT_bit ht hk hi hb hm) fun m hm => ?_
  have h32 := pow32 hk hm
  by_cases e : i = j
  · subst e
    show t.testBit (fixT (fixT m i 0) i b) = t.testBit (fixT (fixT m i 1) i b)
    rw [fix_fix' hk hi hm hb (by decide), fix_fix' hk hi hm hb (by decide)]
  · show t.testBit (fixT (fixT m j 0) i b) = t.testBit (fixT (fixT m j 1) i b)
    rw [fix_comm' hk hi hj e hm hb (by decide), fix_comm' hk hi hj e hm hb (by decide)]
    exact (h.resolve_left e) _ (fix_lt hk hi hm hb)
where
  fix_fix' {k i m b c : Nat} (hk : k ≤ 5) (hi : i < k) (hm : m < 2 ^ k) (hb : b < 2) (hc : c < 2) : fixT (fixT m i c) i b = fixT m i b := fix_fix i (by omega) m (pow32 hk hm) b hb c hc
  fix_comm' {k i j m b c : Nat} (hk : k ≤ 5) (hi : i < k) (hj : j < k) (e : i ≠ j) (hm : m < 2 ^ k) (hb : b < 2) (hc : c < 2) : fixT (fixT m j c) i b = fixT (fixT m i b) j c := (fix_comm i (by omega) j (by omega) m (pow32 hk hm) b hb c hc).resolve_left e
theorem and_ind {a b k j : Nat} (hj : j < k) (hk : k ≤ 5) (h1 : Ind a j k) (h2 : Ind b j k) : Ind (a &&& b) j k := fun m hm => by
  rw [Nat.testBit_and, Nat.testBit_and, h1 m hm, h2 m hm]
theorem or_ind {a b k j : Nat} (hj : j < k) (hk : k ≤ 5) (h1 : Ind a j k) (h2 : Ind b j k) : Ind (a ||| b) j k := fun m hm => by
  rw [Nat.testBit_or, Nat.testBit_or, h1 m hm, h2 m hm]
theorem not_ind {b k j : Nat} (hj : j < k) (hk : k ≤ 5) (h2 : Ind b j k) : Ind (fullT k ^^^ b) j k := fun m hm => by
  rw [nfull_bit, nfull_bit, decide_eq_true (fix_lt hk hj hm (by decide)), decide_eq_true (fix_lt hk hj hm (by decide)), h2 m hm]
theorem cover_ind {cs : List (Nat × Nat)} {i k j : Nat} (hj : j < k) (hk : k ≤ 5) (hi : i ≤ j) (hp : ∀ c, c ∈ cs → c.1 < 2 ^ i) (hv : ∀ c, c ∈ cs → c.2 &&& c.1 = c.2) : Ind (coverT cs k) j k := by
  have hp' : ∀ c, c ∈ cs → c.1 < 2 ^ k := fun c hc => Nat.lt_of_lt_of_le (hp c hc) (Nat.pow_le_pow_right (by decide) (by omega))
  refine Ind.pt hj hk (fun m => cs.any fun c => mt c m) (fun m hm => coverT_bit hk hm hp' hv) fun m hm => ?_
  have : ∀ b, b < 2 → (cs.any fun c => mt c (fixT m j b)) = cs.any fun c => mt c m := fun b hb => by
    have aux : ∀ l : List (Nat × Nat), (∀ c, c ∈ l → c ∈ cs) → (l.any fun c => mt c (fixT m j b)) = l.any fun c => mt c m := fun l => by
      induction l with
      | nil => intro _; rfl
      | cons c l ih =>
        intro h
        rw [List.any_cons, List.any_cons, ih fun d hd => h d (.tail _ hd), mt_fix (hp c (h c List.mem_cons_self)) hi (by omega) (pow32 hk hm) hb]
    exact aux cs fun _ h => h
  show (cs.any fun c => mt c (fixT m j 0)) = (cs.any fun c => mt c (fixT m j 1))
  rw [this 0 (by decide), this 1 (by decide)]
theorem and_tb {a b k : Nat} (h : Tb a k) : Tb (a &&& b) k := Nat.lt_of_le_of_lt Nat.and_le_left h
theorem or_tb {a b k : Nat} (h : Tb a k) (h' : Tb b k) : Tb (a ||| b) k := Nat.or_lt_two_pow h h'

section
variable {on up k n i : Nat} {c0 c1 : List (Nat × Nat)}
theorem IsIn.found (h : IsIn on up k n) (hk : k ≤ 5) (hn : ∀ j, i < j → j < k → nd on up j k) : ∀ j, i ≤ j → j < k → i = j ∨ (Ind on j k ∧ Ind up j k) := fun j h1 h2 => by
  by_cases e : i = j
  · exact .inl e
  · obtain ⟨a, b⟩ := hn j (by omega) h2
    exact .inr ⟨(dep_iff h.ton hk h2).mp a, (dep_iff h.tup hk h2).mp b⟩
theorem IsIn.at0 (h : IsIn on up k n) (hk : k ≤ 5) (hi : i < k) (hn : ∀ j, i < j → j < k → nd on up j k) : IsIn (lo0 on up i k) (on0 up i k) k i := by
  have F := h.found hk hn
  refine ⟨and_tb (cofT_tb h.ton hk hi), cofT_tb h.tup hk hi, fun m hm q => ?_, fun j h1 h2 => ⟨?_, ?_⟩⟩
  · unfold lo0 on0 at q
    rw [Nat.testBit_and, cofT_bit h.ton hk hi (by decide) hm, Bool.and_eq_true] at q
    unfold on0
    rw [cofT_bit h.tup hk hi (by decide) hm]
    exact h.sub _ (fix_lt hk hi hm (by decide)) q.1
  · exact and_ind h2 hk (cof_ind h.ton hk hi h2 (by decide) ((F j h1 h2).imp id (·.1))) (not_ind h2 hk (cof_ind h.tup hk hi h2 (by decide) ((F j h1 h2).imp id (·.2))))
  · exact cof_ind h.tup hk hi h2 (by decide) ((F j h1 h2).imp id (·.2))
theorem IsIn.at1 (h : IsIn on up k n) (hk : k ≤ 5) (hi : i < k) (hn : ∀ j, i < j → j < k → nd on up j k) : IsIn (lo1 on up i k) (on1 up i k) k i := by
  have F := h.found hk hn
  refine ⟨and_tb (cofT_tb h.ton hk hi), cofT_tb h.tup hk hi, fun m hm q => ?_, fun j h1 h2 => ⟨?_, ?_⟩⟩
  · unfold lo1 on1 at q
    rw [Nat.testBit_and, cofT_bit h.ton hk hi (by decide) hm, Bool.and_eq_true] at q
    unfold on1
    rw [cofT_bit h.tup hk hi (by decide) hm]
    exact h.sub _ (fix_lt hk hi hm (by decide)) q.1
  · exact and_ind h2 hk (cof_ind h.ton hk hi h2 (by decide) ((F j h1 h2).imp id (·.1))) (not_ind h2 hk (cof_ind h.tup hk hi h2 (by decide) ((F j h1 h2).imp id (·.2))))
  · exact cof_ind h.tup hk hi h2 (by decide) ((F j h1 h2).imp id (·.2))
theorem IsIn.at2 (h : IsIn on up k n) (hk : k ≤ 5) (hi : i < k) (hn : ∀ j, i < j → j < k → nd on up j k)
    (g0 : Good (lo0 on up i k) (on0 up i k) k i c0) (g1 : Good (lo1 on up i k) (on1 up i k) k i c1) : IsIn (re0 on i k c0 ||| re1 on i k c1) (on0 up i k &&& on1 up i k) k i := by
  have F := h.found hk hn
  have pw : 2 ^ i ≤ 2 ^ k := Nat.pow_le_pow_right (by decide) (by omega)
  have cv0 : ∀ m, m < 2 ^ k → (coverT c0 k).testBit m = c0.any fun c => mt c m := fun m hm => coverT_bit hk hm (fun c hc => Nat.lt_of_lt_of_le (g0.pl c hc) pw) g0.va
  have cv1 : ∀ m, m < 2 ^ k → (coverT c1 k).testBit m = c1.any fun c => mt c m := fun m hm => coverT_bit hk hm (fun c hc => Nat.lt_of_lt_of_le (g1.pl c hc) pw) g1.va
  refine ⟨or_tb (and_tb (cofT_tb h.ton hk hi)) (and_tb (cofT_tb h.ton hk hi)), and_tb (cofT_tb h.tup hk hi), fun m hm q => ?_, fun j h1 h2 => ⟨?_, ?_⟩⟩
  · have d0 : (lo0 on up i k).testBit m = (on.testBit (fixT m i 0) && !up.testBit (fixT m i 1)) := by
      unfold lo0 on0 on1; rw [Nat.testBit_and, nfull_bit, cofT_bit h.ton hk hi (by decide) hm, cofT_bit h.tup hk hi (by decide) hm, decide_eq_true hm, Bool.true_bne]
    have d1 : (lo1 on up i k).testBit m = (on.testBit (fixT m i 1) && !up.testBit (fixT m i 0)) := by
      unfold lo1 on0 on1; rw [Nat.testBit_and, nfull_bit, cofT_bit h.ton hk hi (by decide) hm, cofT_bit h.tup hk hi (by decide) hm, decide_eq_true hm, Bool.true_bne]
    have s0 := h.sub _ (fix_lt hk hi hm (b := 0) (by decide))
    have s1 := h.sub _ (fix_lt hk hi hm (b := 1) (by decide))
    unfold re0 re1 on0 on1 at q
    rw [Nat.testBit_or, Nat.testBit_and, Nat.testBit_and, nfull_bit, nfull_bit, cv0 m hm, cv1 m hm, cofT_bit h.ton hk hi (by decide) hm, cofT_bit h.ton hk hi (by decide) hm, decide_eq_true hm, Bool.true_bne, Bool.true_bne, Bool.or_eq_true, Bool.and_eq_true, Bool.and_eq_true] at q
    unfold on0 on1
    rw [Nat.testBit_and, cofT_bit h.tup hk hi (by decide) hm, cofT_bit h.tup hk hi (by decide) hm, Bool.and_eq_true]
    rcases q with ⟨q1, q2⟩ | ⟨q1, q2⟩
    · refine ⟨s0 q1, ?_⟩
      cases w : up.testBit (fixT m i 1) with
      | true => rfl
      | false =>
        obtain ⟨c, hc, hm'⟩ := g0.cov m hm (by rw [d0, q1, w]; rfl)
        have : (c0.any fun c => mt c m) = true := List.any_eq_true.mpr ⟨c, hc, hm'⟩
        rw [this] at q2; cases q2
    · refine ⟨?_, s1 q1⟩
      cases w : up.testBit (fixT m i 0) with
      | true => rfl
      | false =>
        obtain ⟨c, hc, hm'⟩ := g1.cov m hm (by rw [d1, q1, w]; rfl)
        have : (c1.any fun c => mt c m) = true := List.any_eq_true.mpr ⟨c, hc, hm'⟩
        rw [this] at q2; cases q2
  · have a := fun b hb => cof_ind h.ton hk hi h2 (b := b) hb ((F j h1 h2).imp id (·.1))
    exact or_ind h2 hk (and_ind h2 hk (a 0 (by decide)) (not_ind h2 hk (cover_ind h2 hk h1 g0.pl g0.va))) (and_ind h2 hk (a 1 (by decide)) (not_ind h2 hk (cover_ind h2 hk h1 g1.pl g1.va)))
  · have a := fun b hb => cof_ind h.tup hk hi h2 (b := b) hb ((F j h1 h2).imp id (·.2))
    exact and_ind h2 hk (a 0 (by decide)) (a 1 (by decide))
end
end Mine
end
section
open PySem PySem.W PyProof.Rows
set_option Elab.async false
set_option linter.all false
set_option maxRecDepth 100000
namespace Mine
local macro_rules | `(tactic| keq_rows) => `(tactic| first
  | with_reducible assumption
  | omega
  | (with_reducible first | exact OKA.mono (by assumption) (by omega) | exact shp _ | exact Nat.succ_pos _)
  | ((with_reducible refine Nat.le_trans (sh5 ?_) ?_) <;> omega)
  | ((with_reducible refine Nat.lt_of_le_of_lt Nat.and_le_right ?_); omega)
  | (with_reducible first | exact mapN_get (by assumption) | exact FzV.sq (by assumption))
  | (rw [List.length_map]; omega)
  | ((with_reducible refine llen ?_); simp))
local macro_rules | `(tactic| kp_flats) => `(tactic| repeat' (first
  | ((with_reducible refine lk ?_); exact (rfl : _ = _))
  | ((with_reducible refine lkO ?_); first | exact Or.inl rfl | exact Or.inr rfl)
  | (intro _; rfl)
  | (intro _ _; rfl)
  | ((with_reducible refine dbgL ?_); decide +kernel)
  | ((with_reducible refine cokL ?_); decide +kernel)
  | (with_reducible first | exact SubF.nil | apply SubF.cons | exact EvL.nil | apply EvL.cons | exact Ev.n1 | exact Ev.n0 | exact Ev.n2 | exact Ev.n3 | exact Ev.n5 | exact Ev.n7 | exact Ev.n63 | exact Ev.n100003 | exact Ev.n48271 | exact Ev.n2147483647 | apply Ev.name | exact Ev.bool | apply Ev.binop | exact Bop.addN | exact Bop.andN | exact Bop.orN | exact Bop.xorN | exact Bop.shrN | apply Bop.shlN | apply Bop.subN | apply Bop.fdivN | apply Bop.fmodN | apply Bop.mulN | apply Bop.powN | apply Ev.lenQ ‹G _ _ _› | apply Ev.rangeN ‹G _ _ _› | apply Ev.listQ ‹G _ _ _› | apply Ev.tupleQ ‹G _ _ _› | apply Ev.maxQ ‹G _ _ _› (OKA.h ‹_›) | apply Ev.minQ ‹G _ _ _› (OKA.h ‹_›) | apply Ev.callF (G.B ‹G _ _ _›) | apply Ev.itemQ | apply Ev.tupD | apply Ev.listD | apply Ev.cmp | exact Cop.eqN | exact Cop.neN | exact Cop.geN | exact Cop.gtN | exact Cop.leN | exact Cop.neB | exact Iop.andN | exact Iop.orN | apply Tr.cmp | apply Tr.not | apply Tr.boolop | apply Tr.val | apply Exs.retS | apply Ex.appendL)
  | ((with_reducible apply Exs.asg); exact (rfl : _ = true))
  | (with_reducible first | apply Exs.augS | apply Exs.appS | exact Exs.nil)
  | k_subL
  | (with_reducible first | exact ItV.list _ | exact Cop.eqN | exact ItV.range (by omega) | exact SqV.list _ | exact SqV.tup _ | exact SeqV.list _ | exact Sub.refl | apply Sub.cons | exact Sub.nil)
  | keq_rows
  | exact (rfl : _ = _)
  | (intro _; exact ⟨_, rfl⟩)))
local macro_rules | `(tactic| keq_hits) => `(tactic| ((with_reducible apply ExsE.to); (conv => pattern (dBody _); whnf); (conv => pattern (Scope.names _); whnf)))
section
theorem take_mapS {f : Nat × Nat → Nat × Nat} {cs : List (Nat × Nat)} {j : Nat} (h : j < cs.length) : ((cs.take (j + 1)).map f).map cubeV = ((cs.take j).map f).map cubeV ++ [.tup [N (f cs[j]).1, N (f cs[j]).2]] := by
  rw [List.take_succ, List.getElem?_eq_getElem h, List.map_append, List.map_append]; rfl
theorem pureL_cubes : ∀ (l : List (Nat × Nat)), PureL (l.map cubeV)
  | [] => .nil
  | c :: l => .cons _ _ (.tup _ (.cons _ _ (.int _) (.cons _ _ (.int _) .nil))) (pureL_cubes l)
section
variable {C : Cx} {mg mb : Str → Option Value}
local macro_rules | `(tactic| k_subL) => `(tactic| first | with_reducible apply c_cover ‹_› | with_reducible apply c_dep ‹_› | with_reducible apply c_cof ‹_› | with_reducible apply c_var ‹_› | with_reducible apply c_full ‹_›)
theorem c_isop (g : G C mg mb) {k : Nat} (hk : k ≤ 5) : ∀ n, n ≤ k → ∀ on up, IsIn on up k n → ∃ cs, Good on up k n cs ∧ ∀ A b, OKA (n + 5) A → CallF C mg A "isop" [N on, N up, N k] b (.list (cs.map cubeV)) b := by
  intro n
  induction n using Nat.strongRecOn with
  | _ n ih =>
  intro hn on up H
  have ton := H.ton.lt32 hk
  have tup := H.tup.lt32 hk
  by_cases h0 : on = 0
  · refine ⟨[], by rw [h0]; exact good_nil, fun A b hA => ?_⟩
    refine CallF.def0 (k := n + 4) (bx := [[]]) (r := [("on", N on), ("upper", N up), ("k", N k)]) hA g.B (g.fn 14 (by decide)) (fun pm cd doc vals hl => by
      match vals, hl with
      | [_, _, _], _ => rfl) (by rfl) (by decide +kernel) (by rfl) (fun A' hA' => ?_) (.box b.length _ (Nat.le_refl _) get_last .nil)
    keq_hits
    case h =>
      with_reducible apply Exs.ifRet (q := decide_eq_true h0)
      all_goals kp_flats
    all_goals rfl
  · by_cases h1 : up = fullT k
    · refine ⟨[(0, 0)], by rw [h1]; exact good_all H.ton h0, fun A b hA => ?_⟩
      refine CallF.def0 (k := n + 4) (bx := [[.tup [N 0, N 0]]]) (r := [("on", N on), ("upper", N up), ("k", N k)]) hA g.B (g.fn 14 (by decide)) (fun pm cd doc vals hl => by
        match vals, hl with
        | [_, _, _], _ => rfl) (by rfl) (by decide +kernel) (by rfl) (fun A' hA' => ?_) (.box b.length _ (Nat.le_refl _) get_last (pureL_cubes [(0, 0)]))
      keq_hits
      case h =>
        with_reducible apply Exs.ifSkip (q := decide_eq_false h0)
        case h => kp_flats
        case h2 =>
          with_reducible apply Exs.asg
          case h => kp_flats
          case rest =>
            with_reducible apply Exs.ifRet (q := decide_eq_true h1)
            all_goals kp_flats
          all_goals kp_flats
      all_goals rfl
    · obtain ⟨i, hin, hik, hP, hN⟩ := H.find hk h0 h1
      obtain ⟨c0, g0, r0⟩ := ih i hin (by omega) _ _ (H.at0 hk hik hN)
      obtain ⟨c1, g1, r1⟩ := ih i hin (by omega) _ _ (H.at1 hk hik hN)
      obtain ⟨c2, g2, r2⟩ := ih i hin (by omega) _ _ (H.at2 hk hik hN g0 g1)
      have GG := Good.join H.ton H.tup hk hin hn g0 g1 g2
      refine ⟨joinC i c0 c1 c2, GG, fun A b hA => ?_⟩
      have hlen : (joinC i c0 c1 c2).length ≤ 1000 := Nat.le_trans GG.len (Nat.le_trans (Nat.pow_le_pow_right (by decide) (by omega : n ≤ 5)) (by decide))
      have hj : (joinC i c0 c1 c2).length = c0.length + c1.length + c2.length := by unfold joinC; simp; omega
      refine CallF.def0 (k := n + 4) (bx := [(c0.map (upc0 i) ++ c1.map (upc1 i)).map cubeV]) (r := [("on", N on), ("upper", N up), ("k", N k)]) hA g.B (g.fn 14 (by decide)) (fun pm cd doc vals hl => by
        match vals, hl with
        | [_, _, _], _ => rfl) (by rfl) (by decide +kernel) (by rfl) (fun A' hA' => ?_) (.pure _ (.list _ (pureL_cubes _)))
      have e0 : CallF C mg A' "isop" [N (cofT on i 0 k &&& (fullT k ^^^ cofT up i 1 k)), N (cofT up i 0 k), N k] b (.list (c0.map cubeV)) b := r0 A' b (hA'.mono (by omega))
      have e1 : CallF C mg A' "isop" [N (cofT on i 1 k &&& (fullT k ^^^ cofT up i 0 k)), N (cofT up i 1 k), N k] b (.list (c1.map cubeV)) b := r1 A' b (hA'.mono (by omega))
      have e2 : CallF C mg A' "isop" [N ((cofT on i 0 k &&& (fullT k ^^^ coverT c0 k)) ||| (cofT on i 1 k &&& (fullT k ^^^ coverT c1 k))), N (cofT up i 0 k &&& cofT up i 1 k), N k] b (.list (c2.map cubeV)) b := r2 A' b (hA'.mono (by omega))
      clear ih r0 r1 r2
      have l0 : (c0.map cubeV).length = c0.length := List.length_map _
      have l1 : (c1.map cubeV).length = c1.length := List.length_map _
      have hi4 := q17 (i := i) (by omega)
      keq_hits
      case h =>
        with_reducible apply Exs.ifSkip (q := decide_eq_false h0)
        case h => kp_flats
        case h2 =>
          with_reducible apply Exs.asg
          case h => kp_flats
          case rest =>
            with_reducible apply Exs.ifSkip (q := decide_eq_false h1)
            case h => kp_flats
            case h2 =>
              with_reducible apply Exs.asg (v := N (i + (k - 1 - i)))
              case h =>
                have e : k - 1 = i + (k - 1 - i) := by omega
                rw [← e]
                kp_flats
              case rest =>
                with_reducible apply Exs.whileC (d := k - 1 - i) (fun j => [("i", N (i + j)), ("full", N (fullT k)), ("on", N on), ("upper", N up), ("k", N k)])
                case hstop =>
                  rw [Nat.add_zero]
                  with_reducible apply Tr.boolop
                  by_cases hd : depT on i k = true
                  · with_reducible apply TrAll.stopAnd
                    with_reducible apply Tr.to (t := !depT on i k)
                    case q => rw [hd]; rfl
                    kp_flats
                  · have hd' : depT on i k = false := by simpa using hd
                    have hu : depT up i k = true := by
                      cases q : depT up i k with
                      | true => rfl
                      | false => exact absurd ⟨hd', q⟩ hP
                    with_reducible apply TrAll.goAnd
                    · with_reducible apply Tr.to (t := !depT on i k)
                      case q => rw [hd']; rfl
                      kp_flats
                    · with_reducible apply TrAll.stopAnd
                      with_reducible apply Tr.to (t := !depT up i k)
                      case q => rw [hu]; rfl
                      kp_flats
                case hgo =>
                  intro j hj
                  have hd := hN (i + (j + 1)) (by omega) (by omega)
                  with_reducible apply Tr.boolop
                  with_reducible apply TrAll.goAnd
                  · with_reducible apply Tr.to (t := !depT on (i + (j + 1)) k)
                    case q => rw [hd.1]; rfl
                    kp_flats
                  · with_reducible apply TrAll.goAnd
                    · with_reducible apply Tr.to (t := !depT up (i + (j + 1)) k)
                      case q => rw [hd.2]; rfl
                      kp_flats
                    · exact TrAll.nil
                case hbody =>
                  intro j hj
                  with_reducible apply ExsN.of
                  case h =>
                    with_reducible apply Exs.augS (w := N (i + j))
                    case h => kp_flats
                    case h2 => exact Iop.subN1
                    all_goals kp_flats
                  case q => kp_flats
                case rest =>
                  rw [Nat.add_zero]
                  kp_flats
                  with_reducible apply Exs.forL (vs := c0.map cubeV) (fun _ => [("found", .box b.length), ("cubes0", .list (c0.map cubeV)), ("cubes1", .list (c1.map cubeV)), ("cubes2", .list (c2.map cubeV)), ("i", N i)]) (fun j => b ++ [((c0.take j).map (upc0 i)).map cubeV]) hA'.h
                  case hbody =>
                    intro j hj
                    rw [l0] at hj
                    have e : (c0.map cubeV)[j] = .tup [N c0[j].1, N c0[j].2] := by simp [cubeV]
                    rw [e, take_mapS hj]
                    have hl : (((c0.take j).map (upc0 i)).map cubeV).length ≤ 1000000 := by simp; omega
                    show ExsN _ _ _ _ _ _ _ (b ++ [((c0.take j).map (upc0 i)).map cubeV ++ [.tup [N (c0[j].1 ||| 1 <<< i), N c0[j].2]]])
                    with_reducible apply ExsN.of
                    case h => kp_flats
                    case q => kp_flats
                  case h1 => kp_flats
                  case hn => kp_flats
                  case rest =>
                    rw [l0, List.take_length]
                    with_reducible apply Exs.forL (vs := c1.map cubeV) (fun _ => [("found", .box b.length), ("cubes1", .list (c1.map cubeV)), ("cubes2", .list (c2.map cubeV)), ("i", N i)]) (fun j => b ++ [(c0.map (upc0 i)).map cubeV ++ ((c1.take j).map (upc1 i)).map cubeV]) hA'.h
                    case hbody =>
                      intro j hj
                      rw [l1] at hj
                      have e : (c1.map cubeV)[j] = .tup [N c1[j].1, N c1[j].2] := by simp [cubeV]
                      rw [e, take_mapS hj, ← List.append_assoc]
                      have hl : ((c0.map (upc0 i)).map cubeV ++ ((c1.take j).map (upc1 i)).map cubeV).length ≤ 1000000 := by simp; omega
                      show ExsN _ _ _ _ _ _ _ (b ++ [(c0.map (upc0 i)).map cubeV ++ ((c1.take j).map (upc1 i)).map cubeV ++ [.tup [N (c1[j].1 ||| 1 <<< i), N (c1[j].2 ||| 1 <<< i)]]])
                      with_reducible apply ExsN.of
                      case h => kp_flats
                      case q => kp_flats
                    case h1 => kp_flats
                    case hn => kp_flats
                    case hb => simp
                    case rest =>
                      rw [l1, List.take_length, ← List.map_append]
                      with_reducible apply Exs.retS (v := .list ((c0.map (upc0 i) ++ c1.map (upc1 i)).map cubeV ++ c2.map cubeV))
                      with_reducible apply Ev.binop
                      case h1 => kp_flats
                      case h2 => kp_flats
                      case h3 => exact Bop.cat (SeqV.box _ _ get_last) (SeqV.list _) (by simp; omega)
                      all_goals kp_flats
                    all_goals kp_flats
                  all_goals kp_flats
                all_goals kp_flats
              all_goals kp_flats
          all_goals kp_flats
      case hv => unfold joinC; simp only [List.map_append]
      case hb => rfl
end
end
end Mine
end
section
set_option Elab.async false
set_option linter.all false
set_option maxRecDepth 100000
namespace Mine

/- sums of bits -/
def sumB (f : Nat → Nat) : Nat → Nat
  | 0 => 0
  | n + 1 => sumB f n + f n * 2 ^ n
theorem sum_range (f : Nat → Nat) : ∀ n, ((List.range n).map fun i => f i * 2 ^ i).sum = sumB f n
  | 0 => rfl
  | n + 1 => by rw [List.range_succ, List.map_append, List.sum_append, sum_range f n]; simp [sumB]
theorem getD_range {f : Nat → Nat} {n i : Nat} (h : i < n) : ((List.range n).map f).getD i 0 = f i := by simp [List.getD, h]
theorem rowsT_range (f : Nat → Nat) (n : Nat) : rowsT ((List.range n).map f) = sumB f n := by
  unfold rowsT
  rw [← sum_range, List.length_map, List.length_range]
  congr 1
  exact List.map_congr_left fun i hi => by rw [getD_range (List.mem_range.mp hi)]
theorem sumB_lt {f : Nat → Nat} : ∀ n, (∀ i, i < n → f i ≤ 1) → sumB f n < 2 ^ n
  | 0, _ => Nat.zero_lt_one
  | n + 1, h => by
    have := sumB_lt n fun i hi => h i (by omega)
    have h1 : f n * 2 ^ n ≤ 1 * 2 ^ n := Nat.mul_le_mul_right _ (h n (by omega))
    unfold sumB
    rw [Nat.pow_succ]; omega
theorem sumB_bit {f : Nat → Nat} : ∀ n, (∀ i, i < n → f i ≤ 1) → ∀ m, (sumB f n).testBit m = (decide (m < n) && decide (f m = 1))
  | 0, _, m => by rw [decide_eq_false (Nat.not_lt_zero m)]; exact Nat.zero_testBit m
  | n + 1, h, m => by
    have ih := sumB_bit n (fun i hi => h i (by omega)) m
    have hl := sumB_lt n fun i hi => h i (by omega)
    unfold sumB
    rw [Nat.add_comm, Nat.mul_comm, Nat.testBit_two_pow_mul_add _ hl]
    by_cases hm : m < n
    · rw [if_pos hm, ih, decide_eq_true hm, decide_eq_true (by omega : m < n + 1)]
    · rw [if_neg hm]
      by_cases e : m = n
      · subst e
        rw [Nat.sub_self, decide_eq_true (Nat.lt_succ_self m), Bool.true_and]
        have := h m (by omega)
        have h2 : f m = 0 ∨ f m = 1 := by omega
        rcases h2 with q | q <;> rw [q] <;> rfl
      · rw [decide_eq_false (by omega : ¬ m < n + 1), Bool.false_and]
        have := h n (by omega)
        exact Nat.testBit_lt_two_pow (Nat.lt_of_le_of_lt this (Nat.one_lt_two_pow (by omega)))
theorem sumB_eq {f : Nat → Nat} {n x : Nat} (hx : x < 2 ^ n) (hf : ∀ m, m < n → f m = (x.testBit m).toNat) : sumB f n = x := by
  have h1 : ∀ i, i < n → f i ≤ 1 := fun i hi => by rw [hf i hi]; cases x.testBit i <;> decide
  refine Nat.eq_of_testBit_eq fun m => ?_
  rw [sumB_bit n h1]
  by_cases hm : m < n
  · rw [decide_eq_true hm, hf m hm]; cases x.testBit m <;> rfl
  · rw [decide_eq_false hm, hi_off hx (by omega)]; rfl
/-- the rows of a table -/
theorem rows_eq {f : Nat → Nat} {n x : Nat} (hx : x < 2 ^ n) (hf : ∀ m, m < n → f m = (x.testBit m).toNat) : x = rowsT ((List.range n).map f) := by
  rw [rowsT_range, sumB_eq hx hf]
theorem bitT_bit (t row : Nat) : bitT t row = (t.testBit row).toNat := by
  unfold bitT; rw [Nat.toNat_testBit]
theorem bitT_le (t row : Nat) : bitT t row ≤ 1 := by rw [bitT_bit]; cases t.testBit row <;> decide

/- permuting, spreading, gathering -/
theorem and1_bit {x j p m : Nat} : ((x >>> j &&& 1) <<< p).testBit m = (decide (m = p) && x.testBit j) := by
  rw [Nat.testBit_shiftLeft, Nat.and_one_is_mod]
  by_cases h : m = p
  · subst h
    rw [decide_eq_true rfl, decide_eq_true (Nat.le_refl m), Nat.sub_self, Bool.true_and, Bool.true_and]
    rw [Nat.shiftRight_eq_div_pow, Nat.testBit_zero, Nat.mod_mod, ← bit_div]
  · rw [decide_eq_false h, Bool.false_and]
    by_cases h2 : m ≥ p
    · rw [decide_eq_true h2, Bool.true_and]
      exact Nat.testBit_lt_two_pow (Nat.lt_of_lt_of_le (Nat.mod_lt _ (by decide)) (Nat.pow_le_pow_right (n := 2) (i := 1) (by decide) (by omega)))
    · rw [decide_eq_false h2, Bool.false_and]
theorem permM_bit {t : Nat} {f : Nat → Nat} {m : Nat} : ∀ n, (permM t f n).testBit m = (decide (m < n) && t.testBit (f m))
  | 0 => by rw [decide_eq_false (Nat.not_lt_zero m)]; exact Nat.zero_testBit m
  | n + 1 => by
    unfold permM
    rw [Nat.testBit_or, permM_bit n, and1_bit]
    by_cases e : m = n
    · subst e
      rw [decide_eq_false (Nat.lt_irrefl m), decide_eq_true rfl, decide_eq_true (Nat.lt_succ_self m)]; simp
    · rw [decide_eq_false e]
      by_cases h : m < n
      · rw [decide_eq_true h, decide_eq_true (by omega : m < n + 1)]; simp
      · rw [decide_eq_false h, decide_eq_false (by omega : ¬ m < n + 1)]; simp
theorem permM_lt {t : Nat} {f : Nat → Nat} (n : Nat) : permM t f n < 2 ^ n :=
  Nat.lt_pow_two_of_testBit _ fun m hm => by rw [permM_bit, decide_eq_false (by omega)]; rfl
theorem gatherM_bit {m : Nat} {ps : List Nat} {p : Nat} : ∀ n, (gatherM m ps n).testBit p = (decide (p < n) && m.testBit (ps.getD p 0))
  | 0 => by rw [decide_eq_false (Nat.not_lt_zero p)]; exact Nat.zero_testBit p
  | n + 1 => by
    unfold gatherM
    rw [Nat.testBit_or, gatherM_bit n, and1_bit]
    by_cases e : p = n
    · subst e
      rw [decide_eq_false (Nat.lt_irrefl p), decide_eq_true rfl, decide_eq_true (Nat.lt_succ_self p)]; simp
    · rw [decide_eq_false e]
      by_cases h : p < n
      · rw [decide_eq_true h, decide_eq_true (by omega : p < n + 1)]; simp
      · rw [decide_eq_false h, decide_eq_false (by omega : ¬ p < n + 1)]; simp
theorem gatherM_lt {m : Nat} {ps : List Nat} (n : Nat) : gatherM m ps n < 2 ^ n :=
  Nat.lt_pow_two_of_testBit _ fun p hp => by rw [gatherM_bit, decide_eq_false (by omega)]; rfl
/-- as the law says it -/
def gatherS (m : Nat) (ps : List Nat) (n : Nat) : Nat := ((List.range n).map fun j => m / 2 ^ ps.getD j 0 % 2 * 2 ^ j).sum
theorem gatherS_eq (m : Nat) (ps : List Nat) (n : Nat) : gatherS m ps n = gatherM m ps n := by
  unfold gatherS
  rw [sum_range (fun j => m / 2 ^ ps.getD j 0 % 2)]
  exact sumB_eq (gatherM_lt n) fun j hj => by rw [gatherM_bit, decide_eq_true hj, Bool.true_and, Nat.toNat_testBit]
theorem spreadM_bit {m : Nat} {ps : List Nat} {p : Nat} : ∀ n, (spreadM m ps n).testBit p = true ↔ ∃ j, j < n ∧ ps.getD j 0 = p ∧ m.testBit j = true
  | 0 => ⟨fun h => (by rw [show spreadM m ps 0 = 0 from rfl, Nat.zero_testBit] at h; cases h), fun ⟨j, hj, _⟩ => absurd hj (Nat.not_lt_zero j)⟩
  | n + 1 => by
    unfold spreadM
    rw [Nat.testBit_or, Bool.or_eq_true, spreadM_bit n, and1_bit, Bool.and_eq_true, decide_eq_true_iff]
    constructor
    · rintro (⟨j, h1, h2, h3⟩ | ⟨h1, h2⟩)
      · exact ⟨j, by omega, h2, h3⟩
      · exact ⟨n, by omega, h1.symm, h2⟩
    · rintro ⟨j, h1, h2, h3⟩
      by_cases e : j = n
      · subst e; exact .inr ⟨h2.symm, h3⟩
      · exact .inl ⟨j, by omega, h2, h3⟩
theorem spreadM_lt {m w : Nat} {ps : List Nat} {n : Nat} (h : ∀ j, j < n → ps.getD j 0 < w) : spreadM m ps n < 2 ^ w :=
  Nat.lt_pow_two_of_testBit _ fun p hp => by
    cases q : (spreadM m ps n).testBit p with
    | false => rfl
    | true =>
      obtain ⟨j, h1, h2, _⟩ := (spreadM_bit n).mp q
      have := h j h1
      omega
theorem or_single {x p : Nat} (h : x.testBit p = false) : x ||| 2 ^ p = x + 2 ^ p := by
  have e : x + 2 ^ p = 2 ^ p * (x / 2 ^ p + 1) + x % 2 ^ p := by
    have := Nat.div_add_mod x (2 ^ p)
    rw [Nat.mul_add, Nat.mul_one]; omega
  rw [bit_div] at h
  have h2 : x / 2 ^ p % 2 = 0 := by have := of_decide_eq_false h; omega
  refine Nat.eq_of_testBit_eq fun j => ?_
  rw [e, Nat.testBit_two_pow_mul_add _ (Nat.mod_lt _ (Nat.two_pow_pos p)), Nat.testBit_or, Nat.testBit_two_pow]
  by_cases hj : j < p
  · rw [if_pos hj, decide_eq_false (by omega : ¬ p = j), Bool.or_false, Nat.testBit_mod_two_pow, decide_eq_true hj, Bool.true_and]
  · rw [if_neg hj]
    by_cases ej : p = j
    · subst ej
      rw [decide_eq_true rfl, Bool.or_true, Nat.sub_self, Nat.testBit_zero]
      exact (decide_eq_true (by omega)).symm
    · rw [decide_eq_false ej, Bool.or_false]
      obtain ⟨d, rfl⟩ : ∃ d, j = p + (d + 1) := ⟨j - p - 1, by omega⟩
      rw [show p + (d + 1) - p = d + 1 by omega, Nat.testBit_succ, show (x / 2 ^ p + 1) / 2 = x / 2 ^ p / 2 by omega, ← Nat.testBit_succ, Nat.testBit_div_two_pow]
      congr 1; omega
def spreadS (m : Nat) (ps : List Nat) (n : Nat) : Nat := ((List.range n).map fun j => m / 2 ^ j % 2 * 2 ^ ps.getD j 0).sum
theorem spreadS_eq {m : Nat} {ps : List Nat} : ∀ n, (∀ i j, i < n → j < n → ps.getD i 0 = ps.getD j 0 → i = j) → spreadS m ps n = spreadM m ps n
  | 0, _ => rfl
  | n + 1, h => by
    have ih := spreadS_eq (m := m) (ps := ps) n fun i j hi hj => h i j (by omega) (by omega)
    unfold spreadS at ih ⊢
    rw [List.range_succ, List.map_append, List.sum_append, ih]
    have e0 : spreadM m ps (n + 1) = spreadM m ps n ||| ((m >>> n &&& 1) <<< ps.getD n 0) := rfl
    rw [e0]
    have e : (m >>> n &&& 1) = m / 2 ^ n % 2 := by rw [Nat.and_one_is_mod, Nat.shiftRight_eq_div_pow]
    rw [e]
    have hb : (spreadM m ps n).testBit (ps.getD n 0) = false := by
      cases q : (spreadM m ps n).testBit (ps.getD n 0) with
      | false => rfl
      | true =>
        obtain ⟨j, h1, h2, _⟩ := (spreadM_bit n).mp q
        have := h j n (by omega) (by omega) h2
        omega
    have hs : ([n].map fun j => m / 2 ^ j % 2 * 2 ^ ps.getD j 0).sum = m / 2 ^ n % 2 * 2 ^ ps.getD n 0 := by simp
    rw [hs, Nat.shiftLeft_eq]
    rcases Nat.mod_two_eq_zero_or_one (m / 2 ^ n) with q | q
    · rw [q]; simp
    · rw [q, Nat.one_mul, or_single hb]
end Mine
end
section
set_option Elab.async false
set_option linter.all false
set_option maxRecDepth 100000
set_option synthInstance.maxSize 4096
set_option synthInstance.maxHeartbeats 400000
namespace Mine

theorem agree {t w m m' : Nat} (hw : w ≤ 5) (hm : m < 2 ^ w) (hm' : m' < 2 ^ w) (h : ∀ p, p < w → Ind t p w ∨ m.testBit p = m'.testBit p) : t.testBit m = t.testBit m' := by
  have key : ∀ n, n ≤ w → ∃ x, x < 2 ^ w ∧ t.testBit x = t.testBit m ∧ (∀ p, p < n → x.testBit p = m'.testBit p) ∧ (∀ p, n ≤ p → p < w → x.testBit p = m.testBit p) := by
    intro n
    induction n with
    | zero => exact fun _ => ⟨m, hm, rfl, fun p hp => absurd hp (Nat.not_lt_zero p), fun p _ _ => rfl⟩
    | succ n ih =>
      intro hn
      obtain ⟨x, h1, h2, h3, h4⟩ := ih (by omega)
      by_cases q : m.testBit n = m'.testBit n
      · refine ⟨x, h1, h2, fun p hp => ?_, fun p hp hpw => h4 p (by omega) hpw⟩
        by_cases e : p = n
        · subst e; rw [h4 p (Nat.le_refl p) (by omega), q]
        · exact h3 p (by omega)
      · have hi := (h n (by omega)).resolve_right q
        have hb : (m'.testBit n).toNat < 2 := by cases m'.testBit n <;> decide
        refine ⟨fixT x n (m'.testBit n).toNat, fix_lt hw (by omega) h1 hb, ?_, fun p hp => ?_, fun p hp hpw => ?_⟩
        · rw [hi.fix hw (by omega) h1 hb, h2]
        · rw [fix_bits n (by omega) x (pow32 hw h1) _ hb p (by omega)]
          by_cases e : p = n
          · subst e; rw [if_pos rfl]; cases m'.testBit p <;> rfl
          · rw [if_neg e]; exact h3 p (by omega)
        · rw [fix_bits n (by omega) x (pow32 hw h1) _ hb p (by omega), if_neg (by omega)]
          exact h4 p (by omega) hpw
  obtain ⟨x, h1, h2, h3, _⟩ := key w (Nat.le_refl w)
  have : x = m' := Nat.eq_of_testBit_eq fun p => by
    by_cases hp : p < w
    · exact h3 p hp
    · rw [hi_off h1 (by omega), hi_off hm' (by omega)]
  rw [← h2, this]

theorem mem_supM {t k p : Nat} : ∀ n, p ∈ supM t k n ↔ p < n ∧ depT t p k = true
  | 0 => ⟨fun h => (nomatch h), fun h => absurd h.1 (Nat.not_lt_zero p)⟩
  | n + 1 => by
    have ih := mem_supM (t := t) (k := k) (p := p) n
    unfold supM
    by_cases hd : depT t n k = true
    · rw [if_pos hd, List.mem_append, ih, List.mem_singleton]
      constructor
      · rintro (⟨h1, h2⟩ | rfl)
        · exact ⟨by omega, h2⟩
        · exact ⟨by omega, hd⟩
      · rintro ⟨h1, h2⟩
        by_cases e : p = n
        · exact .inr e
        · exact .inl ⟨by omega, h2⟩
    · rw [if_neg hd, ih]
      constructor
      · rintro ⟨h1, h2⟩; exact ⟨by omega, h2⟩
      · rintro ⟨h1, h2⟩
        refine ⟨?_, h2⟩
        by_cases e : p = n
        · subst e; exact absurd h2 hd
        · omega
theorem getD_mem {l : List Nat} {j : Nat} (h : j < l.length) : l.getD j 0 ∈ l := by
  have : l.getD j 0 = l[j] := by simp [List.getD, h]
  rw [this]; exact List.getElem_mem h
theorem mem_getD {l : List Nat} {p : Nat} (h : p ∈ l) : ∃ j, j < l.length ∧ l.getD j 0 = p := by
  obtain ⟨j, hj, e⟩ := List.getElem_of_mem h
  exact ⟨j, hj, by simp [List.getD, hj, e]⟩
/-- the table over its support, read back -/
theorem shrink_row {t w m : Nat} (ht : Tb t w) (hw : w ≤ 5) (hm : m < 2 ^ w) : (shrinkT t w).testBit (gatherM m (supM t w w) (supM t w w).length) = t.testBit m := by
  generalize hK : supM t w w = K
  have hk : ∀ p, p ∈ K ↔ p < w ∧ depT t p w = true := fun p => by rw [← hK]; exact mem_supM w
  unfold shrinkT
  rw [hK, permM_bit, Nat.one_shiftLeft, decide_eq_true (gatherM_lt _), Bool.true_and]
  refine agree hw (spreadM_lt fun j hj => ((hk _).mp (getD_mem hj)).1) hm fun p hp => ?_
  by_cases hpK : p ∈ K
  · right
    obtain ⟨j, hj, ej⟩ := mem_getD hpK
    cases q : m.testBit p with
    | true => exact (spreadM_bit _).mpr ⟨j, hj, ej, by rw [gatherM_bit, decide_eq_true hj, ej, q]; rfl⟩
    | false =>
      cases q2 : (spreadM (gatherM m K K.length) K K.length).testBit p with
      | false => rfl
      | true =>
        obtain ⟨i, hi, ei, h3⟩ := (spreadM_bit _).mp q2
        rw [gatherM_bit, ei, q, Bool.and_false] at h3; cases h3
  · left
    have : depT t p w = false := by
      cases q : depT t p w with
      | false => rfl
      | true => exact absurd ((hk p).mpr ⟨hp, q⟩) hpK
    exact (dep_iff ht hw hp).mp this
theorem expand_shrink {t w : Nat} (ht : Tb t w) (hw : w ≤ 5) : permM (shrinkT t w) (fun m => gatherM m (supM t w w) (supM t w w).length) (1 <<< w) = t := by
  rw [Nat.one_shiftLeft]
  refine tab_ext (permM_lt _) ht fun m hm => ?_
  rw [permM_bit, decide_eq_true hm, Bool.true_and, shrink_row ht hw hm]

/- orders -/
def insN (o : List Nat) (d x : Nat) : List Nat := o.take d ++ x :: o.drop d
theorem insN_map (o : List Nat) (d x : Nat) : insAt (o.map N) d (N x) = (insN o d x).map N := by
  unfold insAt insN
  rw [List.map_append, List.map_cons, List.map_take, List.map_drop]
structure OrdOK (o : List Nat) (n : Nat) : Prop where
  nd : o.Nodup
  len : o.length = n
  lt : ∀ p, p ∈ o → p < n
theorem OrdOK.nil : OrdOK [] 0 := ⟨List.nodup_nil, rfl, fun _ h => (nomatch h)⟩
theorem insN_perm (o : List Nat) (d x : Nat) : (insN o d x).Perm (x :: o) := by
  unfold insN
  have := List.perm_middle (a := x) (l₁ := o.take d) (l₂ := o.drop d)
  rw [List.take_append_drop] at this
  exact this
theorem OrdOK.ins {o : List Nat} {n : Nat} (h : OrdOK o n) (d : Nat) : OrdOK (insN o d n) (n + 1) := by
  have P := insN_perm o d n
  refine ⟨P.nodup_iff.mpr (List.nodup_cons.mpr ⟨fun m => Nat.lt_irrefl _ (h.lt _ m), h.nd⟩), by rw [P.length_eq, List.length_cons, h.len], fun p hp => ?_⟩
  rcases List.mem_cons.mp (P.mem_iff.mp hp) with rfl | q
  · omega
  · have := h.lt p q; omega
theorem OrdOK.inj {o : List Nat} {n : Nat} (h : OrdOK o n) {i j : Nat} (hi : i < n) (hj : j < n) (e : o.getD i 0 = o.getD j 0) : i = j := by
  have hl := h.len
  have hi' : i < o.length := by omega
  have hj' : j < o.length := by omega
  have e1 : o.getD i 0 = o[i] := by simp [List.getD, hi']
  have e2 : o.getD j 0 = o[j] := by simp [List.getD, hj']
  rw [e1, e2] at e
  have := List.pairwise_iff_getElem.mp h.nd
  rcases Nat.lt_trichotomy i j with q | q | q
  · exact absurd e (this i j hi' hj' q)
  · exact q
  · exact absurd e.symm (this j i hj' hi' q)

/- exchange -/
def sw (m i j : Nat) : Nat := fixT (fixT m i (m / 2 ^ j % 2)) j (m / 2 ^ i % 2)
theorem sw_f1 : ∀ k, k < 6 → ∀ hi, hi < k → ∀ lo, lo < hi → ∀ m, m < 2 ^ k → (m.testBit lo ≠ m.testBit hi ∨ (sw m lo hi = m ∧ sw m hi lo = m)) := by decide +kernel
theorem sw_f2 : ∀ k, k < 6 → ∀ hi, hi < k → ∀ lo, lo < hi → ∀ m, m < 2 ^ k → (m.testBit lo = false ∨ m.testBit hi = true ∨ (sw m lo hi = m + (2 ^ hi - 2 ^ lo) ∧ sw m hi lo = m + (2 ^ hi - 2 ^ lo) ∧ m + (2 ^ hi - 2 ^ lo) < 2 ^ k ∧ (m + (2 ^ hi - 2 ^ lo)).testBit lo = false ∧ (m + (2 ^ hi - 2 ^ lo)).testBit hi = true)) := by decide +kernel
theorem sw_f3 : ∀ k, k < 6 → ∀ hi, hi < k → ∀ lo, lo < hi → ∀ m, m < 2 ^ k → (m.testBit lo = true ∨ m.testBit hi = false ∨ (sw m lo hi = m - (2 ^ hi - 2 ^ lo) ∧ sw m hi lo = m - (2 ^ hi - 2 ^ lo) ∧ 2 ^ hi - 2 ^ lo ≤ m ∧ (m - (2 ^ hi - 2 ^ lo)).testBit lo = true ∧ (m - (2 ^ hi - 2 ^ lo)).testBit hi = false)) := by decide +kernel
theorem sw_g1 : ∀ k, k < 6 → ∀ hi, hi < k → ∀ lo, lo < hi → ∀ x, x < 2 ^ k → (x.testBit lo = false ∨ x.testBit hi = true ∨ ((x + (2 ^ hi - 2 ^ lo)).testBit lo = false ∧ (x + (2 ^ hi - 2 ^ lo)).testBit hi = true ∧ x + (2 ^ hi - 2 ^ lo) < 2 ^ k)) := by decide +kernel
theorem sw_g2 : ∀ k, k < 6 → ∀ hi, hi < k → ∀ lo, lo < hi → ∀ m, m < 2 ^ k → (2 ^ k ≤ m + (2 ^ hi - 2 ^ lo) ∨ (m + (2 ^ hi - 2 ^ lo)).testBit lo = true ∨ (m + (2 ^ hi - 2 ^ lo)).testBit hi = false ∨ (m.testBit lo = true ∧ m.testBit hi = false)) := by decide +kernel
theorem swU_bit {t lo hi k m : Nat} (ht : Tb t k) (hk : k ≤ 5) (h1 : lo < k) (h2 : hi < k) : (swapU t lo hi k).testBit m = (t.testBit m && m.testBit lo && !m.testBit hi) := by
  unfold swapU
  rw [Nat.testBit_and, high_bit ht hk h1, nfull_bit, varT_bit hk h2]
  by_cases hm : m < 2 ^ k
  · rw [decide_eq_true hm]; simp
  · rw [ht.off hm]; simp
theorem swD_bit {t lo hi k m : Nat} (ht : Tb t k) (hk : k ≤ 5) (h1 : lo < k) (h2 : hi < k) : (swapD t lo hi k).testBit m = (t.testBit m && m.testBit hi && !m.testBit lo) := swU_bit ht hk h2 h1
theorem bfalse {x : Bool} {P : Prop} (A : x = true → P) (h : ¬ P) : x = false := Bool.eq_false_iff.mpr fun q => h (A q)
theorem swap_lohi {t lo hi k m : Nat} (ht : Tb t k) (hk : k ≤ 5) (hlh : lo < hi) (hhi : hi < k) :
    ((t ^^^ swapU t lo hi k ^^^ swapD t lo hi k) ||| swapU t lo hi k <<< ((1 <<< hi) - (1 <<< lo)) ||| swapD t lo hi k >>> ((1 <<< hi) - (1 <<< lo))).testBit m = (decide (m < 2 ^ k) && t.testBit (sw m lo hi)) ∧ (m < 2 ^ k → sw m lo hi = sw m hi lo) := by
  have hlo : lo < k := by omega
  rw [Nat.one_shiftLeft, Nat.one_shiftLeft, Nat.testBit_or, Nat.testBit_or, Nat.testBit_xor, Nat.testBit_xor, Nat.testBit_shiftLeft, Nat.testBit_shiftRight, swU_bit ht hk hlo hhi, swD_bit ht hk hlo hhi, swU_bit ht hk hlo hhi, swD_bit ht hk hlo hhi, Nat.add_comm (2 ^ hi - 2 ^ lo) m]
  have A : (decide (m ≥ 2 ^ hi - 2 ^ lo) && (t.testBit (m - (2 ^ hi - 2 ^ lo)) && (m - (2 ^ hi - 2 ^ lo)).testBit lo && !(m - (2 ^ hi - 2 ^ lo)).testBit hi)) = true → m.testBit lo = false ∧ m.testBit hi = true ∧ m < 2 ^ k := fun h => by
    rw [Bool.and_eq_true, Bool.and_eq_true, Bool.and_eq_true, decide_eq_true_iff] at h
    obtain ⟨h1, ⟨h2, h3⟩, h4⟩ := h
    have hx : m - (2 ^ hi - 2 ^ lo) < 2 ^ k := by
      by_cases q : m - (2 ^ hi - 2 ^ lo) < 2 ^ k
      · exact q
      · rw [ht.off q] at h2; cases h2
    have e : m - (2 ^ hi - 2 ^ lo) + (2 ^ hi - 2 ^ lo) = m := by omega
    rcases sw_g1 k (by omega) hi hhi lo hlh _ hx with q | q | q
    · rw [q] at h3; cases h3
    · rw [q] at h4; cases h4
    · rw [e] at q; exact q
  by_cases hm : m < 2 ^ k
  · have B : (t.testBit (m + (2 ^ hi - 2 ^ lo)) && (m + (2 ^ hi - 2 ^ lo)).testBit hi && !(m + (2 ^ hi - 2 ^ lo)).testBit lo) = true → m.testBit lo = true ∧ m.testBit hi = false := fun h => by
      rw [Bool.and_eq_true, Bool.and_eq_true] at h
      obtain ⟨⟨h2, h3⟩, h4⟩ := h
      rcases sw_g2 k (by omega) hi hhi lo hlh m hm with q | q | q | q
      · rw [ht.off (by omega)] at h2; cases h2
      · rw [q] at h4; cases h4
      · rw [q] at h3; cases h3
      · exact q
    rw [decide_eq_true hm, Bool.true_and]
    cases a : m.testBit lo with
    | true =>
      cases c : m.testBit hi with
      | true =>
        obtain ⟨e1, e2⟩ := (sw_f1 k (by omega) hi hhi lo hlh m hm).resolve_left (by rw [a, c]; simp)
        have A' := bfalse A (fun h => by rw [a] at h; cases h.1)
        have B' := bfalse B (fun h => by rw [c] at h; cases h.2)
        rw [A', B', e1, e2]
        simp
      | false =>
        obtain ⟨e1, e2, e3, e4, e5⟩ := ((sw_f2 k (by omega) hi hhi lo hlh m hm).resolve_left (by rw [a]; simp)).resolve_left (by rw [c]; simp)
        have A' := bfalse A (fun h => by rw [a] at h; cases h.1)
        rw [A', e1, e2, e4, e5]
        simp
    | false =>
      cases c : m.testBit hi with
      | true =>
        obtain ⟨e1, e2, e3, e4, e5⟩ := ((sw_f3 k (by omega) hi hhi lo hlh m hm).resolve_left (by rw [a]; simp)).resolve_left (by rw [c]; simp)
        have B' := bfalse B (fun h => by rw [a] at h; cases h.1)
        rw [B', e1, e2, e4, e5, decide_eq_true e3]
        simp
      | false =>
        obtain ⟨e1, e2⟩ := (sw_f1 k (by omega) hi hhi lo hlh m hm).resolve_left (by rw [a, c]; simp)
        have A' := bfalse A (fun h => by rw [c] at h; cases h.2.1)
        have B' := bfalse B (fun h => by rw [a] at h; cases h.1)
        rw [A', B', e1, e2]
        simp
  · have A' := bfalse A (fun h => hm h.2.2)
    rw [A', ht.off hm, ht.off (show ¬ m + (2 ^ hi - 2 ^ lo) < 2 ^ k by omega), decide_eq_false hm]
    exact ⟨by simp, fun h => absurd h hm⟩
theorem swapT_bit {t i j k m : Nat} (ht : Tb t k) (hk : k ≤ 5) (hi : i < k) (hj : j < k) : (swapT t i j k).testBit m = (decide (m < 2 ^ k) && t.testBit (sw m i j)) := by
  unfold swapT
  by_cases e : i = j
  · rw [if_pos e]
    subst e
    by_cases hm : m < 2 ^ k
    · have hb : m / 2 ^ i % 2 < 2 := Nat.mod_lt _ (by decide)
      have : sw m i i = m := by
        unfold sw
        rw [fix_fix i (by omega) m (pow32 hk hm) _ hb _ hb, fix_self i (by omega) m (pow32 hk hm)]
      rw [this, decide_eq_true hm, Bool.true_and]
    · rw [ht.off hm, decide_eq_false hm]; rfl
  · rw [if_neg e]
    rcases Nat.lt_or_gt_of_ne e with q | q
    · have e1 : Nat.min i j = i := Nat.min_eq_left (by omega)
      have e2 : Nat.max i j = j := Nat.max_eq_right (by omega)
      rw [e1, e2]
      exact (swap_lohi ht hk q hj).1
    · have e1 : Nat.min i j = j := Nat.min_eq_right (by omega)
      have e2 : Nat.max i j = i := Nat.max_eq_left (by omega)
      rw [e1, e2]
      obtain ⟨h1, h2⟩ := swap_lohi (m := m) ht hk q hi
      rw [h1]
      by_cases hm : m < 2 ^ k
      · rw [h2 hm]
      · rw [decide_eq_false hm]; rfl
end Mine
end
section
set_option Elab.async false
set_option linter.all false
set_option maxRecDepth 100000
namespace Mine

def ind (c : Nat × Nat) (m : Nat) : Nat := if mt c m = true then 1 else 0
def cnt (cs : List (Nat × Nat)) (m : Nat) : Nat := (cs.map fun c => ind c m).sum
theorem ind_le (c : Nat × Nat) (m : Nat) : ind c m ≤ 1 := by unfold ind; split <;> decide
theorem cnt_countP (cs : List (Nat × Nat)) (m : Nat) : cnt cs m = cs.countP fun c => mt c m := by
  unfold cnt
  induction cs with
  | nil => rfl
  | cons c cs ih =>
    rw [List.map_cons, List.sum_cons, List.countP_cons, ih]
    unfold ind
    omega
theorem cnt_pos {cs : List (Nat × Nat)} {m : Nat} : 0 < cnt cs m ↔ ∃ c, c ∈ cs ∧ mt c m = true := by
  rw [cnt_countP]; exact List.countP_pos_iff
theorem min1 (n : Nat) : Nat.min 1 n = (decide (0 < n)).toNat := by
  by_cases h : 0 < n
  · rw [decide_eq_true h]; exact Nat.min_eq_left h
  · obtain rfl : n = 0 := by omega
    rfl
section
variable {t u w : Nat} {cs : List (Nat × Nat)}
theorem between (g : Good t u w w cs) {m : Nat} (hm : m < 2 ^ w) : bitT t m ≤ Nat.min 1 (cnt cs m) ∧ Nat.min 1 (cnt cs m) ≤ bitT u m := by
  rw [bitT_bit, bitT_bit, min1]
  constructor
  · cases q : t.testBit m with
    | false => exact Nat.zero_le _
    | true => rw [decide_eq_true (cnt_pos.mpr (g.cov m hm q))]; decide
  · by_cases h : 0 < cnt cs m
    · obtain ⟨c, hc, hmt⟩ := cnt_pos.mp h
      rw [g.upp m hm c hc hmt, decide_eq_true h]; decide
    · rw [decide_eq_false h]; exact Nat.zero_le _
theorem cover_rows (g : Good t u w w cs) (hw : w ≤ 5) : coverT cs w = rowsT ((List.range (2 ^ w)).map fun m => Nat.min 1 (cnt cs m)) :=
  rows_eq coverT_tb fun m hm => by
    rw [min1, coverT_bit hw hm g.pl g.va]
    congr 1
    refine bool_dec ?_
    rw [cnt_pos, List.any_eq_true]
theorem alone (g : Good t u w w cs) {c : Nat × Nat} (hc : c ∈ cs) : (List.range (2 ^ w)).filter (fun m => decide (ind c m = 1) && (decide (bitT t m = 1) && (decide (cnt cs m = 1)))) ≠ [] := by
  obtain ⟨m, h1, h2, h3, h4⟩ := g.irr c hc
  intro e
  have : m ∈ (List.range (2 ^ w)).filter (fun m => decide (ind c m = 1) && (decide (bitT t m = 1) && (decide (cnt cs m = 1)))) := by
    rw [List.mem_filter]
    refine ⟨List.mem_range.mpr h1, ?_⟩
    rw [decide_eq_true (show ind c m = 1 by unfold ind; rw [if_pos h3]), decide_eq_true (show bitT t m = 1 by rw [bitT_bit, h2]; rfl), decide_eq_true (show cnt cs m = 1 by rw [cnt_countP, h4])]
    rfl
  rw [e] at this; cases this
end
theorem var_rows {i w : Nat} (hw : w ≤ 5) (hi : i < w) : varT i w = rowsT ((List.range (2 ^ w)).map fun row => row / 2 ^ i % 2) :=
  rows_eq (varT_tb hw hi) fun m hm => by rw [varT_bit hw hi, decide_eq_true hm, Bool.true_and, Nat.toNat_testBit]
/-- the rows with input i fixed -/
def fixR (t w i b : Nat) : List Nat := (List.range (2 ^ w)).map fun row => bitT t (fixT row i b)
theorem cof_rows {t w i b : Nat} (ht : Tb t w) (hw : w ≤ 5) (hi : i < w) (hb : b < 2) : cofT t i b w = rowsT (fixR t w i b) :=
  rows_eq (cofT_tb ht hw hi) fun m hm => by rw [cofT_bit ht hw hi hb hm, bitT_bit]
theorem dep_rows {t w i : Nat} (ht : Tb t w) (hw : w ≤ 5) (hi : i < w) : depT t i w = decide (fixR t w i 0 ≠ fixR t w i 1) := by
  unfold depT
  have : (cofT t i 0 w ≠ cofT t i 1 w) ↔ (fixR t w i 0 ≠ fixR t w i 1) := by
    apply not_congr
    constructor
    · intro e
      refine List.map_congr_left fun m hm => ?_
      have hm' := List.mem_range.mp hm
      rw [bitT_bit, bitT_bit, ← cofT_bit ht hw hi (by decide) hm', ← cofT_bit ht hw hi (by decide) hm', e]
    · intro e
      rw [cof_rows ht hw hi (by decide), cof_rows ht hw hi (by decide), e]
  simp only [this]
theorem flip_rows {t w i : Nat} (ht : Tb t w) (hw : w ≤ 5) (hi : i < w) : flipT t i w = rowsT ((List.range (2 ^ w)).map fun row => bitT t (fixT row i (1 - row / 2 ^ i % 2))) :=
  rows_eq (flipT_tb ht hw hi) fun m hm => by rw [flipT_bit ht hw hi hm, bitT_bit]
theorem perm_rows {t w : Nat} {o : List Nat} (h : OrdOK o w) : permM t (fun m => spreadM m o o.length) (1 <<< w) = rowsT ((List.range (2 ^ w)).map fun row => bitT t (spreadS row o w)) := by
  rw [Nat.one_shiftLeft, h.len]
  refine rows_eq (permM_lt _) fun m hm => ?_
  rw [permM_bit, decide_eq_true hm, Bool.true_and, bitT_bit, spreadS_eq w fun i j hi hj e => h.inj hi hj e]
theorem spreadS_lt {w m : Nat} {o : List Nat} (h : OrdOK o w) : spreadS m o w < 2 ^ w := by
  rw [spreadS_eq w fun i j hi hj e => h.inj hi hj e]
  exact spreadM_lt fun j hj => h.lt _ (getD_mem (by rw [h.len]; exact hj))
theorem swap_rows {t w i j : Nat} (ht : Tb t w) (hw : w ≤ 5) (hi : i < w) (hj : j < w) : swapT t i j w = rowsT ((List.range (2 ^ w)).map fun row => bitT t (sw row i j)) :=
  rows_eq (Tb.of fun m hm => by rw [swapT_bit ht hw hi hj, decide_eq_false hm]; rfl) fun m hm => by rw [swapT_bit ht hw hi hj, decide_eq_true hm, Bool.true_and, bitT_bit]
theorem sw_lt {w m i j : Nat} (hw : w ≤ 5) (hi : i < w) (hj : j < w) (hm : m < 2 ^ w) : sw m i j < 2 ^ w :=
  fix_lt hw hj (fix_lt hw hi hm (Nat.mod_lt _ (by decide))) (Nat.mod_lt _ (by decide))
theorem expand_rows {t v n : Nat} {ps : List Nat} (hl : ps.length = n) : permM t (fun m => gatherM m ps ps.length) (1 <<< v) = rowsT ((List.range (2 ^ v)).map fun row => bitT t (gatherS row ps n)) := by
  rw [Nat.one_shiftLeft, hl]
  refine rows_eq (permM_lt _) fun m hm => ?_
  rw [permM_bit, decide_eq_true hm, Bool.true_and, bitT_bit, gatherS_eq]
theorem gatherS_lt {m n : Nat} {ps : List Nat} : gatherS m ps n < 2 ^ n := by rw [gatherS_eq]; exact gatherM_lt n
theorem shrink_zero {t w : Nat} : shrinkT t w / 2 ^ 2 ^ (supM t w w).length = 0 := by
  have : shrinkT t w < 2 ^ (1 <<< (supM t w w).length) := permM_lt _
  rw [Nat.one_shiftLeft] at this
  exact Nat.div_eq_of_lt this
theorem shrink_bit {t w m : Nat} (ht : Tb t w) (hw : w ≤ 5) (hm : m < 2 ^ w) : bitT (shrinkT t w) (gatherS m (supM t w w) (supM t w w).length) = bitT t m := by
  rw [bitT_bit, bitT_bit, gatherS_eq, shrink_row ht hw hm]
theorem upper_isin {t w : Nat} {f : Nat → Nat} (ht : Tb t w) (hf : ∀ m, m < 2 ^ w → bitT t m ≤ f m ∧ f m ≤ 1) : IsIn t (rowsT ((List.range (2 ^ w)).map f)) w w := by
  rw [rowsT_range]
  have h1 : ∀ i, i < 2 ^ w → f i ≤ 1 := fun i hi => (hf i hi).2
  refine ⟨ht, sumB_lt _ h1, fun m hm q => ?_, fun j h1 h2 => by omega⟩
  rw [sumB_bit _ h1, decide_eq_true hm, Bool.true_and]
  have := hf m hm
  rw [bitT_bit, q] at this
  exact decide_eq_true (by have h3 : Bool.toNat true = 1 := rfl; omega)
end Mine
end
section
open PySem PySem.W PyProof.Rows
set_option Elab.async false
set_option linter.all false
set_option maxRecDepth 100000
namespace Mine

def lsc : List (Str × NameKind) := (Str.ofString "script", NameKind.local) :: (Str.ofString "cells", NameKind.local) :: (Str.ofString "hand", NameKind.cell) :: (Str.ofString "wide", NameKind.cell) :: (Str.ofString "many", NameKind.cell) :: (Str.ofString "table", NameKind.cell) :: (Str.ofString "row", NameKind.cell) :: (Str.ofString "upper", NameKind.local) :: (Str.ofString "cubes", NameKind.local) :: (Str.ofString "cube", NameKind.local) :: (Str.ofString "layers", NameKind.cell) :: (Str.ofString "cover", NameKind.cell) :: (Str.ofString "entire", NameKind.local) :: (Str.ofString "alone", NameKind.local) :: (Str.ofString "held", NameKind.cell) :: (Str.ofString "one", NameKind.cell) :: (Str.ofString "fixed", NameKind.local) :: (Str.ofString "turned", NameKind.local) :: (Str.ofString "order", NameKind.cell) :: (Str.ofString "olds", NameKind.local) :: (Str.ofString "two", NameKind.cell) :: (Str.ofString "small", NameKind.local) :: (Str.ofString "kept", NameKind.local) :: (Str.ofString "short", NameKind.local) :: (Str.ofString "wider", NameKind.local) :: (Str.ofString "seats", NameKind.cell) :: (Str.ofString "rows", NameKind.local) :: (Str.ofString "sum", NameKind.globalImplicit) :: (Str.ofString "_law_pick", NameKind.globalImplicit) :: (Str.ofString "_law_rows", NameKind.globalImplicit) :: (Str.ofString "range", NameKind.globalImplicit) :: (Str.ofString "isop", NameKind.globalImplicit) :: (Str.ofString "_law_bit", NameKind.globalImplicit) :: (Str.ofString "cover_table", NameKind.globalImplicit) :: (Str.ofString "var_table", NameKind.globalImplicit) :: (Str.ofString "depends", NameKind.globalImplicit) :: (Str.ofString "flip_input", NameKind.globalImplicit) :: (Str.ofString "list", NameKind.globalImplicit) :: (Str.ofString "support", NameKind.globalImplicit) :: (Str.ofString "permute", NameKind.globalImplicit) :: (Str.ofString "tuple", NameKind.globalImplicit) :: (Str.ofString "swap_inputs", NameKind.globalImplicit) :: (Str.ofString "shrink", NameKind.globalImplicit) :: (Str.ofString "len", NameKind.globalImplicit) :: (Str.ofString "expand", NameKind.globalImplicit) :: (Str.ofString "min", NameKind.globalImplicit) :: []
theorem lsc_eq : (dScope (defAt 20)).names = lsc := by decide +kernel
def stm (k : Nat) : Stmt := (dBody (defAt 20)).getD k (.Pass default)
def lawRest (k : Nat) : List Stmt := (dBody (defAt 20)).drop k
theorem law_len : (dBody (defAt 20)).length = 31 := by decide +kernel
theorem drop_getD {α : Type} (d : α) : ∀ (l : List α) (k : Nat), k < l.length → l.drop k = l.getD k d :: l.drop (k + 1)
  | [], k, h => absurd h (Nat.not_lt_zero k)
  | a :: l, 0, _ => rfl
  | a :: l, k + 1, h => by
    rw [List.drop_succ_cons, List.drop_succ_cons, drop_getD d l k (Nat.lt_of_succ_lt_succ h)]; rfl
theorem lawRest_cons {k : Nat} (h : k < 31) : lawRest k = stm k :: lawRest (k + 1) := drop_getD _ _ k (by rw [law_len]; exact h)

section
variable {C : Cx} {A : Around} {sc : List (Str × NameKind)} {r r1 r2 r' : Loc} {b b1 b2 b' : Boxes} {pos p px py spos : Pos} {fl : Fl} {sts : List Stmt} {mg mb : Str → Option Value}
def Fin (C : Cx) (A : Around) (r : Loc) (b : Boxes) (k : Nat) : Prop := ∃ r' b', Exs C A lsc (lawRest k) r b (.ret (.bool true)) r' b'
theorem Fin.go {k : Nat} (K : Fin C A r2 b2 (k + 1)) (hk : k < 31)
    (h : ∀ r' b', Exs C A lsc (lawRest (k + 1)) r2 b2 (.ret (.bool true)) r' b' → Exs C A lsc (stm k :: lawRest (k + 1)) r b (.ret (.bool true)) r' b') : Fin C A r b k := by
  obtain ⟨r', b', e⟩ := K
  exact ⟨r', b', by rw [lawRest_cons hk]; exact h r' b' e⟩
theorem Exs.asgC {y : Str} {elt : Expr} {gens : List Comprehension} {scope : Scope} {v : V} (hk : sc.lookup y = some .cell) (h : Ev C A sc (.ListComp elt gens scope p) r b v b1)
    (rest : Exs C A sc sts ((y, v) :: r) b1 fl r2 b2) : Exs C A sc (.Assign [.Name y py] (.ListComp elt gens scope p) spos :: sts) r b fl r2 b2 :=
  Exs.cons (Ex.assign (.inr hk) h fun env ok => swaps_cell (e := elt) hk ok) rest
theorem Exs.asgR {x y : Str} {elt iter : Expr} {scope : Scope} {n : Nat} (ys : Nat → V)
    (hh : A.handled = none) (hy : sc.lookup y = some .local) (hok : compOkB sc scope.names x = true) (hsub : SubF r' scope.names r) (h1 : Ev C A sc iter r b (.rng n) b) (hn : n < 1000)
    (h3 : ∀ i, i < n → Ev C A (relN sc scope.names) elt ((x, N i) :: r') b (ys i) b) (hline : (py.line == pos.line) = true)
    (hno : (scope.names.any fun (n, k) => n == y && (k == .local || k == .cell)) = false) (hkind : scope.kind = .function)
    (hs : ∀ env x, foldedSetIterable iter env x = pure x) (rest : Exs C A sc sts ((y, .list ((List.range n).map ys)) :: r) b fl r2 b2) :
    Exs C A sc (.Assign [.Name y py] (.ListComp elt [⟨.Name x px, iter, [], 0⟩] scope pos) spos :: sts) r b fl r2 b2 :=
  Exs.cons (Ex.assignR ys hh hy hok hsub h1 hn h3 hline hno hkind hs) rest
theorem Exs.asgN {x y : Str} {elt iter : Expr} {scope : Scope} {n : Nat} (f : Nat → Nat)
    (hh : A.handled = none) (hy : sc.lookup y = some .local) (hok : compOkB sc scope.names x = true) (hsub : SubF r' scope.names r) (h1 : Ev C A sc iter r b (.rng n) b) (hn : n < 1000)
    (h3 : ∀ i, i < n → Ev C A (relN sc scope.names) elt ((x, N i) :: r') b (N (f i)) b) (hline : (py.line == pos.line) = true)
    (hno : (scope.names.any fun (n, k) => n == y && (k == .local || k == .cell)) = false) (hkind : scope.kind = .function)
    (hs : ∀ env x, foldedSetIterable iter env x = pure x) (rest : Exs C A sc sts ((y, .list (((List.range n).map f).map N)) :: r) b fl r2 b2) :
    Exs C A sc (.Assign [.Name y py] (.ListComp elt [⟨.Name x px, iter, [], 0⟩] scope pos) spos :: sts) r b fl r2 b2 :=
  Exs.cons (Ex.assignN f hh hy hok hsub h1 hn h3 hline hno hkind hs) rest
/-- with a test -/
theorem Exs.asgF {x y : Str} {elt iter c : Expr} {scope : Scope} {n : Nat} (q : Nat → Bool)
    (hh : A.handled = none) (hy : sc.lookup y = some .local) (hok : compOkB sc scope.names x = true) (hsub : SubF r' scope.names r) (h1 : Ev C A sc iter r b (.rng n) b) (hn : n < 1000)
    (h2 : ∀ i, i < n → Tr C A (relN sc scope.names) c ((x, N i) :: r') b (q i) b) (h3 : ∀ i, Ev C A (relN sc scope.names) elt ((x, N i) :: r') b (N i) b) (hline : (py.line == pos.line) = true)
    (hno : (scope.names.any fun (n, k) => n == y && (k == .local || k == .cell)) = false) (hkind : scope.kind = .function)
    (hs : ∀ env x, foldedSetIterable iter env x = pure x) (rest : Exs C A sc sts ((y, .list (((List.range n).filter q).map N)) :: r) b fl r2 b2) :
    Exs C A sc (.Assign [.Name y py] (.ListComp elt [⟨.Name x px, iter, [c], 0⟩] scope pos) spos :: sts) r b fl r2 b2 :=
  Exs.cons (Ex.assignC hh hy hok hsub h1 (.rng n (by omega)) (Cmp.filter0 N N q (List.range n) (fun a ha => h2 a (List.mem_range.mp ha)) fun a _ _ => h3 a) (by simp; omega) hline hno hkind hs) rest
theorem Ev.compB {x : Str} {elt iter : Expr} {scope : Scope} {n : Nat} (Bx : Nat → Boxes) (f : Nat → Nat)
    (hh : A.handled = none) (hok : compOkB sc scope.names x = true) (hsub : SubF r' scope.names r) (h1 : Ev C A sc iter r b (.rng n) b) (hb : b = Bx 0) (hn : n < 1000)
    (h3 : ∀ i, i < n → Ev C A (relN sc scope.names) elt ((x, N i) :: r') (Bx i) (N (f i)) (Bx (i + 1))) (hkind : scope.kind = .function)
    (hs : ∀ env x, foldedSetIterable iter env x = pure x) :
    Ev C A sc (.ListComp elt [⟨.Name x px, iter, [], 0⟩] scope pos) r b (.list (((List.range n).map f).map N)) (Bx n) := by
  subst hb
  rw [map_mapN]
  exact Ev.comp hh hok hsub h1 (.rng n (by omega)) (Cmp.range Bx (fun i => N (f i)) h3) (by simp; omega) hkind hs
theorem Cop.leT {m n : Nat} (h : m ≤ n) : Cop C A .LtE (N m) (N n) b true := by
  have := Cop.leN (C := C) (A := A) (b := b) (m := m) (n := n)
  rw [decide_eq_true h] at this; exact this
theorem Tr.and2 {e1 e2 e3 : Expr} {t1 t2 t3 : Bool} (h1 : Tr C A sc e1 r b t1 b) (h2 : Tr C A sc e2 r b t2 b) (h3 : Tr C A sc e3 r b t3 b) : Tr C A sc (.BoolOp .And [e1, e2, e3] pos) r b (t1 && (t2 && t3)) b := by
  refine Tr.boolop ?_
  cases t1 with
  | false => exact TrAll.stopAnd h1
  | true =>
    refine TrAll.goAnd h1 ?_
    cases t2 with
    | false => exact TrAll.stopAnd h2
    | true =>
      refine TrAll.goAnd h2 ?_
      cases t3 with
      | false => exact TrAll.stopAnd h3
      | true => exact TrAll.goAnd h3 TrAll.nil
/-- x or y, neither -/
theorem Tr.or0 {e1 e2 : Expr} {t1 t2 : Bool} (h1 : Tr C A sc e1 r b t1 b) (q1 : t1 = false) (h2 : Tr C A sc e2 r b t2 b) (q2 : t2 = false) : Tr C A sc (.BoolOp .Or [e1, e2] pos) r b false b := by
  subst q1 q2
  exact Tr.boolop (TrAll.goOr h1 (TrAll.goOr h2 TrAll.nil))
theorem c_pick0 (g : G C mg mb) {ns : List Int} {h : Hs} {l : Nat} {P : Boxes} (hp : h.p ≤ ns.length) (hlen : ns.length ≤ 63) (hl : 0 < l) (hl2 : l < 1073741824) (hA : OKA 1 A) :
    CallF C mg A "_law_pick" [.box 0, N l] (hv ns h :: P) (N (pickD ns l h)) (hv ns (pickS ns l h) :: P) := c_pick g (n := 0) rfl hp hlen hl hl2 hA
end
def iterS (cs : List Int) (ls : Nat → Nat) (h : Hs) : Nat → Hs
  | 0 => h
  | i + 1 => pickS cs (ls i) (iterS cs ls h i)
theorem iterS_p {cs : List Int} {ls : Nat → Nat} {h : Hs} (hp : h.p ≤ cs.length) : ∀ i, (iterS cs ls h i).p ≤ cs.length
  | 0 => hp
  | i + 1 => pickS_p cs _ (iterS_p hp i)
def ordM (cs : List Int) (h : Hs) : Nat → List Nat
  | 0 => []
  | i + 1 => insN (ordM cs h i) (pickD cs (i + 1) (iterS cs (· + 1) h i)) i
theorem ordM_ok (cs : List Int) (h : Hs) : ∀ n, OrdOK (ordM cs h n) n
  | 0 => .nil
  | n + 1 => (ordM_ok cs h n).ins _

section
variable {C : Cx} {A : Around} {sc : List (Str × NameKind)} {r r1 r2 r' : Loc} {b b1 b2 b' : Boxes} {pos p px py spos p2 : Pos} {fl : Fl} {sts : List Stmt} {mg mb : Str → Option Value}
theorem Ev.ifN {t e1 e2 : Expr} {tt : Bool} {m n : Nat} (h1 : Tr C A sc t r b tt b) (h2 : Ev C A sc e1 r b (N m) b) (h3 : Ev C A sc e2 r b (N n) b) : Ev C A sc (.IfExp t e1 e2 pos) r b (N (if tt = true then m else n)) b := by
  cases tt with
  | true => exact Ev.ifT h1 h2
  | false => exact Ev.ifF h1 h3
inductive IntsN (b : Boxes) : V → List Nat → Prop
  | list (l : List Nat) : IntsN b (.list (l.map N)) l
  | box (k : Nat) (l : List Nat) (h : b[k]? = some (l.map N)) : IntsN b (.box k) l
theorem IntsN.ints {v : V} {l : List Nat} (h : IntsN b v l) : IntsV b v (l.map Int.ofNat) := by
  cases h with
  | list l => rw [intsN]; exact .list _
  | box k l h => rw [intsN] at h; exact .box _ _ h
theorem ofNat_inj {l m : List Nat} : l.map Int.ofNat = m.map Int.ofNat ↔ l = m := by
  constructor
  · intro h
    have := congrArg (List.map Int.toNat) h
    simpa [List.map_map, Function.comp_def] using this
  · rintro rfl; rfl
theorem Cop.eqNs {u v : V} {l m : List Nat} (hA : OKA 1 A) (h1 : IntsN b u l) (h2 : IntsN b v m) : Cop C A .Eq u v b (decide (l = m)) := by
  have := Cop.eqL (C := C) hA.units h1.ints h2.ints
  simp only [ofNat_inj] at this
  exact this
theorem Cop.neNs {u v : V} {l m : List Nat} (hA : OKA 1 A) (h1 : IntsN b u l) (h2 : IntsN b v m) : Cop C A .NotEq u v b (!decide (l = m)) := by
  have := Cop.neL (C := C) hA.units h1.ints h2.ints
  simp only [ofNat_inj] at this
  exact this
end

def capt (names : List (Str × NameKind)) (r : Loc) : Loc := r.filter fun p => names.lookup p.1 == some .free
theorem lookup_filter {q : Str × V → Bool} (hq : ∀ x v v', q (x, v) = q (x, v')) : ∀ (r : Loc) (x : Str) (v : V), (r.filter q).lookup x = some v → r.lookup x = some v ∧ q (x, v) = true
  | [], x, v, h => by cases h
  | (y, u) :: r, x, v, h => by
    cases e : q (y, u) with
    | true =>
      rw [List.filter_cons_of_pos e, List.lookup_cons] at h
      rw [List.lookup_cons]
      cases e2 : x == y with
      | true =>
        rw [e2] at h
        have := beq_iff_eq.mp e2
        subst this
        cases h
        exact ⟨rfl, e⟩
      | false => rw [e2] at h; exact lookup_filter hq r x v h
    | false =>
      rw [List.filter_cons_of_neg (by rw [e]; decide)] at h
      obtain ⟨h1, h2⟩ := lookup_filter hq r x v h
      rw [List.lookup_cons]
      cases e2 : x == y with
      | true =>
        have := beq_iff_eq.mp e2
        subst this
        rw [hq x v u, e] at h2; cases h2
      | false => exact ⟨h1, h2⟩
theorem SubF.capt {names : List (Str × NameKind)} {r : Loc} : SubF (capt names r) names r := fun y v e => by
  obtain ⟨h1, h2⟩ := lookup_filter (fun _ _ _ => rfl) r y v e
  exact ⟨beq_iff_eq.mp h2, h1⟩
section
variable {C : Cx} {A : Around} {sc : List (Str × NameKind)} {r r1 r2 r' : Loc} {b b1 b2 b' : Boxes} {pos p px py spos p2 : Pos} {fl : Fl} {sts : List Stmt} {mg mb : Str → Option Value}
theorem Ev.compA {x : Str} {elt fn : Expr} {es : List Expr} {ks : _} {scope : Scope} {n : Nat} {f : Nat → Nat}
    (h1 : Ev C A sc (.Call fn es ks p2) r b (.rng n) b) (hh : A.handled = none) (hok : compOkB sc scope.names x = true) (hn : n < 1000)
    (h3 : ∀ i, i < n → Ev C A (relN sc scope.names) elt ((x, N i) :: capt scope.names r) b (N (f i)) b) (hkind : scope.kind = .function)
    (hs : ∀ env x, foldedSetIterable (.Call fn es ks p2) env x = pure x) :
    Ev C A sc (.ListComp elt [⟨.Name x px, .Call fn es ks p2, [], 0⟩] scope pos) r b (.list (((List.range n).map f).map N)) b :=
  Ev.compN f hh hok SubF.capt h1 hn h3 hkind hs
theorem Ev.compO {x y : Str} {elt : Expr} {scope : Scope} {n : Nat} {f0 f : Nat → Nat}
    (h1 : r.lookup y = some (.list (((List.range n).map f0).map N))) (hd : (y == ("__debug__" : Str)) = false) (hh : A.handled = none) (hok : compOkB sc scope.names x = true) (hn : n < 1000)
    (h3 : ∀ i, i < n → Ev C A (relN sc scope.names) elt ((x, N (f0 i)) :: capt scope.names r) b (N (f i)) b) (hkind : scope.kind = .function)
    (hs : ∀ env x, foldedSetIterable (.Name y p2) env x = pure x) :
    Ev C A sc (.ListComp elt [⟨.Name x px, .Name y p2, [], 0⟩] scope pos) r b (.list (((List.range n).map f).map N)) b := by
  have e : ((List.range n).map f).map N = (List.range n).map fun i => N (f i) := map_mapN f _
  rw [e]
  refine Ev.compL (fun i => N (f0 i)) (fun i => N (f i)) (List.range n) hh hok SubF.capt (Ev.name h1 hd) ?_ (by simpa using hn) (fun a ha => h3 a (List.mem_range.mp ha)) hkind hs
  rw [map_mapN]; exact ItV.list _
theorem Ev.compV {x y : Str} {elt : Expr} {scope : Scope} {n : Nat} {ys : Nat → V} {f : Nat → Nat}
    (h1 : r.lookup y = some (.list ((List.range n).map ys))) (hd : (y == ("__debug__" : Str)) = false) (hh : A.handled = none) (hok : compOkB sc scope.names x = true) (hn : n < 1000)
    (h3 : ∀ i, i < n → Ev C A (relN sc scope.names) elt ((x, ys i) :: capt scope.names r) b (N (f i)) b) (hkind : scope.kind = .function)
    (hs : ∀ env x, foldedSetIterable (.Name y p2) env x = pure x) :
    Ev C A sc (.ListComp elt [⟨.Name x px, .Name y p2, [], 0⟩] scope pos) r b (.list (((List.range n).map f).map N)) b := by
  have e : ((List.range n).map f).map N = (List.range n).map fun i => N (f i) := map_mapN f _
  rw [e]
  exact Ev.compL ys (fun i => N (f i)) (List.range n) hh hok SubF.capt (Ev.name h1 hd) (ItV.list _) (by simpa using hn) (fun a ha => h3 a (List.mem_range.mp ha)) hkind hs
/-- over the cubes, or the layers -/
theorem Ev.compC {x y : Str} {elt : Expr} {scope : Scope} {gg : Nat × Nat → V} {cs : List (Nat × Nat)} {f : Nat × Nat → Nat}
    (h1 : r.lookup y = some (.list (cs.map gg))) (hd : (y == ("__debug__" : Str)) = false) (hh : A.handled = none) (hok : compOkB sc scope.names x = true) (hn : cs.length < 1000)
    (h3 : ∀ c, c ∈ cs → Ev C A (relN sc scope.names) elt ((x, gg c) :: capt scope.names r) b (N (f c)) b) (hkind : scope.kind = .function)
    (hs : ∀ env x, foldedSetIterable (.Name y p2) env x = pure x) :
    Ev C A sc (.ListComp elt [⟨.Name x px, .Name y p2, [], 0⟩] scope pos) r b (.list ((cs.map f).map N)) b := by
  have e : (cs.map f).map N = cs.map fun c => N (f c) := by rw [List.map_map]; rfl
  rw [e]
  exact Ev.compL gg (fun c => N (f c)) cs hh hok SubF.capt (Ev.name h1 hd) (ItV.list _) hn h3 hkind hs
theorem Ev.compCV {x y : Str} {elt : Expr} {scope : Scope} {gg ys : Nat × Nat → V} {cs : List (Nat × Nat)}
    (h1 : r.lookup y = some (.list (cs.map gg))) (hd : (y == ("__debug__" : Str)) = false) (hh : A.handled = none) (hok : compOkB sc scope.names x = true) (hn : cs.length < 1000)
    (h3 : ∀ c, c ∈ cs → Ev C A (relN sc scope.names) elt ((x, gg c) :: capt scope.names r) b (ys c) b) (hkind : scope.kind = .function)
    (hs : ∀ env x, foldedSetIterable (.Name y p2) env x = pure x) :
    Ev C A sc (.ListComp elt [⟨.Name x px, .Name y p2, [], 0⟩] scope pos) r b (.list (cs.map ys)) b :=
  Ev.compL gg ys cs hh hok SubF.capt (Ev.name h1 hd) (ItV.list _) hn h3 hkind hs
theorem Exs.asgA {x y : Str} {elt fn : Expr} {es : List Expr} {ks : _} {scope : Scope} {n : Nat} {f : Nat → Nat}
    (hy : sc.lookup y = some .local) (h1 : Ev C A sc (.Call fn es ks p2) r b (.rng n) b) (hh : A.handled = none) (hok : compOkB sc scope.names x = true) (hn : n < 1000)
    (h3 : ∀ i, i < n → Ev C A (relN sc scope.names) elt ((x, N i) :: capt scope.names r) b (N (f i)) b) (hline : (py.line == pos.line) = true)
    (hno : (scope.names.any fun (n, k) => n == y && (k == .local || k == .cell)) = false) (hkind : scope.kind = .function)
    (hs : ∀ env x, foldedSetIterable (.Call fn es ks p2) env x = pure x) (rest : Exs C A sc sts ((y, .list (((List.range n).map f).map N)) :: r) b fl r2 b2) :
    Exs C A sc (.Assign [.Name y py] (.ListComp elt [⟨.Name x px, .Call fn es ks p2, [], 0⟩] scope pos) spos :: sts) r b fl r2 b2 :=
  Exs.asgN f hh hy hok SubF.capt h1 hn h3 hline hno hkind hs rest
theorem Exs.asgV {x y : Str} {elt fn : Expr} {es : List Expr} {ks : _} {scope : Scope} {n : Nat} {ys : Nat → V}
    (hy : sc.lookup y = some .local) (h1 : Ev C A sc (.Call fn es ks p2) r b (.rng n) b) (hh : A.handled = none) (hok : compOkB sc scope.names x = true) (hn : n < 1000)
    (h3 : ∀ i, i < n → Ev C A (relN sc scope.names) elt ((x, N i) :: capt scope.names r) b (ys i) b) (hline : (py.line == pos.line) = true)
    (hno : (scope.names.any fun (n, k) => n == y && (k == .local || k == .cell)) = false) (hkind : scope.kind = .function)
    (hs : ∀ env x, foldedSetIterable (.Call fn es ks p2) env x = pure x) (rest : Exs C A sc sts ((y, .list ((List.range n).map ys)) :: r) b fl r2 b2) :
    Exs C A sc (.Assign [.Name y py] (.ListComp elt [⟨.Name x px, .Call fn es ks p2, [], 0⟩] scope pos) spos :: sts) r b fl r2 b2 :=
  Exs.asgR ys hh hy hok SubF.capt h1 hn h3 hline hno hkind hs rest
theorem goI {n : Nat} {P : Nat → Prop} (h : ∀ i, i < n → P i) : ∀ i, i < n → P i := h
theorem goC {cs : List (Nat × Nat)} {P : Nat × Nat → Prop} (h : ∀ c, c ∈ cs → P c) : ∀ c, c ∈ cs → P c := h
theorem pw62 {x : Nat} (h : x < 62) : 2 ^ x < 2 ^ 62 := Nat.pow_lt_pow_right (by decide) h
theorem pw64 {x : Nat} (h : x < 62) : 2 ^ x < 2 ^ 64 := Nat.pow_lt_pow_right (by decide) (by omega)
theorem pwL {o : List Nat} {j : Nat} (h : ∀ j, o.getD j 0 ≤ 5) : 2 ^ o.getD j 0 < 2 ^ 62 := pw62 (Nat.lt_of_le_of_lt (h j) (by decide))
theorem pwL30 {o : List Nat} {j : Nat} (h : ∀ j, o.getD j 0 ≤ 5) : 2 ^ o.getD j 0 < 1073741824 := p30 (Nat.le_trans (h j) (by decide))
theorem pwLm {o : List Nat} {j : Nat} (h : ∀ j, o.getD j 0 ≤ 5) : o.getD j 0 ≤ 1000000 := Nat.le_trans (h j) (by decide)
theorem pwL29 {o : List Nat} {j : Nat} (h : ∀ j, o.getD j 0 ≤ 5) : o.getD j 0 ≤ 29 := Nat.le_trans (h j) (by decide)
theorem rangeN_get {f : Nat → Nat} {n i : Nat} (h : i < n) : (((List.range n).map f).map N)[i]? = some (N (f i)) := by simp [h]
theorem mod2_lt {x : Nat} : x % 2 < 2 := Nat.mod_lt _ (by decide)
theorem ne_false {a b : Nat} (h : a = b) : decide (a ≠ b) = false := decide_eq_false fun q => q h
end
end Mine
end
section
open PySem PySem.W PyProof.Rows
set_option Elab.async false
set_option linter.all false
set_option maxRecDepth 100000
namespace Mine
section
variable {C : Cx} {A : Around} {sc : List (Str × NameKind)} {r r1 r2 r' : Loc} {b b1 b2 b' Q : Boxes} {pos p : Pos} {fl : Fl} {sts : List Stmt} {x y l : List V}
theorem ins_get : (y :: (Q ++ [l]))[Q.length + 1]? = some l := by simp
theorem ins_set {m : List V} : (y :: (Q ++ [l])).set (Q.length + 1) m = y :: (Q ++ [m]) := by simp
theorem Exs.insS {o i e : Expr} {ap cp : Pos} {v : V} {n : Nat} (h1 : Ev C A sc o r (x :: (Q ++ [l])) (.box (Q.length + 1)) (x :: (Q ++ [l]))) (h2 : EvL C A sc cp [i, e] r (x :: (Q ++ [l])) [N n, v] (y :: (Q ++ [l])))
    (hl : l.length ≤ 1000000) (hn : n < 1000000)
    (hm : ∀ env, ∃ pl, eval (.Call (.Attribute o (Str.ofString "insert") ap) [i, e] [] cp) env = (do
      let ov ← eval o env
      standAt ap.atName
      let (f, first) ← holding [ov] (getMethod ov (Str.ofString "insert") pl)
      callWith cp f first (backTo cp (starEach [i, e] env)) []))
    (hs : ∀ env, swapsWith (.Call (.Attribute o (Str.ofString "insert") ap) [i, e] [] cp) none pos.line env = pure false)
    (he : ∀ env, starEach [i, e] env = (false, eval i env) :: starEach [e] env)
    (hp : ∀ env, (backTo cp (starEach [e] env)).any (·.1) = false) (rest : Exs C A sc sts r (y :: (Q ++ [insAt l n v])) fl r2 b2) :
    Exs C A sc (.Expr (.Call (.Attribute o (Str.ofString "insert") ap) [i, e] [] cp) pos :: sts) r (x :: (Q ++ [l])) fl r2 b2 :=
  Exs.cons (Ex.toB (Ex.insert h1 h2 ins_get hl hn hm hs he hp) ins_set) rest
end
end Mine
end
section
open PySem PySem.W PyProof.Rows
set_option Elab.async false
set_option linter.all false
set_option maxRecDepth 100000
namespace Mine
local macro_rules | `(tactic| keq_rows) => `(tactic| first
  | with_reducible assumption
  | omega
  | exact OKA.h (by assumption)
  | ((with_reducible refine pw62 ?_); omega)
  | ((with_reducible refine pw64 ?_); omega)
  | ((with_reducible refine p30 ?_); omega)
  | (with_reducible first | exact p2pos _ | exact pwL (by assumption) | exact pwL30 (by assumption) | exact pwLm (by assumption) | exact pwL29 (by assumption) | exact rangeN_get (by omega) | exact mapN_get (by omega))
  | ((with_reducible refine llen ?_); simp only [List.length_map, List.length_range]; omega)
  | (with_reducible first | exact OKA.mono (by assumption) (by omega) | exact shp _ | exact Nat.succ_pos _)
  | ((with_reducible refine Nat.le_trans (sh5 ?_) ?_) <;> omega)
  | ((with_reducible refine Nat.lt_of_le_of_lt Nat.and_le_right ?_); omega)
  | (with_reducible first | exact mapN_get (by assumption) | exact FzV.sq (by assumption))
  | (rw [List.length_map]; omega)
  | ((with_reducible refine llen ?_); simp))
local macro_rules | `(tactic| kp_flats) => `(tactic| repeat' (first
  | ((with_reducible refine lk ?_); exact (rfl : _ = _))
  | ((with_reducible refine lkO ?_); first | exact Or.inl rfl | exact Or.inr rfl)
  | (intro _; rfl)
  | (intro _ _; rfl)
  | ((with_reducible refine dbgL ?_); decide +kernel)
  | ((with_reducible refine cokL ?_); decide +kernel)
  | (with_reducible first | exact SubF.nil | apply SubF.cons | exact EvL.nil | apply EvL.cons | exact Ev.n1 | exact Ev.n0 | exact Ev.n2 | exact Ev.n3 | exact Ev.n5 | exact Ev.n7 | exact Ev.n63 | exact Ev.n100003 | exact Ev.n48271 | exact Ev.n2147483647 | apply Ev.name | exact Ev.bool | apply Ev.binop | exact Bop.addN | exact Bop.andN | exact Bop.orN | exact Bop.xorN | exact Bop.shrN | apply Bop.shlN | apply Bop.subN | apply Bop.fdivN | apply Bop.fmodN | apply Bop.mulN | apply Bop.powN | apply Ev.lenQ ‹G _ _ _› | apply Ev.rangeN ‹G _ _ _› | apply Ev.listQ ‹G _ _ _› | apply Ev.tupleQ ‹G _ _ _› | apply Ev.maxQ ‹G _ _ _› (OKA.h ‹_›) | apply Ev.minQ ‹G _ _ _› (OKA.h ‹_›) | apply Ev.sumN ‹G _ _ _› (OKA.h ‹_›) | apply Ev.callF (G.B ‹G _ _ _›) | apply Ev.compA)
  | ((with_reducible apply Ev.compO); ((with_reducible refine lk ?_); exact (rfl : _ = _)))
  | ((with_reducible apply Ev.compV); ((with_reducible refine lk ?_); exact (rfl : _ = _)))
  | ((with_reducible apply Ev.compC); ((with_reducible refine lk ?_); exact (rfl : _ = _)))
  | ((with_reducible refine goI ?_); intro i hi)
  | ((with_reducible refine goC ?_); intro c hc)
  | (with_reducible first | apply Ev.itemQ | apply Ev.tupD | apply Ev.listD | apply Ev.cmp | exact Cop.eqN | exact Cop.neN | exact Cop.geN | exact Cop.gtN | exact Cop.leN | exact Cop.neB | exact Iop.andN | exact Iop.orN | apply Tr.cmp | apply Tr.not | apply Tr.boolop | apply Tr.val | apply Exs.retS | apply Ex.appendL)
  | ((with_reducible apply Exs.asg); exact (rfl : _ = true))
  | (with_reducible first | apply Exs.augS | apply Exs.appS | exact Exs.nil)
  | k_subL
  | (with_reducible first | exact ItV.list _ | exact Cop.eqN | exact ItV.range (by omega) | exact SqV.list _ | exact SqV.tup _ | exact SeqV.list _ | exact FzV.tup _ | exact FzV.list _ | exact Sub.refl | apply Sub.cons | exact Sub.nil)
  | keq_rows
  | exact (rfl : _ = _)
  | (intro _; exact ⟨_, rfl⟩)))
local macro_rules | `(tactic| keq_hits) => `(tactic| ((with_reducible apply ExsE.to); (conv => pattern (dBody _); whnf); (conv => pattern (Scope.names _); whnf)))

local macro_rules | `(tactic| k_subL) => `(tactic| with_reducible first | apply c_bit ‹_› | apply c_fix ‹_› | apply c_rows ‹_› | apply c_pick0 | apply c_cover ‹_› | apply c_flip ‹_› | apply c_swap ‹_› | apply c_perm ‹_› | apply c_expand ‹_› | apply c_shrink ‹_› | apply c_sup ‹_› | apply c_dep ‹_› | apply c_cof ‹_› | apply c_var ‹_› | apply c_full ‹_›)
section
section
variable {C : Cx} {mg mb : Str → Option Value} {A : Around} {b P : Boxes} {ns : List Int} {r0 : Loc}

theorem s0 (g : G C mg mb) (hA : OKA 12 A) (hns : ns.length ≤ 63)
    (K : Fin C A [("cells", .list (ns.map V.int))] [] 1) : Fin C A [("script", .list (ns.map V.int))] [] 0 := by
  refine Fin.go K (by decide) fun r' b' K => ?_
  conv => pattern (stm _); whnf
  have e : (ns.map V.int).take 63 = ns.map V.int := List.take_of_length_le (by simpa using hns)
  with_reducible apply Exs.asg (v := .list (ns.map V.int))
  case h => exact Ev.to (Ev.upto (by kp_flats) Ev.n63 (SeqV.list _) (by simp; omega)) (congrArg V.list e)
  case rest => exact Exs.at _ (by kp_flats) K
  all_goals kp_flats
theorem s1 (g : G C mg mb) (hA : OKA 12 A) (hns : ns.length ≤ 63)
    (K : ∀ h : Hs, h.p ≤ ns.length → Fin C A [("hand", .box 0)] [hv ns h] 2) : Fin C A [("cells", .list (ns.map V.int))] [] 1 := by
  refine Fin.go (K ⟨0, 0, (ns.sum % 100003).toNat * 7⟩ (Nat.zero_le _)) (by decide) fun r' b' K => ?_
  conv => pattern (stm _); whnf
  with_reducible apply Exs.asg
  case h =>
    with_reducible apply Ev.listD (vs := hv ns ⟨0, 0, (ns.sum % 100003).toNat * 7⟩)
    case h =>
      refine EvL.cons (b1 := []) ?_ (EvL.cons (b1 := []) Ev.n0 (EvL.cons (b1 := []) Ev.n0 (EvL.cons (b1 := []) ?_ EvL.nil)))
      · kp_flats
      · refine Ev.binop (x := N (ns.sum % ((100003 : Nat) : Int)).toNat) (y := N 7) (b1 := []) (b2 := []) ?_ Ev.n7 (Bop.mulN (by omega))
        refine Ev.binop (x := .int ns.sum) (y := N 100003) (b1 := []) (b2 := []) ?_ Ev.n100003 (Bop.fmod (by omega))
        with_reducible apply Ev.sumQ g hA.h
        case h2 => exact IntsV.list _
        all_goals kp_flats
    case hl => exact (by decide : 4 ≤ 1000000)
  case rest => exact Exs.at _ (by kp_flats) K
  all_goals kp_flats
theorem s2 (g : G C mg mb) (hA : OKA 12 A) (hns : ns.length ≤ 63) {h : Hs} (hp : h.p ≤ ns.length)
    (K : ∀ (w : Nat) (h : Hs), w ≤ 4 → h.p ≤ ns.length → Fin C A [("wide", N w), ("hand", .box 0)] [hv ns h] 3) : Fin C A [("hand", .box 0)] [hv ns h] 2 := by
  have hw := pickD_lt ns (l := 5) (by decide) h
  refine Fin.go (K (pickD ns 5 h) (pickS ns 5 h) (by omega) (pickS_p ns 5 hp)) (by decide) fun r' b' K => ?_
  conv => pattern (stm _); whnf
  with_reducible apply Exs.asg
  case h => kp_flats
  case rest => exact Exs.at _ (by kp_flats) K
  all_goals kp_flats
theorem s3 (g : G C mg mb) (hA : OKA 12 A) {w : Nat} (hw : w ≤ 4)
    (K : Fin C A [("many", N (2 ^ w)), ("wide", N w), ("hand", .box 0)] b 4) : Fin C A [("wide", N w), ("hand", .box 0)] b 3 := by
  refine Fin.go K (by decide) fun r' b' K => ?_
  conv => pattern (stm _); whnf
  with_reducible apply Exs.asg
  case h => kp_flats
  case rest => exact Exs.at _ (by kp_flats) K
  all_goals kp_flats
theorem pw16 {w : Nat} (hw : w ≤ 4) : 2 ^ w ≤ 16 := Nat.pow_le_pow_right (by decide : 0 < 2) hw
theorem s4 (g : G C mg mb) (hA : OKA 12 A) (hns : ns.length ≤ 63) {w : Nat} (hw : w ≤ 4) {h : Hs} (hp : h.p ≤ ns.length)
    (K : ∀ (t : Nat) (h : Hs), Tb t w → h.p ≤ ns.length → Fin C A [("table", N t), ("many", N (2 ^ w)), ("wide", N w), ("hand", .box 0)] [hv ns h] 5) :
    Fin C A [("many", N (2 ^ w)), ("wide", N w), ("hand", .box 0)] [hv ns h] 4 := by
  have hm := pw16 hw
  have ht := pickD_lt ns (l := 2 ^ 2 ^ w) (Nat.two_pow_pos _) h
  refine Fin.go (K (pickD ns (2 ^ 2 ^ w) h) (pickS ns (2 ^ 2 ^ w) h) ht (pickS_p ns _ hp)) (by decide) fun r' b' K => ?_
  clear ht
  conv => pattern (stm _); whnf
  with_reducible apply Exs.asg
  case h => kp_flats
  case rest => exact Exs.at _ (by kp_flats) K
  all_goals kp_flats
theorem max_le1 {a b : Nat} (h1 : a ≤ 1) (h2 : b < 2) : Nat.max a b ≤ 1 := Nat.max_le.mpr ⟨h1, by omega⟩
theorem s5 (g : G C mg mb) (hA : OKA 12 A) (hns : ns.length ≤ 63) {w t : Nat} (hw : w ≤ 4) (ht : Tb t w) {h : Hs} (hp : h.p ≤ ns.length)
    (K : ∀ (u : Nat) (h : Hs), IsIn t u w w → h.p ≤ ns.length → Fin C A [("upper", N u), ("table", N t), ("many", N (2 ^ w)), ("wide", N w), ("hand", .box 0)] [hv ns h] 6) :
    Fin C A [("table", N t), ("many", N (2 ^ w)), ("wide", N w), ("hand", .box 0)] [hv ns h] 5 := by
  have hm := pw16 hw
  have hI := upper_isin (f := fun i => Nat.max (bitT t i) (pickD ns 2 (iterS ns (fun _ => 2) h i))) ht fun m _ => ⟨Nat.le_max_left _ _, max_le1 (bitT_le t m) (pickD_lt ns (by decide) _)⟩
  refine Fin.go (K _ (iterS ns (fun _ => 2) h (2 ^ w)) hI (iterS_p hp _)) (by decide) fun r' b' K => ?_
  clear hI ht
  conv => pattern (stm _); whnf
  with_reducible apply Exs.asg
  case h =>
    with_reducible apply Ev.callF g.B
    case h1 =>
      with_reducible apply EvL.cons
      case h =>
        with_reducible apply Ev.compB (n := 2 ^ w) (fun i => [hv ns (iterS ns (fun _ => 2) h i)]) (fun i => Nat.max (bitT t i) (pickD ns 2 (iterS ns (fun _ => 2) h i)))
        case hsub => exact SubF.capt
        case h3 =>
          intro i hi
          show Ev _ _ _ _ _ _ _ [hv ns (pickS ns 2 (iterS ns (fun _ => 2) h i))]
          have hp' := iterS_p (ls := fun _ => 2) hp i
          kp_flats
        case h1 => kp_flats
        all_goals kp_flats
      all_goals kp_flats
    all_goals kp_flats
  case rest => exact Exs.at _ (by kp_flats) K
  all_goals kp_flats
theorem s6 (g : G C mg mb) (hA : OKA 12 A) {w t u : Nat} (hw : w ≤ 4) (hI : IsIn t u w w)
    (K : ∀ cs, Good t u w w cs → Fin C A [("cubes", .list (cs.map cubeV)), ("upper", N u), ("table", N t), ("many", N (2 ^ w)), ("wide", N w), ("hand", .box 0)] b 7) :
    Fin C A [("upper", N u), ("table", N t), ("many", N (2 ^ w)), ("wide", N w), ("hand", .box 0)] b 6 := by
  obtain ⟨cs, hG, hc⟩ := c_isop g (k := w) (by omega) w (Nat.le_refl w) t u hI
  have e := hc A b (hA.mono (by omega))
  refine Fin.go (K cs hG) (by decide) fun r' b' K => ?_
  conv => pattern (stm _); whnf
  with_reducible apply Exs.asg
  case h => kp_flats
  case rest => exact Exs.at _ (by kp_flats) K
  all_goals kp_flats
end
end
section
section
variable {C : Cx} {mg mb : Str → Option Value} {A : Around} {b P : Boxes} {ns : List Int} {r0 : Loc}
def layer (w : Nat) (c : Nat × Nat) : V := .list (((List.range (2 ^ w)).map fun m => ind c m).map N)
theorem len_cs {t u w : Nat} {cs : List (Nat × Nat)} (hw : w ≤ 4) (G : Good t u w w cs) : cs.length < 1000 :=
  Nat.lt_of_le_of_lt G.len (Nat.lt_of_le_of_lt (Nat.pow_le_pow_right (by decide : 0 < 3) hw) (by decide))
theorem s7 (g : G C mg mb) (hA : OKA 12 A) {w t u : Nat} (hw : w ≤ 4) {cs : List (Nat × Nat)} (hl : cs.length < 1000)
    (K : Fin C A [("layers", .list (cs.map (layer w))), ("cubes", .list (cs.map cubeV)), ("upper", N u), ("table", N t), ("many", N (2 ^ w)), ("wide", N w), ("hand", .box 0)] b 8) :
    Fin C A [("cubes", .list (cs.map cubeV)), ("upper", N u), ("table", N t), ("many", N (2 ^ w)), ("wide", N w), ("hand", .box 0)] b 7 := by
  have hm := pw16 hw
  refine Fin.go K (by decide) fun r' b' K => ?_
  conv => pattern (stm _); whnf
  with_reducible apply Exs.asgC (v := .list (cs.map (layer w)))
  case h =>
    with_reducible apply Ev.compCV (cs := cs) (gg := fun c => .tup [N c.1, N c.2])
    case h1 => rfl
    case h3 =>
      intro c hc
      show Ev _ _ _ _ _ _ (.list (((List.range (2 ^ w)).map fun m => ind c m).map N)) _
      with_reducible apply Ev.compA (f := fun m => ind c m)
      case h1 => kp_flats
      case h3 =>
        intro m hm
        show Ev _ _ _ _ _ _ (N (if decide (m &&& c.1 = c.2) = true then 1 else 0)) _
        with_reducible apply Ev.ifN
        all_goals kp_flats
      all_goals kp_flats
    all_goals kp_flats
  case rest => exact Exs.at _ (by kp_flats) K
  all_goals kp_flats
theorem s8 (g : G C mg mb) (hA : OKA 12 A) {w t u : Nat} (hw : w ≤ 4) {cs : List (Nat × Nat)} (hG : Good t u w w cs)
    (K : Fin C A [("layers", .list (cs.map (layer w))), ("cubes", .list (cs.map cubeV)), ("upper", N u), ("table", N t), ("many", N (2 ^ w)), ("wide", N w), ("hand", .box 0)] b 9) :
    Fin C A [("layers", .list (cs.map (layer w))), ("cubes", .list (cs.map cubeV)), ("upper", N u), ("table", N t), ("many", N (2 ^ w)), ("wide", N w), ("hand", .box 0)] b 8 := by
  have hm := pw16 hw
  refine Fin.go K (by decide) fun r' b' K => ?_
  conv => pattern (stm _); whnf
  with_reducible apply Exs.forL (vs := cs.map cubeV) (fun _ => [("layers", .list (cs.map (layer w))), ("cubes", .list (cs.map cubeV)), ("upper", N u), ("table", N t), ("many", N (2 ^ w)), ("wide", N w), ("hand", .box 0)]) (fun _ => b) hA.h
  case hbody =>
    intro j hj
    have hj' : j < cs.length := by simpa using hj
    have e : (cs.map cubeV)[j] = .tup [N cs[j].1, N cs[j].2] := by simp [cubeV]
    rw [e]
    have h1 := hG.pl _ (List.getElem_mem hj')
    have h2 := hG.va _ (List.getElem_mem hj')
    generalize cs[j] = c at *
    have q1 : c.1 / 2 ^ w = 0 := Nat.div_eq_of_lt h1
    with_reducible apply ExsN.of
    · with_reducible apply Exs.ifElse (tt := false) (q := rfl)
      case h =>
        refine Tr.or0 (t1 := decide (c.1 / 2 ^ w ≠ 0)) (t2 := decide (c.2 &&& c.1 ≠ c.2)) ?_ (ne_false q1) ?_ (ne_false h2)
        all_goals kp_flats
      all_goals kp_flats
    · kp_flats
  case rest => exact K
  all_goals kp_flats
theorem s9 (g : G C mg mb) (hA : OKA 12 A) {w t u : Nat} (hw : w ≤ 4) {cs : List (Nat × Nat)} (hl : cs.length < 1000)
    (K : Fin C A [("entire", .list (((List.range (2 ^ w)).map fun m => Nat.min 1 (cnt cs m)).map N)), ("layers", .list (cs.map (layer w))), ("cubes", .list (cs.map cubeV)), ("upper", N u), ("table", N t), ("many", N (2 ^ w)), ("wide", N w), ("hand", .box 0)] b 10) :
    Fin C A [("layers", .list (cs.map (layer w))), ("cubes", .list (cs.map cubeV)), ("upper", N u), ("table", N t), ("many", N (2 ^ w)), ("wide", N w), ("hand", .box 0)] b 9 := by
  have hm := pw16 hw
  refine Fin.go K (by decide) fun r' b' K => ?_
  conv => pattern (stm _); whnf
  with_reducible apply Exs.asgA (f := fun m => Nat.min 1 (cnt cs m))
  case h1 => kp_flats
  case h3 =>
    intro m hm
    show Ev _ _ _ _ _ _ (N (Nat.min 1 (cs.map fun c => ind c m).sum)) _
    with_reducible apply Ev.minQ g hA.h
    case h1 => kp_flats
    case h2 =>
      with_reducible apply Ev.sumN g hA.h
      case h1 =>
        with_reducible apply Ev.compC (cs := cs) (gg := fun c => .list (((List.range (2 ^ w)).map fun m => ind c m).map N)) (f := fun c => ind c m)
        case h1 => rfl
        all_goals kp_flats
      all_goals kp_flats
    all_goals kp_flats
  case rest => exact Exs.at _ (by kp_flats) K
  all_goals kp_flats
theorem s10 (g : G C mg mb) (hA : OKA 12 A) {w t u : Nat} (hw : w ≤ 4) {cs : List (Nat × Nat)} (hG : Good t u w w cs)
    (K : Fin C A [("entire", .list (((List.range (2 ^ w)).map fun m => Nat.min 1 (cnt cs m)).map N)), ("layers", .list (cs.map (layer w))), ("cubes", .list (cs.map cubeV)), ("upper", N u), ("table", N t), ("many", N (2 ^ w)), ("wide", N w), ("hand", .box 0)] b 11) :
    Fin C A [("entire", .list (((List.range (2 ^ w)).map fun m => Nat.min 1 (cnt cs m)).map N)), ("layers", .list (cs.map (layer w))), ("cubes", .list (cs.map cubeV)), ("upper", N u), ("table", N t), ("many", N (2 ^ w)), ("wide", N w), ("hand", .box 0)] b 10 := by
  have hm := pw16 hw
  refine Fin.go K (by decide) fun r' b' K => ?_
  conv => pattern (stm _); whnf
  with_reducible apply Exs.forR (n := 2 ^ w) (fun _ => [("entire", .list (((List.range (2 ^ w)).map fun m => Nat.min 1 (cnt cs m)).map N)), ("layers", .list (cs.map (layer w))), ("cubes", .list (cs.map cubeV)), ("upper", N u), ("table", N t), ("many", N (2 ^ w)), ("wide", N w), ("hand", .box 0)]) (fun _ => b) hA.h
  case hbody =>
    intro m hm
    obtain ⟨q1, q2⟩ := between hG hm
    with_reducible apply ExsN.of
    · with_reducible apply Exs.ifElse (tt := !true) (q := rfl)
      case h =>
        with_reducible apply Tr.not
        refine Tr.cmp2 (x := N (bitT t m)) (y := N (Nat.min 1 (cnt cs m))) (z := N (bitT u m)) (b1 := b) (b2 := b) (b3 := b) ?_ ?_ (Cop.leT q1) ?_ (Cop.leT q2) ?_
        all_goals kp_flats
      all_goals kp_flats
    · kp_flats
  case rest => exact K
  all_goals kp_flats
theorem s11 (g : G C mg mb) (hA : OKA 12 A) {w t u : Nat} (hw : w ≤ 4) {cs : List (Nat × Nat)} (hG : Good t u w w cs)
    (K : Fin C A [("layers", .list (cs.map (layer w))), ("table", N t), ("many", N (2 ^ w)), ("wide", N w), ("hand", .box 0)] b 12) :
    Fin C A [("entire", .list (((List.range (2 ^ w)).map fun m => Nat.min 1 (cnt cs m)).map N)), ("layers", .list (cs.map (layer w))), ("cubes", .list (cs.map cubeV)), ("upper", N u), ("table", N t), ("many", N (2 ^ w)), ("wide", N w), ("hand", .box 0)] b 11 := by
  have hm := pw16 hw
  refine Fin.go K (by decide) fun r' b' K => ?_
  conv => pattern (stm _); whnf
  with_reducible apply Exs.ifSkip (q := ne_false (cover_rows hG (by omega : w ≤ 5)))
  case h => kp_flats
  case h2 => exact Exs.at _ (by kp_flats) K
theorem s12 (g : G C mg mb) (hA : OKA 12 A) {w t u : Nat} (hw : w ≤ 4) {cs : List (Nat × Nat)} (hG : Good t u w w cs) {h0 : List V}
    (K : Fin C A [("table", N t), ("many", N (2 ^ w)), ("wide", N w), ("hand", .box 0)] (h0 :: List.replicate cs.length []) 13) :
    Fin C A [("layers", .list (cs.map (layer w))), ("table", N t), ("many", N (2 ^ w)), ("wide", N w), ("hand", .box 0)] [h0] 12 := by
  have hm := pw16 hw
  have hl := len_cs hw hG
  refine Fin.go K (by decide) fun r' b' K => ?_
  conv => pattern (stm _); whnf
  have hln : (cs.map (layer w)).length = cs.length := List.length_map _
  with_reducible apply Exs.forL (vs := cs.map (layer w)) (fun _ => [("layers", .list (cs.map (layer w))), ("table", N t), ("many", N (2 ^ w)), ("wide", N w), ("hand", .box 0)]) (fun j => h0 :: List.replicate j []) hA.h
  case hbody =>
    intro j hj
    have hj' : j < cs.length := by omega
    have e : (cs.map (layer w))[j] = .list (((List.range (2 ^ w)).map fun m => ind cs[j] m).map N) := by simp [layer]
    rw [e, List.replicate_succ']
    have hne := alone hG (List.getElem_mem hj')
    generalize cs[j] = c at *
    show ExsN _ _ _ _ _ _ _ ((h0 :: List.replicate j []) ++ [[]])
    generalize h0 :: List.replicate j [] = B at *
    with_reducible apply ExsN.of
    · with_reducible apply Exs.asgF (n := 2 ^ w) (fun m => decide (ind c m = 1) && (decide (bitT t m = 1) && decide (cnt cs m = 1)))
      case hsub => exact SubF.capt
      case h1 => kp_flats
      case h2 =>
        intro m hm
        show Tr _ _ _ _ _ _ (decide (ind c m = 1) && (decide (bitT t m = 1) && decide ((cs.map fun c => ind c m).sum = 1))) _
        with_reducible apply Tr.and2
        case h3 =>
          with_reducible apply Tr.cmp (x := N ((cs.map fun c => ind c m).sum)) (y := N 1) (b1 := B) (b2 := B)
          case h1 =>
            with_reducible apply Ev.sumN g hA.h
            case h1 =>
              with_reducible apply Ev.compC (cs := cs) (gg := fun c => .list (((List.range (2 ^ w)).map fun m => ind c m).map N)) (f := fun c => ind c m)
              case h1 => rfl
              all_goals kp_flats
            all_goals kp_flats
          all_goals kp_flats
        all_goals kp_flats
      case h3 => intro m; kp_flats
      case rest =>
        with_reducible apply Exs.ifElse (q := decide_eq_false hne)
        case h =>
          with_reducible apply Tr.cmp (x := .list (((List.range (2 ^ w)).filter fun m => decide (ind c m = 1) && (decide (bitT t m = 1) && decide (cnt cs m = 1))).map N)) (y := .box B.length) (b1 := B) (b2 := B ++ [[]])
          case h3 => exact Cop.eqNs (hA.mono (by omega)) (.list _) (.box _ [] get_last)
          all_goals kp_flats
        all_goals kp_flats
      all_goals kp_flats
    · kp_flats
  case rest =>
    rw [hln]
    exact Exs.at _ (by kp_flats) K
  all_goals kp_flats
end
end
section
section
variable {C : Cx} {mg mb : Str → Option Value} {A : Around} {b P Q : Boxes} {ns : List Int} {r0 : Loc} {h0 : List V}
/- statement 13, 14: held -/
theorem s13 (g : G C mg mb) (hA : OKA 12 A) {w t : Nat}
    (K : Fin C A [("held", .box b.length), ("table", N t), ("many", N (2 ^ w)), ("wide", N w), ("hand", .box 0)] (b ++ [[]]) 14) :
    Fin C A [("table", N t), ("many", N (2 ^ w)), ("wide", N w), ("hand", .box 0)] b 13 := by
  refine Fin.go K (by decide) fun r' b' K => ?_
  conv => pattern (stm _); whnf
  with_reducible apply Exs.asg
  case h => kp_flats
  case rest => exact Exs.at _ (by kp_flats) K
  all_goals kp_flats
theorem fixT_lt' {w row one bit : Nat} (hw : w ≤ 4) (ho : one < w) (hr : row < 2 ^ w) (hb : bit < 2) : fixT row one bit ≤ 29 := by
  have := fix_lt (k := w) (by omega) ho hr hb
  have := pw16 hw
  omega
theorem sub_mod2 (x : Nat) : 1 - x % 2 < 2 := by omega
theorem dne {x y : List Nat} : (decide (x ≠ y) != !decide (x = y)) = false := by
  by_cases h : x = y <;> simp [h]
theorem s14 (g : G C mg mb) (hA : OKA 12 A) {w t : Nat} (hw : w ≤ 4) (ht : Tb t w)
    (K : Fin C A [("held", .box b.length), ("table", N t), ("many", N (2 ^ w)), ("wide", N w), ("hand", .box 0)] (b ++ [(supM t w w).map N]) 15) :
    Fin C A [("held", .box b.length), ("table", N t), ("many", N (2 ^ w)), ("wide", N w), ("hand", .box 0)] (b ++ [[]]) 14 := by
  have hm := pw16 hw
  have ht32 := ht.lt32 (k := w) (by omega)
  refine Fin.go K (by decide) fun r' b' K => ?_
  conv => pattern (stm _); whnf
  with_reducible apply Exs.forR (n := w) (fun _ => [("held", .box b.length), ("table", N t), ("many", N (2 ^ w)), ("wide", N w), ("hand", .box 0)]) (fun i => b ++ [(supM t w i).map N]) hA.h
  case hbody =>
    intro i hi
    have hlen := supM_length t w i
    have hlm : ((supM t w i).map N).length ≤ 1000000 := by rw [List.length_map]; omega
    have d := dep_rows ht (by omega : w ≤ 5) hi
    have F : ∀ bit, bit < 2 → ∀ row, row < 2 ^ w → fixT row i bit ≤ 29 := fun bit hb row hr => fixT_lt' hw hi hr hb
    have F2 : ∀ row, row < 2 ^ w → fixT row i (1 - row / 2 ^ i % 2) ≤ 29 := fun row hr => F _ (sub_mod2 _) row hr
    have hle : ∀ x, x % 2 ≤ 1 := fun x => by omega
    have h5 : w ≤ 5 := by omega
    have hcof : (List.range 2).map (fun bit => cofT t i bit w) = (List.range 2).map fun bit => rowsT ((List.range (2 ^ w)).map fun row => bitT t (fixT row i bit)) := by
      refine List.map_congr_left fun bit hb => ?_
      exact cof_rows ht h5 hi (List.mem_range.mp hb)
    have q2 : (!decide ((List.range 2).map (fun bit => cofT t i bit w) = (List.range 2).map fun bit => rowsT ((List.range (2 ^ w)).map fun row => bitT t (fixT row i bit)))) = false := by rw [decide_eq_true hcof]; rfl
    have q3 : (depT t i w != !decide (((List.range (2 ^ w)).map fun row => bitT t (fixT row i 0)) = ((List.range (2 ^ w)).map fun row => bitT t (fixT row i 1)))) = false := by rw [d]; exact dne
    with_reducible apply ExsN.of (r' := [("turned", .list (((List.range (2 ^ w)).map fun row => bitT t (fixT row i (1 - row / 2 ^ i % 2))).map N)), ("fixed", .list ((List.range 2).map fun bit => .list (((List.range (2 ^ w)).map fun row => bitT t (fixT row i bit)).map N))), ("one", N i), ("held", .box b.length), ("table", N t), ("many", N (2 ^ w)), ("wide", N w), ("hand", .box 0)])
    case q => kp_flats
    case h =>
      with_reducible apply Exs.ifSkip (q := ne_false (var_rows h5 hi))
      case h => kp_flats
      case h2 =>
        with_reducible apply Exs.asgV (ys := fun bit => .list (((List.range (2 ^ w)).map fun row => bitT t (fixT row i bit)).map N))
        case h1 => kp_flats
        case h3 =>
          intro bit hbit
          have F' := F bit hbit
          with_reducible apply Ev.compA
          case h1 => kp_flats
          case h3 =>
            intro row hrow
            have F'' := F' row hrow
            kp_flats
          all_goals kp_flats
        case rest =>
          with_reducible apply Exs.ifSkip (tt := !decide ((List.range 2).map (fun bit => cofT t i bit w) = (List.range 2).map fun bit => rowsT ((List.range (2 ^ w)).map fun row => bitT t (fixT row i bit)))) (q := q2)
          case h =>
            with_reducible apply Tr.cmp
            case h1 => kp_flats
            case h2 => kp_flats
            case h3 => exact Cop.neNs (hA.mono (by omega)) (.list _) (.list _)
            all_goals kp_flats
          case h2 =>
            with_reducible apply Exs.ifSkip (tt := depT t i w != !decide (((List.range (2 ^ w)).map fun row => bitT t (fixT row i 0)) = ((List.range (2 ^ w)).map fun row => bitT t (fixT row i 1)))) (q := q3)
            case h =>
              with_reducible apply Tr.cmp (b1 := b ++ [(supM t w i).map N]) (b2 := b ++ [(supM t w i).map N])
              case h1 => kp_flats
              case h2 =>
                with_reducible apply Ev.cmp (x := .list (((List.range (2 ^ w)).map fun row => bitT t (fixT row i 0)).map N)) (y := .list (((List.range (2 ^ w)).map fun row => bitT t (fixT row i 1)).map N)) (b1 := b ++ [(supM t w i).map N])
                case h3 => exact Cop.neNs (hA.mono (by omega)) (.list _) (.list _)
                all_goals kp_flats
              all_goals kp_flats
            case h2 =>
              by_cases hd : depT t i w = true
              · have e : supM t w (i + 1) = supM t w i ++ [i] := if_pos hd
                rw [e, List.map_append]
                simp only [List.map_cons, List.map_nil]
                rw [hd] at d
                have hne : fixR t w i 0 ≠ fixR t w i 1 := of_decide_eq_true d.symm
                unfold fixR at hne
                have q4 : (!decide (((List.range (2 ^ w)).map fun row => bitT t (fixT row i 0)) = ((List.range (2 ^ w)).map fun row => bitT t (fixT row i 1)))) = true := by rw [decide_eq_false hne]; rfl
                with_reducible apply Exs.ifGo (tt := !decide (((List.range (2 ^ w)).map fun row => bitT t (fixT row i 0)) = ((List.range (2 ^ w)).map fun row => bitT t (fixT row i 1)))) (q := q4)
                case h =>
                  with_reducible apply Tr.cmp (x := .list (((List.range (2 ^ w)).map fun row => bitT t (fixT row i 0)).map N)) (y := .list (((List.range (2 ^ w)).map fun row => bitT t (fixT row i 1)).map N)) (b1 := b ++ [(supM t w i).map N]) (b2 := b ++ [(supM t w i).map N])
                  case h3 => exact Cop.neNs (hA.mono (by omega)) (.list _) (.list _)
                  all_goals kp_flats
                case h2 => kp_flats
                case h3 =>
                  with_reducible apply Exs.asgA (f := fun row => bitT t (fixT row i (1 - row / 2 ^ i % 2)))
                  case h1 => kp_flats
                  case h3 =>
                    intro row hrow
                    have F2' := F2 row hrow
                    have hle' := hle (row / 2 ^ i)
                    kp_flats
                  case rest =>
                    with_reducible apply Exs.ifSkip (q := ne_false (flip_rows ht h5 hi))
                    case h => kp_flats
                    case h2 => exact Exs.nil
                  all_goals kp_flats
              · have hd' : depT t i w = false := by simpa using hd
                have e : supM t w (i + 1) = supM t w i := if_neg hd
                rw [e]
                rw [hd'] at d
                have heq : fixR t w i 0 = fixR t w i 1 := by simpa using d
                unfold fixR at heq
                have q5 : (!decide (((List.range (2 ^ w)).map fun row => bitT t (fixT row i 0)) = ((List.range (2 ^ w)).map fun row => bitT t (fixT row i 1)))) = false := by rw [decide_eq_true heq]; rfl
                with_reducible apply Exs.ifElse (tt := !decide (((List.range (2 ^ w)).map fun row => bitT t (fixT row i 0)) = ((List.range (2 ^ w)).map fun row => bitT t (fixT row i 1)))) (q := q5)
                case h =>
                  with_reducible apply Tr.cmp (x := .list (((List.range (2 ^ w)).map fun row => bitT t (fixT row i 0)).map N)) (y := .list (((List.range (2 ^ w)).map fun row => bitT t (fixT row i 1)).map N)) (b1 := b ++ [(supM t w i).map N]) (b2 := b ++ [(supM t w i).map N])
                  case h3 => exact Cop.neNs (hA.mono (by omega)) (.list _) (.list _)
                  all_goals kp_flats
                case h2 => kp_flats
                case h3 =>
                  with_reducible apply Exs.asgA (f := fun row => bitT t (fixT row i (1 - row / 2 ^ i % 2)))
                  case h1 => kp_flats
                  case h3 =>
                    intro row hrow
                    have F2' := F2 row hrow
                    have hle' := hle (row / 2 ^ i)
                    kp_flats
                  case rest =>
                    with_reducible apply Exs.ifSkip (q := ne_false (flip_rows ht h5 hi))
                    case h => kp_flats
                    case h2 => exact Exs.nil
                  all_goals kp_flats
        all_goals kp_flats
  case rest => exact K
  all_goals kp_flats
end
end
section
section
variable {C : Cx} {mg mb : Str → Option Value} {A : Around} {b P Q : Boxes} {ns : List Int} {r0 : Loc} {h0 : List V}
theorem s15 (g : G C mg mb) (hA : OKA 12 A) {w t bh : Nat} (hw : w ≤ 4) (ht : Tb t w) (hb : b[bh]? = some ((supM t w w).map N))
    (K : Fin C A [("held", .box bh), ("table", N t), ("many", N (2 ^ w)), ("wide", N w), ("hand", .box 0)] b 16) :
    Fin C A [("held", .box bh), ("table", N t), ("many", N (2 ^ w)), ("wide", N w), ("hand", .box 0)] b 15 := by
  have ht32 := ht.lt32 (k := w) (by omega)
  have hl := supM_length t w w
  have q : (!decide (supM t w w = supM t w w)) = false := by simp
  have hlm : ((supM t w w).map N).length ≤ 1000000 := by rw [List.length_map]; omega
  refine Fin.go K (by decide) fun r' b' K => ?_
  conv => pattern (stm _); whnf
  with_reducible apply Exs.ifSkip (q := q)
  case h =>
    with_reducible apply Tr.cmp (b1 := b) (b2 := b)
    case h3 => exact Cop.neNs (hA.mono (by omega)) (.list _) (.box _ _ hb)
    all_goals kp_flats
  case h2 => exact Exs.at _ (by kp_flats) K
theorem s16 (g : G C mg mb) (hA : OKA 12 A) {w t bh : Nat}
    (K : Fin C A [("order", .box b.length), ("held", .box bh), ("table", N t), ("many", N (2 ^ w)), ("wide", N w), ("hand", .box 0)] (b ++ [[]]) 17) :
    Fin C A [("held", .box bh), ("table", N t), ("many", N (2 ^ w)), ("wide", N w), ("hand", .box 0)] b 16 := by
  refine Fin.go K (by decide) fun r' b' K => ?_
  conv => pattern (stm _); whnf
  with_reducible apply Exs.asg
  case h => kp_flats
  case rest => exact Exs.at _ (by kp_flats) K
  all_goals kp_flats
theorem s17 (g : G C mg mb) (hA : OKA 12 A) (hns : ns.length ≤ 63) {w t bh : Nat} (hw : w ≤ 4) {h : Hs} (hp : h.p ≤ ns.length)
    (K : ∀ (h : Hs) (O : List Nat), h.p ≤ ns.length → OrdOK O w → Fin C A [("order", .box (Q.length + 1)), ("held", .box bh), ("table", N t), ("many", N (2 ^ w)), ("wide", N w), ("hand", .box 0)] (hv ns h :: (Q ++ [O.map N])) 18) :
    Fin C A [("order", .box (Q.length + 1)), ("held", .box bh), ("table", N t), ("many", N (2 ^ w)), ("wide", N w), ("hand", .box 0)] (hv ns h :: (Q ++ [[]])) 17 := by
  refine Fin.go (K (iterS ns (· + 1) h w) (ordM ns h w) (iterS_p hp w) (ordM_ok ns h w)) (by decide) fun r' b' K => ?_
  conv => pattern (stm _); whnf
  with_reducible apply Exs.forR (n := w) (fun _ => [("order", .box (Q.length + 1)), ("held", .box bh), ("table", N t), ("many", N (2 ^ w)), ("wide", N w), ("hand", .box 0)]) (fun i => hv ns (iterS ns (· + 1) h i) :: (Q ++ [(ordM ns h i).map N])) hA.h
  case hbody =>
    intro i hi
    have hlen := (ordM_ok ns h i).len
    have hlm : ((ordM ns h i).map N).length ≤ 1000000 := by rw [List.length_map]; omega
    have hp' := iterS_p (ls := (· + 1)) hp i
    have hd := pickD_lt ns (l := i + 1) (by omega) (iterS ns (· + 1) h i)
    have e : (ordM ns h (i + 1)).map N = insAt ((ordM ns h i).map N) (pickD ns (i + 1) (iterS ns (· + 1) h i)) (N i) := (insN_map _ _ _).symm
    rw [e]
    show ExsN _ _ _ _ _ _ _ (hv ns (pickS ns (i + 1) (iterS ns (· + 1) h i)) :: (Q ++ [insAt ((ordM ns h i).map N) (pickD ns (i + 1) (iterS ns (· + 1) h i)) (N i)]))
    generalize iterS ns (· + 1) h i = h' at *
    with_reducible apply ExsN.of
    · with_reducible apply Exs.insS (y := hv ns (pickS ns (i + 1) h')) (n := pickD ns (i + 1) h') (v := N i)
      all_goals kp_flats
    · kp_flats
  case rest => exact K
  all_goals kp_flats
theorem s18 (g : G C mg mb) (hA : OKA 12 A) {w t bh bo : Nat} {O : List Nat} (hw : w ≤ 4) (hO : b[bo]? = some (O.map N)) (ok : OrdOK O w)
    (K : Fin C A [("olds", .list (((List.range (2 ^ w)).map fun row => spreadS row O w).map N)), ("order", .box bo), ("held", .box bh), ("table", N t), ("many", N (2 ^ w)), ("wide", N w), ("hand", .box 0)] b 19) :
    Fin C A [("order", .box bo), ("held", .box bh), ("table", N t), ("many", N (2 ^ w)), ("wide", N w), ("hand", .box 0)] b 18 := by
  have hm := pw16 hw
  have hl := ok.len
  have hq : SqV b (.box bo) (O.map N) := .box _ _ hO
  have hps := pl_le (ps := O) fun p hp => by have := ok.lt p hp; omega
  refine Fin.go K (by decide) fun r' b' K => ?_
  conv => pattern (stm _); whnf
  with_reducible apply Exs.asgA (f := fun row => spreadS row O w)
  case h1 => kp_flats
  case h3 =>
    intro row hrow
    show Ev _ _ _ _ _ _ (N ((List.range w).map fun spot => row / 2 ^ spot % 2 * 2 ^ O.getD spot 0).sum) _
    with_reducible apply Ev.sumN g hA.h
    case h1 =>
      with_reducible apply Ev.compA (n := w) (f := fun spot => row / 2 ^ spot % 2 * 2 ^ O.getD spot 0)
      all_goals kp_flats
    all_goals kp_flats
  case rest => exact Exs.at _ (by kp_flats) K
  all_goals kp_flats
theorem s19 (g : G C mg mb) (hA : OKA 12 A) {w t bh bo : Nat} {O : List Nat} (hw : w ≤ 4) (ht : Tb t w) (hO : b[bo]? = some (O.map N)) (ok : OrdOK O w)
    (K : Fin C A [("held", .box bh), ("table", N t), ("many", N (2 ^ w)), ("wide", N w), ("hand", .box 0)] b 20) :
    Fin C A [("olds", .list (((List.range (2 ^ w)).map fun row => spreadS row O w).map N)), ("order", .box bo), ("held", .box bh), ("table", N t), ("many", N (2 ^ w)), ("wide", N w), ("hand", .box 0)] b 19 := by
  have hm := pw16 hw
  have hl := ok.len
  have hlm : (O.map N).length ≤ 1000000 := by rw [List.length_map]; omega
  have hq : SeqV b (.box bo) (O.map N) := .box _ _ hO
  have hps := pl_le (ps := O) fun p hp => by have := ok.lt p hp; omega
  have hsp : ∀ m, spreadS m O w ≤ 29 := fun m => by have := spreadS_lt (m := m) ok; omega
  refine Fin.go K (by decide) fun r' b' K => ?_
  conv => pattern (stm _); whnf
  with_reducible apply Exs.ifSkip (q := ne_false (perm_rows (t := t) ok))
  case h =>
    with_reducible apply Tr.cmp (b1 := b) (b2 := b)
    case h2 =>
      with_reducible apply Ev.callF g.B
      case h1 =>
        with_reducible apply EvL.cons
        case h =>
          with_reducible apply Ev.compO (n := 2 ^ w) (f0 := fun row => spreadS row O w)
          case h1 => rfl
          case h3 =>
            intro row hrow
            have hsp' := hsp row
            kp_flats
          all_goals kp_flats
        all_goals kp_flats
      all_goals kp_flats
    all_goals kp_flats
  case h2 => exact Exs.at _ (by kp_flats) K
theorem s20 (g : G C mg mb) (hA : OKA 12 A) (hns : ns.length ≤ 63) {w t bh : Nat} (hw : w ≤ 4) (ht : Tb t w) {h : Hs} (hp : h.p ≤ ns.length)
    (K : ∀ h : Hs, h.p ≤ ns.length → Fin C A [("held", .box bh), ("table", N t), ("many", N (2 ^ w)), ("wide", N w), ("hand", .box 0)] (hv ns h :: Q) 21) :
    Fin C A [("held", .box bh), ("table", N t), ("many", N (2 ^ w)), ("wide", N w), ("hand", .box 0)] (hv ns h :: Q) 20 := by
  have hm := pw16 hw
  have ht32 := ht.lt32 (k := w) (by omega)
  by_cases h0 : w > 0
  · have o1 := pickD_lt ns h0 h
    have p1 := pickS_p ns w hp
    have o2 := pickD_lt ns h0 (pickS ns w h)
    have p2 := pickS_p ns w p1
    refine Fin.go (K _ p2) (by decide) fun r' b' K => ?_
    generalize hi : pickD ns w h = i at *
    generalize hj : pickD ns w (pickS ns w h) = j at *
    have hsw : ∀ row, row < 2 ^ w → sw row i j ≤ 29 := fun row hr => by have := sw_lt (by omega : w ≤ 5) o1 o2 hr; omega
    conv => pattern (stm _); whnf
    with_reducible apply Exs.ifGo (q := decide_eq_true h0)
    case h => kp_flats
    case h2 =>
      with_reducible apply Exs.asg (v := N i)
      case h => rw [← hi]; kp_flats
      case rest =>
        with_reducible apply Exs.asg (v := N j)
        case h => rw [← hj]; kp_flats
        case rest =>
          with_reducible apply Exs.asgA (f := fun row => sw row i j)
          case h1 => kp_flats
          case h3 =>
            intro row hrow
            show Ev _ _ _ _ _ _ (N (fixT (fixT row i (row / 2 ^ j % 2)) j (row / 2 ^ i % 2))) _
            kp_flats
          case rest =>
            with_reducible apply Exs.ifSkip (q := ne_false (swap_rows ht (by omega : w ≤ 5) o1 o2))
            case h =>
              with_reducible apply Tr.cmp
              case h1 => kp_flats
              case h2 =>
                with_reducible apply Ev.callF g.B
                case h1 =>
                  with_reducible apply EvL.cons
                  case h =>
                    with_reducible apply Ev.compO (n := 2 ^ w) (f0 := fun row => sw row i j)
                    case h1 => rfl
                    case h3 =>
                      intro row hrow
                      have hsp' := hsw row hrow
                      kp_flats
                    all_goals kp_flats
                  all_goals kp_flats
                all_goals kp_flats
              all_goals kp_flats
            case h2 => exact Exs.nil
          all_goals kp_flats
        all_goals kp_flats
      all_goals kp_flats
    case h3 => exact Exs.at _ (by kp_flats) K
  · refine Fin.go (K h hp) (by decide) fun r' b' K => ?_
    conv => pattern (stm _); whnf
    with_reducible apply Exs.ifElse (q := decide_eq_false h0)
    case h => kp_flats
    case h2 => exact Exs.nil
    case h3 => exact Exs.at _ (by kp_flats) K
end
end
section
section
variable {C : Cx} {mg mb : Str → Option Value} {A : Around} {b P Q : Boxes} {ns : List Int} {r0 : Loc} {h0 : List V}
theorem s21 (g : G C mg mb) (hA : OKA 12 A) {w t bh : Nat} (hw : w ≤ 4) (ht : Tb t w)
    (K : Fin C A [("kept", .list ((supM t w w).map N)), ("small", N (shrinkT t w)), ("held", .box bh), ("table", N t), ("many", N (2 ^ w)), ("wide", N w), ("hand", .box 0)] b 22) :
    Fin C A [("held", .box bh), ("table", N t), ("many", N (2 ^ w)), ("wide", N w), ("hand", .box 0)] b 21 := by
  have ht32 := ht.lt32 (k := w) (by omega)
  refine Fin.go K (by decide) fun r' b' K => ?_
  conv => pattern (stm _); whnf
  with_reducible apply Exs.cons
  case h1 =>
    with_reducible apply Ex.assign2 hA.h
    all_goals kp_flats
  case h2 => exact Exs.at _ (by kp_flats) K
theorem s22 (g : G C mg mb) (hA : OKA 12 A) {w t bh : Nat} (hw : w ≤ 4) (hb : b[bh]? = some ((supM t w w).map N))
    (K : Fin C A [("kept", .list ((supM t w w).map N)), ("small", N (shrinkT t w)), ("held", .box bh), ("table", N t), ("many", N (2 ^ w)), ("wide", N w), ("hand", .box 0)] b 23) :
    Fin C A [("kept", .list ((supM t w w).map N)), ("small", N (shrinkT t w)), ("held", .box bh), ("table", N t), ("many", N (2 ^ w)), ("wide", N w), ("hand", .box 0)] b 22 := by
  have hl := supM_length t w w
  have hln : ((supM t w w).map N).length = (supM t w w).length := List.length_map _
  have q1 : (!decide (supM t w w = supM t w w)) = false := by simp
  have q2 : shrinkT t w / 2 ^ 2 ^ ((supM t w w).map N).length = 0 := by rw [hln]; exact shrink_zero
  have hlm : ((supM t w w).map N).length ≤ 1000000 := by omega
  have hpw : 2 ^ ((supM t w w).map N).length ≤ 16 := by rw [hln]; exact pw16 (by omega)
  have hq : SqV b (.box bh) ((supM t w w).map N) := .box _ _ hb
  refine Fin.go K (by decide) fun r' b' K => ?_
  conv => pattern (stm _); whnf
  with_reducible apply Exs.ifSkip (tt := false) (q := rfl)
  case h =>
    refine Tr.or0 (t1 := !decide (supM t w w = supM t w w)) (t2 := decide (shrinkT t w / 2 ^ 2 ^ ((supM t w w).map N).length ≠ 0)) ?_ q1 ?_ (ne_false q2)
    · with_reducible apply Tr.cmp (b1 := b) (b2 := b)
      case h3 => exact Cop.neNs (hA.mono (by omega)) (.list _) (.box _ _ hb)
      all_goals kp_flats
    · kp_flats
  case h2 => exact Exs.at _ (by kp_flats) K
theorem s23 (g : G C mg mb) (hA : OKA 12 A) {w t bh : Nat} (hw : w ≤ 4) (ht : Tb t w) (hb : b[bh]? = some ((supM t w w).map N))
    (K : Fin C A [("kept", .list ((supM t w w).map N)), ("small", N (shrinkT t w)), ("held", .box bh), ("table", N t), ("many", N (2 ^ w)), ("wide", N w), ("hand", .box 0)] b 24) :
    Fin C A [("kept", .list ((supM t w w).map N)), ("small", N (shrinkT t w)), ("held", .box bh), ("table", N t), ("many", N (2 ^ w)), ("wide", N w), ("hand", .box 0)] b 23 := by
  have hm := pw16 hw
  have hl := supM_length t w w
  have hln : ((supM t w w).map N).length = (supM t w w).length := List.length_map _
  have hlm : ((supM t w w).map N).length ≤ 1000000 := by omega
  have hq : SqV b (.box bh) ((supM t w w).map N) := .box _ _ hb
  have hps := pl_le (ps := supM t w w) fun p hp => by have := supM_lt t w w p hp; omega
  have hgs : ∀ m, gatherS m (supM t w w) (supM t w w).length ≤ 29 := fun m => by
    have := gatherS_lt (m := m) (ps := supM t w w) (n := (supM t w w).length)
    have h2 := pw16 (w := (supM t w w).length) (by omega)
    omega
  refine Fin.go K (by decide) fun r' b' K => ?_
  conv => pattern (stm _); whnf
  with_reducible apply Exs.forR (n := 2 ^ w) (fun _ => [("kept", .list ((supM t w w).map N)), ("small", N (shrinkT t w)), ("held", .box bh), ("table", N t), ("many", N (2 ^ w)), ("wide", N w), ("hand", .box 0)]) (fun _ => b) hA.h
  case hbody =>
    intro row hrow
    have hgs' := hgs row
    have q := shrink_bit ht (by omega : w ≤ 5) hrow
    with_reducible apply ExsN.of
    · with_reducible apply Exs.asg (v := N (gatherS row (supM t w w) (supM t w w).length))
      case h =>
        show Ev _ _ _ _ _ _ (N ((List.range (supM t w w).length).map fun j => row / 2 ^ (supM t w w).getD j 0 % 2 * 2 ^ j).sum) _
        with_reducible apply Ev.sumN g hA.h
        case h1 =>
          with_reducible apply Ev.compA (n := (supM t w w).length) (f := fun j => row / 2 ^ (supM t w w).getD j 0 % 2 * 2 ^ j)
          case h1 => rw [← hln]; kp_flats
          all_goals kp_flats
        all_goals kp_flats
      case rest =>
        with_reducible apply Exs.ifSkip (q := ne_false q)
        case h => kp_flats
        case h2 => exact Exs.nil
      all_goals kp_flats
    · kp_flats
  case rest => exact K
  all_goals kp_flats
theorem s24 (g : G C mg mb) (hA : OKA 12 A) {w t bh : Nat} (hw : w ≤ 4) (ht : Tb t w)
    (K : Fin C A [("table", N t), ("wide", N w), ("hand", .box 0)] b 25) :
    Fin C A [("kept", .list ((supM t w w).map N)), ("small", N (shrinkT t w)), ("held", .box bh), ("table", N t), ("many", N (2 ^ w)), ("wide", N w), ("hand", .box 0)] b 24 := by
  have hl := supM_length t w w
  have hps := pl_le (ps := supM t w w) fun p hp => by have := supM_lt t w w p hp; omega
  refine Fin.go K (by decide) fun r' b' K => ?_
  conv => pattern (stm _); whnf
  with_reducible apply Exs.ifSkip (q := ne_false (expand_shrink ht (by omega : w ≤ 5)))
  case h => kp_flats
  case h2 => exact Exs.at _ (by kp_flats) K
theorem s25 (g : G C mg mb) (hA : OKA 12 A) (hns : ns.length ≤ 63) {w t : Nat} (hw : w ≤ 4) {h : Hs} (hp : h.p ≤ ns.length)
    (K : ∀ (v : Nat) (h : Hs), w ≤ v → v ≤ 5 → h.p ≤ ns.length → Fin C A [("wider", N v), ("table", N t), ("wide", N w), ("hand", .box 0)] (hv ns h :: Q) 26) :
    Fin C A [("table", N t), ("wide", N w), ("hand", .box 0)] (hv ns h :: Q) 25 := by
  have o1 := pickD_lt ns (l := 2) (by omega) h
  refine Fin.go (K (Nat.min 5 (w + pickD ns 2 h)) (pickS ns 2 h) (Nat.le_min.mpr ⟨by omega, by omega⟩) (Nat.min_le_left _ _) (pickS_p ns 2 hp)) (by decide) fun r' b' K => ?_
  conv => pattern (stm _); whnf
  with_reducible apply Exs.asg
  case h => kp_flats
  case rest => exact Exs.at _ (by kp_flats) K
  all_goals kp_flats
theorem s26 (g : G C mg mb) (hA : OKA 12 A) {w v t : Nat}
    (K : Fin C A [("seats", .box b.length), ("wider", N v), ("table", N t), ("wide", N w), ("hand", .box 0)] (b ++ [[]]) 27) :
    Fin C A [("wider", N v), ("table", N t), ("wide", N w), ("hand", .box 0)] b 26 := by
  refine Fin.go K (by decide) fun r' b' K => ?_
  conv => pattern (stm _); whnf
  with_reducible apply Exs.asg
  case h => kp_flats
  case rest => exact Exs.at _ (by kp_flats) K
  all_goals kp_flats
theorem s27 (g : G C mg mb) (hA : OKA 12 A) (hns : ns.length ≤ 63) {w v t : Nat} (hv5 : v ≤ 5) {h : Hs} (hp : h.p ≤ ns.length)
    (K : ∀ (h : Hs) (O : List Nat), OrdOK O v → Fin C A [("seats", .box (Q.length + 1)), ("wider", N v), ("table", N t), ("wide", N w), ("hand", .box 0)] (hv ns h :: (Q ++ [O.map N])) 28) :
    Fin C A [("seats", .box (Q.length + 1)), ("wider", N v), ("table", N t), ("wide", N w), ("hand", .box 0)] (hv ns h :: (Q ++ [[]])) 27 := by
  refine Fin.go (K (iterS ns (· + 1) h v) (ordM ns h v) (ordM_ok ns h v)) (by decide) fun r' b' K => ?_
  conv => pattern (stm _); whnf
  with_reducible apply Exs.forR (n := v) (fun _ => [("seats", .box (Q.length + 1)), ("wider", N v), ("table", N t), ("wide", N w), ("hand", .box 0)]) (fun i => hv ns (iterS ns (· + 1) h i) :: (Q ++ [(ordM ns h i).map N])) hA.h
  case hbody =>
    intro i hi
    have hlen := (ordM_ok ns h i).len
    have hlm : ((ordM ns h i).map N).length ≤ 1000000 := by rw [List.length_map]; omega
    have hp' := iterS_p (ls := (· + 1)) hp i
    have hd := pickD_lt ns (l := i + 1) (by omega) (iterS ns (· + 1) h i)
    have e : (ordM ns h (i + 1)).map N = insAt ((ordM ns h i).map N) (pickD ns (i + 1) (iterS ns (· + 1) h i)) (N i) := (insN_map _ _ _).symm
    rw [e]
    show ExsN _ _ _ _ _ _ _ (hv ns (pickS ns (i + 1) (iterS ns (· + 1) h i)) :: (Q ++ [insAt ((ordM ns h i).map N) (pickD ns (i + 1) (iterS ns (· + 1) h i)) (N i)]))
    generalize iterS ns (· + 1) h i = h' at *
    with_reducible apply ExsN.of
    · with_reducible apply Exs.insS (y := hv ns (pickS ns (i + 1) h')) (n := pickD ns (i + 1) h') (v := N i)
      all_goals kp_flats
    · kp_flats
  case rest => exact K
  all_goals kp_flats
theorem s28 (g : G C mg mb) (hA : OKA 12 A) {w v t bo : Nat} {O : List Nat} (hv5 : v ≤ 5) (hO : b[bo]? = some (O.map N)) (ok : OrdOK O v)
    (K : Fin C A [("seats", .list ((O.take w).map N)), ("wider", N v), ("table", N t), ("wide", N w)] b 29) :
    Fin C A [("seats", .box bo), ("wider", N v), ("table", N t), ("wide", N w), ("hand", .box 0)] b 28 := by
  have hl := ok.len
  refine Fin.go K (by decide) fun r' b' K => ?_
  conv => pattern (stm _); whnf
  with_reducible apply Exs.asg (v := .list ((O.take w).map N))
  case h =>
    rw [List.map_take]
    exact Ev.upto (b1 := b) (v := .box bo) (l := O.map N) (by kp_flats) (by kp_flats) (.box _ _ hO) (by rw [List.length_map]; omega)
  case rest => exact Exs.at _ (by kp_flats) K
  all_goals kp_flats
theorem s29 (g : G C mg mb) (hA : OKA 12 A) {w v t : Nat} {O : List Nat} (hw : w ≤ 4) (hv5 : v ≤ 5) (hl : O.length = w) (hps : ∀ j, O.getD j 0 ≤ 5)
    (K : Fin C A [("rows", .list (((List.range (2 ^ v)).map fun row => gatherS row O w).map N)), ("seats", .list (O.map N)), ("wider", N v), ("table", N t), ("wide", N w)] b 30) :
    Fin C A [("seats", .list (O.map N)), ("wider", N v), ("table", N t), ("wide", N w)] b 29 := by
  have hm : 2 ^ v ≤ 2 ^ 5 := Nat.pow_le_pow_right (by decide) hv5
  have hq : SqV b (.list (O.map N)) (O.map N) := .list _
  refine Fin.go K (by decide) fun r' b' K => ?_
  conv => pattern (stm _); whnf
  with_reducible apply Exs.asgA (f := fun row => gatherS row O w)
  case h1 => kp_flats
  case h3 =>
    intro row hrow
    show Ev _ _ _ _ _ _ (N ((List.range w).map fun j => row / 2 ^ O.getD j 0 % 2 * 2 ^ j).sum) _
    with_reducible apply Ev.sumN g hA.h
    case h1 =>
      with_reducible apply Ev.compA (n := w) (f := fun j => row / 2 ^ O.getD j 0 % 2 * 2 ^ j)
      all_goals kp_flats
    all_goals kp_flats
  case rest => exact Exs.at _ (by kp_flats) K
  all_goals kp_flats
theorem Fin.last {r : Loc} {k : Nat} (h : Exs C A lsc (lawRest k) r b (.ret (.bool true)) r b) : Fin C A r b k := ⟨r, b, h⟩
theorem s30 (g : G C mg mb) (hA : OKA 12 A) {w v t : Nat} {O : List Nat} (hw : w ≤ 4) (hv5 : v ≤ 5) (hl : O.length = w) (hps : ∀ j, O.getD j 0 ≤ 5) :
    Fin C A [("rows", .list (((List.range (2 ^ v)).map fun row => gatherS row O w).map N)), ("seats", .list (O.map N)), ("wider", N v), ("table", N t), ("wide", N w)] b 30 := by
  have hm : 2 ^ v ≤ 2 ^ 5 := Nat.pow_le_pow_right (by decide) hv5
  have hgs : ∀ m, gatherS m O w ≤ 29 := fun m => by
    have := gatherS_lt (m := m) (ps := O) (n := w)
    have h2 := pw16 hw
    omega
  refine Fin.last ?_
  rw [lawRest_cons (by decide)]
  conv => pattern (stm _); whnf
  with_reducible apply Exs.retS
  have e : (V.bool true) = .bool (decide (permM t (fun m => gatherM m O O.length) (1 <<< v) = rowsT ((List.range (2 ^ v)).map fun row => bitT t (gatherS row O w)))) := by
    rw [decide_eq_true (expand_rows hl)]
  rw [e]
  with_reducible apply Ev.cmp (b1 := b)
  case h1 => kp_flats
  case h2 =>
    with_reducible apply Ev.callF g.B
    case h1 =>
      with_reducible apply EvL.cons
      case h =>
        with_reducible apply Ev.compO (n := 2 ^ v) (f0 := fun row => gatherS row O w)
        case h1 => rfl
        case h3 =>
          intro row hrow
          have hsp' := hgs row
          kp_flats
        all_goals kp_flats
      all_goals kp_flats
    all_goals kp_flats
  all_goals kp_flats
theorem c_law (g : G C mg mb) (hns : ns.length ≤ 63) (hA : OKA 13 A) : CallF C mg A "law" [.list (ns.map V.int)] [] (.bool true) [] := by
  refine CallF.defG (k := 12) (bo := []) (fl := .ret (.bool true)) (r := [("script", .list (ns.map V.int))]) hA g.B (g.fn 20 (by decide)) (fun pm cd doc vals hl => by
    match vals, hl with
    | [_], _ => rfl) (by rfl) (by decide +kernel) (by rfl) (fun A' hA' => ?_)
  have key : Fin C A' [("script", .list (ns.map V.int))] [] 0 := by
    refine s0 g hA' hns (s1 g hA' hns fun h p => s2 g hA' hns p fun w h hw p => s3 g hA' hw (s4 g hA' hns hw p fun t h ht p => s5 g hA' hns hw ht p fun u h hI p => s6 g hA' hw hI fun cs hG => ?_))
    refine s7 g hA' hw (len_cs hw hG) (s8 g hA' hw hG (s9 g hA' hw (len_cs hw hG) (s10 g hA' hw hG (s11 g hA' hw hG (s12 g hA' hw hG ?_)))))
    generalize List.replicate cs.length ([] : List V) = P
    refine s13 g hA' (s14 g hA' hw ht (s15 g hA' hw ht get_last (s16 g hA' ?_)))
    refine s17 (Q := P ++ [(supM t w w).map N]) g hA' hns hw p fun h O p ok => ?_
    generalize hQ : P ++ [(supM t w w).map N] ++ [O.map N] = Q
    have hO : ∀ x : List V, (x :: Q)[(P ++ [(supM t w w).map N]).length + 1]? = some (O.map N) := fun x => by rw [← hQ]; exact ins_get
    have hS : ∀ x : List V, (x :: Q)[(hv ns h :: P).length]? = some ((supM t w w).map N) := fun x => by
      rw [← hQ, List.append_assoc]; simp
    refine s18 g hA' hw (hO _) ok (s19 g hA' hw ht (hO _) ok (s20 g hA' hns hw ht p fun h p => ?_))
    refine s21 g hA' hw ht (s22 g hA' hw (hS _) (s23 g hA' hw ht (hS _) (s24 g hA' hw ht (s25 g hA' hns hw p fun v h hwv hv5 p => s26 g hA' ?_))))
    refine s27 (Q := Q) g hA' hns hv5 p fun h O2 ok2 => s28 g hA' hv5 ins_get ok2 ?_
    have hl : (O2.take w).length = w := by rw [List.length_take, ok2.len]; omega
    have hps := pl_le (ps := O2.take w) fun p hp => by have := ok2.lt p (List.mem_of_mem_take hp); omega
    exact s29 g hA' hw hv5 hl hps (s30 g hA' hw hv5 hl hps)
  obtain ⟨r', b', e⟩ := key
  refine ⟨b', ⟨r', ?_⟩, .pure _ (.bool _), fun vs m => by simp at m, by simp⟩
  rw [lsc_eq]
  exact e
end
end
end Mine
end
open PySem PySem.W PyProof.Rows
set_option Elab.async false
set_option maxRecDepth 100000
set_option maxHeartbeats 8000000 in
set_option maxRecDepth 100000 in
theorem PySem.Challenge.cw_nn0297_01_holds : PySem.Challenge.rw_nn0297_01.Holds := by
  w_on; o_law; k_head; (case hw => w_witness2)
  w_strict (
   k_fill
   intro w s₀ s₁ mg mb G Y fa o pm cd doc dV kV ho hd hcd hD hmg hg args vals as hpre hlay hrd hwl hlo
   refine Ground.open G ?_
   intro T B D TE TW
   wrow_args hpre hlay hrd hwl hlo
   have gg := Mine.connect (prog := PySem.Challenge.rw_nn0297_01.row.prog) (w := w) T (by kernel_rfl) (by decide +kernel)
   refine Mine.finish (Mine.c_law gg ?hlen (Mine.OKA.mono Mine.okA_caller (by omega))) hmg ‹_› ‹_› fun s' hs hk => ?_
   case hlen => have hc := ‹¬ ((63 : Nat) : Int) < _›; omega
   obtain ⟨h, tk, rfl⟩ := hs
   refine GoodW.toG ⟨.inl ⟨.bool true, _, [], rfl, ?_, .bool true, ?_, ?_⟩, hk, rfl, hg⟩
   all_goals first | (intro cls; rfl) | exact unshared_nil | kc_post | wrow_post)
