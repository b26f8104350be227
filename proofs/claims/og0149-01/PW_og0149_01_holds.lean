import PyProof.Rows.All
import Wide.All
import OpenK.AllK
import Wide.FinOn
import PySem.Challenge.RW_og0149_01
open PySem PySem.W PyProof.Rows PySem.Calls
set_option Elab.async false
set_option maxRecDepth 100000
namespace Mine

/-- a dict's key that is carried by value -/
inductive Key where
  | i (n : Int)
  | s (x : Str)
  deriving DecidableEq

def Key.is : Key → Value → Bool
  | .i n, v => v.isInt n
  | .s x, v => Value.isStrOf x v
theorem Key.is_i {n : Int} {v : Value} (h : Key.is (.i n) v = true) : ∃ t, v = .int n t := Value.isInt_shape h
theorem Key.is_s {x : Str} {v : Value} (h : Key.is (.s x) v = true) : ∃ t, v = .str x t := Value.isStrOf_shape h

def mixKind (prog : Program) (w : World) : KeyKind prog w Key where
  is := Key.is
  hash k := match k with | .i n => hashInt n | .s x => hashStr w x
  inj v a b ha hb := by
    cases a with
    | i n =>
      obtain ⟨t, rfl⟩ := Key.is_i ha
      cases b with
      | i m => obtain ⟨u, h⟩ := Key.is_i hb; injection h with h; rw [h]
      | s y => obtain ⟨u, h⟩ := Key.is_s hb; cases h
    | s x =>
      obtain ⟨t, rfl⟩ := Key.is_s ha
      cases b with
      | i m => obtain ⟨u, h⟩ := Key.is_i hb; cases h
      | s y => obtain ⟨u, h⟩ := Key.is_s hb; injection h with h; rw [h]
  byValue k v h := by
    cases k with
    | i n => obtain ⟨t, rfl⟩ := Key.is_i h; rfl
    | s x => obtain ⟨t, rfl⟩ := Key.is_s h; rfl
  pyHash := fun {A E s k v Q} hv h => by
    cases k with
    | i n => obtain ⟨t, rfl⟩ := Key.is_i hv; exact wpAny_pyHash_int h
    | s x => obtain ⟨t, rfl⟩ := Key.is_s hv; exact wpAny_pyHash_str h
  eqBool := fun {A E s a b u v Q} hu hv h => by
    cases a with
    | i n =>
      obtain ⟨t, rfl⟩ := Key.is_i hu
      cases b with
      | i m => obtain ⟨t', rfl⟩ := Key.is_i hv; refine wpAny_eqBool_int ?_; have e : (n == m) = decide (Key.i n = Key.i m) := by { by_cases q : n = m <;> simp [q] }; rw [e]; exact h
      | s y => obtain ⟨t', rfl⟩ := Key.is_s hv; exact SeqAt.EqAt.int_str _ _ _ _ _ _ _ _ (by simpa using h)
    | s x =>
      obtain ⟨t, rfl⟩ := Key.is_s hu
      cases b with
      | i m => obtain ⟨t', rfl⟩ := Key.is_i hv; exact SeqAt.EqAt.str_int _ _ _ _ _ _ _ _ (by simpa using h)
      | s y => obtain ⟨t', rfl⟩ := Key.is_s hv; exact wpAny_eqBool_str (by simpa using h)
  «strs» := fun k x t v h => by
    cases k with
    | i n => obtain ⟨u, hu⟩ := Key.is_i h; cases hu
    | s y =>
      obtain ⟨u, hu⟩ := Key.is_s h
      injection hu with hx
      subst hx
      cases v <;> rfl

end Mine

open PySem PySem.W PyProof.Rows PySem.Calls
set_option Elab.async false
set_option maxRecDepth 100000
set_option linter.unusedVariables false
namespace Mine

/-- plain values: tuples and lists that nobody changes any more are values; a list or dict still worked on is a ref -/
inductive PV where
  | none
  | bool (b : Bool)
  | int (i : Int)
  | str (x : Str)
  | tup (l : List PV)
  | lst (l : List PV)
  | ref (a : Addr)
  | rng (n : Int)

inductive MO where
  | lst (l : List PV)
  | dct (l : List (Key × PV))
  | tdct (l : List (List Key × PV))
  | hid (a b : Value)

abbrev Store := Addr → Option MO
abbrev Loc := Str → Option PV

mutual
inductive R (h : Heap) (H : Store) : Value → PV → Prop
  | none : R h H Value.none PV.none
  | bool (b : Bool) : R h H (Value.bool b) (PV.bool b)
  | int (i : Int) (t : Tok) : R h H (Value.int i t) (PV.int i)
  | str (x : Str) (t : Tok) : R h H (Value.str x t) (PV.str x)
  | tup {a : Addr} {vs : List Value} {ds : List PV} : h.IsTuple a vs.toArray → H a = Option.none → RL h H vs ds → R h H (Value.ref a) (PV.tup ds)
  | lst {a : Addr} {vs : List Value} {ds : List PV} : h.PlainList a vs.toArray → H a = Option.none → RL h H vs ds → R h H (Value.ref a) (PV.lst ds)
  | ref (a : Addr) : R h H (Value.ref a) (PV.ref a)
  | rng {a : Addr} {n : Int} {t u v : Tok} : IsRange h a 0 n 1 t u v → H a = Option.none → R h H (Value.ref a) (PV.rng n)
inductive RL (h : Heap) (H : Store) : List Value → List PV → Prop
  | nil : RL h H [] []
  | cons {v : Value} {vs : List Value} {d : PV} {ds : List PV} : R h H v d → RL h H vs ds → RL h H (v :: vs) (d :: ds)
end

/-- the objects that values may point to, told by their data -/
def IsV (o : Obj) : Prop := match o.data with
  | .seq .. => True
  | .fields .. => o.cls = .type "range"
  | _ => False

theorem isV_seq {o : Obj} {xs : Array Value} {n : Nat} (h : o.data = .seq xs n) : IsV o := by unfold IsV; rw [h]; trivial

mutual
theorem R.keep {h h' : Heap} {H H' : Store} (k : ∀ b o, h.get? b = some o → IsV o → H b = Option.none → h'.get? b = some o ∧ H' b = Option.none) : ∀ {v : Value} {p : PV}, R h H v p → R h' H' v p
  | _, _, .none => .none
  | _, _, .bool b => .bool b
  | _, _, .int i t => .int i t
  | _, _, .str x t => .str x t
  | _, _, .tup ⟨o, ho, hc, n, hd⟩ e r => let q := k _ o ho (isV_seq hd) e; .tup ⟨o, q.1, hc, n, hd⟩ q.2 (RL.keep k r)
  | _, _, .lst ⟨n, ho⟩ e r => let q := k _ _ ho trivial e; .lst ⟨n, q.1⟩ q.2 (RL.keep k r)
  | _, _, .ref a => .ref a
  | _, _, .rng ho e => let q := k _ _ ho rfl e; .rng q.1 q.2
theorem RL.keep {h h' : Heap} {H H' : Store} (k : ∀ b o, h.get? b = some o → IsV o → H b = Option.none → h'.get? b = some o ∧ H' b = Option.none) : ∀ {vs : List Value} {ps : List PV}, RL h H vs ps → RL h' H' vs ps
  | _, _, .nil => .nil
  | _, _, .cons a b => .cons (R.keep k a) (RL.keep k b)
end

section
variable {h : Heap} {H : Store} {v : Value} {vs ws : List Value} {d : PV} {ds es : List PV}
theorem RL.length (r : RL h H vs ds) : vs.length = ds.length := by
  induction vs generalizing ds with
  | nil => cases r; rfl
  | cons v vs ih => cases r with | cons _ r => rw [List.length_cons, List.length_cons, ih r]
theorem RL.append (r : RL h H vs ds) (k : RL h H ws es) : RL h H (vs ++ ws) (ds ++ es) := by
  induction vs generalizing ds with
  | nil => cases r; exact k
  | cons v vs ih => cases r with | cons a r => exact .cons a (ih r)
theorem RL.one (r : R h H v d) : RL h H [v] [d] := .cons r .nil
theorem RL.get (r : RL h H vs ds) {k : Nat} {d : PV} (hk : ds[k]? = some d) : ∃ v, vs[k]? = some v ∧ R h H v d := by
  induction vs generalizing ds k with
  | nil => cases r; simp at hk
  | cons v vs ih =>
    cases r with
    | cons a r =>
      cases k with
      | zero => simp at hk; subst hk; exact ⟨v, rfl, a⟩
      | succ k => simpa using ih r (by simpa using hk)
theorem RL.get' (r : RL h H vs ds) {k : Nat} {v : Value} (hk : vs[k]? = some v) : ∃ d, ds[k]? = some d ∧ R h H v d := by
  induction vs generalizing ds k with
  | nil => simp at hk
  | cons v vs ih =>
    cases r with
    | cons a r =>
      cases k with
      | zero => simp at hk; subst hk; exact ⟨_, rfl, a⟩
      | succ k => simpa using ih r (by simpa using hk)
theorem RL.of_get {vs : List Value} {ds : List PV} (hl : vs.length = ds.length) (hg : ∀ (k : Nat) (v : Value) (d : PV), vs[k]? = some v → ds[k]? = some d → R h H v d) : RL h H vs ds := by
  induction vs generalizing ds with
  | nil => cases ds with | nil => exact .nil | cons _ _ => simp at hl
  | cons v vs ih =>
    cases ds with
    | nil => simp at hl
    | cons d ds => exact .cons (hg 0 v d rfl rfl) (ih (by simpa using hl) fun k v d h1 h2 => hg (k + 1) v d (by simpa using h1) (by simpa using h2))
theorem RL.take (r : RL h H vs ds) (n : Nat) : RL h H (vs.take n) (ds.take n) := by
  induction vs generalizing ds n with
  | nil => cases r; simpa using RL.nil
  | cons v vs ih => cases r with | cons a r => cases n with
    | zero => simpa using RL.nil
    | succ n => exact .cons a (ih r n)
theorem RL.drop (r : RL h H vs ds) (n : Nat) : RL h H (vs.drop n) (ds.drop n) := by
  induction vs generalizing ds n with
  | nil => cases r; simpa using RL.nil
  | cons v vs ih => cases r with | cons a r => cases n with
    | zero => exact .cons a r
    | succ n => exact ih r n
end

/-- the items of a dict -/
inductive DR {α : Type} (h : Heap) (H : Store) : List (α × Value) → List (α × PV) → Prop
  | nil : DR h H [] []
  | cons {k : α} {v : Value} {p : PV} {xs : List (α × Value)} {ks : List (α × PV)} : R h H v p → DR h H xs ks → DR h H ((k, v) :: xs) ((k, p) :: ks)
theorem DR.keep {α : Type} {h h' : Heap} {H H' : Store} (k : ∀ b o, h.get? b = some o → IsV o → H b = Option.none → h'.get? b = some o ∧ H' b = Option.none) {xs : List (α × Value)} {ks : List (α × PV)} (r : DR h H xs ks) : DR h' H' xs ks := by
  induction r with
  | nil => exact .nil
  | cons a _ ih => exact .cons (a.keep k) ih

def toKey : Key → PV
  | .i n => .int n
  | .s x => .str x

/-- what the store says of an address -/
def MOR (prog : Program) (w : World) (h : Heap) (H : Store) (a : Addr) : MO → Prop
  | .lst ds => ∃ vs, h.PlainList a vs.toArray ∧ RL h H vs ds
  | .dct kvs => ∃ xs, h.DictOf (mixKind prog w) a xs ∧ DR h H xs kvs
  | .tdct kvs => ∃ xs, h.DictOfH (tupleKind (mixKind prog w)) a xs ∧ DR h H (xs.map fun x => (x.1, x.2.2)) kvs ∧ ∀ x ∈ xs, H x.2.1 = none
  | .hid x y => h.get? a = some { cls := .type "tuple", data := .seq #[x, y] }

structure Cx where
  prog : Program
  w : World
  A : Around
  B : Heap
  g : Heap
  D : Addr → Prop
  env : Env

def Xe (env : Env) (b : Addr) : Prop := b = env.locals ∨ ∃ x, env.cells.lookup x = some b

def Kp (X : Addr → Prop) (h : Heap) (H : Store) (h' : Heap) (H' : Store) : Prop := ∀ b o, h.get? b = some o → H b = none → ¬ X b → h'.get? b = some o ∧ H' b = none

theorem Kp.refl {X : Addr → Prop} {h : Heap} {H : Store} : Kp X h H h H := fun _ _ e n _ => ⟨e, n⟩
theorem Kp.trans {X : Addr → Prop} {h h' h'' : Heap} {H H' H'' : Store} (a : Kp X h H h' H') (b : Kp X h' H' h'' H'') : Kp X h H h'' H'' :=
  fun c o e n x => let q := a c o e n x; b c o q.1 q.2 x
theorem Kp.weaken {X Y : Addr → Prop} {h h' : Heap} {H H' : Store} (a : Kp X h H h' H') (xy : ∀ b o, h.get? b = some o → X b → Y b) : Kp Y h H h' H' :=
  fun c o e n y => a c o e n fun x => y (xy c o e x)

def Same (s s' : Shared) : Prop := ∃ h tk, s' = { s with heap := h, toks := tk }
theorem Same.refl (s : Shared) : Same s s := ⟨_, _, rfl⟩
theorem Same.trans {a b c : Shared} (x : Same a b) (y : Same b c) : Same a c := by
  obtain ⟨h, tk, rfl⟩ := x; obtain ⟨h', tk', rfl⟩ := y; exact ⟨h', tk', rfl⟩
theorem Same.mk' {s : Shared} {h : Heap} {tk : Nat} : Same s { s with heap := h, toks := tk } := ⟨_, _, rfl⟩

structure Act (c : Cx) (σ : Loc) (H : Store) (h : Heap) : Prop where
  base : ∀ b o, c.B.get? b = some o → h.get? b = some o
  keep : ∀ b o, c.g.get? b = some o → ¬ c.D b → h.get? b = some o
  Lb : c.B.objs.size ≤ c.env.locals
  Lg : c.g.get? c.env.locals = none
  loc : ∃ m, h.Ns c.env.locals m ∧ ∀ x p, σ x = some p → c.env.kindOf x = some .local → ∃ v, m x = some v ∧ R h H v p
  cel : ∀ x p, σ x = some p → (c.env.kindOf x = some .cell ∨ c.env.kindOf x = some .free) → ∃ a v, c.env.cells.lookup x = some a ∧ h.IsCell a (some v) ∧ R h H v p
  own : ∀ x a, c.env.cells.lookup x = some a → (∃ v, h.IsCell a v) ∧ c.B.get? a = none ∧ (c.g.get? a = none)
  apart : ∀ x y a, c.env.cells.lookup x = some a → c.env.cells.lookup y = some a → x = y
  has : ∀ x, c.env.kindOf x = some .cell → ∃ a, c.env.cells.lookup x = some a
  fn : c.env.scope.kind = .function
  st : ∀ a mo, H a = some mo → MOR c.prog c.w h H a mo ∧ a ≠ c.env.locals ∧ c.B.objs.size ≤ a ∧ (c.D a ∨ c.g.get? a = none)

theorem MOR.keep {prog : Program} {w : World} {h h' : Heap} {H H' : Store} {a : Addr} (k : ∀ b o, h.get? b = some o → IsV o → H b = Option.none → h'.get? b = some o ∧ H' b = Option.none)
    (ka : ∀ o, h.get? a = some o → h'.get? a = some o) : ∀ {mo : MO}, MOR prog w h H a mo → MOR prog w h' H' a mo
  | .lst _, ⟨vs, hl, r⟩ => ⟨vs, hl.at ka, r.keep k⟩
  | .hid _ _, e => ka _ e
  | .dct _, ⟨ws, ⟨o, es, ep, ho, x⟩, r⟩ => ⟨ws, ⟨o, es, ep, ka _ ho, x⟩, r.keep k⟩
  | .tdct _, ⟨xs, ⟨o, es, ep, ho, x1, x2, x3, x4, x5⟩, r, n⟩ => ⟨xs, ⟨o, es, ep, ka _ ho, x1, x2, x3, fun x hx => by
      obtain ⟨o', items, n', ho', hc', hd', hi'⟩ := x4 x hx
      exact ⟨o', items, n', (k _ _ ho' (isV_seq hd') (n x hx)).1, hc', hd', hi'⟩, x5⟩, r.keep k, fun x hx => by
      obtain ⟨o', items, n', ho', hc', hd', hi'⟩ := x4 x hx
      exact (k _ _ ho' (isV_seq hd') (n x hx)).2⟩

/-- the exempt addresses hold no values -/
theorem Act.noX {c : Cx} {σ : Loc} {H : Store} {h : Heap} (F : Act c σ H h) {b : Addr} {o : Obj} (e : h.get? b = some o) (v : IsV o) : ¬ Xe c.env b := by
  rintro (rfl | ⟨x, hx⟩)
  · obtain ⟨m, ⟨o', es, ep, ho, hd, _⟩, _⟩ := F.loc
    obtain rfl : o = o' := Option.some.inj (e.symm.trans ho)
    unfold IsV at v; rw [hd] at v; exact v
  · obtain ⟨⟨v', o', ho, hd⟩, _⟩ := F.own x b hx
    obtain rfl : o = o' := Option.some.inj (e.symm.trans ho)
    unfold IsV at v; rw [hd] at v; exact v

theorem Act.kV {c : Cx} {σ : Loc} {H H' : Store} {h h' : Heap} (F : Act c σ H h) (k : Kp (Xe c.env) h H h' H') : ∀ b o, h.get? b = some o → IsV o → H b = Option.none → h'.get? b = some o ∧ H' b = Option.none :=
  fun b o e v n => k b o e n (F.noX e v)
theorem Act.keepR {c : Cx} {σ : Loc} {H H' : Store} {h h' : Heap} (F : Act c σ H h) (k : Kp (Xe c.env) h H h' H') {v : Value} {p : PV} (r : R h H v p) : R h' H' v p := r.keep (F.kV k)
theorem Act.keepRL {c : Cx} {σ : Loc} {H H' : Store} {h h' : Heap} (F : Act c σ H h) (k : Kp (Xe c.env) h H h' H') {v : List Value} {p : List PV} (r : RL h H v p) : RL h' H' v p := r.keep (F.kV k)

/-- nothing that stands and is not the store's has moved: the state stays -/
theorem Act.grow {c : Cx} {σ : Loc} {H : Store} {h h' : Heap} (F : Act c σ H h) (k : ∀ b o, h.get? b = some o → h'.get? b = some o) : Act c σ H h' where
  base := fun b o e => k _ _ (F.base b o e)
  keep := fun b o e n => k _ _ (F.keep b o e n)
  Lb := F.Lb
  Lg := F.Lg
  loc := let ⟨m, hn, hv⟩ := F.loc; ⟨m, hn.keeps k, fun x p e l => let ⟨v, hm, r⟩ := hv x p e l; ⟨v, hm, r.keep fun b o e _ n => ⟨k _ _ e, n⟩⟩⟩
  cel := fun x p e l => let ⟨a, v, ha, hc, r⟩ := F.cel x p e l; ⟨a, v, ha, hc.keeps k, r.keep fun b o e _ n => ⟨k _ _ e, n⟩⟩
  own := fun x a e => let ⟨⟨v, hv⟩, r⟩ := F.own x a e; ⟨⟨v, hv.keeps k⟩, r⟩
  apart := F.apart
  has := F.has
  fn := F.fn
  st := fun a mo e => let ⟨m, r⟩ := F.st a mo e; ⟨m.keep (fun b o e _ n => ⟨k _ _ e, n⟩) fun o e => k _ _ e, r⟩

theorem Act.fresh {c : Cx} {σ : Loc} {H : Store} {h : Heap} (F : Act c σ H h) {a : Addr} (n : h.get? a = none) : H a = none := by
  cases e : H a with
  | none => rfl
  | some mo =>
    obtain ⟨m, _⟩ := F.st a mo e
    cases mo with
    | lst l => obtain ⟨vs, ⟨o, ho⟩, _⟩ := m; rw [n] at ho; cases ho
    | dct l => obtain ⟨ws, ⟨o, es, ep, ho, _⟩, _⟩ := m; rw [n] at ho; cases ho
    | tdct l => obtain ⟨xs, ⟨o, es, ep, ho, _⟩, _⟩ := m; rw [n] at ho; cases ho
    | hid x y => rw [show h.get? a = some _ from m] at n; cases n

theorem get?_size (h : Heap) : h.get? h.objs.size = none := by
  cases e : h.get? h.objs.size with
  | none => rfl
  | some o => exact absurd (Heap.lt_size e) (Nat.lt_irrefl _)

theorem Act.Lin {c : Cx} {σ : Loc} {H : Store} {h : Heap} (F : Act c σ H h) : ∃ o, h.get? c.env.locals = some o := by
  obtain ⟨m, ⟨o, es, ep, ho, _⟩, _⟩ := F.loc; exact ⟨o, ho⟩

def upd {α : Type} (H : Addr → Option α) (a : Addr) (x : α) : Addr → Option α := fun b => if b = a then some x else H b
def bnd (σ : Loc) (x : Str) (p : PV) : Loc := fun y => if y = x then some p else σ y
theorem upd_same {α : Type} (H : Addr → Option α) (a : Addr) (x : α) : upd H a x a = some x := by simp [upd]
theorem upd_ne {α : Type} {H : Addr → Option α} {a b : Addr} {x : α} (n : b ≠ a) : upd H a x b = H b := by simp [upd, n]
theorem upd_upd {α : Type} (H : Addr → Option α) (a : Addr) (x y : α) : upd (upd H a x) a y = upd H a y := by funext b; simp [upd]; split <;> rfl

end Mine

open PySem PySem.W PyProof.Rows PySem.Calls
set_option Elab.async false
set_option maxRecDepth 100000
set_option linter.unusedVariables false
namespace Mine

section
variable {c : Cx} {σ : Loc} {H : Store} {h h' : Heap}

theorem Act.baseNone (F : Act c σ H h) {a : Addr} (n : h.get? a = none) : c.B.get? a = none := by
  cases e : c.B.get? a with
  | none => rfl
  | some o => have := F.base _ _ e; rw [n] at this; cases this
theorem Act.gNone (F : Act c σ H h) {a : Addr} (n : h.get? a = none) : c.D a ∨ c.g.get? a = none := by
  by_cases d : c.D a
  · exact .inl d
  · refine .inr ?_
    cases e : c.g.get? a with
    | none => rfl
    | some o => have := F.keep _ _ e d; rw [n] at this; cases this

theorem Act.kAdd {a : Addr} {mo : MO} (na : h.get? a = none) (k : ∀ b o, h.get? b = some o → h'.get? b = some o) (X : Addr → Prop) : Kp X h H h' (upd H a mo) :=
  fun b o e n _ => ⟨k b o e, by rw [upd_ne (by rintro rfl; rw [na] at e; cases e)]; exact n⟩

/-- a new object that the store tells of -/
theorem Act.add (F : Act c σ H h) {a : Addr} {mo : MO} (la : h.objs.size ≤ a) (k : ∀ b o, h.get? b = some o → h'.get? b = some o) (m : MOR c.prog c.w h' (upd H a mo) a mo) : Act c σ (upd H a mo) h' := by
  have na : h.get? a = none := Heap.get?_none_of_le la
  have kk : ∀ b o, h.get? b = some o → IsV o → H b = none → h'.get? b = some o ∧ upd H a mo b = none :=
    fun b o e _ n => Act.kAdd (H := H) na k (fun _ => False) b o e n (fun x => x)
  refine ⟨fun b o e => k _ _ (F.base b o e), fun b o e n => k _ _ (F.keep b o e n), F.Lb, F.Lg, ?_, ?_, ?_, F.apart, F.has, F.fn, ?_⟩
  · obtain ⟨m, hn, hv⟩ := F.loc
    exact ⟨m, hn.keeps k, fun x p e l => let ⟨v, hm, r⟩ := hv x p e l; ⟨v, hm, r.keep kk⟩⟩
  · exact fun x p e l => let ⟨a, v, ha, hc, r⟩ := F.cel x p e l; ⟨a, v, ha, hc.keeps k, r.keep kk⟩
  · exact fun x a e => let ⟨⟨v, hv⟩, r⟩ := F.own x a e; ⟨⟨v, hv.keeps k⟩, r⟩
  · intro b mo' e
    by_cases hb : b = a
    · subst hb
      rw [upd_same] at e
      obtain rfl := Option.some.inj e
      obtain ⟨o, ho⟩ := F.Lin
      have lt := Heap.lt_size ho
      refine ⟨m, ?_, Nat.le_trans F.Lb (Nat.le_of_lt (Nat.lt_of_lt_of_le lt la)), F.gNone na⟩
      rintro rfl
      exact absurd lt (Nat.not_lt.mpr la)
    · rw [upd_ne hb] at e
      obtain ⟨m', r⟩ := F.st b mo' e
      exact ⟨m'.keep kk fun o e => k _ _ e, r⟩

theorem Act.stGet (F : Act c σ H h) {a : Addr} {mo : MO} (e : H a = some mo) : ∃ o, h.get? a = some o ∧ ((∃ xs n, o.data = .seq xs n) ∨ ∃ es n, o.data = .dict es n) := by
  obtain ⟨m, _⟩ := F.st a mo e
  cases mo with
  | lst l => obtain ⟨vs, ⟨n, ho⟩, _⟩ := m; exact ⟨_, ho, .inl ⟨_, _, rfl⟩⟩
  | dct l => obtain ⟨ws, ⟨o, es, ep, ho, hc, hd, _⟩, _⟩ := m; exact ⟨o, ho, .inr ⟨_, _, hd⟩⟩
  | tdct l => obtain ⟨xs, ⟨o, es, ep, ho, hc, hd, _⟩, _⟩ := m; exact ⟨o, ho, .inr ⟨_, _, hd⟩⟩
  | hid x y => exact ⟨_, m, .inl ⟨_, _, rfl⟩⟩

theorem Act.stCell (F : Act c σ H h) {a b : Addr} {mo : MO} {v : Option Value} (e : H a = some mo) (hc : h.IsCell b v) : b ≠ a := by
  rintro rfl
  obtain ⟨o, ho, hd⟩ := F.stGet e
  obtain ⟨o', ho', hd'⟩ := hc
  obtain rfl : o = o' := Option.some.inj (ho.symm.trans ho')
  rcases hd with ⟨_, _, hd⟩ | ⟨_, _, hd⟩ <;> (rw [hd] at hd'; cases hd')

theorem Act.kPut {a : Addr} {mo mo' : MO} (ea : H a = some mo) (hs : Heap.SameBut a h h') (X : Addr → Prop) : Kp X h H h' (upd H a mo') :=
  fun b o e n _ => by
    have hb : b ≠ a := by rintro rfl; rw [ea] at n; cases n
    exact ⟨(hs.2 b hb).trans e, by rw [upd_ne hb]; exact n⟩

/-- an object of the store is changed -/
theorem Act.put (F : Act c σ H h) {a : Addr} {mo mo' : MO} (ea : H a = some mo) (hs : Heap.SameBut a h h') (m : MOR c.prog c.w h' (upd H a mo') a mo') : Act c σ (upd H a mo') h' := by
  obtain ⟨_, aL, aB', aD⟩ := F.st a mo ea
  have aB : c.B.get? a = none := Heap.get?_none_of_le aB'
  have kk : ∀ b o, h.get? b = some o → IsV o → H b = none → h'.get? b = some o ∧ upd H a mo' b = none :=
    fun b o e _ n => Act.kPut (H := H) ea hs (fun _ => False) b o e n (fun x => x)
  refine ⟨fun b o e => ?_, fun b o e n => ?_, F.Lb, F.Lg, ?_, ?_, ?_, F.apart, F.has, F.fn, ?_⟩
  · exact (hs.2 b (by rintro rfl; rw [aB] at e; cases e)).trans (F.base b o e)
  · refine (hs.2 b ?_).trans (F.keep b o e n)
    rintro rfl
    rcases aD with d | d
    · exact n d
    · rw [d] at e; cases e
  · obtain ⟨m, hn, hv⟩ := F.loc
    exact ⟨m, hn.sameBut hs (Ne.symm aL), fun x p e l => let ⟨v, hm, r⟩ := hv x p e l; ⟨v, hm, r.keep kk⟩⟩
  · exact fun x p e l => let ⟨b, v, hb, hc, r⟩ := F.cel x p e l; ⟨b, v, hb, hc.sameBut hs (F.stCell ea hc), r.keep kk⟩
  · exact fun x b e => let ⟨⟨v, hv⟩, r⟩ := F.own x b e; ⟨⟨v, hv.sameBut hs (F.stCell ea hv)⟩, r⟩
  · intro b mo'' e
    by_cases hb : b = a
    · subst hb
      rw [upd_same] at e
      obtain rfl := Option.some.inj e
      exact ⟨m, aL, aB', aD⟩
    · rw [upd_ne hb] at e
      obtain ⟨m', r⟩ := F.st b mo'' e
      exact ⟨m'.keep kk fun o e => (hs.2 b hb).trans e, r⟩

/-- the store may forget -/
theorem Act.forget (F : Act c σ H h) {H' : Store} (le : ∀ a mo, H' a = some mo → H a = some mo) : Act c σ H' h := by
  have no : ∀ b, H b = none → H' b = none := fun b n => by
    cases e : H' b with
    | none => rfl
    | some mo => rw [le _ _ e] at n; cases n
  have kk : ∀ b o, h.get? b = some o → IsV o → H b = none → h.get? b = some o ∧ H' b = none := fun b o e _ n => ⟨e, no b n⟩
  refine ⟨F.base, F.keep, F.Lb, F.Lg, ?_, ?_, F.own, F.apart, F.has, F.fn, ?_⟩
  · obtain ⟨m, hn, hv⟩ := F.loc
    exact ⟨m, hn, fun x p e l => let ⟨v, hm, r⟩ := hv x p e l; ⟨v, hm, r.keep kk⟩⟩
  · exact fun x p e l => let ⟨b, v, hb, hc, r⟩ := F.cel x p e l; ⟨b, v, hb, hc, r.keep kk⟩
  · intro b mo e
    obtain ⟨m', r⟩ := F.st b mo (le _ _ e)
    exact ⟨m'.keep kk fun o e => e, r⟩
theorem Kp.forget {X : Addr → Prop} {H' : Store} (le : ∀ a mo, H' a = some mo → H a = some mo) : Kp X h H h H' := fun b o e n _ => ⟨e, by
  cases q : H' b with
  | none => rfl
  | some mo => rw [le _ _ q] at n; cases n⟩

theorem Act.locals (F : Act c σ H h) {σ' : Loc} (le : ∀ x p, σ' x = some p → σ x = some p) : Act c σ' H h where
  base := F.base
  keep := F.keep
  Lb := F.Lb
  Lg := F.Lg
  loc := let ⟨m, hn, hv⟩ := F.loc; ⟨m, hn, fun x p e l => hv x p (le _ _ e) l⟩
  cel := fun x p e l => F.cel x p (le _ _ e) l
  own := F.own
  apart := F.apart
  has := F.has
  fn := F.fn
  st := F.st

/-- a local name is stored -/
theorem Act.setLocal (F : Act c σ H h) {x : Str} {p : PV} {v : Value} {m : Str → Option Value} (hl : c.env.kindOf x = some .local) (r : R h H v p)
    (hm : ∀ y q, σ y = some q → c.env.kindOf y = some .local → ∃ v, m y = some v ∧ R h H v q)
    (hn : h'.Ns c.env.locals (fun y => if y = x then some v else m y)) (hs : Heap.SameBut c.env.locals h h') : Act c (bnd σ x p) H h' := by
  have kk : ∀ b o, h.get? b = some o → IsV o → H b = none → h'.get? b = some o ∧ H b = none :=
    fun b o e i n => ⟨(hs.2 b (fun q => F.noX e i (.inl q))).trans e, n⟩
  have hL : c.B.get? c.env.locals = none := by
    cases e : c.B.get? c.env.locals with
    | none => rfl
    | some o => exact absurd (Heap.lt_size e) (Nat.not_lt.mpr F.Lb)
  have hcl : ∀ a v, h.IsCell a v → a ≠ c.env.locals := by
    rintro a v ⟨o, ho, hd⟩ rfl
    obtain ⟨m', ⟨o', es, ep, ho', hd', _⟩, _⟩ := F.loc
    obtain rfl : o = o' := Option.some.inj (ho.symm.trans ho')
    rw [hd] at hd'; cases hd'
  refine ⟨fun b o e => ?_, fun b o e n => ?_, F.Lb, F.Lg, ?_, ?_, ?_, F.apart, F.has, F.fn, ?_⟩
  · exact (hs.2 b (by rintro rfl; rw [hL] at e; cases e)).trans (F.base b o e)
  · exact (hs.2 b (by rintro rfl; rw [F.Lg] at e; cases e)).trans (F.keep b o e n)
  · refine ⟨_, hn, fun y q e l => ?_⟩
    unfold bnd at e
    by_cases hy : y = x
    · rw [if_pos hy] at e
      obtain rfl := Option.some.inj e
      exact ⟨v, by simp [hy], r.keep kk⟩
    · rw [if_neg hy] at e
      obtain ⟨u, hu, r'⟩ := hm y q e l
      exact ⟨u, by simp [hy, hu], r'.keep kk⟩
  · intro y q e l
    unfold bnd at e
    have hy : y ≠ x := by rintro rfl; rw [hl] at l; rcases l with l | l <;> cases l
    rw [if_neg hy] at e
    obtain ⟨a, u, ha, hc, r'⟩ := F.cel y q e l
    exact ⟨a, u, ha, hc.sameBut hs (hcl _ _ hc), r'.keep kk⟩
  · exact fun y a e => let ⟨⟨v, hv⟩, r⟩ := F.own y a e; ⟨⟨v, hv.sameBut hs (hcl _ _ hv)⟩, r⟩
  · intro b mo e
    obtain ⟨m', aL, r⟩ := F.st b mo e
    exact ⟨m'.keep kk fun o e => (hs.2 b aL).trans e, aL, r⟩

/-- a cell's name is stored -/
theorem Act.setCell (F : Act c σ H h) {x : Str} {p : PV} {v : Value} {a : Addr} (hl : c.env.kindOf x = some .cell) (ha : c.env.cells.lookup x = some a) (r : R h H v p)
    (hn : h'.IsCell a (some v)) (hs : Heap.SameBut a h h') : Act c (bnd σ x p) H h' := by
  obtain ⟨⟨v₀, ca⟩, aB, aG⟩ := F.own x a ha
  have kk : ∀ b o, h.get? b = some o → IsV o → H b = none → h'.get? b = some o ∧ H b = none :=
    fun b o e i n => ⟨(hs.2 b (fun q => F.noX e i (.inr ⟨x, q ▸ ha⟩))).trans e, n⟩
  have aL : a ≠ c.env.locals := by
    rintro rfl
    obtain ⟨o, ho, hd⟩ := ca
    obtain ⟨m', ⟨o', es, ep, ho', hd', _⟩, _⟩ := F.loc
    obtain rfl : o = o' := Option.some.inj (ho.symm.trans ho')
    rw [hd] at hd'; cases hd'
  refine ⟨fun b o e => ?_, fun b o e n => ?_, F.Lb, F.Lg, ?_, ?_, ?_, F.apart, F.has, F.fn, ?_⟩
  · exact (hs.2 b (by rintro rfl; rw [aB] at e; cases e)).trans (F.base b o e)
  · exact (hs.2 b (by rintro rfl; rw [aG] at e; cases e)).trans (F.keep b o e n)
  · obtain ⟨m, hm, hv⟩ := F.loc
    refine ⟨m, hm.sameBut hs (Ne.symm aL), fun y q e l => ?_⟩
    unfold bnd at e
    have hy : y ≠ x := by rintro rfl; rw [hl] at l; cases l
    rw [if_neg hy] at e
    obtain ⟨u, hu, r'⟩ := hv y q e l
    exact ⟨u, hu, r'.keep kk⟩
  · intro y q e l
    unfold bnd at e
    by_cases hy : y = x
    · rw [if_pos hy] at e
      obtain rfl := Option.some.inj e
      exact ⟨a, v, hy ▸ ha, hn, r.keep kk⟩
    · rw [if_neg hy] at e
      obtain ⟨b, u, hb, hc, r'⟩ := F.cel y q e l
      have ne : b ≠ a := by rintro rfl; exact hy (F.apart y x b hb ha)
      exact ⟨b, u, hb, hc.sameBut hs ne, r'.keep kk⟩
  · intro y b e
    obtain ⟨⟨w, hw⟩, r⟩ := F.own y b e
    by_cases hb : b = a
    · subst hb; exact ⟨⟨_, hn⟩, r⟩
    · exact ⟨⟨w, hw.sameBut hs hb⟩, r⟩
  · intro b mo e
    obtain ⟨m', bL, r⟩ := F.st b mo e
    have hb : b ≠ a := Ne.symm (F.stCell e ca)
    exact ⟨m'.keep kk fun o e => (hs.2 b hb).trans e, bL, r⟩
end

/-- what a tree gives, told by plain values -/
def GO {α β : Type} (c : Cx) (rel : Heap → Store → α → β → Prop) (t : Sem α) (σ : Loc) (H : Store) (Q : β → Store → Prop) : Prop :=
  ∀ s : Shared, Act c σ H s.heap → wpAny (model c.prog c.w) c.A t (fun a s' => ∃ b H', Same s s' ∧ Kp (Xe c.env) s.heap H s'.heap H' ∧ Act c σ H' s'.heap ∧ rel s'.heap H' a b ∧ Q b H') (fun _ _ => False) s

abbrev EvO (c : Cx) (t : Sem Value) (σ : Loc) (H : Store) (Q : PV → Store → Prop) : Prop := GO c R t σ H Q
abbrev AvO (c : Cx) (t : Sem (List Value)) (σ : Loc) (H : Store) (Q : List PV → Store → Prop) : Prop := GO c RL t σ H Q
def SameV {α : Type} : Heap → Store → α → α → Prop := fun _ _ a b => a = b
abbrev TsO (c : Cx) (t : Sem Bool) (σ : Loc) (H : Store) (Q : Bool → Store → Prop) : Prop := GO c SameV t σ H Q

/-- a statement -/
def SO (c : Cx) (t : Sem Flow) (σ : Loc) (H : Store) (Qn : Loc → Store → Prop) (Qr : PV → Store → Prop) : Prop :=
  ∀ s : Shared, Act c σ H s.heap → wpAny (model c.prog c.w) c.A t (fun f s' => ∃ σ' H', Same s s' ∧ Kp (Xe c.env) s.heap H s'.heap H' ∧ Act c σ' H' s'.heap ∧ match f with
    | .next => Qn σ' H'
    | .ret v => ∃ p, R s'.heap H' v p ∧ Qr p H'
    | _ => False) (fun _ _ => False) s

/-- a store of a value -/
def UO (c : Cx) (t : Value → Sem Unit) (p : PV) (σ : Loc) (H : Store) (Q : Loc → Store → Prop) : Prop :=
  ∀ (s : Shared) (v : Value), Act c σ H s.heap → R s.heap H v p → wpAny (model c.prog c.w) c.A (t v) (fun _ s' => ∃ σ' H', Same s s' ∧ Kp (Xe c.env) s.heap H s'.heap H' ∧ Act c σ' H' s'.heap ∧ Q σ' H') (fun _ _ => False) s

section
variable {c : Cx} {σ : Loc} {H : Store} {α β : Type} {rel : Heap → Store → α → β → Prop} {t : Sem α} {Q Q' : β → Store → Prop} {s : Shared}

theorem GO.use (G : GO c rel t σ H Q) (F : Act c σ H s.heap) {P : α → Shared → Prop}
    (k : ∀ a b H' s', Same s s' → Kp (Xe c.env) s.heap H s'.heap H' → Act c σ H' s'.heap → rel s'.heap H' a b → Q b H' → P a s') : wpAny (model c.prog c.w) c.A t P (fun _ _ => False) s :=
  wpAny_mono (G s F) (fun a s' ⟨b, H', e, kp, F', r, q⟩ => k a b H' s' e kp F' r q) fun _ _ x => x
theorem GO.mono (G : GO c rel t σ H Q) (k : ∀ b H', Q b H' → Q' b H') : GO c rel t σ H Q' :=
  fun s F => G.use F fun a b H' s' e kp F' r q => ⟨b, H', e, kp, F', r, k b H' q⟩

theorem SO.use {t : Sem Flow} {Qn : Loc → Store → Prop} {Qr : PV → Store → Prop} (G : SO c t σ H Qn Qr) (F : Act c σ H s.heap) {P : Flow → Shared → Prop}
    (kn : ∀ σ' H' s', Same s s' → Kp (Xe c.env) s.heap H s'.heap H' → Act c σ' H' s'.heap → Qn σ' H' → P .next s')
    (kr : ∀ v p σ' H' s', Same s s' → Kp (Xe c.env) s.heap H s'.heap H' → Act c σ' H' s'.heap → R s'.heap H' v p → Qr p H' → P (.ret v) s') : wpAny (model c.prog c.w) c.A t P (fun _ _ => False) s :=
  wpAny_mono (G s F) (fun f s' ⟨σ', H', e, kp, F', q⟩ => by
    cases f with
    | next => exact kn σ' H' s' e kp F' q
    | ret v => obtain ⟨p, r, q⟩ := q; exact kr v p σ' H' s' e kp F' r q
    | brk => exact q.elim
    | cont => exact q.elim) fun _ _ x => x
theorem SO.mono {t : Sem Flow} {Qn Qn' : Loc → Store → Prop} {Qr Qr' : PV → Store → Prop} (G : SO c t σ H Qn Qr) (kn : ∀ σ' H', Qn σ' H' → Qn' σ' H') (kr : ∀ p H', Qr p H' → Qr' p H') : SO c t σ H Qn' Qr' :=
  fun s F => G.use F (fun σ' H' s' e kp F' q => ⟨σ', H', e, kp, F', kn _ _ q⟩) fun v p σ' H' s' e kp F' r q => ⟨σ', H', e, kp, F', p, r, kr _ _ q⟩

theorem UO.use {t : Value → Sem Unit} {p : PV} {v : Value} {Q : Loc → Store → Prop} (G : UO c t p σ H Q) (F : Act c σ H s.heap) (r : R s.heap H v p) {P : Unit → Shared → Prop}
    (k : ∀ σ' H' s', Same s s' → Kp (Xe c.env) s.heap H s'.heap H' → Act c σ' H' s'.heap → Q σ' H' → P () s') : wpAny (model c.prog c.w) c.A (t v) P (fun _ _ => False) s :=
  wpAny_mono (G s v F r) (fun _ s' ⟨σ', H', e, kp, F', q⟩ => k σ' H' s' e kp F' q) fun _ _ x => x

/-- to begin: the state may be told by less -/
theorem GO.of_forget {H' : Store} (G : GO c rel t σ H' Q) (le : ∀ a mo, H' a = some mo → H a = some mo) : GO c rel t σ H Q :=
  fun s F => (G.use (F.forget le)) fun a b H'' s' e kp F' r q => ⟨b, H'', e, (Kp.forget le).trans kp, F', r, q⟩
theorem SO.of_forget {t : Sem Flow} {Qn : Loc → Store → Prop} {Qr : PV → Store → Prop} {H' : Store} (G : SO c t σ H' Qn Qr) (le : ∀ a mo, H' a = some mo → H a = some mo) : SO c t σ H Qn Qr :=
  fun s F => G.use (F.forget le) (fun σ' H'' s' e kp F' q => ⟨σ', H'', e, (Kp.forget le).trans kp, F', q⟩) fun v p σ' H'' s' e kp F' r q => ⟨σ', H'', e, (Kp.forget le).trans kp, F', p, r, q⟩
end

end Mine

open PySem PySem.W PyProof.Rows PySem.Calls
set_option Elab.async false
set_option maxRecDepth 100000
set_option linter.unusedVariables false
namespace Mine

mutual
/-- data whose == is sameness of data: no bool, no ref -/
noncomputable def PV.ok : PV → Bool
  | .none => true
  | .int _ => true
  | .str _ => true
  | .tup l => PV.okL l
  | .lst l => PV.okL l
  | _ => false
noncomputable def PV.okL : List PV → Bool
  | [] => true
  | p :: l => PV.ok p && PV.okL l
end
mutual
noncomputable def PV.dep : PV → Nat
  | .tup l => PV.depL l + 1
  | .lst l => PV.depL l + 1
  | _ => 1
noncomputable def PV.depL : List PV → Nat
  | [] => 0
  | p :: l => max (PV.dep p) (PV.depL l)
end
theorem PV.okL_get : ∀ {l : List PV}, PV.okL l = true → ∀ p ∈ l, p.ok = true
  | p :: l, h, q, hq => by
    simp only [PV.okL, Bool.and_eq_true] at h
    rcases List.mem_cons.mp hq with rfl | hq
    · exact h.1
    · exact PV.okL_get h.2 q hq
theorem PV.depL_get : ∀ {l : List PV}, ∀ p ∈ l, p.dep ≤ PV.depL l
  | p :: l, q, hq => by
    simp only [PV.depL]
    rcases List.mem_cons.mp hq with rfl | hq
    · exact Nat.le_max_left _ _
    · exact Nat.le_trans (PV.depL_get q hq) (Nat.le_max_right _ _)

open Classical in
theorem range_all_eq {ds es : List PV} : ((List.range (min ds.length es.length)).all (fun j => decide (ds[j]? = es[j]?)) && (ds.length == es.length)) = decide (ds = es) := by
  by_cases h : ds = es
  · subst h; simp
  · rw [decide_eq_false h]
    by_cases hl : ds.length = es.length
    · rw [Bool.and_eq_false_iff]; left
      rw [List.all_eq_false]
      apply Classical.byContradiction
      intro hn
      apply h
      apply List.ext_getElem? 
      intro j
      by_cases hj : j < ds.length
      · apply Classical.byContradiction
        intro hne
        exact hn ⟨j, by simp; omega, by simp [hne]⟩
      · rw [List.getElem?_eq_none (by omega), List.getElem?_eq_none (by omega)]
    · simp [hl]

theorem R.inj : ∀ (n : Nat) (p q : PV) (h : Heap) (H : Store) (a : Value), p.dep ≤ n → R h H a p → R h H a q → p.ok = true → q.ok = true → p = q := by
  intro n
  induction n with
  | zero => intro p q h H a hn; cases p <;> simp [PV.dep] at hn
  | succ n ih =>
    intro p q h H a hn ra rb op oq
    have go : ∀ (vs ws : List Value) (ds es : List PV), vs.toArray = ws.toArray → RL h H vs ds → RL h H ws es → PV.depL ds ≤ n → PV.okL ds = true → PV.okL es = true → ds = es := by
      intro vs ws ds es e1 r1 r2 hd o1 o2
      have e1 : vs = ws := by simpa using e1
      subst e1
      have L1 := r1.length; have L2 := r2.length
      refine List.ext_getElem? fun j => ?_
      by_cases hj : j < vs.length
      · obtain ⟨d, hd1, q1⟩ := r1.get' (List.getElem?_eq_getElem hj)
        obtain ⟨e, he1, q2⟩ := r2.get' (List.getElem?_eq_getElem hj)
        rw [hd1, he1]
        rw [ih d e h H _ (Nat.le_trans (PV.depL_get d (List.mem_of_getElem? hd1)) hd) q1 q2 (PV.okL_get o1 d (List.mem_of_getElem? hd1)) (PV.okL_get o2 e (List.mem_of_getElem? he1))]
      · rw [List.getElem?_eq_none (by omega), List.getElem?_eq_none (by omega)]
    cases ra with
    | none => cases rb; rfl
    | bool => simp [PV.ok] at op
    | ref => simp [PV.ok] at op
    | rng => simp [PV.ok] at op
    | int i t => cases rb; rfl
    | str x t => cases rb; rfl
    | tup h1 h2 h3 =>
      obtain ⟨o, ho, hc, n1, hd⟩ := h1
      cases rb with
      | ref => simp [PV.ok] at oq
      | rng => simp [PV.ok] at oq
      | lst k1 k2 k3 =>
        obtain ⟨o', ho', hc', n2, hd'⟩ := k1.isList
        obtain rfl : o = o' := Option.some.inj (ho.symm.trans ho')
        rw [hc] at hc'; injection hc' with hc'; exact absurd hc' (by decide)
      | tup k1 k2 k3 =>
        obtain ⟨o', ho', hc', n2, hd'⟩ := k1
        obtain rfl : o = o' := Option.some.inj (ho.symm.trans ho')
        rw [hd] at hd'
        injection hd' with e1 _
        rw [go _ _ _ _ e1 h3 k3 (by simp only [PV.dep] at hn; omega) (by simpa [PV.ok] using op) (by simpa [PV.ok] using oq)]
    | lst h1 h2 h3 =>
      obtain ⟨o, ho, hc, n1, hd⟩ := h1.isList
      cases rb with
      | ref => simp [PV.ok] at oq
      | rng => simp [PV.ok] at oq
      | tup k1 k2 k3 =>
        obtain ⟨o', ho', hc', n2, hd'⟩ := k1
        obtain rfl : o = o' := Option.some.inj (ho.symm.trans ho')
        rw [hc] at hc'; injection hc' with hc'; exact absurd hc' (by decide)
      | lst k1 k2 k3 =>
        obtain ⟨o', ho', hc', n2, hd'⟩ := k1.isList
        obtain rfl : o = o' := Option.some.inj (ho.symm.trans ho')
        rw [hd] at hd'
        injection hd' with e1 _
        rw [go _ _ _ _ e1 h3 k3 (by simp only [PV.dep] at hn; omega) (by simpa [PV.ok] using op) (by simpa [PV.ok] using oq)]

section
open Classical SeqAt
theorem eqAt_R : ∀ (n : Nat) (p q : PV) (A : Around) (s : Shared) (H : Store) (a b : Value), p.dep ≤ n → R s.heap H a p → R s.heap H b q → p.ok = true → q.ok = true → A.units + n < cLine → EqAt A s a b (decide (p = q)) := by
  intro n
  induction n with
  | zero => intro p q A s H a b hn; cases p <;> simp [PV.dep] at hn
  | succ n ih =>
    intro p q A s H a b hn ra rb op oq hu
    have hu0 : A.units < cLine := by omega
    have pair : ∀ (vs ws : List Value) (ds es : List PV), RL s.heap H vs ds → RL s.heap H ws es → PV.depL ds ≤ n → PV.okL ds = true → PV.okL es = true →
        ∀ j (j1 : j < vs.toArray.size) (j2 : j < ws.toArray.size), EqAt A.in1 s vs.toArray[j] ws.toArray[j] (decide (ds[j]? = es[j]?)) := by
      intro vs ws ds es h3 k3 hd o1 o2 j j1 j2
      obtain ⟨d, hd1, r1⟩ := h3.get' (List.getElem?_eq_getElem (by simpa using j1))
      obtain ⟨e, he1, r2⟩ := k3.get' (List.getElem?_eq_getElem (by simpa using j2))
      have q := ih d e A.in1 s H _ _ (Nat.le_trans (PV.depL_get d (List.mem_of_getElem? hd1)) hd) r1 r2
        (PV.okL_get o1 d (List.mem_of_getElem? hd1)) (PV.okL_get o2 e (List.mem_of_getElem? he1)) (by simp; omega)
      have e2 : decide (ds[j]? = es[j]?) = decide (d = e) := by rw [hd1, he1]; simp
      rw [e2]; simpa using q
    cases ra with
    | none => cases rb <;> first | (simp [PV.ok] at oq; done) | skip
              · exact (by simpa using EqAt.same _)
              · exact (by simpa using EqAt.none_int _ _)
              · exact (by simpa using EqAt.none_str _ _)
              · rename_i h1 h2 h3; exact (by simpa using EqAt.none_tuple h1 hu0)
              · rename_i h1 h2 h3; exact (by simpa using EqAt.none_list h1.isList hu0)
    | bool => simp [PV.ok] at op
    | ref => simp [PV.ok] at op
    | rng => simp [PV.ok] at op
    | int i t => cases rb <;> first | (simp [PV.ok] at oq; done) | skip
                 · exact (by simpa using EqAt.int_none _ _)
                 · rename_i j u
                   have e : decide (PV.int i = PV.int j) = (i == j) := by by_cases q : i = j <;> simp [q]
                   rw [e]; exact EqAt.int_int _ _ _ _
                 · exact (by simpa using EqAt.int_str _ _ _ _)
                 · rename_i h1 h2 h3; exact (by simpa using EqAt.int_tuple _ _ h1 hu0)
                 · rename_i h1 h2 h3; exact (by simpa using EqAt.int_list _ _ h1.isList hu0)
    | str x t => cases rb <;> first | (simp [PV.ok] at oq; done) | skip
                 · exact (by simpa using EqAt.str_none _ _)
                 · exact (by simpa using EqAt.str_int _ _ _ _)
                 · rename_i y u
                   have e : decide (PV.str x = PV.str y) = (x == y) := by by_cases q : x = y <;> simp [q]
                   rw [e]; exact EqAt.str_str _ _ _ _
                 · rename_i h1 h2 h3; exact (by simpa using EqAt.str_tuple _ _ h1 hu0)
                 · rename_i h1 h2 h3; exact (by simpa using EqAt.str_list _ _ h1.isList hu0)
    | @tup l vs ds h1 h2 h3 =>
      cases rb with
      | none => exact (by simpa using EqAt.tuple_none h1 hu0)
      | bool => simp [PV.ok] at oq
      | ref => simp [PV.ok] at oq
      | rng => simp [PV.ok] at oq
      | int j u => exact (by simpa using EqAt.tuple_int _ _ h1 hu0)
      | str y u => exact (by simpa using EqAt.tuple_str _ _ h1 hu0)
      | @lst l' ws es k1 k2 k3 => exact (by simpa using EqAt.tuple_list h1 k1.isList hu0)
      | @tup l' ws es k1 k2 k3 =>
        by_cases hll : l = l'
        · subst hll
          have := R.inj _ _ _ _ _ _ hn (.tup h1 h2 h3) (.tup k1 k2 k3) op oq
          rw [this]
          simpa using EqAt.same _
        · refine EqAt.of_refs hll ?_
          have L1 := h3.length; have L2 := k3.length
          have e := range_all_eq (ds := ds) (es := es)
          have := RcAt.tuples (A := A) (s := s) (e := fun j => decide (ds[j]? = es[j]?)) h1 k1 hu0 (pair _ _ _ _ h3 k3 (by simp only [PV.dep] at hn; omega) (by simpa [PV.ok] using op) (by simpa [PV.ok] using oq))
          simp only [List.size_toArray, L1, L2] at this
          rw [e] at this
          simpa using this
    | @lst l vs ds h1 h2 h3 =>
      cases rb with
      | none => exact (by simpa using EqAt.list_none h1.isList hu0)
      | bool => simp [PV.ok] at oq
      | ref => simp [PV.ok] at oq
      | rng => simp [PV.ok] at oq
      | int j u => exact (by simpa using EqAt.list_int _ _ h1.isList hu0)
      | str y u => exact (by simpa using EqAt.list_str _ _ h1.isList hu0)
      | @tup l' ws es k1 k2 k3 => exact (by simpa using EqAt.list_tuple h1.isList k1 hu0)
      | @lst l' ws es k1 k2 k3 =>
        by_cases hll : l = l'
        · subst hll
          have := R.inj _ _ _ _ _ _ hn (.lst h1 h2 h3) (.lst k1 k2 k3) op oq
          rw [this]
          simpa using EqAt.same _
        · refine EqAt.of_refs hll ?_
          have L1 := h3.length; have L2 := k3.length
          have e := range_all_eq (ds := ds) (es := es)
          by_cases hsz : ds.length = es.length
          · have := RcAt.lists (A := A) (s := s) (e := fun j => decide (ds[j]? = es[j]?)) h1.isList k1.isList (by simp [L1, L2, hsz]) hu0 (pair _ _ _ _ h3 k3 (by simp only [PV.dep] at hn; omega) (by simpa [PV.ok] using op) (by simpa [PV.ok] using oq))
            simp only [List.size_toArray, L1] at this
            rw [hsz] at e
            simp only [Nat.min_self, beq_self_eq_true, Bool.and_true] at e
            rw [hsz, e] at this
            simpa using this
          · have := RcAt.lists_lengths (A := A) (s := s) h1.isList k1.isList (by simp [L1, L2, hsz]) hu0
            have ne : ds ≠ es := fun q => hsz (by rw [q])
            simpa [ne] using this
end
end Mine

open PySem PySem.W PyProof.Rows PySem.Calls
set_option Elab.async false
set_option maxRecDepth 100000
set_option linter.unusedVariables false
namespace Mine

/-- room for calls yet to come -/
def Rm (k : Nat) (A : Around) : Prop := A.handled = none ∧ A.depth + k < 900 ∧ A.units + 10 * k + 100 < 9000

def vw (H : Store) : PV → PV
  | .ref a => (match H a with | some (.lst ds) => .lst ds | _ => .ref a)
  | p => p
theorem vw_ref {H : Store} {a : Addr} {ds : List PV} (e : H a = some (.lst ds)) : vw H (.ref a) = .lst ds := by simp [vw, e]

section
variable {c : Cx} {σ : Loc} {H : Store} {h : Heap}
theorem R.bare {v : Value} {p : PV} (r : R h H v p) : R h (fun _ => Option.none) v p := r.keep fun b o e _ _ => ⟨e, rfl⟩
theorem RL.bare {v : List Value} {p : List PV} (r : RL h H v p) : RL h (fun _ => Option.none) v p := r.keep fun b o e _ _ => ⟨e, rfl⟩
theorem Act.view (F : Act c σ H h) {v : Value} {p : PV} (r : R h H v p) : R h (fun _ => Option.none) v (vw H p) := by
  cases r with
  | ref a =>
    cases e : H a with
    | none => simp only [vw, e]; exact .ref a
    | some mo =>
      obtain ⟨m, _⟩ := F.st a mo e
      cases mo with
      | lst ds => obtain ⟨vs, hl, r⟩ := m; simp only [vw, e]; exact .lst hl rfl r.bare
      | dct _ => simp only [vw, e]; exact .ref a
      | tdct _ => simp only [vw, e]; exact .ref a
      | hid _ _ => simp only [vw, e]; exact .ref a
  | none => exact .none
  | bool b => exact .bool b
  | int i t => exact .int i t
  | str x t => exact .str x t
  | tup h1 h2 h3 => exact .tup h1 rfl h3.bare
  | lst h1 h2 h3 => exact .lst h1 rfl h3.bare
  | rng h1 h2 => exact .rng h1 rfl
end

theorem Act.tok {c : Cx} {σ : Loc} {H : Store} {s : Shared} {t : Nat} (F : Act c σ H s.heap) : Act c σ H ({ s with toks := t } : Shared).heap := F

section
variable {c : Cx} {σ : Loc} {H : Store} {Q : PV → Store → Prop}

/-- an end that moved nothing -/
theorem fin {s s' : Shared} (F : Act c σ H s'.heap) {v : Value} {p : PV} (e : ∃ tk, s' = { s with toks := tk }) (r : R s'.heap H v p) (q : Q p H) :
    ∃ p H', Same s s' ∧ Kp (Xe c.env) s.heap H s'.heap H' ∧ Act c σ H' s'.heap ∧ R s'.heap H' v p ∧ Q p H' := by
  obtain ⟨tk, rfl⟩ := e
  exact ⟨p, H, ⟨_, _, rfl⟩, Kp.refl, F, r, q⟩
theorem fin0 {s : Shared} (F : Act c σ H s.heap) {v : Value} {p : PV} (r : R s.heap H v p) (q : Q p H) :
    ∃ p H', Same s s ∧ Kp (Xe c.env) s.heap H s.heap H' ∧ Act c σ H' s.heap ∧ R s.heap H' v p ∧ Q p H' := fin F ⟨_, rfl⟩ r q

theorem e_int {i : Int} {k : Nat} {pos : Pos} (q : Q (.int i) H) : EvO c (eval (.Constant (.int i) k pos) c.env) σ H Q :=
  fun s F => wpAny_Constant_int (fin F.tok ⟨_, rfl⟩ (.int i _) q)
theorem e_str {x : Str} {k : Nat} {pos : Pos} (q : Q (.str x) H) : EvO c (eval (.Constant (.str x) k pos) c.env) σ H Q :=
  fun s F => Constant_str (fin F.tok ⟨_, rfl⟩ (.str x _) q)
theorem e_bool {b : Bool} {k : Nat} {pos : Pos} (q : Q (.bool b) H) : EvO c (eval (.Constant (.bool b) k pos) c.env) σ H Q :=
  fun s F => wpAny_pure (fin0 F (.bool b) q)
theorem e_none {k : Nat} {pos : Pos} (q : Q .none H) : EvO c (eval (.Constant .none k pos) c.env) σ H Q :=
  fun s F => wpAny_pure (fin0 F .none q)

def isVar (k : Option NameKind) : Bool := match k with | some .local => true | some .cell => true | some .free => true | _ => false

theorem e_name {x : Str} {pos : Pos} {p : PV} (hv : σ x = some p) (q : Q p H) (hk : isVar (c.env.kindOf x) = true := by rfl) (hd : (x == ("__debug__" : Str)) = false := by decide)
    (hn : (x == ("__classdict__" : Str)) = false := by decide) : EvO c (eval (.Name x pos) c.env) σ H Q := by
  intro s F
  have cases : c.env.kindOf x = some .local ∨ c.env.kindOf x = some .cell ∨ c.env.kindOf x = some .free := by
    unfold isVar at hk
    split at hk <;> simp_all
  rcases cases with l | l | l
  · obtain ⟨m, hns, hm⟩ := F.loc
    obtain ⟨v, hv', r⟩ := hm x p hv l
    exact wpAny_Name (wpAny_loadName_local F.fn l hns hv' (fin0 F r q)) hd
  · obtain ⟨a, v, ha, hc, r⟩ := F.cel x p hv (.inl l)
    exact wpAny_Name (wpAny_loadName_cell F.fn l ha hc (fin0 F r q)) hd
  · obtain ⟨a, v, ha, hc, r⟩ := F.cel x p hv (.inr l)
    exact wpAny_Name (wpAny_loadName_free F.fn l ha hc (fin0 F r q) hn) hd

/-- two operands at hand -/
def O2 (c : Cx) (σ : Loc) (H : Store) (a b : PV) (t : Value → Value → Sem Value) (Q : PV → Store → Prop) : Prop :=
  ∀ (s : Shared) (va vb : Value), Act c σ H s.heap → R s.heap H va a → R s.heap H vb b →
    wpAny (model c.prog c.w) c.A (t va vb) (fun v s' => ∃ p H', Same s s' ∧ Kp (Xe c.env) s.heap H s'.heap H' ∧ Act c σ H' s'.heap ∧ R s'.heap H' v p ∧ Q p H') (fun _ _ => False) s

theorem O2.use {a b : PV} {t : Value → Value → Sem Value} {s : Shared} {va vb : Value} (G : O2 c σ H a b t Q) (F : Act c σ H s.heap) (ra : R s.heap H va a) (rb : R s.heap H vb b) {P : Value → Shared → Prop}
    (k : ∀ v p H' s', Same s s' → Kp (Xe c.env) s.heap H s'.heap H' → Act c σ H' s'.heap → R s'.heap H' v p → Q p H' → P v s') : wpAny (model c.prog c.w) c.A (t va vb) P (fun _ _ => False) s :=
  wpAny_mono (G s va vb F ra rb) (fun v s' ⟨p, H', e, kp, F', r, q⟩ => k v p H' s' e kp F' r q) fun _ _ x => x

theorem e_bin {l r : Expr} {op : Operator} {pos : Pos} (h : EvO c (eval l c.env) σ H fun a H₁ => EvO c (eval r c.env) σ H₁ fun b H₂ => O2 c σ H₂ a b (binaryOp op) Q) : EvO c (eval (.BinOp l op r pos) c.env) σ H Q :=
  fun s F => wpAny_BinOp (h.use F fun va a H₁ s₁ e₁ k₁ F₁ r₁ q₁ => q₁.use F₁ fun vb b H₂ s₂ e₂ k₂ F₂ r₂ q₂ => q₂.use F₂ (F₁.keepR k₂ r₁) r₂ fun v p H₃ s₃ e₃ k₃ F₃ r₃ q₃ =>
    ⟨p, H₃, (e₁.trans e₂).trans e₃, (k₁.trans k₂).trans k₃, F₃, r₃, q₃⟩)

theorem e_cmp {l r : Expr} {op : CmpOp} {pos : Pos} (h : EvO c (eval l c.env) σ H fun a H₁ => EvO c (eval r c.env) σ H₁ fun b H₂ => O2 c σ H₂ a b (compareOp op) Q)
    (hm : behindInMarks op r = false := by with_unfolding_all rfl) : EvO c (eval (.Compare l [op] [r] pos) c.env) σ H Q :=
  fun s F => wpAny_Compare1 (h.use F fun va a H₁ s₁ e₁ k₁ F₁ r₁ q₁ => q₁.use F₁ fun vb b H₂ s₂ e₂ k₂ F₂ r₂ q₂ => q₂.use F₂ (F₁.keepR k₂ r₁) r₂ fun v p H₃ s₃ e₃ k₃ F₃ r₃ q₃ =>
    ⟨p, H₃, (e₁.trans e₂).trans e₃, (k₁.trans k₂).trans k₃, F₃, r₃, q₃⟩) hm

/-- a value that is a bool -/
def BoolThen (Q : Bool → Store → Prop) (p : PV) (H : Store) : Prop := match p with
  | .bool b => Q b H
  | _ => False
variable {Qb : Bool → Store → Prop}
theorem boolThen_use {p : PV} {v : Value} {h : Heap} (q : BoolThen Qb p H) (r : R h H v p) : ∃ b, v = .bool b ∧ Qb b H := by
  cases r <;> first | exact q.elim | exact ⟨_, rfl, q⟩

theorem t_cmp {l r : Expr} {op : CmpOp} {pos : Pos} {whole : Sem Value} (h : EvO c (eval l c.env) σ H fun a H₁ => EvO c (eval r c.env) σ H₁ fun b H₂ => O2 c σ H₂ a b (compareOp op) (BoolThen Qb))
    (hm : behindInMarks op r = false := by with_unfolding_all rfl) : TsO c (isTrue (.Compare l [op] [r] pos) c.env whole) σ H Qb :=
  fun s F => wpAny_isTrue_Compare1 (h.use F fun va a H₁ s₁ e₁ k₁ F₁ r₁ q₁ => q₁.use F₁ fun vb b H₂ s₂ e₂ k₂ F₂ r₂ q₂ => q₂.use F₂ (F₁.keepR k₂ r₁) r₂ fun v p H₃ s₃ e₃ k₃ F₃ r₃ q₃ => by
    obtain ⟨b, rfl, q⟩ := boolThen_use q₃ r₃
    exact wpAny_truthy_bool ⟨b, H₃, (e₁.trans e₂).trans e₃, (k₁.trans k₂).trans k₃, F₃, rfl, q⟩) hm

theorem t_val {e : Expr} (h : EvO c (eval e c.env) σ H (BoolThen Qb)) (he : isTrue e c.env (eval e c.env) = (do let v ← eval e c.env; standAt e.pos; holding [v] (truthy v)) := by rfl) :
    TsO c (isTrue e c.env (eval e c.env)) σ H Qb := fun s F => by
  rw [he]
  refine wpAny_bind (h.use F fun v p H' s' e k F' r q => wpAny_bind (wpAny_standAt (wpAny_holding ?_)))
  obtain ⟨b, rfl, q⟩ := boolThen_use q r
  exact wpAny_truthy_bool ⟨b, H', e, k, F', rfl, q⟩

theorem t_not {x : Expr} {pos : Pos} {whole : Sem Value} (h : TsO c (isTrue x c.env (eval x c.env)) σ H fun b H' => Qb (!b) H') : TsO c (isTrue (.UnaryOp .Not x pos) c.env whole) σ H Qb := fun s F => by
  show wpAny _ _ (do return !(← isTrue x c.env (eval x c.env))) _ _ _
  refine wpAny_bind (h.use F fun v p H' s' e k F' r q => wpAny_pure ?_)
  cases r
  exact ⟨_, H', e, k, F', rfl, q⟩

theorem t_bop {op : BoolOp} {vals : List Expr} {pos : Pos} {whole : Sem Value} (h : TsO c (allTrue op vals c.env) σ H Qb) : TsO c (isTrue (.BoolOp op vals pos) c.env whole) σ H Qb := h

theorem a_nil {op : BoolOp} (q : Qb (op == .And) H) : TsO c (allTrue op [] c.env) σ H Qb := fun s F => wpAny_pure ⟨_, H, Same.refl _, Kp.refl, F, rfl, q⟩
theorem a_and {x : Expr} {rest : List Expr} (h : TsO c (isTrue x c.env (eval x c.env)) σ H fun b H' => if b = true then TsO c (allTrue .And rest c.env) σ H' Qb else Qb false H') : TsO c (allTrue .And (x :: rest) c.env) σ H Qb := fun s F => by
  show wpAny _ _ (isTrue x c.env (eval x c.env) >>= fun b => match BoolOp.And, b with | .And, false => pure false | .Or, true => pure true | _, _ => allTrue .And rest c.env) _ _ _
  refine wpAny_bind (h.use F fun v p H' s' e k F' r q => ?_)
  cases r
  cases v with
  | false => exact wpAny_pure ⟨_, H', e, k, F', rfl, by simpa using q⟩
  | true => exact GO.use (by simpa using q) F' fun v p H'' s'' e' k' F'' r' q' => ⟨p, H'', e.trans e', k.trans k', F'', r', q'⟩
theorem a_or {x : Expr} {rest : List Expr} (h : TsO c (isTrue x c.env (eval x c.env)) σ H fun b H' => if b = true then Qb true H' else TsO c (allTrue .Or rest c.env) σ H' Qb) : TsO c (allTrue .Or (x :: rest) c.env) σ H Qb := fun s F => by
  show wpAny _ _ (isTrue x c.env (eval x c.env) >>= fun b => match BoolOp.Or, b with | .And, false => pure false | .Or, true => pure true | _, _ => allTrue .Or rest c.env) _ _ _
  refine wpAny_bind (h.use F fun v p H' s' e k F' r q => ?_)
  cases r
  cases v with
  | true => exact wpAny_pure ⟨_, H', e, k, F', rfl, by simpa using q⟩
  | false => exact GO.use (by simpa using q) F' fun v p H'' s'' e' k' F'' r' q' => ⟨p, H'', e.trans e', k.trans k', F'', r', q'⟩

/-- 'and' of two values, both bools -/
theorem e_and2 {x y : Expr} {pos : Pos} (h : EvO c (eval x c.env) σ H (BoolThen fun b H' => if b = true then EvO c (eval y c.env) σ H' Q else Q (.bool false) H')) : EvO c (eval (.BoolOp .And [x, y] pos) c.env) σ H Q := fun s F => by
  show wpAny _ _ (eval x c.env >>= fun v => standAt pos >>= fun _ => holding [v] (truthy v) >>= fun t => match BoolOp.And, t with | .And, false | .Or, true => pure v | _, _ => eval y c.env) _ _ _
  refine wpAny_bind (h.use F fun v p H' s' e k F' r q => wpAny_bind (wpAny_standAt (wpAny_bind (wpAny_holding ?_))))
  obtain ⟨b, rfl, q⟩ := boolThen_use q r
  refine wpAny_truthy_bool ?_
  cases b with
  | false => exact wpAny_pure ⟨_, H', e, k, F', .bool false, by simpa using q⟩
  | true => exact GO.use (by simpa using q) F' fun v p H'' s'' e' k' F'' r' q' => ⟨p, H'', e.trans e', k.trans k', F'', r', q'⟩

theorem e_ifexp {t x y : Expr} {pos : Pos} (h : TsO c (isTrue t c.env (eval t c.env)) σ H fun b H' => if b = true then EvO c (eval x c.env) σ H' Q else EvO c (eval y c.env) σ H' Q) : EvO c (eval (.IfExp t x y pos) c.env) σ H Q := fun s F => by
  show wpAny _ _ (isTrue t c.env (eval t c.env) >>= fun b => if b = true then eval x c.env else eval y c.env) _ _ _
  refine wpAny_bind (h.use F fun v p H' s' e k F' r q => ?_)
  cases r
  cases v with
  | true => exact GO.use (by simpa using q) F' fun v p H'' s'' e' k' F'' r' q' => ⟨p, H'', e.trans e', k.trans k', F'', r', q'⟩
  | false => exact GO.use (by simpa using q) F' fun v p H'' s'' e' k' F'' r' q' => ⟨p, H'', e.trans e', k.trans k', F'', r', q'⟩

-- arguments
variable {Ql : List PV → Store → Prop}
theorem args_nil' {pos : Pos} (q : Ql [] H) : AvO c (spliced (backTo pos (starEach [] c.env))) σ H Ql := fun s F => spliced_nil ⟨[], H, Same.refl _, Kp.refl, F, .nil, q⟩
theorem args_cons' {e : Expr} {rest : List Expr} {pos : Pos} (h : EvO c (eval e c.env) σ H fun p H' => AvO c (spliced (backTo pos (starEach rest c.env))) σ H' fun ps H'' => Ql (p :: ps) H'')
    (he : starEach (e :: rest) c.env = (false, eval e c.env) :: starEach rest c.env := by rfl) : AvO c (spliced (backTo pos (starEach (e :: rest) c.env))) σ H Ql := fun s F => by
  rw [he]
  exact spliced_cons (h.use F fun v p H' s' e k F' r q => q.use F' fun vs ps H'' s'' e' k' F'' r' q' => ⟨p :: ps, H'', e.trans e', k.trans k', F'', .cons (F'.keepR k' r) r', q'⟩)

/-- a value's own tuple -/
theorem Act.tupNew {s : Shared} (F : Act c σ H s.heap) {vs : List Value} {ds : List PV} (r : RL s.heap H vs ds) :
    Act c σ H (s.heap.push { cls := .type "tuple", data := .seq vs.toArray }) ∧ Kp (Xe c.env) s.heap H (s.heap.push { cls := .type "tuple", data := .seq vs.toArray }) H ∧
      R (s.heap.push { cls := .type "tuple", data := .seq vs.toArray }) H (.ref s.heap.objs.size) (.tup ds) := by
  have k : ∀ b o, s.heap.get? b = some o → (s.heap.push { cls := .type "tuple", data := .seq vs.toArray }).get? b = some o := fun b o e => Heap.get?_push_of_some _ e
  exact ⟨F.grow k, fun b o e n _ => ⟨k b o e, n⟩, .tup ⟨_, Heap.get?_push_size _ rfl, rfl, _, rfl⟩ (F.fresh (get?_size _)) (r.keep fun b o e _ n => ⟨k b o e, n⟩)⟩
theorem Act.lstNew {s : Shared} (F : Act c σ H s.heap) {vs : List Value} {ds : List PV} (r : RL s.heap H vs ds) :
    Act c σ (upd H s.heap.objs.size (.lst ds)) (s.heap.push { cls := .type "list", data := .seq vs.toArray }) ∧
      Kp (Xe c.env) s.heap H (s.heap.push { cls := .type "list", data := .seq vs.toArray }) (upd H s.heap.objs.size (.lst ds)) := by
  have k : ∀ b o, s.heap.get? b = some o → (s.heap.push { cls := .type "list", data := .seq vs.toArray }).get? b = some o := fun b o e => Heap.get?_push_of_some _ e
  refine ⟨F.add (Nat.le_refl _) k ⟨vs, ⟨0, Heap.get?_push_size _ rfl⟩, r.keep fun b o e _ n => ⟨k b o e, ?_⟩⟩, Act.kAdd (get?_size _) k _⟩
  rw [upd_ne (Nat.ne_of_lt (Heap.lt_size e))]; exact n

theorem e_tuple {es : List Expr} {k : Nat} {pos : Pos} (h : AvO c (spliced (backTo pos (starEach es c.env))) σ H fun ps H' => ps.length ≤ sizeLine ∧ Q (.tup ps) H') : EvO c (eval (.Tuple es k pos) c.env) σ H Q :=
  fun s F => Tuple_ (h.use F fun vs ps H' s' e k F' r q => by
    obtain ⟨F2, k2, r2⟩ := F'.tupNew r
    exact wpAny_newObj_type ⟨_, H', e.trans ⟨_, _, rfl⟩, k.trans k2, F2, r2, q.2⟩ (by show vs.toArray.size ≤ sizeLine; rw [List.size_toArray, r.length]; exact q.1))
theorem e_list {es : List Expr} {pos : Pos} (h : AvO c (spliced (backTo pos (starEach es c.env))) σ H fun ps H' => ps.length ≤ sizeLine ∧ ∀ l, H' l = none → Q (.ref l) (upd H' l (.lst ps))) : EvO c (eval (.List es pos) c.env) σ H Q :=
  fun s F => List_ (h.use F fun vs ps H' s' e k F' r q => by
    obtain ⟨F2, k2⟩ := F'.lstNew r
    exact wpAny_newObj_type ⟨_, _, e.trans ⟨_, _, rfl⟩, k.trans k2, F2, .ref _, q.2 _ (F'.fresh (get?_size _))⟩ (by show vs.toArray.size ≤ sizeLine; rw [List.size_toArray, r.length]; exact q.1))
end
end Mine

open PySem PySem.W PyProof.Rows PySem.Calls
set_option Elab.async false
set_option maxRecDepth 100000
set_option linter.unusedVariables false
namespace Mine

noncomputable def peq (p q : PV) : Bool := @decide (p = q) (Classical.propDecidable _)
theorem peq_self (p : PV) : peq p p = true := by simp [peq]
theorem peq_iff {p q : PV} : peq p q = true ↔ p = q := by simp [peq]
theorem peq_ne {p q : PV} (h : p ≠ q) : peq p q = false := by simp [peq, h]
theorem peq_int (a b : Int) : peq (.int a) (.int b) = decide (a = b) := by by_cases h : a = b <;> simp [peq, h]
theorem peq_str (a b : Str) : peq (.str a) (.str b) = decide (a = b) := by by_cases h : a = b <;> simp [peq, h]

section
open Classical SeqAt
variable {p q : PV} {A : Around} {s : Shared} {H : Store} {a b : Value}
theorem pairs_R {vs ws : List Value} {ds es : List PV} (h3 : RL s.heap H vs ds) (k3 : RL s.heap H ws es) (hu : A.units + PV.depL ds + 1 < cLine) (o1 : PV.okL ds = true) (o2 : PV.okL es = true) :
    ∀ j (j1 : j < vs.toArray.size) (j2 : j < ws.toArray.size), EqAt A.in1 s vs.toArray[j] ws.toArray[j] (decide (ds[j]? = es[j]?)) := by
  intro j j1 j2
  obtain ⟨d, hd1, r1⟩ := h3.get' (List.getElem?_eq_getElem (by simpa using j1))
  obtain ⟨e, he1, r2⟩ := k3.get' (List.getElem?_eq_getElem (by simpa using j2))
  have q := eqAt_R (PV.depL ds) d e A.in1 s H _ _ (PV.depL_get d (List.mem_of_getElem? hd1)) r1 r2
    (PV.okL_get o1 d (List.mem_of_getElem? hd1)) (PV.okL_get o2 e (List.mem_of_getElem? he1)) (by simp; omega)
  have e2 : decide (ds[j]? = es[j]?) = decide (d = e) := by rw [hd1, he1]; simp
  rw [e2]; simpa using q

theorem rcAt_R (ra : R s.heap H a p) (rb : R s.heap H b q) (op : p.ok = true) (oq : q.ok = true) (hu : A.units + p.dep < cLine) : RcAt A s a b (peq p q) := by
  have hu0 : A.units < cLine := by omega
  cases ra with
  | none => cases rb <;> first | (simp [PV.ok] at oq; done) | skip
            · rw [peq_self]; exact RcAt.none_none
            · rw [peq_ne (by simp)]; exact RcAt.none_int _ _
            · rw [peq_ne (by simp)]; exact RcAt.none_str _ _
            · rename_i h1 h2 h3; rw [peq_ne (by simp)]; exact RcAt.none_tuple h1 hu0
            · rename_i h1 h2 h3; rw [peq_ne (by simp)]; exact RcAt.none_list h1.isList hu0
  | bool => simp [PV.ok] at op
  | ref => simp [PV.ok] at op
  | rng => simp [PV.ok] at op
  | int i t => cases rb <;> first | (simp [PV.ok] at oq; done) | skip
               · rw [peq_ne (by simp)]; exact RcAt.int_none _ _
               · rename_i j u
                 rw [peq_int, show decide (i = j) = (i == j) by by_cases q : i = j <;> simp [q]]; exact RcAt.int_int _ _ _ _
               · rw [peq_ne (by simp)]; exact RcAt.int_str _ _ _ _
               · rename_i h1 h2 h3; rw [peq_ne (by simp)]; exact RcAt.int_tuple _ _ h1 hu0
               · rename_i h1 h2 h3; rw [peq_ne (by simp)]; exact RcAt.int_list _ _ h1.isList hu0
  | str x t => cases rb <;> first | (simp [PV.ok] at oq; done) | skip
               · rw [peq_ne (by simp)]; exact RcAt.str_none _ _
               · rw [peq_ne (by simp)]; exact RcAt.str_int _ _ _ _
               · rename_i y u
                 rw [peq_str, show decide (x = y) = (x == y) by by_cases q : x = y <;> simp [q]]; exact RcAt.str_str _ _ _ _
               · rename_i h1 h2 h3; rw [peq_ne (by simp)]; exact RcAt.str_tuple _ _ h1 hu0
               · rename_i h1 h2 h3; rw [peq_ne (by simp)]; exact RcAt.str_list _ _ h1.isList hu0
  | @tup l vs ds h1 h2 h3 =>
    cases rb with
    | none => rw [peq_ne (by simp)]; exact RcAt.tuple_none h1 hu0
    | bool => simp [PV.ok] at oq
    | ref => simp [PV.ok] at oq
    | rng => simp [PV.ok] at oq
    | int j u => rw [peq_ne (by simp)]; exact RcAt.tuple_int _ _ h1 hu0
    | str y u => rw [peq_ne (by simp)]; exact RcAt.tuple_str _ _ h1 hu0
    | @lst l' ws es k1 k2 k3 => rw [peq_ne (by simp)]; exact RcAt.tuple_list h1 k1.isList hu0
    | @tup l' ws es k1 k2 k3 =>
      have L1 := h3.length; have L2 := k3.length
      have e := range_all_eq (ds := ds) (es := es)
      have := RcAt.tuples (A := A) (s := s) h1 k1 hu0 (pairs_R h3 k3 (by simp only [PV.dep] at hu; omega) (by simpa [PV.ok] using op) (by simpa [PV.ok] using oq))
      simp only [List.size_toArray, L1, L2] at this
      rw [e] at this
      have e2 : peq (.tup ds) (.tup es) = decide (ds = es) := by simp [peq]
      rw [e2]; exact this
  | @lst l vs ds h1 h2 h3 =>
    cases rb with
    | none => rw [peq_ne (by simp)]; exact RcAt.list_none h1.isList hu0
    | bool => simp [PV.ok] at oq
    | ref => simp [PV.ok] at oq
    | rng => simp [PV.ok] at oq
    | int j u => rw [peq_ne (by simp)]; exact RcAt.list_int _ _ h1.isList hu0
    | str y u => rw [peq_ne (by simp)]; exact RcAt.list_str _ _ h1.isList hu0
    | @tup l' ws es k1 k2 k3 => rw [peq_ne (by simp)]; exact RcAt.list_tuple h1.isList k1 hu0
    | @lst l' ws es k1 k2 k3 =>
      have L1 := h3.length; have L2 := k3.length
      have e := range_all_eq (ds := ds) (es := es)
      have e2 : peq (.lst ds) (.lst es) = decide (ds = es) := by simp [peq]
      rw [e2]
      by_cases hsz : ds.length = es.length
      · have := RcAt.lists (A := A) (s := s) h1.isList k1.isList (by simp [L1, L2, hsz]) hu0 (pairs_R h3 k3 (by simp only [PV.dep] at hu; omega) (by simpa [PV.ok] using op) (by simpa [PV.ok] using oq))
        simp only [List.size_toArray, L1] at this
        rw [hsz] at e
        simp only [Nat.min_self, beq_self_eq_true, Bool.and_true] at e
        rw [hsz, e] at this
        exact this
      · have := RcAt.lists_lengths (A := A) (s := s) h1.isList k1.isList (by simp [L1, L2, hsz]) hu0
        have ne : ds ≠ es := fun q => hsz (by rw [q])
        simpa [ne] using this

theorem rcNeAt_R (ra : R s.heap H a p) (rb : R s.heap H b q) (op : p.ok = true) (oq : q.ok = true) (hu : A.units + p.dep < cLine) : RcNeAt A s a b (!peq p q) := by
  have hu0 : A.units < cLine := by omega
  cases ra with
  | none => cases rb <;> first | (simp [PV.ok] at oq; done) | skip
            · rw [peq_self]; exact RcNeAt.none_none
            · rw [peq_ne (by simp)]; exact RcNeAt.none_int _ _
            · rw [peq_ne (by simp)]; exact RcNeAt.none_str _ _
            · rename_i h1 h2 h3; rw [peq_ne (by simp)]; exact RcNeAt.none_tuple h1 hu0
            · rename_i h1 h2 h3; rw [peq_ne (by simp)]; exact RcNeAt.none_list h1.isList hu0
  | bool => simp [PV.ok] at op
  | ref => simp [PV.ok] at op
  | rng => simp [PV.ok] at op
  | int i t => cases rb <;> first | (simp [PV.ok] at oq; done) | skip
               · rw [peq_ne (by simp)]; exact RcNeAt.int_none _ _
               · rename_i j u
                 rw [peq_int, show decide (i = j) = (i == j) by by_cases q : i = j <;> simp [q]]; exact RcNeAt.int_int _ _ _ _
               · rw [peq_ne (by simp)]; exact RcNeAt.int_str _ _ _ _
               · rename_i h1 h2 h3; rw [peq_ne (by simp)]; exact RcNeAt.int_tuple _ _ h1 hu0
               · rename_i h1 h2 h3; rw [peq_ne (by simp)]; exact RcNeAt.int_list _ _ h1.isList hu0
  | str x t => cases rb <;> first | (simp [PV.ok] at oq; done) | skip
               · rw [peq_ne (by simp)]; exact RcNeAt.str_none _ _
               · rw [peq_ne (by simp)]; exact RcNeAt.str_int _ _ _ _
               · rename_i y u
                 rw [peq_str, show decide (x = y) = (x == y) by by_cases q : x = y <;> simp [q]]; exact RcNeAt.str_str _ _ _ _
               · rename_i h1 h2 h3; rw [peq_ne (by simp)]; exact RcNeAt.str_tuple _ _ h1 hu0
               · rename_i h1 h2 h3; rw [peq_ne (by simp)]; exact RcNeAt.str_list _ _ h1.isList hu0
  | @tup l vs ds h1 h2 h3 =>
    cases rb with
    | none => rw [peq_ne (by simp)]; exact RcNeAt.tuple_none h1 hu0
    | bool => simp [PV.ok] at oq
    | ref => simp [PV.ok] at oq
    | rng => simp [PV.ok] at oq
    | int j u => rw [peq_ne (by simp)]; exact RcNeAt.tuple_int _ _ h1 hu0
    | str y u => rw [peq_ne (by simp)]; exact RcNeAt.tuple_str _ _ h1 hu0
    | @lst l' ws es k1 k2 k3 => rw [peq_ne (by simp)]; exact RcNeAt.tuple_list h1 k1.isList hu0
    | @tup l' ws es k1 k2 k3 =>
      have L1 := h3.length; have L2 := k3.length
      have e := range_all_eq (ds := ds) (es := es)
      have := RcNeAt.tuples (A := A) (s := s) h1 k1 hu0 (pairs_R h3 k3 (by simp only [PV.dep] at hu; omega) (by simpa [PV.ok] using op) (by simpa [PV.ok] using oq))
      simp only [List.size_toArray, L1, L2] at this
      rw [e] at this
      have e2 : peq (.tup ds) (.tup es) = decide (ds = es) := by simp [peq]
      rw [e2]; exact this
  | @lst l vs ds h1 h2 h3 =>
    cases rb with
    | none => rw [peq_ne (by simp)]; exact RcNeAt.list_none h1.isList hu0
    | bool => simp [PV.ok] at oq
    | ref => simp [PV.ok] at oq
    | rng => simp [PV.ok] at oq
    | int j u => rw [peq_ne (by simp)]; exact RcNeAt.list_int _ _ h1.isList hu0
    | str y u => rw [peq_ne (by simp)]; exact RcNeAt.list_str _ _ h1.isList hu0
    | @tup l' ws es k1 k2 k3 => rw [peq_ne (by simp)]; exact RcNeAt.list_tuple h1.isList k1 hu0
    | @lst l' ws es k1 k2 k3 =>
      have L1 := h3.length; have L2 := k3.length
      have e := range_all_eq (ds := ds) (es := es)
      have e2 : peq (.lst ds) (.lst es) = decide (ds = es) := by simp [peq]
      rw [e2]
      by_cases hsz : ds.length = es.length
      · have := RcNeAt.lists (A := A) (s := s) h1.isList k1.isList (by simp [L1, L2, hsz]) hu0 (pairs_R h3 k3 (by simp only [PV.dep] at hu; omega) (by simpa [PV.ok] using op) (by simpa [PV.ok] using oq))
        simp only [List.size_toArray, L1] at this
        rw [hsz] at e
        simp only [Nat.min_self, beq_self_eq_true, Bool.and_true] at e
        rw [hsz, e] at this
        exact this
      · have := RcNeAt.lists_lengths (A := A) (s := s) h1.isList k1.isList (by simp [L1, L2, hsz]) hu0
        have ne : ds ≠ es := fun q => hsz (by rw [q])
        simpa [ne] using this
end

theorem Rm.units {k : Nat} {A : Around} (r : Rm k A) : A.units + 100 < cLine := by
  have e : cLine = 9900 := by decide
  obtain ⟨_, _, h⟩ := r; omega

section
variable {c : Cx} {σ : Loc} {H : Store} {Q : PV → Store → Prop} {a b : Int} {k : Nat}

theorem b_add (q : Q (.int (a + b)) H) : O2 c σ H (.int a) (.int b) (binaryOp .Add) Q := fun s va vb F ra rb => by
  cases ra; cases rb; exact PySem.P.add_int (fin F.tok ⟨_, rfl⟩ (.int _ _) q)
theorem b_sub (q : Q (.int (a - b)) H) : O2 c σ H (.int a) (.int b) (binaryOp .Sub) Q := fun s va vb F ra rb => by
  cases ra; cases rb; exact PySem.P.sub_int (fin F.tok ⟨_, rfl⟩ (.int _ _) q)
theorem b_mul (m : IntMulOk a b) (q : Q (.int (a * b)) H) : O2 c σ H (.int a) (.int b) (binaryOp .Mult) Q := fun s va vb F ra rb => by
  cases ra; cases rb; exact PySem.P.mul_int (fin F.tok ⟨_, rfl⟩ (.int _ _) q) m
theorem noPy {a b : Int} (h : b.natAbs < 2 ^ 64) : Builtin.divisionGoesByPylong a b = false := by
  refine PyProof.noPylong_of_log2 ?_
  by_cases h0 : b.natAbs = 0
  · rw [h0]; decide +kernel
  · have : b.natAbs.log2 < 64 := (Nat.log2_lt h0).mpr h
    omega
theorem b_div (n : b ≠ 0) (sm : b.natAbs < 2 ^ 64) (q : Q (.int (a.fdiv b)) H) : O2 c σ H (.int a) (.int b) (binaryOp .FloorDiv) Q := fun s va vb F ra rb => by
  cases ra; cases rb; exact floordiv_int n (fin F.tok ⟨_, rfl⟩ (.int _ _) q) (.inl (noPy sm))
theorem b_mod (n : b ≠ 0) (q : Q (.int (a.fmod b)) H) : O2 c σ H (.int a) (.int b) (binaryOp .Mod) Q := fun s va vb F ra rb => by
  cases ra; cases rb; exact mod_int' n (fin F.tok ⟨_, rfl⟩ (.int _ _) q)
theorem b_pow (h0 : 0 ≤ b) (h1 : b ≤ 1000000) (h2 : a.natAbs < 2 ^ 64) (q : Q (.int (a ^ b.toNat)) H) : O2 c σ H (.int a) (.int b) (binaryOp .Pow) Q := fun s va vb F ra rb => by
  cases ra; cases rb; exact pow_int_small h0 h1 h2 (fin F.tok ⟨_, rfl⟩ (.int _ _) q)

theorem b_tup {l m : List PV} (sz : l.length + m.length ≤ sizeLine) (q : Q (.tup (l ++ m)) H) : O2 c σ H (.tup l) (.tup m) (binaryOp .Add) Q := fun s va vb F ra rb => by
  cases ra with
  | @tup t vs _ ht nt rt =>
    cases rb with
    | @tup b ws _ hb nb rb =>
      have ht' := ht; have hb' := hb
      obtain ⟨⟨cls, dd, data, sl⟩, ho, hc, n, hd⟩ := id ht
      obtain ⟨⟨cls2, dd2, data2, sl2⟩, ho2, hc2, n2, hd2⟩ := id hb
      simp only at hc hd hc2 hd2
      subst hc hd hc2 hd2
      have e : vs.toArray ++ ws.toArray = (vs ++ ws).toArray := by simp
      by_cases hv : vs = []
      · refine concat_meets ⟨_, ho, rfl⟩ ⟨_, ho2, rfl⟩ noFill_tuple_add seq_tuple_add PySem.F.slot_tuple_add PySem.F.entry_tuple_add (PySem.F.args_tuple_add_2 _ _)
          (tuple_addW0 t b vs.toArray ws.toArray n n2 dd dd2 sl sl2 (by simp [hv])) ⟨ho, ho2, fin F.tok ⟨_, rfl⟩ ?_ q⟩
        subst hv; cases rt
        exact .tup hb' nb rb
      · by_cases hw : ws = []
        · refine concat_meets ⟨_, ho, rfl⟩ ⟨_, ho2, rfl⟩ noFill_tuple_add seq_tuple_add PySem.F.slot_tuple_add PySem.F.entry_tuple_add (PySem.F.args_tuple_add_2 _ _)
            (tuple_addW1 t b vs.toArray ws.toArray n n2 dd dd2 sl sl2 (by simpa using hv) (by simp [hw])) ⟨ho, ho2, fin F.tok ⟨_, rfl⟩ ?_ q⟩
          subst hw; cases rb
          rw [List.append_nil]
          exact .tup ht' nt rt
        · refine concat_meets ⟨_, ho, rfl⟩ ⟨_, ho2, rfl⟩ noFill_tuple_add seq_tuple_add PySem.F.slot_tuple_add PySem.F.entry_tuple_add (PySem.F.args_tuple_add_2 _ _)
            (tuple_addW2 t b vs.toArray ws.toArray n n2 dd dd2 sl sl2 (by simpa using hv) (by simpa using hw) (by rw [List.size_toArray, List.size_toArray, rt.length, rb.length]; exact sz)) ⟨ho, ho2, ?_⟩
          rw [e]
          obtain ⟨F2, k2, r2⟩ := F.tupNew (rt.append rb)
          exact ⟨_, H, ⟨_, _, rfl⟩, k2, F2, r2, q⟩

theorem b_lst {x y : PV} {l m : List PV} (hx : vw H x = .lst l) (hy : vw H y = .lst m) (sz : l.length + m.length ≤ sizeLine) (q : ∀ r, H r = none → Q (.ref r) (upd H r (.lst (l ++ m)))) : O2 c σ H x y (binaryOp .Add) Q := fun s va vb F ra rb => by
  have get : ∀ {v : Value} {z : PV} {ds : List PV}, R s.heap H v z → vw H z = .lst ds → ∃ a vs, v = .ref a ∧ s.heap.IsList a vs.toArray ∧ RL s.heap H vs ds := by
    intro v z ds r e
    cases r with
    | ref a =>
      cases ea : H a with
      | none => simp [vw, ea] at e
      | some mo =>
        obtain ⟨m, _⟩ := F.st a mo ea
        cases mo with
        | lst ds' => simp [vw, ea] at e; subst e; obtain ⟨vs, hl, r⟩ := m; exact ⟨a, vs, rfl, hl.isList, r⟩
        | dct _ => simp [vw, ea] at e
        | tdct _ => simp [vw, ea] at e
        | hid _ _ => simp [vw, ea] at e
    | lst h1 h2 h3 => simp [vw] at e; subst e; exact ⟨_, _, rfl, h1.isList, h3⟩
    | _ => simp [vw] at e
  obtain ⟨l, vs, rfl, hl, r1⟩ := get ra hx
  obtain ⟨b, ws, rfl, hb, r2⟩ := get rb hy
  obtain ⟨⟨cls, dd, data, sl⟩, ho, hc, n, hd⟩ := id hl
  obtain ⟨⟨cls2, dd2, data2, sl2⟩, ho2, hc2, n2, hd2⟩ := id hb
  simp only at hc hd hc2 hd2
  subst hc hd hc2 hd2
  have e : vs.toArray ++ ws.toArray = (vs ++ ws).toArray := by simp
  refine concat_meets ⟨_, ho, rfl⟩ ⟨_, ho2, rfl⟩ noFill_list_add seq_list_add PySem.F.slot_list_add PySem.F.entry_list_add (PySem.F.args_list_add_2 _ _) (list_addW l b vs.toArray ws.toArray n n2 dd dd2 sl sl2 (by rw [List.size_toArray, List.size_toArray, r1.length, r2.length]; exact sz)) ⟨ho, ho2, ?_⟩
  rw [e]
  obtain ⟨F2, k2⟩ := F.lstNew (r1.append r2)
  exact ⟨_, _, ⟨_, _, rfl⟩, k2, F2, .ref _, q _ (F.fresh (get?_size _))⟩

-- comparisons
theorem c_eq {x y : PV} (r : Rm k c.A) (ox : (vw H x).ok = true) (oy : (vw H y).ok = true) (d : (vw H x).dep ≤ 100) (q : Q (.bool (peq (vw H x) (vw H y))) H) : O2 c σ H x y (compareOp .Eq) Q := fun s va vb F ra rb => by
  have := rcAt_R (A := c.A) (F.view ra) (F.view rb) ox oy (by have := r.units; omega)
  exact this c.prog c.w _ _ (fin0 F (.bool _) q)
theorem c_ne {x y : PV} (r : Rm k c.A) (ox : (vw H x).ok = true) (oy : (vw H y).ok = true) (d : (vw H x).dep ≤ 100) (q : Q (.bool (!peq (vw H x) (vw H y))) H) : O2 c σ H x y (compareOp .NotEq) Q := fun s va vb F ra rb => by
  have := rcNeAt_R (A := c.A) (F.view ra) (F.view rb) ox oy (by have := r.units; omega)
  exact this c.prog c.w _ _ (fin0 F (.bool _) q)
theorem c_lt (q : Q (.bool (decide (a < b))) H) : O2 c σ H (.int a) (.int b) (compareOp .Lt) Q := fun s va vb F ra rb => by
  cases ra; cases rb; exact PySem.P.lt_int (fin0 F (.bool _) q)
theorem c_gt (q : Q (.bool (decide (b < a))) H) : O2 c σ H (.int a) (.int b) (compareOp .Gt) Q := fun s va vb F ra rb => by
  cases ra; cases rb; exact PySem.P.gt_int (fin0 F (.bool _) q)
theorem c_ge (q : Q (.bool (decide (b ≤ a))) H) : O2 c σ H (.int a) (.int b) (compareOp .GtE) Q := fun s va vb F ra rb => by
  cases ra; cases rb; exact PySem.P.ge_int (fin0 F (.bool _) q)

def isNone : PV → Bool
  | .none => true
  | _ => false
theorem isNone_beq {h : Heap} {v : Value} {p : PV} (r : R h H v p) : (v == Value.none) = isNone p := by cases r <;> rfl
theorem c_is {x : PV} (q : Q (.bool (isNone x)) H) : O2 c σ H x .none (compareOp .Is) Q := fun s va vb F ra rb => by
  cases rb; exact is_none_gen (fin0 F (by rw [isNone_beq ra]; exact .bool _) q)
theorem c_isnot {x : PV} (q : Q (.bool (!isNone x)) H) : O2 c σ H x .none (compareOp .IsNot) Q := fun s va vb F ra rb => by
  cases rb; exact isnot_none_gen (fin0 F (by rw [isNone_beq ra]; exact .bool _) q)
end
end Mine

open PySem PySem.W PyProof.Rows PySem.Calls
set_option Elab.async false
set_option maxRecDepth 100000
set_option linter.unusedVariables false
namespace Mine

section
variable {c : Cx} {σ : Loc} {H : Store} {Q : PV → Store → Prop}

/-- an index into n places, from behind too -/
theorem Act.lstAt {s : Shared} (F : Act c σ H s.heap) {v : Value} {p : PV} {ds : List PV} (r : R s.heap H v p) (e : vw H p = .lst ds) : ∃ a vs, v = .ref a ∧ s.heap.PlainList a vs.toArray ∧ RL s.heap H vs ds := by
  cases r with
  | ref a =>
    cases ea : H a with
    | none => simp [vw, ea] at e
    | some mo =>
      obtain ⟨m, _⟩ := F.st a mo ea
      cases mo with
      | lst ds' => simp [vw, ea] at e; subst e; obtain ⟨vs, hl, r⟩ := m; exact ⟨a, vs, rfl, hl, r⟩
      | dct _ => simp [vw, ea] at e
      | tdct _ => simp [vw, ea] at e
      | hid _ _ => simp [vw, ea] at e
  | lst h1 h2 h3 => simp [vw] at e; subst e; exact ⟨_, _, rfl, h1, h3⟩
  | _ => simp [vw] at e

/-- a subscript that is no slice -/
def noSlice : Expr → Bool
  | .Slice .. => false
  | _ => true
theorem subscripted_plain {slice : Expr} (h : noSlice slice = true) (o i : Value) : subscripted slice false o i = operate [o, i] (getItem o i) := by
  cases slice <;> first | rfl | simp [noSlice] at h

/-- an item -/
def Item (c : Cx) (σ : Loc) (H : Store) (o i : PV) (Q : PV → Store → Prop) : Prop :=
  ∀ (s : Shared) (vo vi : Value), Act c σ H s.heap → R s.heap H vo o → R s.heap H vi i →
    ∃ T id, s.TypeIs vo T ∧ typeLookup (.type T) "__getitem__" = pure (some (.builtin id)) ∧
      wpAny (model c.prog c.w) c.A (getItem vo vi) (fun v s' => ∃ p H', Same s s' ∧ Kp (Xe c.env) s.heap H s'.heap H' ∧ Act c σ H' s'.heap ∧ R s'.heap H' v p ∧ Q p H') (fun _ _ => False) s

theorem e_item {value slice : Expr} {pos : Pos} (h : EvO c (eval value c.env) σ H fun o H₁ => EvO c (eval slice c.env) σ H₁ fun i H₂ => Item c σ H₂ o i Q) (hs : noSlice slice = true := by rfl) :
    EvO c (eval (.Subscript value slice pos) c.env) σ H Q :=
  fun s F => Subscript_ (h.use F fun vo o H₁ s₁ e₁ k₁ F₁ r₁ q₁ => q₁.use F₁ fun vi i H₂ s₂ e₂ k₂ F₂ r₂ q₂ => by
    obtain ⟨T, id, hT, hl, hg⟩ := q₂ s₂ vo vi F₂ (F₁.keepR k₂ r₁) r₂
    refine tail_any hT hl (wpAny_mono hg (fun v s₃ ⟨p, H₃, e₃, k₃, F₃, r₃, q₃⟩ => ⟨p, H₃, (e₁.trans e₂).trans e₃, (k₁.trans k₂).trans k₃, F₃, r₃, q₃⟩) fun _ _ x => x) (subscripted_plain hs _ _))

theorem i_tup {ds : List PV} {k : Int} {j : Nat} {p : PV} (hlo : -(2 ^ 63) ≤ k) (hhi : k < 2 ^ 63) (hj : seqIndex? k ds.length = some j) (hx : ds[j]? = some p) (q : Q p H) : Item c σ H (.tup ds) (.int k) Q := fun s vo vi F ro ri => by
  cases ri
  cases ro with
  | @tup a vs _ ht hn r =>
    obtain ⟨v, hv, rv⟩ := r.get hx
    refine ⟨"tuple", _, Heap.IsTuple.typeIs ht, slot_tuple_getitem.lookup, PyProof.Rows.getItem_tuple ht hlo hhi (by rw [List.size_toArray, r.length]; exact hj) (by simpa using hv) (fin0 F rv q)⟩

theorem i_lst {o : PV} {ds : List PV} {k : Int} {p : PV} (e : vw H o = .lst ds) (h0 : 0 ≤ k) (hhi : k < 2 ^ 63) (hx : ds[k.toNat]? = some p) (q : Q p H) : Item c σ H o (.int k) Q := fun s vo vi F ro ri => by
  cases ri
  obtain ⟨a, vs, rfl, hl, r⟩ := F.lstAt ro e
  obtain ⟨v, hv, rv⟩ := r.get hx
  exact ⟨"list", _, hl.isList.typeIs, slot_list_getitem.lookup, wpAny_getItem_list hl.isList h0 hhi (by simpa using hv) (fin0 F rv q)⟩

-- the negative literal
theorem e_neg {i : Int} {k : Nat} {p pos : Pos} (q : Q (.int (-i)) H) : EvO c (eval (.UnaryOp .USub (.Constant (.int i) k p) pos) c.env) σ H Q := fun s F => by
  show wpAny _ _ (eval (.Constant (.int i) k p) c.env >>= fun v => standAt pos >>= fun _ => holding [v] (unaryOp .USub v)) _ _ _
  refine wpAny_bind (wpAny_Constant_int (wpAny_bind (wpAny_standAt (wpAny_holding ?_))))
  exact neg_int (fin F.tok ⟨_, rfl⟩ (.int _ _) q)
end
end Mine

open PySem PySem.W PyProof.Rows PySem.Calls
set_option Elab.async false
set_option maxRecDepth 100000
set_option linter.unusedVariables false
namespace Mine

/-- how many places lie ahead of the bound -/
def cut (i : Int) (n : Nat) : Nat := if i < 0 then (i + n).toNat else min i.toNat n

section
variable {prog : Program} {w : World} {A : Around} {E : Value → Shared → Prop} {s : Shared}
theorem cut_le (i : Int) (n : Nat) : cut i n ≤ n := by unfold cut; split <;> omega
theorem adjust_cut (i : Int) (n : Nat) : Builtin.Slice.sliceAdjust none (some i) 1 (n : Int) = (0, ((cut i n : Nat) : Int)) := by
  unfold Builtin.Slice.sliceAdjust cut
  have h1 : ¬ ((1 : Int) < 0) := by omega
  simp only [h1, if_false]
  congr 1
  split <;> omega
theorem places_cut (k : Nat) : Builtin.Slice.slicePlaces 0 (k : Int) 1 = k := by
  unfold Builtin.Slice.slicePlaces
  have h1 : (1 : Int) > 0 := by omega
  simp only [h1, if_true, Int.ediv_one]
  split <;> omega
theorem applied_cut {sl : Addr} {i : Int} {n : Nat} {u : Tok} {Q : Int × Int × Nat → Shared → Prop} (hs : s.heap.IsSliceOf sl .none (.int i u) .none) (h : Q (0, 1, cut i n) s) :
    wpAny (model prog w) A (Builtin.Slice.sliceApplied (.ref sl) (pure (n : Int))) Q E s := by
  obtain ⟨os, hos, hcs, hds⟩ := id hs
  unfold Builtin.Slice.sliceApplied Builtin.Slice.sliceFields
  refine wpAny_bind (wpAny_bind (wpAny_field hos hds (x := .none) rfl (wpAny_bind (wpAny_field hos hds (x := .int i u) rfl (wpAny_bind (wpAny_field hos hds (x := .none) rfl (wpAny_pure ?_)))))))
  refine wpAny_bind (slicePart_none ?_)
  show wpAny _ _ (if ((1 : Int) == 0) = true then _ else _) _ _ s
  rw [if_neg (by decide)]
  refine wpAny_bind (slicePart_none (wpAny_bind (slicePart_int (wpAny_bind (wpAny_pure ?_)))))
  show wpAny _ _ (match Builtin.Slice.sliceAdjust none (some i) 1 (n : Int) with | (lo, hi) => pure (lo, (1 : Int), Builtin.Slice.slicePlaces lo hi 1)) _ _ s
  rw [adjust_cut i n]
  show wpAny _ _ (pure ((0 : Int), (1 : Int), Builtin.Slice.slicePlaces 0 ((cut i n : Nat) : Int) 1)) _ _ s
  rw [places_cut]
  exact wpAny_pure h
theorem pick_cut (xs : Array Value) (k : Nat) : ((List.range k).filterMap fun (j : Nat) => xs[((0 : Int) + (j : Int) * 1).toNat]?).toArray = (xs.toList.take k).toArray := by
  have e : (fun (j : Nat) => xs[((0 : Int) + (j : Int) * 1).toNat]?) = fun j => xs[0 + j]? := by
    funext j
    have : ((0 : Int) + (j : Int) * 1).toNat = 0 + j := by omega
    rw [this]
  rw [e]
  have := pick_run xs 0 k
  rw [List.filterMap_map] at this
  have e2 : ((fun x => xs[x]?) ∘ fun x => 0 + x) = fun j => xs[0 + j]? := rfl
  rw [e2] at this
  rw [this, List.drop_zero]

theorem getItem_tuple_cut {t sl : Addr} {items : Array Value} {i : Int} {u : Tok} {Q : Value → Shared → Prop} (ht : IsTup s.heap t items) (hs : s.heap.IsSliceOf sl .none (.int i u) .none)
    (h0 : cut i items.size = items.size → Q (.ref t) s)
    (h : cut i items.size ≠ items.size → Q (.ref s.heap.objs.size) { s with heap := s.heap.push { cls := .type "tuple", data := .seq (items.toList.take (cut i items.size)).toArray } })
    (hsz : items.size ≤ sizeLine) : wpAny (model prog w) A (getItem (.ref t) (.ref sl)) Q E s := by
  have htake : sizeOk (.seq (items.toList.take (cut i items.size)).toArray) := by
    show (items.toList.take (cut i items.size)).toArray.size ≤ sizeLine
    rw [List.size_toArray, List.length_take, Array.length_toList]
    omega
  obtain ⟨os, hos, hcs, hds⟩ := id hs
  have hTs : s.TypeIs (.ref sl) "slice" := ⟨os, hos, hcs⟩
  unfold getItem
  try with_reducible refine wpAny_holding ?_
  first | refine wpAny_bind (wpAny_pure ?_) | skip
  refine wpAny_bind (wpAny_sequenceKey ht.typeIs (by decide) ?_)
  refine wpAny_bind (wpAny_callSpecial?_slot (name := Str.ofString "__getitem__") ht.typeIs slot_tuple_getitem
    (wpAny_call_entry slot_tuple_getitem ht.typeIs entry_tuple_getitem ?_ (args_tuple_getitem _ _)))
  show wpAny _ _ (Builtin.Tuple.tupleItemsOf (.ref t) >>= _) _ _ s
  refine wpAny_bind (tupleItemsOf_ ht ?_)
  refine wpAny_bind (wpAny_typeOf hTs ?_)
  rw [if_pos (by decide)]
  refine wpAny_bind (applied_cut hs ?_)
  show wpAny _ _ (if ((0 : Int) == 0 && (1 : Int) == 1 && (cut i items.size) == items.size) = true then _ else _) _ _ s
  by_cases hc : cut i items.size = items.size
  · rw [if_pos (by simp [hc])]
    have ex : wpAny (model prog w) A.in1 (Builtin.Tuple.tupleIsExact (.ref t)) (fun b s' => b = true ∧ s' = s) (fun e s' => E e s') s := by
      unfold Builtin.Tuple.tupleIsExact
      first
        | exact wpAny_bind (wpAny_typeOf ht.typeIs (wpAny_pure ⟨by decide, rfl⟩))
        | exact wpAny_map (wpAny_typeOf ht.typeIs ⟨by decide, rfl⟩)
    refine wpAny_bind (wpAny_mono ex (fun b s' hb => ?_) fun _ _ x => x)
    obtain ⟨rfl, rfl⟩ := hb
    rw [if_pos rfl]
    first
      | exact wpAny_bind (wpAny_rule (wpAny_pure ⟨_, rfl, wpAny_pure (h0 hc)⟩))
      | exact wpAny_bind (wpAny_rule (wpAny_bind (wpAny_pure (wpAny_pure ⟨_, rfl, wpAny_pure (h0 hc)⟩))))
  · rw [if_neg (by simp [hc]), pick_cut items]
    first
      | exact wpAny_bind (m := Builtin.Tuple.tupleExact _) (wpAny_newObj_type (wpAny_pure ⟨_, rfl, wpAny_pure (h hc)⟩) htake)
      | exact wpAny_bind (m := Builtin.Tuple.tupleExact _) (wpAny_newObj_type (wpAny_bind (wpAny_pure (wpAny_pure ⟨_, rfl, wpAny_pure (h hc)⟩))) htake)
      | exact wpAny_bind (wpAny_bind (m := Builtin.Tuple.tupleExact _) (wpAny_newObj_type (wpAny_pure (wpAny_pure ⟨_, rfl, wpAny_pure (h hc)⟩)) htake))
      | exact wpAny_bind (wpAny_bind (m := Builtin.Tuple.tupleExact _) (wpAny_newObj_type (wpAny_pure ⟨_, rfl, wpAny_pure (h hc)⟩) htake))
end

section
variable {c : Cx} {σ : Loc} {H : Store} {Q : PV → Store → Prop}
theorem Act.pushAny {s : Shared} (F : Act c σ H s.heap) (o : Obj) : Act c σ H (s.heap.push o) ∧ Kp (Xe c.env) s.heap H (s.heap.push o) H :=
  ⟨F.grow fun b o' e => Heap.get?_push_of_some _ e, fun b o' e n _ => ⟨Heap.get?_push_of_some _ e, n⟩⟩

/-- a tuple's cut up to a bound -/
theorem e_upto {value u : Expr} {p pos : Pos} (h : EvO c (eval value c.env) σ H fun o H₁ => EvO c (eval u c.env) σ H₁ fun i H₂ => ∃ ds k, o = .tup ds ∧ i = .int k ∧ ds.length ≤ sizeLine ∧ Q (.tup (ds.take (cut k ds.length))) H₂)
    (ht : ∀ o r, letTemporaryGo value o r = pure () := by intro _ _; rfl) :
    EvO c (eval (.Subscript value (.Slice none (some u) none p) pos) c.env) σ H Q :=
  fun s F => Subscript_Slice (h.use F fun vo o H₁ s₁ e₁ k₁ F₁ r₁ q₁ => wpAny_Slice (wpAny_pure (q₁.use F₁ fun vi i H₂ s₂ e₂ k₂ F₂ r₂ q₂ => wpAny_pure (by
    obtain ⟨ds, k, rfl, rfl, sz, q⟩ := q₂
    cases r₂ with
    | int _ t =>
    have r₁' := F₁.keepR k₂ r₁
    obtain ⟨F₃, k₃⟩ := F₂.pushAny (s := s₂) { cls := .type "slice", data := .fields #[.none, .int k t, .none] }
    have r₃ := F₂.keepR k₃ r₁'
    cases r₃ with
    | @tup a vs _ hta hn r =>
    have ln := r.length
    refine ⟨"tuple", _, slot_tuple_getitem.lookup, Heap.IsTuple.typeIs hta, getItem_tuple_cut hta (Heap.IsSliceOf.new ..) ?_ ?_ (by simpa [ln] using sz)⟩
    · intro hc
      have e : ds.take (cut k ds.length) = ds := by
        rw [List.size_toArray, ln] at hc
        rw [hc, List.take_length]
      rw [e] at q
      exact ⟨_, H₂, (e₁.trans e₂).trans ⟨_, _, rfl⟩, (k₁.trans k₂).trans k₃, F₃, .tup hta hn r, q⟩
    · intro hc
      obtain ⟨F₄, k₄, r₄⟩ := F₃.tupNew (s := { s₂ with heap := s₂.heap.push { cls := .type "slice", data := .fields #[.none, .int k t, .none] } }) (r.take (cut k vs.toArray.size))
      rw [List.size_toArray, ln] at F₄ k₄ r₄ ⊢
      exact ⟨_, H₂, (e₁.trans e₂).trans ⟨_, _, rfl⟩, ((k₁.trans k₂).trans k₃).trans k₄, F₄, r₄, q⟩)))) ht

/-- a tuple but its first -/
theorem e_from {value : Expr} {i : Int} {ik : Nat} {ip p pos : Pos} (h : EvO c (eval value c.env) σ H fun o H₁ => ∃ ds k, o = .tup ds ∧ i = ((k : Nat) : Int) ∧ 1 ≤ k ∧ k ≤ ds.length ∧ ds.length ≤ sizeLine ∧ Q (.tup (ds.drop k)) H₁)
    (ht : ∀ o r, letTemporaryGo value o r = pure () := by intro _ _; rfl) :
    EvO c (eval (.Subscript value (.Slice (some (.Constant (.int i) ik ip)) none none p) pos) c.env) σ H Q :=
  fun s F => Subscript_Slice (h.use F fun vo o H₁ s₁ e₁ k₁ F₁ r₁ q₁ => wpAny_Slice (wpAny_Constant_int (k := ik) (pos := ip) (wpAny_pure (wpAny_pure (by
    obtain ⟨ds, k, rfl, rfl, h1, h2, sz, q⟩ := q₁
    obtain ⟨F₃, k₃⟩ := Act.pushAny (s := { s₁ with toks := s₁.toks + 1 }) F₁ { cls := .type "slice", data := .fields #[.int k s₁.toks, .none, .none] }
    have r₃ := F₁.keepR k₃ r₁
    cases r₃ with
    | @tup a vs _ hta hn r =>
    have ln := r.length
    refine ⟨"tuple", _, slot_tuple_getitem.lookup, Heap.IsTuple.typeIs hta, getItem_tuple_from hta (Heap.IsSliceOf.new ..) h1 (by simpa [ln] using h2) ?_ (by simpa [ln] using sz)⟩
    obtain ⟨F₄, k₄, r₄⟩ := F₃.tupNew (s := { s₁ with heap := s₁.heap.push { cls := .type "slice", data := .fields #[.int k s₁.toks, .none, .none] }, toks := s₁.toks + 1 }) (r.drop k)
    exact ⟨_, H₁, e₁.trans ⟨_, _, rfl⟩, (k₁.trans k₃).trans k₄, F₄, r₄, q⟩))))) ht
end
end Mine

open PySem PySem.W PyProof.Rows PySem.Calls
set_option Elab.async false
set_option maxRecDepth 100000
set_option linter.unusedVariables false
namespace Mine

/-- what stands at the top, told of the heap the law starts from -/
structure Gl (prog : Program) (B : Heap) (mg mb : Str → Option Value) : Prop where
  g : B.Ns mainGlobals mg
  b : B.Ns builtinsNs mb
  bo : ∀ x : Str, x ≠ "__name__" → mb x = bootBuiltins x
  nolimit : B.NoLimit
  free : ∀ x ∈ [("len" : Str), "range", "list", "isinstance", "abs", "int", "str", "tuple", "zip"], mg x = none
  fn : ∀ d ∈ recsOf prog, ∃ a o pm code doc, mg d.name = some (.ref a) ∧ B.get? a = some o ∧ o.data = .func (docDef d.name d.params d.body d.scope pm code doc) ∧ B.CodeRec code d.name

section
variable {c : Cx} {σ : Loc} {H : Store} {Q : PV → Store → Prop} {mg mb : Str → Option Value} {prog : Program}

/-- a call whose arguments are at hand -/
def CallO (c : Cx) (σ : Loc) (H : Store) (f : Value) (ps : List PV) (Q : PV → Store → Prop) : Prop :=
  ∀ (s : Shared) (vs : List Value), Act c σ H s.heap → RL s.heap H vs ps →
    wpAny (model c.prog c.w) c.A (call f vs) (fun v s' => ∃ p H', Same s s' ∧ Kp (Xe c.env) s.heap H s'.heap H' ∧ Act c σ H' s'.heap ∧ R s'.heap H' v p ∧ Q p H') (fun _ _ => False) s

theorem nameB {x : Str} {pos : Pos} {v : Value} {s : Shared} {P : Value → Shared → Prop} {E : Value → Shared → Prop} (G : Gl prog c.B mg mb) (F : Act c σ H s.heap) (eg : c.env.globals = mainGlobals) (eb : c.env.builtins = builtinsNs)
    (hf : x ∈ [("len" : Str), "range", "list", "isinstance", "abs", "int", "str", "tuple", "zip"]) (hv : bootBuiltins x = some v) (hn : x ≠ "__name__") (hx : c.env.kindOf x = some .globalImplicit) (hd : (x == ("__debug__" : Str)) = false)
    (h : P v s) : wpAny (model c.prog c.w) c.A (eval (.Name x pos) c.env) P E s :=
  Name_function_global F.fn hx (loadGlobal_builtin (eg ▸ G.g.keeps F.base) (G.free x hf) (eb ▸ G.b.keeps F.base) ((G.bo x hn).trans hv) h) hd

theorem e_callB {x : Str} {id : String} {e : Expr} {rest : List Expr} {p pos : Pos} (G : Gl prog c.B mg mb)
    (hf : x ∈ [("len" : Str), "range", "list", "isinstance", "abs", "int", "str", "tuple", "zip"]) (hv : bootBuiltins x = some (.builtin id)) (hn : x ≠ "__name__") (hd : (x == ("__debug__" : Str)) = false)
    (h : AvO c (spliced (backTo pos (starEach (e :: rest) c.env))) σ H fun ps H' => CallO c σ H' (.builtin id) ps Q)
    (hx : c.env.kindOf x = some .globalImplicit := by rfl) (eg : c.env.globals = mainGlobals := by rfl) (eb : c.env.builtins = builtinsNs := by rfl)
    (he : starEach (e :: rest) c.env = (false, eval e c.env) :: starEach rest c.env := by rfl)
    (hplain : (backTo pos (starEach rest c.env)).any (·.1) = false := by rfl) : EvO c (eval (.Call (.Name x p) (e :: rest) [] pos) c.env) σ H Q :=
  fun s F => Call_ (nameB G F eg eb hf hv hn hx hd (callWith_builtin1 (h.use F fun vs ps H' s' e' k F' r q => wpAny_mono (q s' vs F' r) (fun v s'' ⟨p, H'', e'', k', F'', r', q'⟩ => ⟨p, H'', e'.trans e'', k.trans k', F'', r', q'⟩) fun _ _ x => x) he hplain))

theorem e_callT {x : Str} {T : String} {e : Expr} {rest : List Expr} {p pos : Pos} (G : Gl prog c.B mg mb)
    (hf : x ∈ [("len" : Str), "range", "list", "isinstance", "abs", "int", "str", "tuple", "zip"]) (hv : bootBuiltins x = some (.type T)) (hn : x ≠ "__name__") (hd : (x == ("__debug__" : Str)) = false)
    (h : AvO c (spliced (backTo pos (starEach (e :: rest) c.env))) σ H fun ps H' => CallO c σ H' (.type T) ps Q)
    (hx : c.env.kindOf x = some .globalImplicit := by rfl) (eg : c.env.globals = mainGlobals := by rfl) (eb : c.env.builtins = builtinsNs := by rfl)
    (he : starEach (e :: rest) c.env = (false, eval e c.env) :: starEach rest c.env := by rfl)
    (hplain : ((false, eval e c.env) :: backTo pos (starEach rest c.env)).any (·.1) = false := by rfl) : EvO c (eval (.Call (.Name x p) (e :: rest) [] pos) c.env) σ H Q :=
  fun s F => Call_ (nameB G F eg eb hf hv hn hx hd (by
    have h' := h
    rw [he] at h' ⊢
    exact PySem.callWith_type hplain (evalArgs_plain (h'.use F fun vs ps H' s' e' k F' r q => wpAny_mono (q s' vs F' r) (fun v s'' ⟨p, H'', e'', k', F'', r', q'⟩ => ⟨p, H'', e'.trans e'', k.trans k', F'', r', q'⟩) fun _ _ x => x))))

-- the calls
theorem lstP {s : Shared} (F : Act c σ H s.heap) {v : Value} {p : PV} {ds : List PV} (r : R s.heap H v p) (e : vw H p = .lst ds) : ∃ a vs, v = .ref a ∧ s.heap.PlainList a vs.toArray ∧ RL s.heap H vs ds := F.lstAt r e

theorem k_len_lst {p : PV} {ds : List PV} (e : vw H p = .lst ds) (sz : ds.length ≤ sizeLine) (q : Q (.int ds.length) H) : CallO c σ H (.builtin "len") [p] Q := fun s vs F r => by
  cases r with
  | cons r1 r2 =>
    cases r2
    obtain ⟨a, us, rfl, hl, r⟩ := F.lstAt r1 e
    rw [sizeLine_eq] at sz
    refine call_len_list hl.isList (by rw [List.size_toArray, r.length]; omega) (fin F.tok ⟨_, rfl⟩ ?_ q)
    rw [List.size_toArray, r.length]; exact .int _ _
theorem k_len_tup {ds : List PV} (sz : ds.length ≤ sizeLine) (q : Q (.int ds.length) H) : CallO c σ H (.builtin "len") [.tup ds] Q := fun s vs F r => by
  cases r with
  | cons r1 r2 =>
    cases r2
    cases r1 with
    | tup hl hn r =>
      rw [sizeLine_eq] at sz
      refine PyProof.Rows.len_tuple hl (by rw [List.size_toArray, r.length]; omega) (fin F.tok ⟨_, rfl⟩ ?_ q)
      rw [List.size_toArray, r.length]; exact .int _ _

theorem k_range {n : Int} (q : Q (.rng n) H) : CallO c σ H (.type "range") [.int n] Q := fun s vs F r => by
  cases r with
  | cons r1 r2 =>
    cases r2
    cases r1 with
    | int _ t =>
      refine call_range_1 ?_
      obtain ⟨F2, k2⟩ := F.pushAny (s := s) { cls := .type "range", data := .fields #[.int 0 s.toks, .int n t, .int 1 (s.toks + 1)] }
      exact ⟨_, H, ⟨_, _, rfl⟩, k2, F2, .rng (IsRange.new ..) (F.fresh (get?_size _)), q⟩

theorem Act.lstNew' {s : Shared} (F : Act c σ H s.heap) {h' : Heap} {vs : List Value} {ds : List PV} {n : Nat} (r : RL s.heap H vs ds) (k : ∀ b o, s.heap.get? b = some o → h'.get? b = some o)
    (e : h'.get? s.heap.objs.size = some { cls := .type "list", data := .seq vs.toArray n }) : Act c σ (upd H s.heap.objs.size (.lst ds)) h' ∧ Kp (Xe c.env) s.heap H h' (upd H s.heap.objs.size (.lst ds)) := by
  refine ⟨F.add (Nat.le_refl _) k ⟨vs, ⟨n, e⟩, r.keep fun b o e _ n => ⟨k b o e, ?_⟩⟩, Act.kAdd (get?_size _) k _⟩
  rw [upd_ne (Nat.ne_of_lt (Heap.lt_size e))]; exact n

theorem k_list {p : PV} {ds : List PV} (e : vw H p = .lst ds) (sz : ds.length ≤ sizeLine) (q : ∀ l, H l = none → Q (.ref l) (upd H l (.lst ds))) : CallO c σ H (.type "list") [p] Q := fun s vs F r => by
  cases r with
  | cons r1 r2 =>
    cases r2
    obtain ⟨a, us, rfl, ⟨n, hl⟩, r⟩ := F.lstAt r1 e
    refine call_list_seq a (.inl rfl) hl rfl rfl (fun h' c' k e' => ?_) (by rw [List.size_toArray, r.length]; exact sz)
    obtain ⟨F2, k2⟩ := F.lstNew' r k e'
    exact ⟨_, _, ⟨_, _, rfl⟩, k2, F2, .ref _, q _ (F.fresh (get?_size _))⟩

theorem k_tuple {p : PV} {ds : List PV} (e : vw H p = .lst ds) (sz : ds.length ≤ sizeLine) (q : Q (.tup ds) H) : CallO c σ H (.type "tuple") [p] Q := fun s vs F r => by
  cases r with
  | cons r1 r2 =>
    cases r2
    obtain ⟨a, us, rfl, hl, r⟩ := F.lstAt r1 e
    refine call_tuple_list hl.isList (fun h' k => ?_) (by rw [List.size_toArray, r.length]; exact sz)
    have F1 : Act c σ H h' := F.grow k
    have k1 : Kp (Xe c.env) s.heap H h' H := fun b o e n _ => ⟨k b o e, n⟩
    obtain ⟨F2, k2, r2⟩ := Act.tupNew (s := { s with heap := h' }) F1 (F.keepRL k1 r)
    exact ⟨_, _, ⟨_, _, rfl⟩, k1.trans k2, F2, r2, q⟩

theorem k_abs {a : Int} (q : Q (.int (if a < 0 then -a else a)) H) : CallO c σ H (.builtin "abs") [.int a] Q := fun s vs F r => by
  cases r with
  | cons r1 r2 =>
    cases r2; cases r1
    exact call_abs_int fun u tk => fin F.tok ⟨_, rfl⟩ (.int _ _) q
theorem k_intb {b : Bool} (q : Q (.int (if b then 1 else 0)) H) : CallO c σ H (.type "int") [.bool b] Q := fun s vs F r => by
  cases r with
  | cons r1 r2 =>
    cases r2; cases r1
    exact call_int_bool (fin F.tok ⟨_, rfl⟩ (.int _ _) q)
theorem k_str {a : Int} (sm : a.natAbs < 2 ^ 64) (q : Q (.str (Str.ofString (toString a))) H) : CallO c σ H (.type "str") [.int a] Q := fun s vs F r => by
  cases r with
  | cons r1 r2 =>
    cases r2; cases r1
    refine PySem.P.str_of_int ?_ (fin F.tok ⟨_, rfl⟩ (.str _ _) q)
    by_cases h0 : a.natAbs = 0
    · rw [h0]; decide +kernel
    · have : a.natAbs.log2 < 64 := (Nat.log2_lt h0).mpr sm
      omega

def isInt : PV → Bool
  | .int _ => true
  | _ => false
theorem e_isint {e : Expr} {p p2 pos : Pos} (G : Gl prog c.B mg mb)
    (h : EvO c (eval e c.env) σ H fun x H' => (isInt x = true ∨ (∃ y, x = .str y) ∨ ∃ l, x = .tup l) ∧ Q (.bool (isInt x)) H')
    (hx : c.env.kindOf "isinstance" = some .globalImplicit := by rfl) (hx2 : c.env.kindOf "int" = some .globalImplicit := by rfl) (eg : c.env.globals = mainGlobals := by rfl) (eb : c.env.builtins = builtinsNs := by rfl)
    (he : starEach [e, .Name "int" p2] c.env = (false, eval e c.env) :: starEach [.Name "int" p2] c.env := by rfl)
    (he2 : starEach [.Name "int" p2] c.env = (false, eval (.Name "int" p2) c.env) :: starEach [] c.env := by rfl) :
    EvO c (eval (.Call (.Name "isinstance" p) [e, .Name "int" p2] [] pos) c.env) σ H Q :=
  fun s F => Call_ (nameB G F eg eb (by simp) (v := .builtin "isinstance") (by decide +kernel) (by decide) hx (by decide) (callWith_builtin1 (args_cons (he := he) (h.use F fun v x H' s' e' k F' r q =>
    args_cons (he := he2) (nameB G F' eg eb (by simp) (v := .type "int") (by decide +kernel) (by decide) hx2 (by decide) (args_nil (by
      obtain ⟨q1, q⟩ := q
      cases r with
      | int i t => exact call_isinstance (isinstance_true (Tx := "int") PySem.F.isi_meta_int PySem.F.sub_int_int) ⟨typeIs_int _ _ _, _, H', e', k, F', .bool _, q⟩
      | str y t => exact call_isinstance (isinstance_false_str (by decide) PySem.F.isi_meta_int PySem.F.sub_str_int) ⟨_, H', e'.trans ⟨_, _, rfl⟩, k, F', .bool _, q⟩
      | tup h1 h2 h3 =>
        obtain ⟨o, ho, hc, _⟩ := h1
        exact call_isinstance (isinstance_false_tuple (by decide) PySem.F.isi_meta_int PySem.F.sub_tuple_int) ⟨⟨o, ho, hc⟩, _, H', e'.trans ⟨_, _, rfl⟩, k, F', .bool _, q⟩
      | _ => simp [isInt] at q1))))) he))
end
end Mine

open PySem PySem.W PyProof.Rows PySem.Calls
set_option Elab.async false
set_option maxRecDepth 100000
set_option linter.unusedVariables false
namespace Mine

section
variable {c : Cx} {σ : Loc} {H : Store} {Q : PV → Store → Prop} {mg mb : Str → Option Value} {prog : Program}

def HasT (c : Cx) (σ : Loc) (H : Store) (T : String) (ov : PV) : Prop :=
  ∀ (s : Shared) (v : Value), Act c σ H s.heap → R s.heap H v ov → s.TypeIs v T ∧ ∀ a, v = .ref a → ∃ ob, s.heap.get? a = some ob ∧ ob.dict = none

theorem e_meth {o e : Expr} {name : Str} {rest : List Expr} {T id : String} {apos pos : Pos} (pa : PlainAttrs T) (slot : Slot T name id) (hty : typeOf (.builtin id) = pure (.type "method_descriptor"))
    (h : EvO c (eval o c.env) σ H fun ov H₁ => HasT c σ H₁ T ov ∧ AvO c (spliced (backTo pos (starEach (e :: rest) c.env))) σ H₁ fun ps H₂ => CallO c σ H₂ (.builtin id) (ov :: ps) Q)
    (hbase : attributeBase o name c.env (eval o c.env) = eval o c.env := by rfl)
    (hfew : ((backTo pos (starEach (e :: rest) c.env)).all (fun x => !x.1) && (backToKw pos (keywordEach [] c.env)).all (fun x => x.1.isSome)
      && decide ((e :: rest).length + ([] : List Keyword).length + (if ([] : List Keyword).isEmpty then 0 else 1) < 30)) = true := by rfl)
    (hline : (apos.endLine == pos.line) = true := by rfl)
    (he : starEach (e :: rest) c.env = (false, eval e c.env) :: starEach rest c.env := by rfl)
    (hplain : ((false, eval e c.env) :: backTo pos (starEach rest c.env)).any (·.1) = false := by rfl) :
    EvO c (eval (.Call (.Attribute o name apos) (e :: rest) [] pos) c.env) σ H Q :=
  fun s F => wpAny_Call_method_late hbase hfew hline rfl (h.use F fun vo ov H₁ s₁ e₁ k₁ F₁ r₁ q₁ => by
    obtain ⟨hT, hA⟩ := q₁
    obtain ⟨t1, t2⟩ := hT s₁ vo F₁ r₁
    refine ⟨T, id, pa, slot, hty, t1, t2, ?_⟩
    rw [he] at hA ⊢
    exact callWith_builtin hplain (evalArgs_plain (hA.use F₁ fun vs ps H₂ s₂ e₂ k₂ F₂ r₂ q₂ =>
      wpAny_mono (q₂ s₂ (vo :: vs) F₂ (.cons (F₁.keepR k₂ r₁) r₂)) (fun v s₃ ⟨p, H₃, e₃, k₃, F₃, r₃, q₃⟩ => ⟨p, H₃, (e₁.trans e₂).trans e₃, (k₁.trans k₂).trans k₃, F₃, r₃, q₃⟩) fun _ _ x => x)))

theorem hasList {p : PV} {ds : List PV} (e : vw H p = .lst ds) : HasT c σ H "list" p := fun s v F r => by
  obtain ⟨a, vs, rfl, ⟨n, hl⟩, r⟩ := F.lstAt r e
  exact ⟨⟨_, hl, rfl⟩, fun a' ea => by cases ea; exact ⟨_, hl, rfl⟩⟩

/-- a list of the store is changed in place -/
theorem Act.putList {s : Shared} (F : Act c σ H s.heap) {a : Addr} {ds : List PV} (ea : H a = some (.lst ds)) :
    ∃ vs, s.heap.PlainList a vs.toArray ∧ RL s.heap H vs ds ∧ ∀ (h' : Heap) (vs' : List Value) (ds' : List PV), h'.PlainList a vs'.toArray → Heap.SameBut a s.heap h' → RL s.heap H vs' ds' →
      Act c σ (upd H a (.lst ds')) h' ∧ Kp (Xe c.env) s.heap H h' (upd H a (.lst ds')) := by
  obtain ⟨⟨vs, hl, r⟩, _⟩ := F.st a _ ea
  refine ⟨vs, hl, r, fun h' vs' ds' hl' hs r' => ⟨F.put ea hs ⟨vs', hl', r'.keep fun b o e v n => ?_⟩, Act.kPut ea hs _⟩⟩
  exact Act.kPut (H := H) ea hs (fun _ => False) b o e n (fun x => x)

theorem k_append {a : Addr} {x : PV} {ds : List PV} (ea : H a = some (.lst ds)) (sz : ds.length ≤ sizeLine) (q : Q .none (upd H a (.lst (ds ++ [x])))) : CallO c σ H (.builtin "list.append") [.ref a, x] Q := fun s vs F r => by
  cases r with
  | cons r1 r2 =>
    cases r2 with
    | cons rx r3 =>
      cases r3; cases r1
      obtain ⟨us, hl, ru, put⟩ := F.putList ea
      refine wpAny_list_append_plain hl (fun h' hl' hs => ?_) (by rw [List.size_toArray, ru.length]; exact sz)
      obtain ⟨F2, k2⟩ := put h' (us ++ [_]) _ (by simpa using hl') hs (ru.append (RL.one rx))
      exact ⟨_, _, ⟨_, _, rfl⟩, k2, F2, .none, q⟩

theorem k_pop0 {a : Addr} {x : PV} {ds : List PV} (ea : H a = some (.lst (x :: ds))) (sz : ds.length + 1 ≤ sizeLine) (q : Q x (upd H a (.lst ds))) : CallO c σ H (.builtin "list.pop") [.ref a, .int 0] Q := fun s vs F r => by
  cases r with
  | cons r1 r2 =>
    cases r2 with
    | cons rx r3 =>
      cases r3; cases r1; cases rx
      obtain ⟨us, hl, ru, put⟩ := F.putList ea
      cases ru with
      | @cons v us _ _ rv ru =>
        obtain ⟨n, ho⟩ := hl
        refine call_meets PySem.F.slot_list_pop ⟨_, ho, rfl⟩ PySem.F.entry_list_pop (PySem.F.args_list_pop_2 _ _) (MeetsSeq.list_pop_at a (v :: us).toArray n 0 _ 0 v (by decide) (by unfold seqIndex?; simp) (by simp) (by rw [List.size_toArray, List.length_cons, ru.length]; exact sz)) ⟨ho, ?_⟩
        have e1 : ((v :: us).toArray).eraseIdxIfInBounds 0 = us.toArray := by simp [Array.eraseIdxIfInBounds]
        obtain ⟨F2, k2⟩ := put (s.heap.update a (Obj.mapSeq fun xs => xs.eraseIdxIfInBounds 0)) us ds ⟨n + 1, by
          rw [Heap.get?_update_self _ ho (by rfl)]
          simp only [Obj.mapSeq, e1]
          simp⟩ (Heap.SameBut.update ..) ru
        exact ⟨_, _, ⟨_, _, rfl⟩, k2, F2, F.keepR k2 rv, q⟩

theorem k_extend {a : Addr} {y : PV} {ds es : List PV} (ea : H a = some (.lst ds)) (ey : vw H y = .lst es) (sz : ds.length + es.length ≤ sizeLine) (q : Q .none (upd H a (.lst (ds ++ es)))) : CallO c σ H (.builtin "list.extend") [.ref a, y] Q := fun s vs F r => by
  cases r with
  | cons r1 r2 =>
    cases r2 with
    | cons rx r3 =>
      cases r3; cases r1
      obtain ⟨us, ⟨n, ho⟩, ru, put⟩ := F.putList ea
      obtain ⟨b, ws, rfl, ⟨n2, ho2⟩, rw⟩ := F.lstAt rx ey
      have z1 : (us.toArray.size + ws.toArray.size) ≤ sizeLine := by rw [List.size_toArray, List.size_toArray, ru.length, rw.length]; exact sz
      refine call_meets PySem.F.slot_list_extend ⟨_, ho, rfl⟩ PySem.F.entry_list_extend (PySem.F.args_list_extend_2 _ _) (AutoSeq1.list_extend_list_list_0 a us.toArray n b ws.toArray n2 (by
        simp only [Builtin.List.listTooLong, Bool.and_eq_true, decide_eq_true_eq, not_and]; omega) (by omega) (by omega)) ⟨ho, ho2, ?_⟩
      obtain ⟨F2, k2⟩ := put (s.heap.update a (Obj.mapSeq (· ++ ws.toArray))) (us ++ ws) (ds ++ es) (by
        rw [Heap.PlainList, Heap.get?_update_self _ ho (by rfl)]
        simp only [Obj.mapSeq]
        exact ⟨(if ((us.toArray ++ ws.toArray).size == us.toArray.size) = true then n else n + 1), congrArg (fun z => some ({ cls := Value.type "list", data := Data.seq z (if ((us.toArray ++ ws.toArray).size == us.toArray.size) = true then n else n + 1) } : Obj)) (by simp : us.toArray ++ ws.toArray = (us ++ ws).toArray)⟩) (Heap.SameBut.update ..) (ru.append rw)
      exact ⟨_, _, ⟨_, _, rfl⟩, k2, F2, .none, q⟩

open Classical SeqAt in
/-- the first place that holds the sought -/
theorem k_index {y x : PV} {ds : List PV} {j : Nat} (rm : Rm 1 c.A) (ey : vw H y = .lst ds) (ox : x.ok = true) (od : PV.okL ds = true) (dd : PV.depL ds ≤ 50) (sz : ds.length ≤ sizeLine) (hj : ds[j]? = some x) (hn : ∀ i < j, ds[i]? ≠ some x) (q : Q (.int j) H) :
    CallO c σ H (.builtin "list.index") [y, x] Q := fun s vs F r => by
  cases r with
  | cons r1 r2 =>
    cases r2 with
    | cons rx r3 =>
      cases r3
      rename_i vy vx
      obtain ⟨b, ws, rfl, ⟨n2, ho2⟩, rw⟩ := F.lstAt r1 ey
      have ln := rw.length
      have jlt : j < ws.length := by
        rw [ln]; exact (List.getElem?_eq_some_iff.mp hj).1
      have E : ∀ i (hi : i < ws.length) (d : PV), ds[i]? = some d → EqAt c.A.in1 s ws[i] vx (decide (d = x)) := by
        intro i hi d hd
        obtain ⟨d', hd', r⟩ := rw.get' (List.getElem?_eq_getElem hi)
        obtain rfl : d = d' := Option.some.inj (hd.symm.trans hd')
        exact eqAt_R 50 d x c.A.in1 s H _ _ (Nat.le_trans (PV.depL_get d (List.mem_of_getElem? hd)) dd) r rx (PV.okL_get od d (List.mem_of_getElem? hd)) ox (by have := rm.units; simp; omega)
      let e : Value → Bool := fun v => decide (∃ (i : Nat) (d : PV), ws[i]? = some v ∧ ds[i]? = some d ∧ d = x)
      have eq : ∀ i (hi : i < ws.length) (d : PV), ds[i]? = some d → e ws[i] = decide (d = x) := by
        intro i hi d hd
        by_cases h : d = x
        · simp only [e, h, decide_true, decide_eq_true_eq]
          exact ⟨i, d, List.getElem?_eq_getElem hi, hd, h⟩
        · rw [decide_eq_false h]
          simp only [e, decide_eq_false_iff_not]
          rintro ⟨i', d', h1, h2, h3⟩
          obtain ⟨d1, hd1, ra⟩ := rw.get' (List.getElem?_eq_getElem hi)
          obtain ⟨d2, hd2, rb⟩ := rw.get' h1
          obtain rfl : d = d1 := Option.some.inj (hd.symm.trans hd1)
          obtain rfl : d' = d2 := Option.some.inj (h2.symm.trans hd2)
          have := R.inj 50 d d' _ _ _ (Nat.le_trans (PV.depL_get d (List.mem_of_getElem? hd)) dd) ra rb (PV.okL_get od d (List.mem_of_getElem? hd)) (PV.okL_get od d' (List.mem_of_getElem? h2))
          exact h (this.trans h3)
      refine call_meets PySem.F.slot_list_index ⟨_, ho2, rfl⟩ PySem.F.entry_list_index (PySem.F.args_list_index_2 _ _)
        (list_indexAt b ws.toArray n2 none #[] vx e j (by simpa using jlt) (by rw [sizeLine_eq] at sz; omega) ?_ ?_) ⟨ho2, ?_, fin F.tok ⟨_, rfl⟩ (.int _ _) q⟩
      · simp only [List.getElem_toArray]
        rw [eq j jlt x hj]; simp
      · intro m hm mj
        simp only [List.getElem_toArray]
        have hm' : m < ws.length := by simpa using hm
        obtain ⟨d, hd, r⟩ := rw.get' (List.getElem?_eq_getElem hm')
        rw [eq m hm' d hd]
        have := hn m mj
        rw [hd] at this
        simpa using this
      · intro v hv
        obtain ⟨i, hi, rfl⟩ := Array.mem_iff_getElem.mp hv
        have hi' : i < ws.length := by simpa using hi
        obtain ⟨d, hd, r⟩ := rw.get' (List.getElem?_eq_getElem hi')
        simp only [List.getElem_toArray]
        rw [eq i hi' d hd]
        exact E i hi' d hd
end
end Mine

open PySem PySem.W PyProof.Rows PySem.Calls
set_option Elab.async false
set_option maxRecDepth 100000
set_option linter.unusedVariables false
set_option linter.unusedSectionVars false
namespace Mine

def kvGet {α : Type} [DecidableEq α] (kvs : List (α × PV)) (k : α) : Option PV := (kvs.find? fun kv => decide (kv.1 = k)).map (·.2)
def kvPut {α : Type} [DecidableEq α] (kvs : List (α × PV)) (k : α) (p : PV) : List (α × PV) :=
  if kvs.any (fun kv => decide (kv.1 = k)) then kvs.map (fun kv => if kv.1 = k then (kv.1, p) else kv) else kvs ++ [(k, p)]
def kvDel {α : Type} [DecidableEq α] (kvs : List (α × PV)) (k : α) : List (α × PV) := kvs.filter fun kv => decide (kv.1 ≠ k)

section
variable {α : Type} [DecidableEq α] {h : Heap} {H : Store} {xs : List (α × Value)} {ks : List (α × PV)} {k : α} {v : Value} {p : PV}
theorem DR.length (r : DR h H xs ks) : xs.length = ks.length := by
  induction r with
  | nil => rfl
  | cons _ _ ih => simp [ih]
theorem DR.keys (r : DR h H xs ks) : xs.map (·.1) = ks.map (·.1) := by
  induction r with
  | nil => rfl
  | cons _ _ ih => simp [ih]
theorem DR.get (r : DR h H xs ks) (e : kvGet ks k = some p) : ∃ v, valueAt xs k = some v ∧ R h H v p := by
  induction r with
  | nil => simp [kvGet] at e
  | @cons k' v' p' xs ks a r ih =>
    by_cases hk : k' = k
    · simp [kvGet, hk] at e; subst e; exact ⟨v', by simp [valueAt, hk], a⟩
    · have : kvGet ks k = some p := by simpa [kvGet, List.find?_cons, hk] using e
      obtain ⟨v, h1, h2⟩ := ih this
      exact ⟨v, by simpa [valueAt, List.find?_cons, hk] using h1, h2⟩
theorem DR.none (r : DR h H xs ks) (e : kvGet ks k = Option.none) : valueAt xs k = Option.none := by
  induction r with
  | nil => rfl
  | @cons k' v' p' xs ks a r ih =>
    by_cases hk : k' = k
    · simp [kvGet, hk] at e
    · have : kvGet ks k = Option.none := by simpa [kvGet, List.find?_cons, hk] using e
      simpa [valueAt, List.find?_cons, hk] using ih this
theorem DR.isSome (r : DR h H xs ks) : (valueAt xs k).isSome = (kvGet ks k).isSome := by
  cases e : kvGet ks k with
  | none => rw [r.none e]; rfl
  | some p => obtain ⟨v, hv, _⟩ := r.get e; rw [hv]; rfl
theorem DR.append {ys : List (α × Value)} {ls : List (α × PV)} (r : DR h H xs ks) (r2 : DR h H ys ls) : DR h H (xs ++ ys) (ks ++ ls) := by
  induction r with
  | nil => exact r2
  | cons a _ ih => exact .cons a ih
theorem DR.put (r : DR h H xs ks) (rv : R h H v p) : DR h H (stored xs k v) (kvPut ks k p) := by
  have any : (xs.any fun kv => decide (kv.1 = k)) = (ks.any fun kv => decide (kv.1 = k)) := by
    induction r with
    | nil => rfl
    | cons _ _ ih => simp [ih]
  unfold stored kvPut
  rw [any]
  split
  · clear any
    rename_i q; clear q
    induction r with
    | nil => exact .nil
    | @cons k' v' p' xs ks a r ih =>
      by_cases hk : k' = k
      · subst hk; simp only [List.map_cons, if_true]; exact .cons rv ih
      · simp only [List.map_cons, if_neg hk]; exact .cons a ih
  · exact r.append (.cons rv .nil)
theorem DR.del (r : DR h H xs ks) : DR h H (without xs k) (kvDel ks k) := by
  unfold without kvDel
  induction r with
  | nil => exact .nil
  | @cons k' v' p' xs ks a r ih =>
    by_cases hk : k' = k
    · simp only [List.filter_cons, ne_eq, hk, not_true_eq_false, decide_false, Bool.false_eq_true, if_false]; exact ih
    · simp only [List.filter_cons, ne_eq, hk, not_false_eq_true, decide_true, if_true]; exact .cons a ih
end

def isK : PV → Bool
  | .int _ => true
  | .str _ => true
  | _ => false
def kOf : PV → Key
  | .int n => .i n
  | .str x => .s x
  | _ => .i 0
theorem is_kOf {h : Heap} {H : Store} {v : Value} {p : PV} (r : R h H v p) (k : isK p = true) : Key.is (kOf p) v = true := by
  cases r <;> simp [isK] at k
  · simp [Key.is, kOf, Value.isInt]
  · simp [Key.is, kOf, Value.isStrOf]
theorem part_kOf {h : Heap} {H : Store} {v : Value} {p : PV} (r : R h H v p) (k : isK p = true) : (keyPart v).isSome = true := by
  cases r <;> simp [isK] at k <;> rfl
theorem items_kOf {prog : Program} {w : World} {h : Heap} {H : Store} {vs : List Value} {ps : List PV} (r : RL h H vs ps) (k : ps.all isK = true) : ItemsAre (mixKind prog w) (ps.map kOf) vs := by
  induction vs generalizing ps with
  | nil => cases r; exact .nil
  | cons v vs ih =>
    cases r with
    | cons a r =>
      simp only [List.all_cons, Bool.and_eq_true] at k
      exact .cons (is_kOf a k.1) (ih r k.2)
theorem tupKey {prog : Program} {w : World} {h : Heap} {H : Store} {a : Addr} {ps : List PV} (r : R h H (.ref a) (.tup ps)) (k : ps.all isK = true) : (tupleKind (mixKind prog w)).is h (ps.map kOf) a := by
  cases r with
  | tup h1 h2 h3 =>
    obtain ⟨o, ho, hc, n, hd⟩ := h1
    exact ⟨o, _, n, ho, hc, hd, by simpa using items_kOf h3 k⟩
theorem tupRef {h : Heap} {H : Store} {v : Value} {ps : List PV} (r : R h H v (.tup ps)) : ∃ a, v = .ref a ∧ H a = none := by
  cases r with
  | tup h1 h2 h3 => exact ⟨_, rfl, h2⟩

section
variable {c : Cx} {σ : Loc} {H : Store} {Q : PV → Store → Prop} {mg mb : Str → Option Value} {prog : Program}

theorem Act.modules {s : Shared} (G : Gl prog c.B mg mb) (F : Act c σ H s.heap) {d : Addr} {mo : MO} (e : H d = some mo) : (d == sysModules) = false :=
  beq_eq_false_iff_ne.mpr (Nat.ne_of_gt (Nat.lt_of_lt_of_le (modules_low G.nolimit) (F.st d mo e).2.2.1))

theorem Act.dct {s : Shared} (F : Act c σ H s.heap) {d : Addr} {kvs : List (Key × PV)} (e : H d = some (.dct kvs)) :
    ∃ xs, s.heap.DictOf (mixKind c.prog c.w) d xs ∧ DR s.heap H xs kvs ∧ ∀ (h' : Heap) xs' kvs', h'.DictOf (mixKind c.prog c.w) d xs' → Heap.SameBut d s.heap h' → DR s.heap H xs' kvs' →
      Act c σ (upd H d (.dct kvs')) h' ∧ Kp (Xe c.env) s.heap H h' (upd H d (.dct kvs')) := by
  obtain ⟨⟨xs, hx, r⟩, _⟩ := F.st d _ e
  refine ⟨xs, hx, r, fun h' xs' kvs' hx' hs r' => ⟨F.put e hs ⟨xs', hx', r'.keep fun b o e' v n => ?_⟩, Act.kPut e hs _⟩⟩
  exact Act.kPut (H := H) e hs (fun _ => False) b o e' n (fun x => x)

theorem i_dct {d : Addr} {kvs : List (Key × PV)} {k p : PV} (e : H d = some (.dct kvs)) (ik : isK k = true) (g : kvGet kvs (kOf k) = some p) (q : Q p H) : Item c σ H (.ref d) k Q := fun s vo vi F ro ri => by
  cases ro
  obtain ⟨xs, hx, r, _⟩ := F.dct e
  obtain ⟨v, hv, rv⟩ := r.get g
  exact ⟨"dict", _, hx.typeIs, slot_dict_getitem.lookup, wpAny_getItem_of (is_kOf ri ik) hx.mapOf hv (fin F.tok ⟨_, rfl⟩ rv q)⟩

theorem c_in_dct {d : Addr} {kvs : List (Key × PV)} {k : PV} (G : Gl prog c.B mg mb) (e : H d = some (.dct kvs)) (ik : isK k = true) (q : Q (.bool (kvGet kvs (kOf k)).isSome) H) : O2 c σ H k (.ref d) (compareOp .In) Q := fun s vo vi F ro ri => by
  cases ri
  obtain ⟨xs, hx, r, _⟩ := F.dct e
  refine wpAny_in_of (is_kOf ro ik) (F.modules G e) hx.mapOf (fin F.tok ⟨_, rfl⟩ ?_ q)
  rw [r.isSome]; exact .bool _
theorem c_notin_dct {d : Addr} {kvs : List (Key × PV)} {k : PV} (G : Gl prog c.B mg mb) (e : H d = some (.dct kvs)) (ik : isK k = true) (q : Q (.bool (!(kvGet kvs (kOf k)).isSome)) H) : O2 c σ H k (.ref d) (compareOp .NotIn) Q := fun s vo vi F ro ri => by
  cases ri
  obtain ⟨xs, hx, r, _⟩ := F.dct e
  refine wpAny_notIn_of (is_kOf ro ik) (F.modules G e) hx.mapOf (fin F.tok ⟨_, rfl⟩ ?_ q)
  rw [r.isSome]; exact .bool _

theorem hasDct {d : Addr} {kvs : List (Key × PV)} (e : H d = some (.dct kvs)) : HasT c σ H "dict" (.ref d) := fun s v F r => by
  cases r
  obtain ⟨xs, ⟨o, es, ep, ho, hc, _⟩, _⟩ := F.dct e
  exact ⟨⟨o, ho, hc.1⟩, fun a ea => by cases ea; exact ⟨o, ho, hc.2.1⟩⟩
theorem hasTdct {d : Addr} {kvs : List (List Key × PV)} (e : H d = some (.tdct kvs)) : HasT c σ H "dict" (.ref d) := fun s v F r => by
  cases r
  obtain ⟨⟨xs, ⟨o, es, ep, ho, hc, _⟩, _⟩, _⟩ := F.st d _ e
  exact ⟨⟨o, ho, hc.1⟩, fun a ea => by cases ea; exact ⟨o, ho, hc.2.1⟩⟩

theorem k_len_dct {d : Addr} {kvs : List (Key × PV)} (G : Gl prog c.B mg mb) (e : H d = some (.dct kvs)) (sz : kvs.length ≤ sizeLine) (q : Q (.int kvs.length) H) : CallO c σ H (.builtin "len") [.ref d] Q := fun s vs F r => by
  cases r with
  | cons r1 r2 =>
    cases r2; cases r1
    obtain ⟨xs, hx, r, _⟩ := F.dct e
    rw [sizeLine_eq] at sz
    refine call_len_dict (F.modules G e) hx (by rw [r.length]; omega) (fin F.tok ⟨_, rfl⟩ ?_ q)
    rw [r.length]; exact .int _ _

/-- pop of a key that is there -/
theorem k_dpop {d : Addr} {kvs : List (Key × PV)} {k p : PV} {more : List PV} (hm : more = [] ∨ ∃ x, more = [x]) (e : H d = some (.dct kvs)) (ik : isK k = true) (g : kvGet kvs (kOf k) = some p) (sz : kvs.length ≤ sizeLine) (q : Q p (upd H d (.dct (kvDel kvs (kOf k))))) :
    CallO c σ H (.builtin "dict.pop") (.ref d :: k :: more) Q := fun s vs F r => by
  cases r with
  | cons r1 r2 =>
    cases r2 with
    | @cons vk us _ _ rk r3 =>
      cases r1
      obtain ⟨xs, hx, r, put⟩ := F.dct e
      obtain ⟨v, hv, rv⟩ := r.get g
      have hu : us = [] ∨ ∃ dflt, us = [dflt] := by
        rcases hm with rfl | ⟨x, rfl⟩
        · cases r3; exact .inl rfl
        · cases r3 with | cons _ r4 => cases r4; exact .inr ⟨_, rfl⟩
      refine call_meetsIn PySem.F.slot_dict_pop hx.typeIs PySem.F.entry_dict_pop ?_ (meets_dict_pop_there (mixKind c.prog c.w) d (is_kOf rk ik) us hu (part_kOf rk ik)) ⟨xs, v, hx, by rw [r.length]; exact sz, hv, fun h' hx' hs => ?_⟩
      · rcases hu with rfl | ⟨dflt, rfl⟩
        · exact PySem.F.args_dict_pop_2 _ _
        · exact PySem.F.args_dict_pop_3 _ _ _
      · obtain ⟨F2, k2⟩ := put h' _ _ hx' hs (r.del)
        exact ⟨p, _, ⟨_, _, rfl⟩, k2, F2, F.keepR k2 rv, q⟩

/-- pop of a key that is not there -/
theorem k_dpop_none {d : Addr} {kvs : List (Key × PV)} {k p : PV} (G : Gl prog c.B mg mb) (e : H d = some (.dct kvs)) (ik : isK k = true) (g : kvGet kvs (kOf k) = none) (q : Q p H) :
    CallO c σ H (.builtin "dict.pop") [.ref d, k, p] Q := fun s vs F r => by
  cases r with
  | cons r1 r2 =>
    cases r2 with
    | cons rk r3 =>
      cases r3 with
      | cons rp r4 =>
        cases r4; cases r1
        obtain ⟨xs, hx, r, put⟩ := F.dct e
        exact call_meetsIn PySem.F.slot_dict_pop hx.typeIs PySem.F.entry_dict_pop (PySem.F.args_dict_pop_3 _ _ _) (meets_dict_pop_default (mixKind c.prog c.w) d (is_kOf rk ik) (F.modules G e) (part_kOf rk ik) _)
          ⟨xs, hx, r.none g, fin F.tok ⟨_, rfl⟩ rp q⟩

/-- a new dict -/
theorem Act.dctNew {s : Shared} (F : Act c σ H s.heap) {h' : Heap} {xs : List (Key × Value)} {kvs : List (Key × PV)} (hx : h'.DictOf (mixKind c.prog c.w) s.heap.objs.size xs) (r : DR s.heap H xs kvs)
    (k : ∀ b o, s.heap.get? b = some o → h'.get? b = some o) : Act c σ (upd H s.heap.objs.size (.dct kvs)) h' ∧ Kp (Xe c.env) s.heap H h' (upd H s.heap.objs.size (.dct kvs)) := by
  refine ⟨F.add (Nat.le_refl _) k ⟨xs, hx, r.keep fun b o e _ n => ⟨k b o e, ?_⟩⟩, Act.kAdd (get?_size _) k _⟩
  rw [upd_ne (Nat.ne_of_lt (Heap.lt_size e))]; exact n

theorem e_dict0 {pos : Pos} (q : ∀ d, H d = none → Q (.ref d) (upd H d (.dct []))) : EvO c (eval (.Dict [] [] pos) c.env) σ H Q := fun s F => wpAny_Dict_empty (by
  obtain ⟨F2, k2⟩ := F.dctNew (h' := s.heap.push { cls := .type "dict", data := .dict #[] }) (xs := []) (kvs := []) ⟨_, #[], 0, Heap.get?_push_size _ rfl, ⟨rfl, rfl, rfl⟩, rfl, fun _ he => by simp at he, Pairs.nil, List.nodup_nil⟩ .nil fun b o e => Heap.get?_push_of_some _ e
  exact ⟨_, _, ⟨_, _, rfl⟩, k2, F2, .ref _, q _ (F.fresh (get?_size _))⟩)
theorem e_tdict0 {pos : Pos} (q : ∀ d, H d = none → Q (.ref d) (upd H d (.tdct []))) : EvO c (eval (.Dict [] [] pos) c.env) σ H Q := fun s F => wpAny_Dict_empty (by
  have k : ∀ b o, s.heap.get? b = some o → (s.heap.push { cls := .type "dict", data := .dict #[] }).get? b = some o := fun b o e => Heap.get?_push_of_some _ e
  have F2 := F.add (mo := .tdct []) (Nat.le_refl _) k ⟨[], Heap.DictOfH.new _, .nil, fun _ hx => nomatch hx⟩
  exact ⟨_, _, ⟨_, _, rfl⟩, Act.kAdd (get?_size _) k _, F2, .ref _, q _ (F.fresh (get?_size _))⟩)

theorem e_dict3 {x1 x2 x3 y1 y2 y3 : Str} {n1 n2 n3 m1 m2 m3 : Nat} {p1 p2 p3 q1 q2 q3 pos : Pos} (nd : [x1, x2, x3].Nodup)
    (q : ∀ d, H d = none → Q (.ref d) (upd H d (.dct [(.s x1, .str y1), (.s x2, .str y2), (.s x3, .str y3)]))) :
    EvO c (eval (.Dict [some (.Constant (.str x1) n1 p1), some (.Constant (.str x2) n2 p2), some (.Constant (.str x3) n3 p3)] [.Constant (.str y1) m1 q1, .Constant (.str y2) m2 q2, .Constant (.str y3) m3 q3] pos) c.env) σ H Q := fun s F =>
  wpAny_Dict_walk (knd := mixKind c.prog c.w) rfl rfl (by simp) (by simp) (pairTrees_cons_walk (Constant_str (Constant_str (pairTrees_cons_walk (Constant_str (Constant_str (pairTrees_cons_walk (Constant_str (Constant_str (pairTrees_nil_walk (by
    refine ⟨[(.s x1, .str y1 _), (.s x2, .str y2 _), (.s x3, .str y3 _)], ⟨by simp [mixKind, Key.is, Value.isStrOf], rfl, by simp [mixKind, Key.is, Value.isStrOf], rfl, by simp [mixKind, Key.is, Value.isStrOf], rfl, trivial⟩,
      ⟨_, #[], 0, Heap.get?_push_size _ rfl, ⟨rfl, rfl, rfl⟩, rfl, fun _ he => by simp at he, Pairs.nil, List.nodup_nil⟩, fun h' hx hs => ?_⟩
    rw [merged_nil_of_nodup _ (by simpa using nd)] at hx
    obtain ⟨F2, k2⟩ := F.dctNew hx (.cons (.str y1 _) (.cons (.str y2 _) (.cons (.str y3 _) .nil))) fun b o e => (hs.2 b (Nat.ne_of_lt (Heap.lt_size e))).trans (Heap.get?_push_of_some _ e)
    exact ⟨_, _, ⟨_, _, rfl⟩, k2, F2, .ref _, q _ (F.fresh (get?_size _))⟩)))))))))))
end
end Mine

open PySem PySem.W PyProof.Rows PySem.Calls
set_option Elab.async false
set_option maxRecDepth 100000
set_option linter.unusedVariables false
set_option linter.unusedSectionVars false
namespace Mine

section
variable {prog : Program} {w : World} {A : Around} {E : Value → Shared → Prop} {s : Shared}

/-- setdefault, keys by value -/
theorem setDefault_pairs {K : Type} [DecidableEq K] {knd : KeyKind prog w K} {d : Addr} {kvs : List (K × Value)} {k : K} {key dflt : Value} {Q : Value → Shared → Prop} (hkey : knd.is k key = true) (hm : s.heap.DictOf knd d kvs)
    (h1 : ∀ v, valueAt kvs k = some v → Q v { s with toks := s.toks + 1 })
    (h2 : valueAt kvs k = none → ∀ h', h'.DictOf knd d (stored kvs k dflt) → Heap.SameBut d s.heap h' → Q dflt { s with heap := h', toks := s.toks + 1 })
    (hsz : kvs.length ≤ sizeLine) : wpAny (model prog w) A (dictSetDefault d key dflt) Q E s := by
  obtain ⟨o, es, ep, ho, hc, hd, hk, hp, hn⟩ := hm
  have hes : es.size ≤ sizeLine := by
    have e1 := hp.length
    have e2 : es.toList.length = es.size := by simp
    omega
  unfold dictSetDefault
  try with_reducible refine wpAny_holding ?_
  refine wpAny_bind (knd.pyHash hkey ?_)
  refine wpAny_bind (wpAny_dictFind_of (s := { s with toks := s.toks + 1 }) hkey ho hd hk ?_)
  have hidx : (es.findIdx? fun e => knd.is k e.key) = kvs.findIdx? fun kv => decide (kv.1 = k) := by
    rw [← hp.findIdx k]; obtain ⟨l⟩ := es; simp
  cases hi : es.findIdx? fun e => knd.is k e.key with
  | some i =>
    have hl : (es.toList.findIdx? fun e => knd.is k e.key) = some i := by rw [← hi]; obtain ⟨l⟩ := es; simp
    obtain ⟨e, he, _, hv⟩ := hp.at hl
    refine wpAny_bind (wpAny_dictEntries (s := { s with toks := s.toks + 1 }) ho hd ?_)
    have he' : es[i]? = some e := by obtain ⟨l⟩ := es; simpa using he
    rw [he']
    exact wpAny_bind (wpAny_rule (wpAny_pure (h1 _ hv)))
  | none =>
    have hnot : k ∉ kvs.map (·.1) := not_mem_of_findIdx_none (hidx ▸ hi)
    have hany : ¬ (kvs.any fun kv => decide (kv.1 = k)) = true := by
      rw [List.any_eq_true]; rintro ⟨kv, hkv, he⟩
      exact hnot (List.mem_map.mpr ⟨kv, hkv, of_decide_eq_true he⟩)
    have hnone : valueAt kvs k = none := by
      unfold valueAt
      rw [Option.map_eq_none_iff, List.find?_eq_none]
      intro x hx hc
      exact hany (List.any_eq_true.mpr ⟨x, hx, hc⟩)
    refine wpAny_bind (wpAny_rule (wpAny_bind (wpAny_updateDictKeys (hz := hes) (s := { s with toks := s.toks + 1 }) ho hd (wpAny_pure (h2 hnone _ ⟨_, _, ep + 1, Heap.get?_update_self _ ho (Obj.isFreed_of_dict (Obj.data_mapDictKeys hd _)),
      hc.mapDictKeys _, Obj.data_mapDictKeys hd _, hk.push hkey _, ?_, ?_⟩ (Heap.SameBut.update ..))))))
    · rw [stored, if_neg hany]
      have := hp.append hkey (knd.hash k) dflt
      obtain ⟨l⟩ := es
      simpa using this
    · rw [stored, if_neg hany, List.map_append, List.nodup_append]
      refine ⟨hn, by simp, ?_⟩
      intro a ha b hb
      simp only [List.map_cons, List.map_nil, List.mem_singleton] at hb
      subst hb
      exact fun e => hnot (e ▸ ha)

/-- setdefault, keys that are tuples -/
theorem setDefault_heap {K : Type} [DecidableEq K] {knd : HeapKind prog w K} {d a : Addr} {xs : List (K × Addr × Value)} {k : K} {dflt : Value} {Q : Value → Shared → Prop} (hu : knd.room A) (hkey : knd.is s.heap k a) (hm : s.heap.DictOfH knd d xs)
    (h1 : ∀ p, atKey xs k = some p → Q p.2 { s with toks := s.toks + knd.draws k })
    (h2 : atKey xs k = none → ∀ h', h'.DictOfH knd d (storedH xs k a dflt) → Heap.SameBut d s.heap h' → Q dflt { s with heap := h', toks := s.toks + knd.draws k })
    (hsz : xs.length ≤ sizeLine) : wpAny (model prog w) A (dictSetDefault d (.ref a) dflt) Q E s := by
  obtain ⟨o, es, ep, ho, hc, hd, he, his, hn⟩ := hm
  unfold dictSetDefault
  try with_reducible refine wpAny_holding ?_
  refine wpAny_bind (knd.pyHash hu hkey ?_)
  refine wpAny_bind (wpAny_dictFind_heap (s := { s with toks := s.toks + knd.draws k }) hu hkey ho hd he his hn ?_ ?_)
  · intro hno
    have hnot : k ∉ xs.map (·.1) := not_mem_keys_of_get hno
    have hnone := atKey_none_of_get hno
    refine wpAny_bind (wpAny_rule (wpAny_bind (wpAny_updateDictKeys (hz := by have e := size_of_entries he; omega) (s := { s with toks := s.toks + knd.draws k }) ho hd (wpAny_pure (h2 hnone _ ⟨_, _, ep + 1, Heap.get?_update_self _ ho (Obj.isFreed_of_dict (Obj.data_mapDictKeys hd _)),
      hc.mapDictKeys _, Obj.data_mapDictKeys hd _, ?_, ?_, ?_⟩ (Heap.SameBut.update ..))))))
    · rw [storedH_new hnone]
      simp [he, entryOfKey]
    · rw [storedH_new hnone]
      intro x hx
      rcases List.mem_append.mp hx with hx | hx
      · exact knd.keeps (his x hx) ho hd (Heap.SameBut.update ..)
      · simp only [List.mem_singleton] at hx
        subst hx
        exact knd.keeps hkey ho hd (Heap.SameBut.update ..)
    · rw [storedH_new hnone, List.map_append, List.nodup_append]
      refine ⟨hn, by simp, ?_⟩
      intro x hx y hy
      simp only [List.map_cons, List.map_nil, List.mem_singleton] at hy
      subst hy
      exact fun e => hnot (e ▸ hx)
  · intro j p hj
    refine wpAny_bind (wpAny_dictEntries (s := { s with toks := s.toks + knd.draws k }) ho hd ?_)
    rw [entry_at he j, hj]
    exact wpAny_bind (wpAny_rule (wpAny_pure (h1 p (atKey_of_get hn hj))))

theorem call_setDefault {d : Addr} {key dflt : Value} {Q : Value → Shared → Prop} (hT : s.TypeIs (.ref d) "dict") (hd : (d == sysModules) = false)
    (h : wpAny (model prog w) A.in1 (dictSetDefault d key dflt) Q E s) : wpAny (model prog w) A (call (.builtin "dict.setdefault") [.ref d, key, dflt]) Q E s := by
  refine call_meetsIn (S := fun A' R s' => s'.TypeIs (.ref d) "dict" ∧ wpAny (model prog w) A'.in1 (dictSetDefault d key dflt) (fun v s'' => R (.ok (.ret v)) s'') (fun e s'' => R (.error e) s'') s') PySem.F.slot_dict_setdefault hT PySem.F.entry_dict_setdefault (PySem.F.args_dict_setdefault_3 _ _ _) ?_
    ⟨hT, wpAny_mono h (fun v s' q => q) fun e s' q => q⟩
  refine .of_wp fun A R s ⟨hT, h⟩ => ?_
  unfold Builtin.«dict.setdefault»
  refine wpAny_bind ?_
  unfold Builtin.Dict.keyAndDefault
  refine wpAny_bind (wpAny_notOrdered_dict hT ?_)
  show wpAny _ _ (pure (d, key, some dflt)) _ _ s
  refine wpAny_pure ?_
  show wpAny _ _ (if (d == sysModules) = true then _ else (dictSetDefault d key dflt >>= _)) _ _ s
  rw [if_neg (by rw [hd]; exact Bool.false_ne_true)]
  exact wpAny_bind (wpAny_mono h (fun v s' q => wpAny_pure ⟨v, rfl, q⟩) fun e s' q => q)

theorem valueAt_map {K : Type} [DecidableEq K] (xs : List (K × Addr × Value)) (k : K) : valueAt (xs.map fun x => (x.1, x.2.2)) k = (atKey xs k).map (·.2) := by
  unfold valueAt atKey
  induction xs with
  | nil => rfl
  | cons x xs ih =>
    by_cases hk : x.1 = k
    · simp [hk]
    · simp only [List.map_cons, List.find?_cons, hk, decide_false]
      exact ih
theorem storedH_map {K : Type} [DecidableEq K] (xs : List (K × Addr × Value)) (k : K) (a : Addr) (v : Value) : (storedH xs k a v).map (fun x => (x.1, x.2.2)) = stored (xs.map fun x => (x.1, x.2.2)) k v := by
  have hs : (atKey xs k).isSome = ((xs.map fun x => (x.1, x.2.2)).any fun kv => decide (kv.1 = k)) := by
    unfold atKey
    induction xs with
    | nil => rfl
    | cons x xs ih =>
      by_cases hk : x.1 = k
      · simp [hk]
      · simp only [List.map_cons, List.find?_cons, hk, decide_false, List.any_cons, Bool.false_or]
        exact ih
  unfold storedH stored
  rw [hs]
  split
  · clear hs
    rename_i q; clear q
    induction xs with
    | nil => rfl
    | cons x xs ih =>
      simp only [List.map_cons, ih]
      congr 1
      unfold putAt
      split <;> rfl
  · simp
theorem storedH_adr {K : Type} [DecidableEq K] {xs : List (K × Addr × Value)} {k : K} {a : Addr} {v : Value} {P : Addr → Prop} (h : ∀ x ∈ xs, P x.2.1) (ha : P a) : ∀ x ∈ storedH xs k a v, P x.2.1 := by
  intro x hx
  unfold storedH at hx
  split at hx
  · obtain ⟨y, hy, rfl⟩ := List.mem_map.mp hx
    unfold putAt
    split <;> exact h y hy
  · rcases List.mem_append.mp hx with hx | hx
    · exact h x hx
    · simp only [List.mem_singleton] at hx; subst hx; exact ha
end

section
variable {c : Cx} {σ : Loc} {H : Store} {Q : PV → Store → Prop} {mg mb : Str → Option Value} {prog : Program}

theorem k_dsetdef {d : Addr} {kvs : List (Key × PV)} {k p : PV} (G : Gl prog c.B mg mb) (e : H d = some (.dct kvs)) (ik : isK k = true) (sz : kvs.length ≤ sizeLine)
    (q : match kvGet kvs (kOf k) with | some x => Q x H | none => Q p (upd H d (.dct (kvPut kvs (kOf k) p)))) : CallO c σ H (.builtin "dict.setdefault") [.ref d, k, p] Q := fun s vs F r => by
  cases r with
  | cons r1 r2 =>
    cases r2 with
    | cons rk r3 =>
      cases r3 with
      | cons rp r4 =>
        cases r4; cases r1
        obtain ⟨xs, hx, r, put⟩ := F.dct e
        refine call_setDefault hx.typeIs (F.modules G e) (setDefault_pairs (is_kOf rk ik) hx (fun v hv => ?_) (fun hn h' hx' hs => ?_) (by rw [r.length]; exact sz))
        · cases g : kvGet kvs (kOf k) with
          | none => rw [r.none g] at hv; cases hv
          | some x =>
            rw [g] at q
            obtain ⟨v', hv', rv⟩ := r.get g
            rw [hv] at hv'; cases hv'
            exact fin F.tok ⟨_, rfl⟩ rv q
        · cases g : kvGet kvs (kOf k) with
          | some x => obtain ⟨v', hv', rv⟩ := r.get g; rw [hn] at hv'; cases hv'
          | none =>
            rw [g] at q
            obtain ⟨F2, k2⟩ := put h' _ _ hx' hs (r.put rp)
            exact ⟨_, _, ⟨_, _, rfl⟩, k2, F2, F.keepR k2 rp, q⟩

theorem Act.tdct {s : Shared} (F : Act c σ H s.heap) {d : Addr} {kvs : List (List Key × PV)} (e : H d = some (.tdct kvs)) :
    ∃ xs, s.heap.DictOfH (tupleKind (mixKind c.prog c.w)) d xs ∧ DR s.heap H (xs.map fun x => (x.1, x.2.2)) kvs ∧ (∀ x ∈ xs, H x.2.1 = none) ∧
      ∀ (h' : Heap) xs' kvs', h'.DictOfH (tupleKind (mixKind c.prog c.w)) d xs' → Heap.SameBut d s.heap h' → DR s.heap H (xs'.map fun x => (x.1, x.2.2)) kvs' → (∀ x ∈ xs', H x.2.1 = none) →
      Act c σ (upd H d (.tdct kvs')) h' ∧ Kp (Xe c.env) s.heap H h' (upd H d (.tdct kvs')) := by
  obtain ⟨⟨xs, hx, r, hn⟩, _⟩ := F.st d _ e
  refine ⟨xs, hx, r, hn, fun h' xs' kvs' hx' hs r' hn' => ⟨F.put e hs ⟨xs', hx', r'.keep fun b o e' v n => ?_, fun x hx => ?_⟩, Act.kPut e hs _⟩⟩
  · exact Act.kPut (H := H) e hs (fun _ => False) b o e' n (fun x => x)
  · have := hn' x hx
    rw [upd_ne (by rintro h; rw [h, e] at this; cases this)]; exact this

theorem k_tsetdef {d : Addr} {kvs : List (List Key × PV)} {ps : List PV} {p : PV} (G : Gl prog c.B mg mb) (rm : Rm 1 c.A) (e : H d = some (.tdct kvs)) (ik : ps.all isK = true) (sz : kvs.length ≤ sizeLine)
    (q : match kvGet kvs (ps.map kOf) with | some x => Q x H | none => Q p (upd H d (.tdct (kvPut kvs (ps.map kOf) p)))) : CallO c σ H (.builtin "dict.setdefault") [.ref d, .tup ps, p] Q := fun s vs F r => by
  cases r with
  | cons r1 r2 =>
    cases r2 with
    | cons rk r3 =>
      cases r3 with
      | cons rp r4 =>
        cases r4; cases r1
        obtain ⟨xs, hx, r, hn, put⟩ := F.tdct e
        obtain ⟨a, rfl, ha⟩ := tupRef rk
        have hlen : xs.length = kvs.length := by simpa using r.length
        refine call_setDefault hx.typeIs (F.modules G e) (setDefault_heap (by have := rm.units; show c.A.units + 1 < cLine; omega) (tupKey rk ik) hx (fun v hv => ?_) (fun hn' h' hx' hs => ?_) (by rw [hlen]; exact sz))
        · have hv2 : valueAt (xs.map fun x => (x.1, x.2.2)) (ps.map kOf) = some v.2 := by rw [valueAt_map, hv]; rfl
          cases g : kvGet kvs (ps.map kOf) with
          | none => rw [r.none g] at hv2; cases hv2
          | some x =>
            rw [g] at q
            obtain ⟨v', hv', rv⟩ := r.get g
            rw [hv2] at hv'; cases hv'
            exact fin F.tok ⟨_, rfl⟩ rv q
        · have hv2 : valueAt (xs.map fun x => (x.1, x.2.2)) (ps.map kOf) = none := by rw [valueAt_map, hn']; rfl
          cases g : kvGet kvs (ps.map kOf) with
          | some x => obtain ⟨v', hv', rv⟩ := r.get g; rw [hv2] at hv'; cases hv'
          | none =>
            rw [g] at q
            obtain ⟨F2, k2⟩ := put h' _ _ hx' hs (by rw [storedH_map]; exact r.put rp) (storedH_adr (P := fun b => H b = none) hn ha)
            exact ⟨_, _, ⟨_, _, rfl⟩, k2, F2, F.keepR k2 rp, q⟩

theorem k_tget {d : Addr} {kvs : List (List Key × PV)} {ps : List PV} {p : PV} (G : Gl prog c.B mg mb) (rm : Rm 1 c.A) (e : H d = some (.tdct kvs)) (ik : ps.all isK = true)
    (q : Q ((kvGet kvs (ps.map kOf)).getD p) H) : CallO c σ H (.builtin "dict.get") [.ref d, .tup ps, p] Q := fun s vs F r => by
  cases r with
  | cons r1 r2 =>
    cases r2 with
    | cons rk r3 =>
      cases r3 with
      | @cons vp _ _ _ rp r4 =>
        cases r4; cases r1
        obtain ⟨xs, hx, r, hn, put⟩ := F.tdct e
        obtain ⟨a, rfl, ha⟩ := tupRef rk
        refine call_meetsIn PySem.F.slot_dict_get hx.typeIs PySem.F.entry_dict_get (PySem.F.args_dict_get_3 _ _ _) (meetsH_dict_get_default (tupleKind (mixKind c.prog c.w)) d a (F.modules G e) vp)
          ⟨by have := rm.units; show c.A.units + 1 < cLine; omega, _, xs, tupKey rk ik, hx, fin F.tok ⟨_, rfl⟩ ?_ q⟩
        have e1 := valueAt_map xs (ps.map kOf)
        cases g : kvGet kvs (ps.map kOf) with
        | none => rw [r.none g] at e1; rw [← e1]; exact rp
        | some x =>
          obtain ⟨v', hv', rv⟩ := r.get g
          rw [hv'] at e1
          rw [← e1]; exact rv
end
end Mine

open PySem PySem.W PyProof.Rows PySem.Calls
set_option Elab.async false
set_option maxRecDepth 100000
set_option linter.unusedVariables false
set_option linter.unusedSectionVars false
namespace Mine

section
variable {prog : Program} {w : World} {A : Around} {E : Value → Shared → Prop} {s : Shared}
theorem setItem_plain {l : Addr} {items : Array Value} {k : Int} {t : Tok} {v : Value} {Q : Unit → Shared → Prop} (hp : s.heap.PlainList l items)
    (h0 : 0 ≤ k) (hfit : k < 2 ^ 63) (hn : k < items.size)
    (hQ : ∀ h', h'.PlainList l (items.setIfInBounds k.toNat v) → Heap.SameBut l s.heap h' → Q () { s with heap := h' }) :
    wpAny (model prog w) A (setItem (.ref l) (.int k t) v) Q E s := by
  have hl := hp.isList
  obtain ⟨n, ho⟩ := hp
  unfold setItem
  try with_reducible refine wpAny_holding ?_
  first | refine wpAny_bind (wpAny_pure ?_) | skip
  refine wpAny_bind (wpAny_sequenceKey hl.typeIs (by decide) ?_)
  refine wpAny_bind (wpAny_callSpecial?_slot (name := Str.ofString "__setitem__") hl.typeIs PySem.slot_list_setitem
    (wpAny_call_entry PySem.slot_list_setitem hl.typeIs PySem.entry_list_setitem ?_ (args_list_setitem _ _ _)))
  show wpAny _ _ (Builtin.List.listSubscript? (.int k t) >>= _) _ _ s
  refine wpAny_bind (wpAny_listSubscript_int (fitsIndex_of h0 hfit) ?_)
  clear hfit
  obtain ⟨j, rfl⟩ := Int.eq_ofNat_of_zero_le h0
  have hj : j < items.size := by omega
  have hx' : items[j]? = some items[j] := Array.getElem?_eq_getElem hj
  show wpAny _ _ ((seqItemAt l j >>= fun r => pure (r.map (j, ·))) >>= _) _ _ s
  refine wpAny_bind (wpAny_bind (wpAny_seqItemAt ho rfl (wpAny_pure ?_)))
  rw [hx']
  show wpAny _ _ (setSeqItemAt l j v >>= _) _ _ s
  have hfin : (s.heap.update l (Obj.mapSeq (·.setIfInBounds j v))).PlainList l (items.setIfInBounds j v) := by
    refine ⟨n, ?_⟩
    rw [Heap.get?_update_self _ ho (by rfl)]
    simp [Obj.mapSeq]
  refine wpAny_bind (wpAny_setSeqItemAt ho rfl ?_)
  first
    | exact wpAny_bind (wpAny_pure (wpAny_pure ⟨.none, rfl, wpAny_pure (hQ _ hfin (Heap.SameBut.update ..))⟩))
    | exact wpAny_pure ⟨.none, rfl, wpAny_pure (hQ _ hfin (Heap.SameBut.update ..))⟩
end

section
variable {c : Cx} {σ : Loc} {H : Store} {Q : PV → Store → Prop} {Qn : Loc → Store → Prop} {Qr : PV → Store → Prop} {mg mb : Str → Option Value} {prog : Program}

-- statements
theorem s_nil (q : Qn σ H) : SO c (execs [] c.env) σ H Qn Qr := fun s F => wpAny_execs_nil ⟨σ, H, Same.refl _, Kp.refl, F, q⟩
theorem s_cons {st : Stmt} {rest : List Stmt} (h : SO c (exec st c.env) σ H (fun σ' H' => SO c (execs rest c.env) σ' H' Qn Qr) Qr) : SO c (execs (st :: rest) c.env) σ H Qn Qr := fun s F =>
  wpAny_execs_cons (h.use F (fun σ' H' s' e k F' q => q.use F' (fun σ'' H'' s'' e' k' F'' q' => ⟨σ'', H'', e.trans e', k.trans k', F'', q'⟩) fun v p σ'' H'' s'' e' k' F'' r q' => ⟨σ'', H'', e.trans e', k.trans k', F'', p, r, q'⟩)
    fun v p σ' H' s' e k F' r q => ⟨σ', H', e, k, F', p, r, q⟩)

def isRef : PV → Bool
  | .ref _ => true
  | .tup _ => true
  | .lst _ => true
  | .rng _ => true
  | _ => false
theorem noRef {h : Heap} {H : Store} {v : Value} {p : PV} (r : R h H v p) (n : isRef p = false) : ∀ a, v ≠ .ref a := by
  intro a e; cases r <;> first | (simp [isRef] at n; done) | cases e
theorem s_expr {e : Expr} {pos : Pos} (h : EvO c (eval e c.env) σ H fun p H' => isRef p = false ∧ Qn σ H') (hi : interactive c.env = false := by rfl) (hs : swapsWith e none pos.line c.env = pure false := by rfl) :
    SO c (exec (.Expr e pos) c.env) σ H Qn Qr := fun s F => wpAny_Expr (h.use F fun v p H' s' e' k F' r q => by
      have n := noRef r q.1
      have fin : ∃ σ'' H'', Same s s' ∧ Kp (Xe c.env) s.heap H s'.heap H'' ∧ Act c σ'' H'' s'.heap ∧ Qn σ'' H'' := ⟨σ, H', e', k, F', q.2⟩
      cases v <;> first | exact fin | exact absurd rfl (n _)) hi hs
theorem s_return {e : Expr} {pos : Pos} (h : EvO c (eval e c.env) σ H Qr) : SO c (exec (.Return (some e) pos) c.env) σ H Qn Qr := fun s F =>
  wpAny_Return_some (h.use F fun v p H' s' e' k F' r q => ⟨σ, H', e', k, F', p, r, q⟩)
theorem s_if {t : Expr} {body orelse : List Stmt} {pos : Pos} (h : TsO c (isTrue t c.env (eval t c.env)) σ H fun b H' => if b = true then SO c (execs body c.env) σ H' Qn Qr else SO c (execs orelse c.env) σ H' Qn Qr) :
    SO c (exec (.If t body orelse pos) c.env) σ H Qn Qr := fun s F => wpAny_If (h.use F fun b b' H' s' e k F' r q => by
      cases r
      cases b with
      | true => exact SO.use (by simpa using q) F' (fun σ'' H'' s'' e' k' F'' q' => ⟨σ'', H'', e.trans e', k.trans k', F'', q'⟩) fun v p σ'' H'' s'' e' k' F'' r q' => ⟨σ'', H'', e.trans e', k.trans k', F'', p, r, q'⟩
      | false => exact SO.use (by simpa using q) F' (fun σ'' H'' s'' e' k' F'' q' => ⟨σ'', H'', e.trans e', k.trans k', F'', q'⟩) fun v p σ'' H'' s'' e' k' F'' r q' => ⟨σ'', H'', e.trans e', k.trans k', F'', p, r, q'⟩)

def isStor (k : Option NameKind) : Bool := match k with | some .local => true | some .cell => true | _ => false
theorem stName {x : Str} {p : PV} {v : Value} {s : Shared} {P : Unit → Shared → Prop} {E : Value → Shared → Prop} (F : Act c σ H s.heap) (r : R s.heap H v p) (hk : isStor (c.env.kindOf x) = true)
    (h : ∀ s', Same s s' → Kp (Xe c.env) s.heap H s'.heap H → Act c (bnd σ x p) H s'.heap → P () s') : wpAny (model c.prog c.w) c.A (storeName c.env x v) P E s := by
  have cases : c.env.kindOf x = some .local ∨ c.env.kindOf x = some .cell := by
    unfold isStor at hk
    split at hk <;> simp_all
  rcases cases with l | l
  · obtain ⟨m, hn, hv⟩ := F.loc
    refine wpAny_storeName_local l hn (fun h' hn' hs => h _ ⟨_, _, rfl⟩ (fun b o e n x => ⟨(hs.2 b fun q => x (.inl q)).trans e, n⟩) (F.setLocal l r hv hn' hs)) (by rw [F.fn]; rfl)
  · obtain ⟨a, ha⟩ := F.has x l
    obtain ⟨⟨v₀, hc⟩, _⟩ := F.own x a ha
    refine wpAny_storeName_cell F.fn l ha hc fun h' hn' hs => h _ ⟨h', s.toks, rfl⟩ (fun b o e n y => ⟨(hs.2 b fun q => y (.inr ⟨x, q ▸ ha⟩)).trans e, n⟩) (F.setCell l ha r hn' hs)

theorem s_assign {x : Str} {p pos : Pos} {value : Expr} (h : EvO c (eval value c.env) σ H fun q H' => Qn (bnd σ x q) H') (hk : isStor (c.env.kindOf x) = true := by rfl)
    (hs : swapsWith value (some (.Name x p)) pos.line c.env = pure false := by rfl) : SO c (exec (.Assign [.Name x p] value pos) c.env) σ H Qn Qr := fun s F =>
  wpAny_Assign_Name (h.use F fun v q H' s' e k F' r hq => stName F' r hk fun s'' e' k' F'' => ⟨_, H', e.trans e', k.trans k', F'', hq⟩) hs

/-- a store into an object -/
def SetO (c : Cx) (σ : Loc) (H : Store) (o i p : PV) (Q : Store → Prop) : Prop :=
  ∀ (s : Shared) (vo vi vp : Value), Act c σ H s.heap → R s.heap H vo o → R s.heap H vi i → R s.heap H vp p →
    wpAny (model c.prog c.w) c.A (setItem vo vi vp) (fun _ s' => ∃ H', Same s s' ∧ Kp (Xe c.env) s.heap H s'.heap H' ∧ Act c σ H' s'.heap ∧ Q H') (fun _ _ => False) s
theorem s_setitem {o i value : Expr} {p pos : Pos} (h : EvO c (eval value c.env) σ H fun x H₁ => EvO c (eval o c.env) σ H₁ fun y H₂ => EvO c (eval i c.env) σ H₂ fun z H₃ => SetO c σ H₃ y z x fun H₄ => Qn σ H₄)
    (hs : swapsWith value (some (.Subscript o i p)) pos.line c.env = pure false := by rfl) : SO c (exec (.Assign [.Subscript o i p] value pos) c.env) σ H Qn Qr := fun s F =>
  wpAny_Assign_Subscript (h.use F fun vx x H₁ s₁ e₁ k₁ F₁ r₁ q₁ => q₁.use F₁ fun vy y H₂ s₂ e₂ k₂ F₂ r₂ q₂ => q₂.use F₂ fun vz z H₃ s₃ e₃ k₃ F₃ r₃ q₃ =>
    wpAny_mono (q₃ s₃ vy vz vx F₃ (F₂.keepR k₃ r₂) r₃ (F₂.keepR k₃ (F₁.keepR k₂ r₁))) (fun _ s₄ ⟨H₄, e₄, k₄, F₄, q₄⟩ =>
      ⟨σ, H₄, ((e₁.trans e₂).trans e₃).trans e₄, ((k₁.trans k₂).trans k₃).trans k₄, F₄, q₄⟩) fun _ _ x => x) hs

theorem RL.set {h : Heap} {H : Store} {vs : List Value} {ds : List PV} (r : RL h H vs ds) {v : Value} {p : PV} (rv : R h H v p) (n : Nat) : RL h H (vs.set n v) (ds.set n p) := by
  induction vs generalizing ds n with
  | nil => cases r; simpa using RL.nil
  | cons u vs ih => cases r with | cons a r => cases n with
    | zero => exact .cons rv r
    | succ n => exact .cons a (ih r n)

theorem set_lst {a : Addr} {ds : List PV} {k : Int} {p : PV} {Q : Store → Prop} (e : H a = some (.lst ds)) (h0 : 0 ≤ k) (h1 : k < ds.length) (sz : ds.length ≤ sizeLine) (q : Q (upd H a (.lst (ds.set k.toNat p)))) : SetO c σ H (.ref a) (.int k) p Q := fun s vo vi vp F ro ri rp => by
  cases ro; cases ri
  obtain ⟨us, hl, ru, put⟩ := F.putList e
  rw [sizeLine_eq] at sz
  refine setItem_plain hl h0 (by omega) (by rw [List.size_toArray, ru.length]; exact h1) fun h' hl' hs => ?_
  obtain ⟨F2, k2⟩ := put h' (us.set k.toNat vp) _ (by simpa using hl') hs (ru.set rp _)
  exact ⟨_, ⟨_, _, rfl⟩, k2, F2, q⟩
theorem set_dct {d : Addr} {kvs : List (Key × PV)} {k p : PV} {Q : Store → Prop} (e : H d = some (.dct kvs)) (ik : isK k = true) (sz : kvs.length ≤ sizeLine) (q : Q (upd H d (.dct (kvPut kvs (kOf k) p)))) : SetO c σ H (.ref d) k p Q := fun s vo vi vp F ro ri rp => by
  cases ro
  obtain ⟨xs, hx, r, put⟩ := F.dct e
  refine wpAny_setItem_pairs (is_kOf ri ik) hx (fun h' hx' hs => ?_) (by rw [r.length]; exact sz)
  obtain ⟨F2, k2⟩ := put h' _ _ hx' hs (r.put rp)
  exact ⟨_, ⟨_, _, rfl⟩, k2, F2, q⟩
theorem set_tdct {d : Addr} {kvs : List (List Key × PV)} {ps : List PV} {p : PV} {Q : Store → Prop} (rm : Rm 1 c.A) (e : H d = some (.tdct kvs)) (ik : ps.all isK = true) (sz : kvs.length ≤ sizeLine) (q : Q (upd H d (.tdct (kvPut kvs (ps.map kOf) p)))) :
    SetO c σ H (.ref d) (.tup ps) p Q := fun s vo vi vp F ro ri rp => by
  cases ro
  obtain ⟨xs, hx, r, hn, put⟩ := F.tdct e
  obtain ⟨a, rfl, ha⟩ := tupRef ri
  have hlen : xs.length = kvs.length := by simpa using r.length
  refine wpAny_setItem_heap (by have := rm.units; show c.A.units + 1 < cLine; omega) (tupKey ri ik) hx (fun h' hx' hs => ?_) (by rw [hlen]; exact sz)
  obtain ⟨F2, k2⟩ := put h' _ _ hx' hs (by rw [storedH_map]; exact r.put rp) (storedH_adr (P := fun b => H b = none) hn ha)
  exact ⟨_, ⟨_, _, rfl⟩, k2, F2, q⟩

-- unpacking
def UsO (c : Cx) (ts : List (Value → Sem Unit)) (ps : List PV) (σ : Loc) (H : Store) (Q : Loc → Store → Prop) : Prop :=
  ∀ (s : Shared) (vs : List Value), Act c σ H s.heap → RL s.heap H vs ps →
    wpAny (model c.prog c.w) c.A (assignInOrder ts vs) (fun _ s' => ∃ σ' H', Same s s' ∧ Kp (Xe c.env) s.heap H s'.heap H' ∧ Act c σ' H' s'.heap ∧ Q σ' H') (fun _ _ => False) s
theorem us_nil (q : Qn σ H) : UsO c [] [] σ H Qn := fun s vs F r => by
  cases r; exact wpAny_pure ⟨σ, H, Same.refl _, Kp.refl, F, q⟩
theorem us_cons {t : Value → Sem Unit} {ts : List (Value → Sem Unit)} {p : PV} {ps : List PV} (h : UO c t p σ H fun σ' H' => UsO c ts ps σ' H' Qn) : UsO c (t :: ts) (p :: ps) σ H Qn := fun s vs F r => by
  cases r with
  | cons a r =>
    rename_i v vs
    show wpAny _ _ (holding vs (t v) >>= fun _ => assignInOrder ts vs) _ _ s
    refine wpAny_bind (wpAny_holding (h.use F a fun σ' H' s' e k F' q => wpAny_mono (q s' vs F' (F.keepRL k r)) (fun _ s'' ⟨σ'', H'', e', k', F'', q'⟩ => ⟨σ'', H'', e.trans e', k.trans k', F'', q'⟩) fun _ _ x => x))
theorem u_name {x : Str} {p : PV} {pos : Pos} (q : Qn (bnd σ x p) H) (hk : isStor (c.env.kindOf x) = true := by rfl) : UO c (assign (.Name x pos) c.env) p σ H Qn := fun s v F r =>
  PyProof.Rows.assign_Name (stName F r hk fun s' e k F' => ⟨_, H, e, k, F', q⟩)

theorem Act.extBut {s : Shared} {h' : Heap} (F : Act c σ H s.heap) (hs : Heap.ExtBut s.heap.objs.size s.heap h') : Act c σ H h' ∧ Kp (Xe c.env) s.heap H h' H := by
  have k : ∀ b o, s.heap.get? b = some o → h'.get? b = some o := fun b o e => hs b o (Nat.ne_of_lt (Heap.lt_size e)) e
  exact ⟨F.grow k, fun b o e n _ => ⟨k b o e, n⟩⟩
theorem u_tup {elts : List Expr} {k : Nat} {pos : Pos} {ps : List PV} (hh : c.A.handled = none) (h : UsO c ((assignEach elts c.env).map (·.2)) ps σ H Qn) (hl : (assignEach elts c.env).length = ps.length)
    (hstar : (assignEach elts c.env).findIdx? (·.1) = none := by rfl) : UO c (assign (.Tuple elts k pos) c.env) (.tup ps) σ H Qn := fun s v F r => by
  cases r with
  | @tup a vs _ ht hn r =>
    rw [PyProof.Rows.assign_Tuple]
    refine wpAny_bind (wpAny_standAt (unpack_tuple hh ht (by rw [hl, List.size_toArray, r.length]) hstar fun h' hs => ?_))
    obtain ⟨F2, k2⟩ := F.extBut hs
    exact wpAny_mono (h { s with heap := h' } vs F2 (F.keepRL k2 r)) (fun _ s'' ⟨σ'', H'', e', k', F'', q'⟩ => ⟨σ'', H'', Same.trans ⟨_, _, rfl⟩ e', k2.trans k', F'', q'⟩) fun _ _ x => x
theorem s_unpack {elts : List Expr} {k : Nat} {tpos pos : Pos} {value : Expr} (h : EvO c (eval value c.env) σ H fun p H' => UO c (assign (.Tuple elts k tpos) c.env) p σ H' Qn)
    (hs : swapsWithSole [.Tuple elts k tpos] value pos.line c.env = pure false := by rfl) (hw : swappedStores [.Tuple elts k tpos] value c.env = pure none := by rfl) :
    SO c (exec (.Assign [.Tuple elts k tpos] value pos) c.env) σ H Qn Qr := fun s F =>
  Assign_Tuple (h.use F fun v p H' s' e k F' r q => q.use F' r fun σ'' H'' s'' e' k' F'' q' => ⟨σ'', H'', e.trans e', k.trans k', F'', q'⟩) hs hw
/-- two names at once: the stores stand from behind -/
theorem s_swap {elts : List Expr} {k : Nat} {tpos pos : Pos} {value : Expr} {x y : Str} (hh : c.A.handled = none)
    (h : EvO c (eval value c.env) σ H fun p H' => ∃ a b, p = .tup [a, b] ∧ Qn (bnd (bnd σ y b) x a) H')
    (hw : swappedStores [.Tuple elts k tpos] value c.env = pure (some [x, y]) := by rfl) (hx : isStor (c.env.kindOf x) = true := by rfl) (hy : isStor (c.env.kindOf y) = true := by rfl)
    (hs : swapsWithSole [.Tuple elts k tpos] value pos.line c.env = pure false := by rfl) :
    SO c (exec (.Assign [.Tuple elts k tpos] value pos) c.env) σ H Qn Qr := fun s F =>
  Assign_Tuple_swapped (names := [x, y]) (h.use F fun v p H' s' e k F' r q => by
    obtain ⟨a, b, rfl, q⟩ := q
    cases r with
    | @tup t vs _ ht hn r =>
      have hl : ([x, y] : List Str).length = vs.toArray.size := by rw [List.size_toArray, r.length]; rfl
      rw [hl]
      refine unpackItems_tuple hh ht fun h' hs => ?_
      obtain ⟨F2, k2⟩ := F'.extBut hs
      have r2 := F'.keepRL k2 r
      cases r2 with
      | @cons va _ _ _ ra r3 =>
        cases r3 with
        | @cons vb _ _ _ rb r4 =>
          cases r4
          show wpAny _ _ (assignInOrder [bindName c.env y, bindName c.env x] [vb, va]) _ _ _
          show wpAny _ _ (holding [va] (bindName c.env y vb) >>= fun _ => assignInOrder [bindName c.env x] [va]) _ _ _
          refine wpAny_bind (wpAny_holding (bindName_ (stName (s := { s' with heap := h' }) F2 rb hy fun s3 e3 k3 F3 => ?_)))
          show wpAny _ _ (holding [] (bindName c.env x va) >>= fun _ => assignInOrder [] []) _ _ _
          refine wpAny_bind (wpAny_holding (bindName_ (stName F3 (F2.keepR k3 ra) hx fun s4 e4 k4 F4 => ?_)))
          exact wpAny_pure ⟨_, H', (e.trans (Same.trans ⟨_, _, rfl⟩ e3)).trans e4, ((k.trans k2).trans k3).trans k4, F4, q⟩) hs hw
end
end Mine

open PySem PySem.W PyProof.Rows PySem.Calls
set_option Elab.async false
set_option maxRecDepth 100000
set_option linter.unusedVariables false
set_option linter.unusedSectionVars false
namespace Mine

def rngL (n : Int) : List PV := (List.range n.toNat).map fun (i : Nat) => PV.int (i : Int)

/-- what a for goes over -/
inductive Items : PV → List PV → Prop
  | lst (l : List PV) : Items (.lst l) l
  | tup (l : List PV) : Items (.tup l) l
  | rng (n : Int) (h0 : -(2 ^ 62) ≤ n) (h1 : n < 2 ^ 62) : Items (.rng n) (rngL n)

def STL (I a : Addr) (it : Array Value) (i : Nat) (h : Heap) : Prop := h.IsListIter I a i ∧ h.IsList a it
def STT (I a : Addr) (it : Array Value) (i : Nat) (h : Heap) : Prop := h.IsTupleIter I a i ∧ h.IsTuple a it

structure ItOK (prog : Program) (w : World) (A : Around) (s : Shared) (H : Store) (items : List PV) (I : Addr) (fp : List Addr) (P : Nat → Value → Prop) (St : Nat → Heap → Prop) : Prop where
  walk : Walks prog w A I fp [I] items.length P St
  fresh : s.heap.objs.size ≤ I
  stand : ∀ b ∈ fp, b = I ∨ (H b = none ∧ ∃ o, s.heap.get? b = some o ∧ IsV o)
  obj : ∀ i h, St i h → ∃ o T vs, h.get? I = some o ∧ o.cls = .type T ∧ o.data = .fields vs ∧ (T = "list_iterator" ∨ T = "tuple_iterator" ∨ T = "range_iterator")
  val : ∀ i v, i < items.length → P i v → ∃ d, items[i]? = some d ∧ R s.heap H v d

section
variable {c : Cx} {σ : Loc} {H : Store} {Q : PV → Store → Prop} {Qn : Loc → Store → Prop} {Qr : PV → Store → Prop} {mg mb : Str → Option Value} {prog : Program}

theorem iterStart {s : Shared} {v : Value} {p : PV} {items : List PV} {P : Value → Shared → Prop} {E : Value → Shared → Prop} (hh : c.A.handled = none) (F : Act c σ H s.heap) (r : R s.heap H v p) (it : Items p items)
    (k : ∀ I fp PP St s', Same s s' → (∀ b o, s.heap.get? b = some o → s'.heap.get? b = some o) → ItOK c.prog c.w c.A s H items I fp PP St → St 0 s'.heap → P (.ref I) s') : wpAny (model c.prog c.w) c.A (pyIter v) P E s := by
  cases it with
  | lst l =>
    cases r with
    | @lst a vs _ hl hn r =>
      have hne : a ≠ s.heap.objs.size := by obtain ⟨n, e⟩ := hl; exact Nat.ne_of_lt (Heap.lt_size e)
      refine wpAny_pyIter_list hl.isList (k s.heap.objs.size [s.heap.objs.size, a] (fun i v => vs.toArray[i]? = some v) (STL s.heap.objs.size a vs.toArray) _ ⟨_, s.toks, rfl⟩ (fun b o e => Heap.get?_push_of_some _ e) ⟨?_, Nat.le_refl _, ?_, ?_, ?_⟩ ⟨⟨_, Heap.get?_push_size _ rfl, rfl, rfl⟩, hl.isList.push _⟩)
      · have := Walks.list (prog := c.prog) (w := c.w) hh s.heap.objs.size a hne vs.toArray
        rw [show vs.toArray.size = items.length by simp [r.length]] at this; exact this
      · intro b hb
        simp only [List.mem_cons, List.not_mem_nil, or_false] at hb
        rcases hb with rfl | rfl
        · exact .inl rfl
        · obtain ⟨n, e⟩ := hl; exact .inr ⟨hn, _, e, trivial⟩
      · rintro i h ⟨⟨o, ho, hc, hd⟩, _⟩; exact ⟨o, _, _, ho, hc, hd, .inl rfl⟩
      · intro i v hi hv; exact r.get' (by simpa using hv)
  | tup l =>
    cases r with
    | @tup a vs _ hl hn r =>
      have hne : a ≠ s.heap.objs.size := by obtain ⟨o, e, _⟩ := hl; exact Nat.ne_of_lt (Heap.lt_size e)
      refine wpAny_pyIter_tuple hl (k s.heap.objs.size [s.heap.objs.size, a] (fun i v => vs.toArray[i]? = some v) (STT s.heap.objs.size a vs.toArray) _ ⟨_, s.toks, rfl⟩ (fun b o e => Heap.get?_push_of_some _ e) ⟨?_, Nat.le_refl _, ?_, ?_, ?_⟩ ⟨⟨_, Heap.get?_push_size _ rfl, rfl, rfl⟩, hl.push _⟩)
      · have := Walks.tuple (prog := c.prog) (w := c.w) hh s.heap.objs.size a hne vs.toArray
        rw [show vs.toArray.size = items.length by simp [r.length]] at this; exact this
      · intro b hb
        simp only [List.mem_cons, List.not_mem_nil, or_false] at hb
        rcases hb with rfl | rfl
        · exact .inl rfl
        · obtain ⟨o, e, _, n, hd⟩ := hl; exact .inr ⟨hn, _, e, isV_seq hd⟩
      · rintro i h ⟨⟨o, ho, hc, hd⟩, _⟩; exact ⟨o, _, _, ho, hc, hd, .inr (.inl rfl)⟩
      · intro i v hi hv; exact r.get' (by simpa using hv)
  | rng n h0 h1 =>
    cases r with
    | @rng a _ t u w hr hn =>
      have hsz : Builtin.Range.rangeSize 0 n 1 = (n.toNat : Int) := by rw [rangeSize_one]; split <;> omega
      have hlen : (rngL n).length = n.toNat := by simp [rngL]
      refine wpAny_pyIter_range hr (small_one (by decide) (by decide) h0 h1) (k s.heap.objs.size [s.heap.objs.size] _ _ _ ⟨_, s.toks, rfl⟩ (fun b o e => Heap.get?_push_of_some _ e) ⟨by rw [hlen]; exact Walks.range hh s.heap.objs.size 0 1 n.toNat, Nat.le_refl _, ?_, ?_, ?_⟩ ?_)
      · intro b hb; simp at hb; exact .inl hb
      · intro i h hs; exact ⟨_, _, _, hs, rfl, rfl, .inr (.inr rfl)⟩
      · rintro i v hi ⟨t, rfl⟩
        rw [hlen] at hi
        refine ⟨.int i, by simp [rngL, hi], ?_⟩
        have : (0 : Int) + (i : Int) * 1 = i := by omega
        rw [this]; exact .int _ _
      · show IsRangeIter _ _ _ _ _
        rw [hsz]
        have := Heap.get?_push_size s.heap (o := { cls := .type "range_iterator", dict := none, data := .fields #[rawInt 0, rawInt (n.toNat : Int), rawInt 1], slots := #[] }) rfl
        simpa using this

/-- the iterator moves: the state stays -/
theorem Act.growI {h h' : Heap} (F : Act c σ H h) {I : Addr} (k : ∀ b o, b ≠ I → h.get? b = some o → h'.get? b = some o) (hV : ∀ o, h.get? I = some o → ¬ IsV o) (hI : H I = none) (hL : c.env.locals ≠ I) (hc : ∀ x, c.env.cells.lookup x ≠ some I)
    (hB : c.B.get? I = none) (hg : c.D I ∨ c.g.get? I = none) : Act c σ H h' := by
  have kk : ∀ b o, h.get? b = some o → IsV o → H b = none → h'.get? b = some o ∧ H b = none := fun b o e v n => ⟨k b o (by rintro rfl; exact hV o e v) e, n⟩
  refine ⟨fun b o e => k b o (by rintro rfl; rw [hB] at e; cases e) (F.base b o e), fun b o e n => k b o ?_ (F.keep b o e n), F.Lb, F.Lg, ?_, ?_, ?_, F.apart, F.has, F.fn, ?_⟩
  · rintro rfl
    rcases hg with d | d
    · exact n d
    · rw [d] at e; cases e
  · obtain ⟨m, hn, hv⟩ := F.loc
    exact ⟨m, hn.at' fun o e => k _ o hL e, fun x p e l => let ⟨v, hm, r⟩ := hv x p e l; ⟨v, hm, r.keep kk⟩⟩
  · exact fun x p e l => let ⟨a, v, ha, hc', r⟩ := F.cel x p e l; ⟨a, v, ha, let ⟨o, ho, hd⟩ := hc'; ⟨o, k _ o (by rintro rfl; exact hc x ha) ho, hd⟩, r.keep kk⟩
  · exact fun x a e => let ⟨⟨v, o, ho, hd⟩, r⟩ := F.own x a e; ⟨⟨v, o, k _ o (by rintro rfl; exact hc x e) ho, hd⟩, r⟩
  · intro a mo e
    obtain ⟨m, r⟩ := F.st a mo e
    exact ⟨m.keep kk fun o e' => k _ o (by rintro rfl; rw [hI] at e; cases e) e', r⟩

theorem Act.freshFacts {s : Shared} (F : Act c σ H s.heap) {I : Addr} (f : s.heap.objs.size ≤ I) :
    s.heap.get? I = none ∧ H I = none ∧ c.env.locals ≠ I ∧ (∀ x, c.env.cells.lookup x ≠ some I) ∧ c.B.get? I = none ∧ (c.D I ∨ c.g.get? I = none) := by
  have n : s.heap.get? I = none := Heap.get?_none_of_le f
  refine ⟨n, F.fresh n, ?_, fun x hx => ?_, F.baseNone n, F.gNone n⟩
  · rintro rfl
    obtain ⟨o, ho⟩ := F.Lin
    rw [n] at ho; cases ho
  · obtain ⟨⟨v, o, ho, _⟩, _⟩ := F.own x I hx
    rw [n] at ho; cases ho

theorem ownedTuple {target : Expr} {I : Addr} {v : Value} {s : Shared} {P : Unit → Shared → Prop} {E : Value → Shared → Prop} {o : Obj} {T : String} {vs : Array Value} (ho : s.heap.get? I = some o) (hc : o.cls = .type T) (hd : o.data = .fields vs)
    (hT : T = "list_iterator" ∨ T = "tuple_iterator" ∨ T = "range_iterator") (h : P () s) : wpAny (model c.prog c.w) c.A (letOwnedTupleGo target (.ref I) v) P E s := by
  have no : ["enumerate", "zip", "dict_itemiterator", "dict_reverseitemiterator", "odict_iterator", "itertools.zip_longest", "itertools.pairwise"].contains T = false := by
    rcases hT with rfl | rfl | rfl <;> decide
  unfold letOwnedTupleGo
  cases target <;> first
    | exact wpAny_pure h
    | (cases v <;> first
        | exact wpAny_pure h
        | (refine wpAny_bind (wpAny_load ho ?_)
           rw [hc, hd]
           simp only [no, Bool.false_and, Bool.false_eq_true, if_false]
           exact wpAny_pure h))

theorem s_for {target iter : Expr} {body : List Stmt} {pos : Pos} (hh : c.A.handled = none)
    (h : EvO c (eval iter c.env) σ H fun p H₁ => ∃ items, Items p items ∧ ∃ I : Nat → Loc → Store → Prop, I 0 σ H₁ ∧
      (∀ i d σ' H', items[i]? = some d → I i σ' H' → UO c (assign target c.env) d σ' H' fun σ'' H'' => SO c (execs body c.env) σ'' H'' (I (i + 1)) Qr) ∧ ∀ σ' H', I items.length σ' H' → Qn σ' H')
    (hs : ∀ x, foldedSetIterable iter c.env x = pure x := by intro _; rfl) : SO c (exec (.For target iter body [] pos) c.env) σ H Qn Qr := fun s F =>
  wpAny_For (h.use F fun v p H₁ s₁ e₁ k₁ F₁ r₁ q₁ => by
    obtain ⟨items, it, I, i0, step, done⟩ := q₁
    refine iterStart hh F₁ r₁ it fun It fp PP St s₂ e₂ k₂ ok st0 => ?_
    have W := ok.walk
    obtain ⟨fn, fH, fL, fC, fB, fG⟩ := F₁.freshFacts ok.fresh
    have kp2 : Kp (Xe c.env) s₁.heap H₁ s₂.heap H₁ := fun b o e n _ => ⟨k₂ b o e, n⟩
    refine codeAny_forLoop_any (fun n s' => ∃ i σ' H', n = items.length + 1 - i ∧ i ≤ items.length ∧ Same s₁ s' ∧ Kp (Xe c.env) s₁.heap H₁ s'.heap H' ∧ Act c σ' H' s'.heap ∧ St i s'.heap ∧ H' It = none ∧ I i σ' H') ?_ (items.length + 1)
      ⟨0, σ, H₁, by omega, Nat.zero_le _, e₂, kp2, F₁.grow k₂, st0, fH, i0⟩
    rintro n s₃ ⟨i, σ', H', rfl, hi, e₃, k₃, F₃, st, hIt, hI⟩
    obtain ⟨oI, TI, vsI, hoI, hcI, hdI, hTI⟩ := ok.obj i _ st
    have nV : ∀ o, s₃.heap.get? It = some o → ¬ IsV o := by
      intro o e
      obtain rfl : o = oI := Option.some.inj (e.symm.trans hoI)
      unfold IsV; rw [hdI, hcI]
      rcases hTI with rfl | rfl | rfl <;> (intro q; injection q with q; exact absurd q (by decide))
    by_cases hlt : i < items.length
    · refine W.item i _ _ _ hlt st fun v h' tk hP st' k4 => ?_
      have k4' : ∀ b o, b ≠ It → s₃.heap.get? b = some o → h'.get? b = some o := fun b o hb e => k4 b o (by simpa using hb) e
      have F₄ : Act c σ' H' h' := F₃.growI k4' nV hIt fL fC fB fG
      have kp4 : Kp (Xe c.env) s₁.heap H₁ h' H' := fun b o e n x => by
        obtain ⟨e', n'⟩ := k₃ b o e n x
        exact ⟨k4' b o (by rintro rfl; rw [fn] at e; cases e) e', n'⟩
      obtain ⟨d, hd, rd⟩ := ok.val i v hlt hP
      have rd' : R h' H' v d := F₁.keepR kp4 rd
      obtain ⟨oI', TI', vsI', hoI', hcI', hdI', hTI'⟩ := ok.obj _ _ st'
      refine ownedTuple (s := { s₃ with heap := h', toks := tk }) hoI' hcI' hdI' hTI' ?_
      refine wpAny_mono ((step i d σ' H' hd hI).use (s := { s₃ with heap := h', toks := tk }) F₄ rd' (P := fun _ s₅ => wpAny (model c.prog c.w) c.A (execs body c.env) (fun f s₆ => match f with
            | .next | .cont => ∃ m, m < items.length + 1 - i ∧ ∃ i σ' H', m = items.length + 1 - i ∧ i ≤ items.length ∧ Same s₁ s₆ ∧ Kp (Xe c.env) s₁.heap H₁ s₆.heap H' ∧ Act c σ' H' s₆.heap ∧ St i s₆.heap ∧ H' It = none ∧ I i σ' H'
            | .brk => ∃ σ' H', Same s s₆ ∧ Kp (Xe c.env) s.heap H s₆.heap H' ∧ Act c σ' H' s₆.heap ∧ Qn σ' H'
            | .ret v => ∃ σ' H', Same s s₆ ∧ Kp (Xe c.env) s.heap H s₆.heap H' ∧ Act c σ' H' s₆.heap ∧ ∃ p, R s₆.heap H' v p ∧ Qr p H') (fun _ _ => False) s₅) fun σ₅ H₅ s₅ e₅ k₅ F₅ q₅ => ?_) (fun _ s₅ h₅ => wpAny_mono h₅ (fun _ _ x => x) fun _ _ x => x.elim) fun _ _ x => x.elim
      have nXI : ¬ Xe c.env It := by
        rintro (q | ⟨x, q⟩)
        · exact fL q.symm
        · exact fC x q
      have frame : ∀ {hz : Heap} {Hz : Store}, Kp (Xe c.env) h' H' hz Hz → St (i + 1) hz ∧ Hz It = none := by
        intro hz Hz kz
        refine ⟨W.frame _ _ _ st' fun b hb o e => ?_, (kz It oI' hoI' hIt nXI).2⟩
        rcases ok.stand b hb with rfl | ⟨hbn, ob, hob, hvb⟩
        · exact (kz b o e hIt nXI).1
        · have nx := F₁.noX hob hvb
          obtain ⟨e2, n2⟩ := kp4 b ob hob hbn nx
          obtain rfl : ob = o := Option.some.inj (e2.symm.trans e)
          exact (kz b _ e n2 nx).1
      refine q₅.use F₅ (fun σ₆ H₆ s₆ e₆ k₆ F₆ q₆ => ?_) fun v p σ₆ H₆ s₆ e₆ k₆ F₆ r₆ q₆ => ?_
      · obtain ⟨f1, f2⟩ := frame (k₅.trans k₆)
        exact ⟨items.length + 1 - (i + 1), by omega, i + 1, σ₆, H₆, rfl, hlt, ((e₃.trans ⟨_, _, rfl⟩).trans e₅).trans e₆, (kp4.trans k₅).trans k₆, F₆, f1, f2, q₆⟩
      · exact ⟨σ₆, H₆, (((e₁.trans e₃).trans ⟨_, _, rfl⟩).trans e₅).trans e₆, ((k₁.trans kp4).trans k₅).trans k₆, F₆, p, r₆, q₆⟩
    · have hin : i = items.length := by omega
      subst hin
      refine W.done _ _ _ st fun h' tk k4 => ?_
      have k4' : ∀ b o, b ≠ It → s₃.heap.get? b = some o → h'.get? b = some o := fun b o hb e => k4 b o (by simpa using hb) e
      have F₄ : Act c σ' H' h' := F₃.growI k4' nV hIt fL fC fB fG
      have kp4 : Kp (Xe c.env) s₁.heap H₁ h' H' := fun b o e n x => by
        obtain ⟨e', n'⟩ := k₃ b o e n x
        exact ⟨k4' b o (by rintro rfl; rw [fn] at e; cases e) e', n'⟩
      exact wpAny_execs_nil ⟨σ', H', (e₁.trans e₃).trans ⟨_, _, rfl⟩, k₁.trans kp4, F₄, done σ' H' hI⟩) hs
end
end Mine

open PySem PySem.W PyProof.Rows PySem.Calls
set_option Elab.async false
set_option maxRecDepth 100000
set_option linter.unusedVariables false
set_option linter.unusedSectionVars false
namespace Mine

section
variable {c : Cx} {σ : Loc} {H : Store} {Q : PV → Store → Prop} {Qn : Loc → Store → Prop} {Qr : PV → Store → Prop} {mg mb : Str → Option Value} {prog : Program}

theorem Act.locals_noCell {h : Heap} (F : Act c σ H h) {v : Option Value} : ¬ h.IsCell c.env.locals v := by
  rintro ⟨o, ho, hd⟩
  obtain ⟨m', ⟨o', es, ep, ho', hd', _⟩, _⟩ := F.loc
  obtain rfl : o = o' := Option.some.inj (ho.symm.trans ho')
  rw [hd] at hd'; cases hd'

theorem Act.locals_none {h : Heap} (F : Act c σ H h) : H c.env.locals = none := by
  cases e : H c.env.locals with
  | none => rfl
  | some mo => exact absurd rfl (F.st _ mo e).2.1

theorem Act.cell_none {h : Heap} (F : Act c σ H h) {a : Addr} {v : Option Value} (hc : h.IsCell a v) : H a = none := by
  cases e : H a with
  | none => rfl
  | some mo => exact absurd rfl (F.stCell e hc)

/-- what another environment did, seen from here -/
theorem Act.back {X : Addr → Prop} {h h' : Heap} {H' : Store} (F : Act c σ H h) (k : Kp X h H h' H')
    (hX : ∀ y a, c.env.cells.lookup y = some a → X a → (∃ v, h'.IsCell a v) ∧ ∀ p, σ y = some p → (c.env.kindOf y = some .cell ∨ c.env.kindOf y = some .free) → ∃ v, h'.IsCell a (some v) ∧ R h' H' v p)
    (hL : ¬ X c.env.locals) (hV : ∀ b o, h.get? b = some o → IsV o → ¬ X b)
    (base : ∀ b o, c.B.get? b = some o → h'.get? b = some o) (keep : ∀ b o, c.g.get? b = some o → ¬ c.D b → h'.get? b = some o)
    (st : ∀ a mo, H' a = some mo → MOR c.prog c.w h' H' a mo ∧ c.B.objs.size ≤ a ∧ (c.D a ∨ c.g.get? a = none)) : Act c σ H' h' := by
  have kk : ∀ b o, h.get? b = some o → IsV o → H b = none → h'.get? b = some o ∧ H' b = none := fun b o e v n => k b o e n (hV b o e v)
  obtain ⟨m, hn, hv⟩ := F.loc
  obtain ⟨oL, hoL⟩ := F.Lin
  have kL := k _ _ hoL F.locals_none hL
  refine ⟨base, keep, F.Lb, F.Lg, ⟨m, hn.at' fun o e => (k _ o e F.locals_none hL).1, fun x p e l => let ⟨v, hm, r⟩ := hv x p e l; ⟨v, hm, r.keep kk⟩⟩, ?_, ?_, F.apart, F.has, F.fn, ?_⟩
  · intro y p e l
    obtain ⟨a, v, ha, hc, r⟩ := F.cel y p e l
    by_cases x : X a
    · obtain ⟨_, q⟩ := hX y a ha x
      obtain ⟨v', hc', r'⟩ := q p e l
      exact ⟨a, v', ha, hc', r'⟩
    · refine ⟨a, v, ha, ?_, r.keep kk⟩
      have n := F.cell_none hc
      obtain ⟨o, ho, hd⟩ := hc
      exact ⟨o, (k _ o ho n x).1, hd⟩
  · intro y a ha
    obtain ⟨⟨v, hc⟩, r⟩ := F.own y a ha
    refine ⟨?_, r⟩
    by_cases x : X a
    · exact (hX y a ha x).1
    · have n := F.cell_none hc
      obtain ⟨o, ho, hd⟩ := hc
      exact ⟨v, o, (k _ o ho n x).1, hd⟩
  · intro a mo e
    obtain ⟨m', b, d⟩ := st a mo e
    refine ⟨m', ?_, b, d⟩
    rintro rfl
    rw [kL.2] at e; cases e

-- comprehensions
abbrev compCx (c : Cx) (scope : Scope) (cl : List (Str × Addr)) (C : Addr) : Cx := { c with env := compEnvC scope cl C c.env }
def capt (cl : List (Str × Addr)) (σ : Loc) : Loc := fun x => if (cl.lookup x).isSome then σ x else none
def isCap (k : Option NameKind) : Bool := match k with | some .cell => true | some .free => true | _ => false

structure CompOK (env : Env) (scope : Scope) (cl : List (Str × Addr)) (x : Str) : Prop where
  clos : closureFor scope env = pure cl
  cell : ∀ y ∈ scope.names, y.2 ≠ .cell
  kind : scope.kind = .function
  names : ∀ y ∈ scope.names, y.2 = .local → scope.names.lookup y.1 = some .local
  var : scope.names.lookup x = some .local
  sub : ∀ p ∈ cl, env.cells.lookup p.1 = some p.2 ∧ isCap (env.kindOf p.1) = true ∧ isCap ((compEnvC scope cl 0 env).kindOf p.1) = true
  has : ((relabel scope env).names.all fun p => !(p.2 == NameKind.cell) || (cl.lookup p.1).isSome) = true

theorem mem_of_lookup {α : Type} {y : Str} {a : α} : ∀ {l : List (Str × α)}, l.lookup y = some a → (y, a) ∈ l
  | [], h => by simp at h
  | (n, b) :: r, h => by
    rw [List.lookup_cons] at h
    by_cases e : y == n
    · rw [e] at h
      obtain rfl := Option.some.inj h
      rw [eq_of_beq e]; exact List.mem_cons_self
    · rw [Bool.not_eq_true] at e
      rw [e] at h
      exact List.mem_cons_of_mem _ (mem_of_lookup h)

theorem isCap_or {k : Option NameKind} (h : isCap k = true) : k = some .cell ∨ k = some .free := by
  unfold isCap at h
  split at h <;> simp_all

section
variable {scope : Scope} {cl : List (Str × Addr)} {x : Str}
theorem CompOK.capt (ok : CompOK c.env scope cl x) {y : Str} {p : PV} (h : capt cl σ y = some p) : ∃ a, cl.lookup y = some a ∧ σ y = some p := by
  unfold Mine.capt at h
  split at h
  · rename_i q
    cases e : cl.lookup y with
    | none => rw [e] at q; cases q
    | some a => exact ⟨a, rfl, h⟩
  · cases h
theorem CompOK.up (ok : CompOK c.env scope cl x) {y : Str} {a : Addr} (h : cl.lookup y = some a) : c.env.cells.lookup y = some a ∧ isCap (c.env.kindOf y) = true ∧ isCap ((compEnvC scope cl 0 c.env).kindOf y) = true :=
  ok.sub _ (mem_of_lookup h)

/-- into a comprehension -/
theorem Act.intoComp {h h' : Heap} (F : Act c σ H h) (ok : CompOK c.env scope cl x) (hg : ∀ a, c.g.get? a = none) {C : Addr} (hC : h.objs.size ≤ C) (k : ∀ b o, h.get? b = some o → h'.get? b = some o) {m : Str → Option Value}
    (hn : h'.Ns C m) : Act (compCx c scope cl C) (capt cl σ) H h' := by
  have F' := F.grow k
  obtain ⟨oL, hoL⟩ := F.Lin
  have lt := Heap.lt_size hoL
  refine ⟨F'.base, F'.keep, Nat.le_trans F.Lb (Nat.le_of_lt (Nat.lt_of_lt_of_le lt hC)), hg _, ⟨m, hn, ?_⟩, ?_, ?_, ?_, ?_, ok.kind, ?_⟩
  · intro y p e l
    obtain ⟨a, ha, _⟩ := ok.capt e
    have := (ok.up ha).2.2
    rw [show (compEnvC scope cl 0 c.env).kindOf y = some .local from l] at this
    cases this
  · intro y p e _
    obtain ⟨a, ha, e'⟩ := ok.capt e
    obtain ⟨q1, q2, _⟩ := ok.up ha
    obtain ⟨a', v, ha', hc, r⟩ := F'.cel y p e' (isCap_or q2)
    rw [q1] at ha'
    obtain rfl := Option.some.inj ha'
    exact ⟨_, v, ha, hc, r⟩
  · intro y a ha
    exact F'.own y a (ok.up ha).1
  · intro y z a ha hb
    exact F'.apart y z a (ok.up ha).1 (ok.up hb).1
  · intro y hy
    have hm : (y, NameKind.cell) ∈ (relabel scope c.env).names := mem_of_lookup hy
    have := List.all_eq_true.mp ok.has _ hm
    simp only [beq_self_eq_true, Bool.not_true, Bool.false_or] at this
    show ∃ a, cl.lookup y = some a
    cases e : cl.lookup y with
    | none => rw [e] at this; cases this
    | some a => exact ⟨a, rfl⟩
  · intro a mo e
    obtain ⟨m', aL, r⟩ := F'.st a mo e
    refine ⟨m', ?_, r⟩
    show a ≠ C
    rintro rfl
    obtain ⟨o, ho, _⟩ := F.stGet e
    exact absurd (Heap.lt_size ho) (Nat.not_lt.mpr hC)

/-- out of a comprehension -/
theorem Act.outOfComp {h hf : Heap} {Hf : Store} {σ' : Loc} {C : Addr} (F : Act c σ H h) (ok : CompOK c.env scope cl x) (hC : h.objs.size ≤ C) (F' : Act (compCx c scope cl C) σ' Hf hf)
    (hs : ∀ y a, cl.lookup y = some a → σ' y = σ y) (k : Kp (Xe (compEnvC scope cl C c.env)) h H hf Hf) : Act c σ Hf hf ∧ Kp (Xe c.env) h H hf Hf := by
  have no : ∀ o, h.get? C ≠ some o := fun o e => absurd (Heap.lt_size e) (Nat.not_lt.mpr hC)
  have hV : ∀ b o, h.get? b = some o → IsV o → ¬ Xe (compEnvC scope cl C c.env) b := by
    rintro b o e v (rfl | ⟨y, hy⟩)
    · exact no o e
    · exact F.noX e v (.inr ⟨y, (ok.up hy).1⟩)
  refine ⟨F.back k ?_ ?_ hV F'.base F'.keep ?_, k.weaken ?_⟩
  · rintro y a ha (rfl | ⟨z, hz⟩)
    · obtain ⟨⟨v, o, ho, _⟩, _⟩ := F.own _ _ ha
      exact absurd ho (no o)
    · have hz' := (ok.up hz).1
      obtain rfl := F.apart _ _ _ ha hz'
      refine ⟨(F'.own _ _ hz).1, fun p e l => ?_⟩
      obtain ⟨a', v, ha', hc, r⟩ := F'.cel y p ((hs _ _ hz).trans e) (isCap_or (ok.up hz).2.2)
      rw [show (compCx c scope cl C).env.cells.lookup y = some a from hz] at ha'
      obtain rfl := Option.some.inj ha'
      exact ⟨v, hc, r⟩
  · rintro (q | ⟨y, hy⟩)
    · obtain ⟨o, ho⟩ := F.Lin
      have q' : c.env.locals = C := q
      exact no o (q' ▸ ho)
    · obtain ⟨⟨v, hc⟩, _⟩ := F.own _ _ (ok.up hy).1
      exact F.locals_noCell hc
  · intro a mo e
    obtain ⟨m, _, r⟩ := F'.st a mo e
    exact ⟨m, r⟩
  · rintro b o e (rfl | ⟨y, hy⟩)
    · exact absurd e (no o)
    · exact .inr ⟨y, (ok.up hy).1⟩
end
end
end Mine

open PySem PySem.W PyProof.Rows PySem.Calls
set_option Elab.async false
set_option maxRecDepth 100000
set_option linter.unusedVariables false
set_option linter.unusedSectionVars false
namespace Mine

section
variable {c : Cx} {σ : Loc} {H : Store} {Q : PV → Store → Prop} {Qn : Loc → Store → Prop} {Qr : PV → Store → Prop} {mg mb : Str → Option Value} {prog : Program}
variable {scope : Scope} {cl : List (Str × Addr)} {x : Str}

def tests (ifs : List Expr) (env : Env) : Sem Bool := forIn ifs true fun c r => if r = true then do let ok ← isTrue c env (eval c env); pure (ForInStep.yield ok) else pure (ForInStep.yield r)

/-- one turn of a comprehension -/
def TurnO (c : Cx) (scope : Scope) (cl : List (Str × Addr)) (x : Str) (ifs : List Expr) (elt : Expr) (σ : Loc) (items : List PV) (J : Nat → List PV → Store → Prop) : Prop :=
  ∀ C D i d ys H', H' D = none → items[i]? = some d → J i ys H' →
    TsO (compCx c scope cl C) (tests ifs (compEnvC scope cl C c.env)) (bnd (capt cl σ) x d) (upd H' D (.lst ys)) fun b H'' =>
      if b = true then EvO (compCx c scope cl C) (eval elt (compEnvC scope cl C c.env)) (bnd (capt cl σ) x d) H'' (fun p H3 => ∃ H4, H3 = upd H4 D (.lst ys) ∧ H4 D = none ∧ J (i + 1) (ys ++ [p]) H4)
      else ∃ H4, H'' = upd H4 D (.lst ys) ∧ H4 D = none ∧ J (i + 1) ys H4

theorem compVar (ok : CompOK c.env scope cl x) (C : Addr) : (compEnvC scope cl C c.env).kindOf x = some .local := lookup_relabel_local ok.var

theorem noVar (ok : CompOK c.env scope cl x) {a : Addr} (h : cl.lookup x = some a) : False := by
  have := (ok.up h).2.2
  rw [compVar ok 0] at this
  cases this

theorem comp_loop {elt iter : Expr} {px pos : Pos} {ifs : List Expr} {s₁ s : Shared} {I C D : Addr} {fp : List Addr} {P : Nat → Value → Prop} {St : Nat → Heap → Prop} {items : List PV} {J : Nat → List PV → Store → Prop} {RR : Result → Shared → Prop}
    (ok : CompOK c.env scope cl x) (hsz : items.length ≤ sizeLine) (F₁ : Act c σ H s₁.heap) (it : ItOK c.prog c.w c.A s₁ H items I fp P St) (hI : I < C) (hCs : s₁.heap.objs.size ≤ C) (hD : H D = none) (nD : s₁.heap.get? D = none) (hID : I ≠ D)
    (turn : TurnO c scope cl x ifs elt σ items J) (j0 : J 0 [] H)
    (e₁ : Same s₁ s) (k₁ : Kp (Xe (compEnvC scope cl C c.env)) s₁.heap H s.heap (upd H D (.lst []))) (F : Act (compCx c scope cl C) (capt cl σ) (upd H D (.lst [])) s.heap) (st0 : St 0 s.heap)
    (done : ∀ ys H' s' σ', Same s₁ s' → Kp (Xe (compEnvC scope cl C c.env)) s₁.heap H s'.heap (upd H' D (.lst ys)) → Act (compCx c scope cl C) σ' (upd H' D (.lst ys)) s'.heap → (∀ y a, cl.lookup y = some a → σ' y = σ y) → H' D = none → J items.length ys H' → RR (.ok .next) s') :
    codeAny (model c.prog c.w) c.A (.compLoop (.ListComp elt [⟨.Name x px, iter, ifs, 0⟩] scope pos) 0 (.ref I) (.ref D) (compEnvC scope cl C c.env)) RR s := by
  have W := it.walk
  obtain ⟨fn, fH, fL, fC, fB, fG⟩ := F₁.freshFacts it.fresh
  have fL' : (compCx c scope cl C).env.locals ≠ I := fun q => by
    have q' : C = I := q
    exact absurd q'.symm (Nat.ne_of_lt hI)
  have fC' : ∀ y, (compCx c scope cl C).env.cells.lookup y ≠ some I := fun y hy => fC y (ok.up hy).1
  have nXI : ¬ Xe (compCx c scope cl C).env I := by
    rintro (q | ⟨x, q⟩)
    · exact fL' q.symm
    · exact fC' x q
  refine codeAny_compLoop_tests (fun n s' => ∃ i ys H' σ', n = items.length + 1 - i ∧ i ≤ items.length ∧ ys.length ≤ i ∧ Same s₁ s' ∧ Kp (Xe (compEnvC scope cl C c.env)) s₁.heap H s'.heap (upd H' D (.lst ys)) ∧
      Act (compCx c scope cl C) σ' (upd H' D (.lst ys)) s'.heap ∧ (∀ y a, cl.lookup y = some a → σ' y = σ y) ∧ St i s'.heap ∧ H' I = none ∧ H' D = none ∧ J i ys H') ?_ (items.length + 1)
      ⟨0, [], H, capt cl σ, by omega, Nat.zero_le _, Nat.zero_le _, e₁, k₁, F, fun y a e => by simp [capt, e], st0, fH, hD, j0⟩ (fun _ => rfl)
  rintro n s₃ ⟨i, ys, H', σ', rfl, hi, hys, e₃, k₃, F₃, hσ, st, hIt, hD', hJ⟩
  obtain ⟨oI, TI, vsI, hoI, hcI, hdI, hTI⟩ := it.obj i _ st
  have hIt' : upd H' D (.lst ys) I = none := by rw [upd_ne hID]; exact hIt
  have nV : ∀ o, s₃.heap.get? I = some o → ¬ IsV o := by
    intro o e
    obtain rfl : o = oI := Option.some.inj (e.symm.trans hoI)
    unfold IsV; rw [hdI, hcI]
    rcases hTI with rfl | rfl | rfl <;> (intro q; injection q with q; exact absurd q (by decide))
  by_cases hlt : i < items.length
  · refine W.item i _ _ _ hlt st fun v h' tk hP st' k4 => ?_
    have k4' : ∀ b o, b ≠ I → s₃.heap.get? b = some o → h'.get? b = some o := fun b o hb e => k4 b o (by simpa using hb) e
    have F₄ : Act (compCx c scope cl C) σ' (upd H' D (.lst ys)) h' := F₃.growI k4' nV hIt' fL' fC' fB fG
    have kp4 : Kp (Xe (compEnvC scope cl C c.env)) s₁.heap H h' (upd H' D (.lst ys)) := fun b o e n x => by
      obtain ⟨e', n'⟩ := k₃ b o e n x
      exact ⟨k4' b o (by rintro rfl; rw [fn] at e; cases e) e', n'⟩
    obtain ⟨d, hd, rd⟩ := it.val i v hlt hP
    have XV : ∀ b o, s₁.heap.get? b = some o → IsV o → ¬ Xe (compEnvC scope cl C c.env) b := by
      rintro b o e v (rfl | ⟨y, hy⟩)
      · exact absurd (Heap.lt_size e) (Nat.not_lt.mpr hCs)
      · exact F₁.noX e v (.inr ⟨y, (ok.up hy).1⟩)
    have rd' : R h' (upd H' D (.lst ys)) v d := rd.keep fun b o e v n => kp4 b o e n (XV b o e v)
    refine PyProof.Rows.assign_Name (stName (c := compCx c scope cl C) (s := { s₃ with heap := h', toks := tk }) F₄ rd' (by rw [show (compCx c scope cl C).env.kindOf x = some .local from compVar ok C]; rfl) fun s₅ e₅ k₅ F₅ => ?_)
    have F₅' : Act (compCx c scope cl C) (bnd (capt cl σ) x d) (upd H' D (.lst ys)) s₅.heap := F₅.locals fun y p e => by
      unfold bnd at e ⊢
      split at e
      · rename_i q; rw [if_pos q]; exact e
      · rename_i q
        rw [if_neg q]
        obtain ⟨a, ha, e'⟩ := ok.capt e
        rw [hσ y a ha]; exact e'
    have frame : ∀ {hz : Heap} {Hz : Store}, Kp (Xe (compCx c scope cl C).env) h' (upd H' D (.lst ys)) hz Hz → St (i + 1) hz ∧ Hz I = none := by
      obtain ⟨oI', TI', vsI', hoI', hcI', hdI', hTI'⟩ := it.obj _ _ st'
      intro hz Hz kz
      refine ⟨W.frame _ _ _ st' fun b hb o e => ?_, (kz I oI' hoI' hIt' nXI).2⟩
      rcases it.stand b hb with rfl | ⟨hbn, ob, hob, hvb⟩
      · exact (kz b o e hIt' nXI).1
      · have nx := XV _ _ hob hvb
        obtain ⟨e2, n2⟩ := kp4 b ob hob hbn nx
        obtain rfl : ob = o := Option.some.inj (e2.symm.trans e)
        exact (kz b _ e n2 nx).1
    have stay : ∀ y a, cl.lookup y = some a → bnd (capt cl σ) x d y = σ y := fun y a e => by
      unfold bnd
      rw [if_neg (by rintro rfl; exact (noVar ok e).elim)]
      simp [capt, e]
    refine wpAny_mono ((turn C D i d ys H' hD' hd hJ).use (s := s₅) F₅' (P := fun ok s₃ => if ok = true then wpAny (model c.prog c.w) c.A (eval elt (compEnvC scope cl C c.env)) (fun y s₄ =>
              wpAny (model c.prog c.w) c.A (call (.builtin "list.append") [.ref D, y]) (fun _ s₅ => ∃ m, m < items.length + 1 - i ∧ ∃ i ys H' σ', m = items.length + 1 - i ∧ i ≤ items.length ∧ ys.length ≤ i ∧ Same s₁ s₅ ∧ Kp (Xe (compEnvC scope cl C c.env)) s₁.heap H s₅.heap (upd H' D (.lst ys)) ∧
      Act (compCx c scope cl C) σ' (upd H' D (.lst ys)) s₅.heap ∧ (∀ y a, cl.lookup y = some a → σ' y = σ y) ∧ St i s₅.heap ∧ H' I = none ∧ H' D = none ∧ J i ys H') (notedBy (model c.prog c.w) c.A (compEnvC scope cl C c.env) fun e s' => RR (.error e) s') s₄) (notedBy (model c.prog c.w) c.A (compEnvC scope cl C c.env) fun e s' => RR (.error e) s') s₃
            else ∃ m, m < items.length + 1 - i ∧ ∃ i ys H' σ', m = items.length + 1 - i ∧ i ≤ items.length ∧ ys.length ≤ i ∧ Same s₁ s₃ ∧ Kp (Xe (compEnvC scope cl C c.env)) s₁.heap H s₃.heap (upd H' D (.lst ys)) ∧
      Act (compCx c scope cl C) σ' (upd H' D (.lst ys)) s₃.heap ∧ (∀ y a, cl.lookup y = some a → σ' y = σ y) ∧ St i s₃.heap ∧ H' I = none ∧ H' D = none ∧ J i ys H')
      fun b b' H₆ s₆ e₆ k₆ F₆ r₆ q₆ => ?_) (fun _ _ x => x) fun _ _ x => x.elim
    obtain rfl : b = b' := r₆
    cases b with
    | false =>
      simp only [Bool.false_eq_true, if_false] at q₆ ⊢
      obtain ⟨H4, rfl, h4, j4⟩ := q₆
      obtain ⟨f1, f2⟩ := frame (k₅.trans k₆)
      rw [upd_ne hID] at f2
      exact ⟨items.length + 1 - (i + 1), by omega, i + 1, ys, H4, _, rfl, hlt, by omega, ((e₃.trans ⟨_, _, rfl⟩).trans e₅).trans e₆, (kp4.trans k₅).trans k₆, F₆, stay, f1, f2, h4, j4⟩
    | true =>
      simp only [if_true] at q₆ ⊢
      refine wpAny_mono (q₆.use F₆ fun y p H₇ s₇ e₇ k₇ F₇ r₇ q₇ => ?_) (fun _ _ x => x) fun _ _ x => x.elim
      obtain ⟨H4, rfl, h4, j4⟩ := q₇
      obtain ⟨us, hl, ru, put⟩ := F₇.putList (upd_same H4 D (.lst ys))
      refine wpAny_list_append_plain hl (fun h₈ hl₈ hs₈ => ?_) (by rw [List.size_toArray, ru.length]; omega)
      obtain ⟨F₈, k₈⟩ := put h₈ (us ++ [y]) (ys ++ [p]) (by simpa using hl₈) hs₈ (ru.append (.one r₇))
      rw [upd_upd] at F₈ k₈
      obtain ⟨f1, f2⟩ := frame (((k₅.trans k₆).trans k₇).trans k₈)
      rw [upd_ne hID] at f2
      exact ⟨items.length + 1 - (i + 1), by omega, i + 1, ys ++ [p], H4, _, rfl, hlt, by simp; omega, ((((e₃.trans ⟨_, _, rfl⟩).trans e₅).trans e₆).trans e₇).trans ⟨_, _, rfl⟩, (((kp4.trans k₅).trans k₆).trans k₇).trans k₈, F₈, stay, f1, f2, h4, j4⟩
  · have hin : i = items.length := by omega
    subst hin
    refine W.done _ _ _ st fun h' tk k4 => ?_
    have k4' : ∀ b o, b ≠ I → s₃.heap.get? b = some o → h'.get? b = some o := fun b o hb e => k4 b o (by simpa using hb) e
    have F₄ : Act (compCx c scope cl C) σ' (upd H' D (.lst ys)) h' := F₃.growI k4' nV hIt' fL' fC' fB fG
    refine done ys H' _ σ' (e₃.trans ⟨_, _, rfl⟩) (fun b o e n x => ?_) F₄ hσ hD' hJ
    obtain ⟨e', n'⟩ := k₃ b o e n x
    exact ⟨k4' b o (by rintro rfl; rw [fn] at e; cases e) e', n'⟩
end
end Mine

open PySem PySem.W PyProof.Rows PySem.Calls
set_option Elab.async false
set_option maxRecDepth 100000
set_option linter.unusedVariables false
set_option linter.unusedSectionVars false
namespace Mine

section
variable {c : Cx} {σ : Loc} {H : Store} {Q : PV → Store → Prop} {Qn : Loc → Store → Prop} {Qr : PV → Store → Prop} {mg mb : Str → Option Value} {prog : Program}
variable {scope : Scope} {cl : List (Str × Addr)} {x : Str}

/-- what is left of the comprehension's names goes -/
theorem Act.dropC {s₁ s' : Shared} {Hf : Store} {C : Addr} {m : Str → Option Value} {σ' : Loc} (F₁ : Act c σ H s₁.heap) (hC : s₁.heap.objs.size ≤ C) (F : Act c σ' Hf s'.heap) (hn : s'.heap.Ns C m) (k : Kp (Xe c.env) s₁.heap H s'.heap Hf) (hH : Hf C = none) {h' : Heap}
    (hs : Heap.SameBut C s'.heap h') : Act c σ' Hf h' ∧ Kp (Xe c.env) s₁.heap H h' Hf := by
  obtain ⟨fn, fH, fL, fC, fB, fG⟩ := F₁.freshFacts hC
  refine ⟨F.growI (I := C) (fun b o hb e => (hs.2 b hb).trans e) ?_ hH fL fC fB fG, fun b o e n x => ?_⟩
  · intro o e v
    obtain ⟨o', es, ep, ho', hd', _⟩ := hn
    obtain rfl : o = o' := Option.some.inj (e.symm.trans ho')
    unfold IsV at v; rw [hd'] at v; exact v
  · obtain ⟨e', n'⟩ := k b o e n x
    exact ⟨(hs.2 b (by rintro rfl; rw [fn] at e; cases e)).trans e', n'⟩

theorem comp_block {elt iter : Expr} {px pos : Pos} {ifs : List Expr} {s₁ s₂ : Shared} {I : Addr} {fp : List Addr} {P : Nat → Value → Prop} {St : Nat → Heap → Prop} {items : List PV} {J : Nat → List PV → Store → Prop} {RR : Value → Addr → Result → Shared → Prop} {E : Value → Shared → Prop}
    (ok : CompOK c.env scope cl x) (hg : ∀ a, c.g.get? a = none) (hsz : items.length ≤ sizeLine) (F₁ : Act c σ H s₁.heap) (it : ItOK c.prog c.w c.A s₁ H items I fp P St)
    (turn : TurnO c scope cl x ifs elt σ items J) (j0 : J 0 [] H) (e₂ : Same s₁ s₂) (k₂ : ∀ b o, s₁.heap.get? b = some o → s₂.heap.get? b = some o) (st0 : St 0 s₂.heap)
    (done : ∀ C D ys H' s', s₁.heap.objs.size ≤ C → Same s₁ s' → Kp (Xe c.env) s₁.heap H s'.heap (upd H' D (.lst ys)) → Act c σ (upd H' D (.lst ys)) s'.heap → (∃ m, s'.heap.Ns C m) → upd H' D (.lst ys) C = none → H' D = none → J items.length ys H' → RR (.ref D) C (.ok .next) s') :
    wpAny (model c.prog c.w) c.A (newList []) (fun acc s₃ => wpAny (model c.prog c.w) c.A (newFunctionEnv scope c.env.globals cl [] c.env.qual none .none (some c.env)) (fun cenv s₄ =>
      codeAny (model c.prog c.w) c.A (.compStart (.ListComp elt [⟨.Name x px, iter, ifs, 0⟩] scope pos) 0 (.ref I) acc { cenv with scope := relabel scope c.env }) (RR acc cenv.locals) s₄) E s₃) E s₂ := by
  obtain ⟨oI, TI, vsI, hoI, hcI, hdI, hTI⟩ := it.obj 0 _ st0
  have hI2 := Heap.lt_size hoI
  have F₂ : Act c σ H s₂.heap := F₁.grow k₂
  obtain ⟨F₃, k₃⟩ := F₂.lstNew (vs := []) (ds := []) .nil
  refine wpAny_newObj_type (wpAny_newFunctionEnv ok.cell (by intro y hy; simp at hy) (fun h₁ hns₁ hsb₁ => ?_) ok.kind)
  dsimp only at hns₁ hsb₁ F₃ k₃ ⊢
  generalize hH2 : s₂.heap.push { cls := .type "list", dict := none, data := .seq ([] : List Value).toArray } = H2 at hns₁ hsb₁ F₃ k₃ ⊢
  have hC : H2.objs.size = s₂.heap.objs.size + 1 := by rw [← hH2, Heap.size_push]
  have kk : ∀ b o, H2.get? b = some o → h₁.get? b = some o := fun b o e => hsb₁.extBut b o (Nat.ne_of_lt (Heap.lt_size e)) (Heap.get?_push_of_some _ e)
  have hle : s₁.heap.objs.size ≤ H2.objs.size := by rw [hC]; exact Nat.le_succ_of_le (Nat.le_of_lt (Nat.lt_of_le_of_lt it.fresh hI2))
  have F₄ := F₃.intoComp ok hg (Nat.le_refl _) kk hns₁
  have nD : s₁.heap.get? s₂.heap.objs.size = none := Heap.get?_none_of_le (Nat.le_of_lt (Nat.lt_of_le_of_lt it.fresh hI2))
  have hHD := F₁.fresh nD
  have loop : ∀ s₃ : Shared, s₃ = { s₂ with heap := h₁, toks := s₂.toks + ([] : List (Str × Value)).length } →
      codeAny (model c.prog c.w) c.A (.compLoop (.ListComp elt [⟨.Name x px, iter, ifs, 0⟩] scope pos) 0 (.ref I) (.ref s₂.heap.objs.size) (compEnvC scope cl H2.objs.size c.env))
        (RR (.ref s₂.heap.objs.size) H2.objs.size) s₃ := by
    rintro s₃ rfl
    refine comp_loop (s₁ := s₁) (C := H2.objs.size) ok hsz F₁ it ?_ hle hHD nD (Nat.ne_of_lt hI2) turn j0 (e₂.trans ⟨_, _, rfl⟩) ?_ F₄ ?_ ?_
    · rw [hC]; exact Nat.lt_succ_of_lt hI2
    · intro b o e n _
      refine ⟨kk b o (hH2 ▸ Heap.get?_push_of_some _ (k₂ b o e)), ?_⟩
      rw [upd_ne (by rintro rfl; rw [nD] at e; cases e)]; exact n
    · exact it.walk.frame _ _ _ st0 fun b _ o e => kk b o (hH2 ▸ Heap.get?_push_of_some _ e)
    · intro ys H' s' σ' e k F hs hD hJ
      obtain ⟨F5, k5⟩ := F₁.outOfComp ok hle F hs k
      obtain ⟨m, hm, _⟩ := F.loc
      exact done _ _ ys H' s' hle e k5 F5 ⟨m, hm⟩ F.locals_none hD hJ
  exact codeAny_compStart_list (loop _ rfl) (it.walk.self 0 _ _ _ (it.walk.frame _ _ _ st0 fun b _ o e => kk b o (hH2 ▸ Heap.get?_push_of_some _ e)) (loop _ rfl))

def CompIt (c : Cx) (scope : Scope) (cl : List (Str × Addr)) (x : Str) (ifs : List Expr) (elt : Expr) (σ : Loc) (K : Addr → Store → Prop) (p : PV) (H : Store) : Prop :=
  ∃ items, Items p items ∧ items.length ≤ sizeLine ∧ ∃ J : Nat → List PV → Store → Prop, J 0 [] H ∧ TurnO c scope cl x ifs elt σ items J ∧ ∀ D ys H', H' D = none → J items.length ys H' → K D (upd H' D (.lst ys))

theorem e_comp {elt iter : Expr} {px pos : Pos} {ifs : List Expr} (hh : c.A.handled = none) (hg : ∀ a, c.g.get? a = none) (ok : CompOK c.env scope cl x)
    (h : EvO c (eval iter c.env) σ H (CompIt c scope cl x ifs elt σ fun D H' => Q (.ref D) H')) (hs : ∀ x, foldedSetIterable iter c.env x = pure x := by intro _; rfl) : EvO c (eval (.ListComp elt [⟨.Name x px, iter, ifs, 0⟩] scope pos) c.env) σ H Q := fun s F => by
  rw [eval_ListComp]
  refine wpAny_comprehension_free (use := none) rfl hs ok.clos ok.kind ok.names (h.use F fun v p H₁ s₁ e₁ k₁ F₁ r₁ q₁ => ?_)
  obtain ⟨items, its, hsz, J, j0, turn, q⟩ := q₁
  refine iterStart hh F₁ r₁ its fun It fp PP St s₂ e₂ k₂ it st0 => ?_
  refine comp_block (RR := fun acc C => compPost (model c.prog c.w) c.A _ none _ acc C) ok hg hsz F₁ it turn j0 e₂ k₂ st0 fun C D ys H' s' hC e k F' hm hHC hD hJ => ?_
  obtain ⟨m, hm⟩ := hm
  refine ⟨m, hm, fun h' hs' => ?_⟩
  obtain ⟨F6, k6⟩ := F₁.dropC hC F' hm k hHC hs'
  exact ⟨.ref D, _, (e₁.trans e).trans ⟨_, _, rfl⟩, k₁.trans k6, F6, .ref D, q D ys H' hD hJ⟩

theorem s_comp {elt iter : Expr} {px pos py spos : Pos} {ifs : List Expr} {y : Str} (hh : c.A.handled = none) (hg : ∀ a, c.g.get? a = none) (ok : CompOK c.env scope cl x)
    (h : EvO c (eval iter c.env) σ H (CompIt c scope cl x ifs elt σ fun D H' => Qn (bnd σ y (.ref D)) H')) (hk : isStor (c.env.kindOf y) = true := by rfl)
    (hsw : swapsWith (.ListComp elt [⟨.Name x px, iter, ifs, 0⟩] scope pos) (some (.Name y py)) spos.line c.env = pure true := by rfl)
    (hs : ∀ x, foldedSetIterable iter c.env x = pure x := by intro _; rfl) : SO c (exec (.Assign [.Name y py] (.ListComp elt [⟨.Name x px, iter, ifs, 0⟩] scope pos) spos) c.env) σ H Qn Qr := fun s F => by
  rw [exec_Assign_Name_used _ _ _ _ hsw]
  refine wpAny_bind (wpAny_standAt (wpAny_bind ?_))
  show wpAny _ _ (do let _ ← comprehension (.ListComp elt [⟨.Name x px, iter, ifs, 0⟩] scope pos) scope c.env _ (newList []) false (eval iter c.env) (some (assign (.Name y py) c.env))) _ _ s
  refine wpAny_bind (wpAny_mono (wpAny_comprehension_free (use := some (assign (.Name y py) c.env)) (Q := fun _ s' => ∃ σ' H', Same s s' ∧ Kp (Xe c.env) s.heap H s'.heap H' ∧ Act c σ' H' s'.heap ∧ Qn σ' H') rfl hs ok.clos ok.kind ok.names
    (h.use F fun v p H₁ s₁ e₁ k₁ F₁ r₁ q₁ => ?_)) (fun _ s' hq => wpAny_pure (wpAny_pure hq)) fun _ _ x => x)
  obtain ⟨items, its, hsz, J, j0, turn, q⟩ := q₁
  refine iterStart hh F₁ r₁ its fun It fp PP St s₂ e₂ k₂ it st0 => ?_
  refine comp_block (RR := fun acc C => compPost (model c.prog c.w) c.A _ (some _) _ acc C) ok hg hsz F₁ it turn j0 e₂ k₂ st0 fun C D ys H' s' hC e k F' hm hHC hD hJ => ?_
  obtain ⟨m, hm⟩ := hm
  show wpAny _ _ (assign (.Name y py) c.env (.ref D)) _ _ _
  refine PyProof.Rows.assign_Name (stName F' (.ref D) hk fun s'' e' k' F'' => ?_)
  have hm' : s''.heap.Ns C m := hm.at' fun o e2 => (k' C o e2 hHC (by
    obtain ⟨fn, fH, fL, fC, fB, fG⟩ := F₁.freshFacts hC
    rintro (q | ⟨z, q⟩)
    · exact fL q.symm
    · exact fC z q)).1
  refine ⟨m, hm', fun h' hs' => ?_⟩
  obtain ⟨F6, k6⟩ := F₁.dropC hC F'' hm' (k.trans k') hHC hs'
  exact ⟨_, _, ((e₁.trans e).trans e').trans ⟨_, _, rfl⟩, k₁.trans k6, F6, q D ys H' hD hJ⟩

-- the tests
theorem tests_nil {c' : Cx} {σ' : Loc} {H' : Store} {Qb : Bool → Store → Prop} {env : Env} (q : Qb true H') : TsO c' (tests [] env) σ' H' Qb := fun s F => wpAny_pure ⟨true, H', Same.refl _, Kp.refl, F, rfl, q⟩
theorem tests_one {c' : Cx} {σ' : Loc} {H' : Store} {Qb : Bool → Store → Prop} {env : Env} {t : Expr} (h : TsO c' (isTrue t env (eval t env)) σ' H' Qb) : TsO c' (tests [t] env) σ' H' Qb := fun s F => by
  unfold tests
  rw [List.forIn_cons]
  refine wpAny_bind ?_
  simp only [if_true]
  refine wpAny_bind (h.use F fun b b' H₁ s₁ e₁ k₁ F₁ r₁ q₁ => wpAny_pure ?_)
  simp only [List.forIn_nil]
  exact wpAny_pure ⟨b', H₁, e₁, k₁, F₁, r₁, q₁⟩
end
end Mine

open PySem PySem.W PyProof.Rows PySem.Calls
set_option Elab.async false
set_option maxRecDepth 100000
set_option linter.unusedVariables false
set_option linter.unusedSectionVars false
namespace Mine

-- what nobody changes any more
mutual
inductive Fz (H K : Store) : PV → PV → Prop
  | same (p : PV) : Fz H K p p
  | ref {a : Addr} {ds es : List PV} : H a = some (.lst ds) → K a = none → FzL H K ds es → Fz H K (.ref a) (.lst es)
  | tup {ds es : List PV} : FzL H K ds es → Fz H K (.tup ds) (.tup es)
  | lst {ds es : List PV} : FzL H K ds es → Fz H K (.lst ds) (.lst es)
inductive FzL (H K : Store) : List PV → List PV → Prop
  | nil : FzL H K [] []
  | cons {d e : PV} {ds es : List PV} : Fz H K d e → FzL H K ds es → FzL H K (d :: ds) (e :: es)
end
theorem FzL.refl {H K : Store} : ∀ l : List PV, FzL H K l l
  | [] => .nil
  | d :: l => .cons (.same d) (FzL.refl l)

inductive FzD {α : Type} (H K : Store) : List (α × PV) → List (α × PV) → Prop
  | nil : FzD H K [] []
  | cons {k : α} {d e : PV} {ds es : List (α × PV)} : Fz H K d e → FzD H K ds es → FzD H K ((k, d) :: ds) ((k, e) :: es)
theorem FzD.refl {α : Type} {H K : Store} : ∀ l : List (α × PV), FzD H K l l
  | [] => .nil
  | (k, d) :: l => .cons (.same d) (FzD.refl l)

inductive FzM (H K : Store) : MO → MO → Prop
  | lst {ds es : List PV} : FzL H K ds es → FzM H K (.lst ds) (.lst es)
  | dct {ds es : List (Key × PV)} : FzD H K ds es → FzM H K (.dct ds) (.dct es)
  | tdct {ds es : List (List Key × PV)} : FzD H K ds es → FzM H K (.tdct ds) (.tdct es)
  | hid (x y : Value) : FzM H K (.hid x y) (.hid x y)
theorem FzM.refl {H K : Store} : ∀ m : MO, FzM H K m m
  | .lst l => .lst (.refl l)
  | .dct l => .dct (.refl l)
  | .tdct l => .tdct (.refl l)
  | .hid x y => .hid x y

def FzS (H K : Store) : Prop := ∀ a mo, K a = some mo → ∃ mo', H a = some mo' ∧ FzM H K mo' mo
theorem FzS.none {H K : Store} (f : FzS H K) {b : Addr} (n : H b = Option.none) : K b = Option.none := by
  cases e : K b with
  | none => rfl
  | some mo => obtain ⟨mo', e', _⟩ := f b mo e; rw [n] at e'; cases e'
theorem FzS.of_le {H K : Store} (le : ∀ a mo, K a = some mo → H a = some mo) : FzS H K := fun a mo e => ⟨mo, le a mo e, .refl mo⟩

section
variable {h : Heap} {H K : Store}
mutual
theorem R.fz (f : FzS H K) (L : ∀ a ds, H a = some (.lst ds) → ∃ vs : List Value, h.PlainList a vs.toArray ∧ RL h H vs ds) : ∀ {v : Value} {p q : PV}, Fz H K p q → R h H v p → R h K v q
  | _, _, _, .same p, r => r.keep fun b o e _ n => ⟨e, f.none n⟩
  | _, _, _, .ref e n l, r => by cases r; exact let ⟨vs, hp, r⟩ := L _ _ e; .lst hp n (RL.fz f L l r)
  | _, _, _, .tup l, .tup h1 h2 r => .tup h1 (f.none h2) (RL.fz f L l r)
  | _, _, _, .lst l, .lst h1 h2 r => .lst h1 (f.none h2) (RL.fz f L l r)
theorem RL.fz (f : FzS H K) (L : ∀ a ds, H a = some (.lst ds) → ∃ vs : List Value, h.PlainList a vs.toArray ∧ RL h H vs ds) : ∀ {vs : List Value} {ps qs : List PV}, FzL H K ps qs → RL h H vs ps → RL h K vs qs
  | _, _, _, .nil, .nil => .nil
  | _, _, _, .cons a b, .cons r s => .cons (R.fz f L a r) (RL.fz f L b s)
end
theorem DR.fz {α : Type} (f : FzS H K) (L : ∀ a ds, H a = some (.lst ds) → ∃ vs : List Value, h.PlainList a vs.toArray ∧ RL h H vs ds) {xs : List (α × Value)} {ks ls : List (α × PV)} (z : FzD H K ks ls) (r : DR h H xs ks) : DR h K xs ls := by
  induction z generalizing xs with
  | nil => cases r; exact .nil
  | cons a _ ih => cases r with | cons r s => exact .cons (R.fz f L a r) (ih s)
end

section
variable {c : Cx} {σ : Loc} {H K : Store} {Q : PV → Store → Prop} {Qn : Loc → Store → Prop} {Qr : PV → Store → Prop} {mg mb : Str → Option Value} {prog : Program}
theorem Act.lists {h : Heap} (F : Act c σ H h) : ∀ a ds, H a = some (.lst ds) → ∃ vs : List Value, h.PlainList a vs.toArray ∧ RL h H vs ds := fun a ds e => (F.st a _ e).1
theorem Act.fz {h : Heap} {σ' : Loc} (F : Act c σ H h) (f : FzS H K) (s : ∀ x q, σ' x = some q → ∃ p, σ x = some p ∧ Fz H K p q) : Act c σ' K h where
  base := F.base
  keep := F.keep
  Lb := F.Lb
  Lg := F.Lg
  loc := let ⟨m, hn, hv⟩ := F.loc; ⟨m, hn, fun x q e l => let ⟨p, e', z⟩ := s x q e; let ⟨v, hm, r⟩ := hv x p e' l; ⟨v, hm, r.fz f F.lists z⟩⟩
  cel := fun x q e l => let ⟨p, e', z⟩ := s x q e; let ⟨a, v, ha, hc, r⟩ := F.cel x p e' l; ⟨a, v, ha, hc, r.fz f F.lists z⟩
  own := F.own
  apart := F.apart
  has := F.has
  fn := F.fn
  st := by
    intro a mo e
    obtain ⟨mo', e', z⟩ := f a mo e
    obtain ⟨m, r⟩ := F.st a mo' e'
    refine ⟨?_, r⟩
    cases z with
    | lst z => obtain ⟨vs, hp, r⟩ := m; exact ⟨vs, hp, r.fz f F.lists z⟩
    | dct z => obtain ⟨xs, hp, r⟩ := m; exact ⟨xs, hp, r.fz f F.lists z⟩
    | tdct z => obtain ⟨xs, hp, r, n⟩ := m; exact ⟨xs, hp, r.fz f F.lists z, fun x hx => f.none (n x hx)⟩
    | hid x y => exact m
theorem Kp.fz {X : Addr → Prop} {h : Heap} (f : FzS H K) : Kp X h H h K := fun b o e n _ => ⟨e, f.none n⟩

/-- the value stands still from here on -/
theorem e_fz {t : Sem Value} (G : EvO c t σ H fun p H' => ∃ q K, FzS H' K ∧ Fz H' K p q ∧ Q q K) : EvO c t σ H Q := fun s F =>
  G.use F fun v p H' s' e k F' r ⟨q, K, f, z, hq⟩ => ⟨q, K, e, k.trans (.fz f), F'.fz f (fun x p e => ⟨p, e, .same p⟩), r.fz f F'.lists z, hq⟩
theorem s_fz {t : Sem Flow} {σ' : Loc} (f : FzS H K) (s : ∀ x q, σ' x = some q → ∃ p, σ x = some p ∧ Fz H K p q) (G : SO c t σ' K Qn Qr) : SO c t σ H Qn Qr := fun s' F =>
  G.use (F.fz f s) (fun σ' H'' s' e kp F' q => ⟨σ', H'', e, (Kp.fz f).trans kp, F', q⟩) fun v p σ' H'' s' e kp F' r q => ⟨σ', H'', e, (Kp.fz f).trans kp, F', p, r, q⟩

-- calls of the program's own functions
abbrev fcx (c : Cx) (d : DefRec) (A : Around) (L a : Addr) (cd : Value) : Cx := { c with A := A, env := envOfC d.name d.scope L a cd }
noncomputable def argL : List Str → List PV → Loc → Loc
  | n :: ns, p :: ps, σ => argL ns ps (bnd σ n p)
  | _, _, σ => σ
def FnO (c : Cx) (d : DefRec) (k : Nat) (ps : List PV) (H : Store) (Q : PV → Store → Prop) : Prop :=
  ∀ A L a cd, Rm k A → SO (fcx c d A L a cd) (execs d.body (envOfC d.name d.scope L a cd)) (argL (d.params.args.map (·.arg)) ps fun _ => none) H (fun _ H' => Q .none H') Q

theorem bindArgs_ok {kindOf : Str → Option NameKind} {h : Heap} {H : Store} : ∀ {ns : List Str} {vs : List Value} {ps : List PV} {m cm : Str → Option Value} {σ : Loc}, ns.length = ps.length → RL h H vs ps →
    (∀ x ∈ ns, kindOf x = some .local ∨ kindOf x = some .cell) →
    (∀ x p, σ x = some p → (kindOf x = some .local → ∃ v, m x = some v ∧ R h H v p) ∧ (kindOf x = some .cell ∨ kindOf x = some .free → ∃ v, cm x = some v ∧ R h H v p)) →
    ∀ x p, argL ns ps σ x = some p → (kindOf x = some .local → ∃ v, bindL kindOf (ns.zip vs) m x = some v ∧ R h H v p) ∧ (kindOf x = some .cell ∨ kindOf x = some .free → ∃ v, bindC kindOf (ns.zip vs) cm x = some v ∧ R h H v p)
  | [], _, [], _, _, _, _, .nil, _, hσ => hσ
  | _ :: _, [], _ :: _, _, _, _, _, r, _, _ => nomatch r
  | n :: ns, v :: vs, d :: ps, m, cm, σ, hl, .cons r rs, hk, hσ => by
    simp only [List.zip_cons_cons, bindL, bindC, argL]
    refine bindArgs_ok (by simpa using hl) rs (fun x hx => hk x (List.mem_cons_of_mem _ hx)) ?_
    intro x p e
    unfold bnd at e
    by_cases hx : x = n
    · rw [if_pos hx] at e
      obtain rfl := Option.some.inj e
      subst hx
      rcases hk x List.mem_cons_self with l | l
      · exact ⟨fun _ => ⟨v, by simp [l], r⟩, fun q => by rw [l] at q; rcases q with q | q <;> cases q⟩
      · exact ⟨fun q => by rw [l] at q; (cases q), fun _ => ⟨v, by simp [l], r⟩⟩
    · rw [if_neg hx] at e
      obtain ⟨h1, h2⟩ := hσ x p e
      refine ⟨fun l => ?_, fun l => ?_⟩
      · obtain ⟨u, hu, r'⟩ := h1 l
        refine ⟨u, ?_, r'⟩
        split <;> simp [hx, hu]
      · obtain ⟨u, hu, r'⟩ := h2 l
        refine ⟨u, ?_, r'⟩
        split <;> simp [hx, hu]

theorem cellsFrom_has : ∀ {names : List (Str × NameKind)} {n : Nat} {acc : List (Str × Addr)} {x : Str}, ((x, NameKind.cell) ∈ names ∨ (acc.lookup x).isSome = true) → ((cellsFrom n names acc).lookup x).isSome = true
  | [], _, _, _, h => by rcases h with h | h; (cases h); exact h
  | (y, k) :: r, n, acc, x, h => by
    unfold cellsFrom
    split
    · rename_i hk
      refine cellsFrom_has ?_
      rcases h with h | h
      · rcases List.mem_cons.mp h with e | h
        · cases e; right; simp
        · exact .inl h
      · right
        rw [List.lookup_cons]
        split <;> simp_all
    · rename_i hk
      refine cellsFrom_has ?_
      rcases h with h | h
      · rcases List.mem_cons.mp h with e | h
        · cases e; exact absurd rfl hk
        · exact .inl h
      · exact .inr h

theorem Rm.deeper {k : Nat} {A : Around} {env : Env} (r : Rm (k + 1) A) : Rm k (A.deeper env) := by
  obtain ⟨h1, h2, h3⟩ := r
  exact ⟨h1, by show A.depth + 1 + k < 900; omega, by show A.units + 3 + 10 * k + 100 < 9000; omega⟩

theorem call_fn {d : DefRec} {k : Nat} {ps : List PV} {s : Shared} {vs : List Value} {f : Addr} {o : Obj} {pm cd doc : Value} (hg : ∀ a, c.g.get? a = none) (rm : Rm (k + 1) c.A) (hlim : c.B.NoLimit) (ho : c.B.get? f = some o) (hd : o.data = .func (docDef d.name d.params d.body d.scope pm cd doc)) (hcd : c.B.CodeRec cd d.name)
    (hl : (d.params.args.map (·.arg)).length = ps.length) (hk : ∀ x ∈ d.params.args.map (·.arg), d.scope.names.lookup x = some .local ∨ d.scope.names.lookup x = some .cell)
    (hbind : ∀ vs : List Value, vs.length = ps.length → bindArgs (docDef d.name d.params d.body d.scope pm cd doc) ⟨vs, []⟩ = pure ((d.params.args.map (·.arg)).zip vs))
    (hco : d.scope.isCoroutine = false) (hgen : d.scope.isGenerator = false) (hkind : d.scope.kind = .function)
    (F : Act c σ H s.heap) (r : RL s.heap H vs ps) (G : FnO c d k ps H Q) :
    wpAny (model c.prog c.w) c.A (call (.ref f) vs) (fun v s' => ∃ p H', Same s s' ∧ Kp (Xe c.env) s.heap H s'.heap H' ∧ Act c σ H' s'.heap ∧ R s'.heap H' v p ∧ Q p H') (fun _ _ => False) s := by
  have hle : c.B.objs.size ≤ s.heap.objs.size := by
    obtain ⟨oL, hoL⟩ := F.Lin
    exact Nat.le_trans F.Lb (Nat.le_of_lt (Heap.lt_size hoL))
  have none_of : ∀ a, s.heap.objs.size ≤ a → c.B.get? a = none := fun a ha => Heap.get?_none_of_le (Nat.le_trans hle ha)
  have cellHas : ∀ {n : Nat} {x : Str}, d.scope.names.lookup x = some .cell → ((cellsFrom n d.scope.names []).lookup x).isSome = true := fun e => cellsFrom_has (.inl (mem_of_lookup e))
  refine wpAny_call (call_cells_ret (by obtain ⟨_, h2, _⟩ := rm; show c.A.depth < recursionLimit; have : (900 : Nat) < recursionLimit := by decide
                                        omega) (F.base _ _ ho) hd (hlim.keeps F.base) (hcd.keeps F.base) (hbind vs r.length) ?_ (fun h₁ tk F₁ X => ?_) hco hgen hkind)
  · rintro ⟨x, v⟩ hx
    rcases hk x (List.of_mem_zip hx).1 with q | q
    · exact .inl q
    · exact .inr ⟨q, cellHas q⟩
  · have ka := F₁.keep
    have kk : ∀ b o, s.heap.get? b = some o → IsV o → H b = none → h₁.get? b = some o ∧ H b = none := fun b o e _ n => ⟨ka b o e, n⟩
    have BA := bindArgs_ok (kindOf := (envOfC d.name d.scope s.heap.objs.size f cd).kindOf) (m := fun _ => none) (cm := fun _ => none) (σ := fun _ => none) hl (r.keep kk) hk (fun x p e => by cases e)
    have F₂ : Act (fcx c d (c.A.deeper (envOfC d.name d.scope s.heap.objs.size f cd)) s.heap.objs.size f cd) (argL (d.params.args.map (·.arg)) ps fun _ => none) H h₁ := by
      refine ⟨fun b o e => ka b o (F.base b o e), fun b o e n => ka b o (F.keep b o e n), hle, hg _, ⟨_, F₁.ns, fun x p e l => (BA x p e).1 l⟩, ?_, ?_, ?_, ?_, hkind, ?_⟩
      · intro x p e l
        obtain ⟨v, hv, r'⟩ := (BA x p e).2 l
        rcases l with l | l
        · have := cellHas (n := s.heap.objs.size + 1) l
          cases ea : (cellsFrom (s.heap.objs.size + 1) d.scope.names []).lookup x with
          | none => rw [ea] at this; cases this
          | some a => exact ⟨a, v, ea, hv ▸ X.cell x a ea, r'⟩
        · exfalso
          clear hv r'
          have hx : x ∈ d.params.args.map (·.arg) := by
            clear BA l r G hbind hk
            revert e
            have gen : ∀ (ns : List Str) (qs : List PV) (σ : Loc), argL ns qs σ x = some p → x ∈ ns ∨ σ x = some p := by
              intro ns
              induction ns with
              | nil => intro qs σ e; cases qs <;> exact .inr e
              | cons n ns ih =>
                intro qs σ e
                cases qs with
                | nil => exact .inr e
                | cons q qs =>
                  rcases ih qs _ e with h | h
                  · exact .inl (List.mem_cons_of_mem _ h)
                  · unfold bnd at h
                    split at h
                    · rename_i hx; exact .inl (hx ▸ List.mem_cons_self)
                    · exact .inr h
            intro e
            rcases gen _ _ _ e with h | h
            · exact h
            · cases h
          have l' : d.scope.names.lookup x = some .free := l
          rcases hk x hx with q | q <;> (rw [l'] at q; cases q)
      · intro x a ha
        have lt : s.heap.objs.size < a := X.above x a (mem_of_lookup ha)
        exact ⟨⟨_, X.cell x a ha⟩, none_of _ (Nat.le_of_lt lt), hg _⟩
      · intro x y a hx hy
        exact name_of_addr X.apart (mem_of_lookup hx) (mem_of_lookup hy)
      · intro x hx
        have := cellHas (n := s.heap.objs.size + 1) hx
        show ∃ a, (cellsFrom (s.heap.objs.size + 1) d.scope.names []).lookup x = some a
        cases ea : (cellsFrom (s.heap.objs.size + 1) d.scope.names []).lookup x with
        | none => rw [ea] at this; cases this
        | some a => exact ⟨a, rfl⟩
      · intro a mo e
        obtain ⟨m, _, q⟩ := F.st a mo e
        refine ⟨m.keep kk fun o e => ka _ o e, ?_, q⟩
        show a ≠ s.heap.objs.size
        rintro rfl
        obtain ⟨o', ho', _⟩ := F.stGet e
        rw [get?_size] at ho'; cases ho'
    have Xfresh : ∀ b o, s.heap.get? b = some o → ¬ Xe (envOfC d.name d.scope s.heap.objs.size f cd) b := by
      rintro b o e (q | ⟨x, hx⟩)
      · exact absurd (Heap.lt_size e) (Nat.not_lt.mpr (Nat.le_of_eq q.symm))
      · have lt : s.heap.objs.size < b := X.above x b (mem_of_lookup hx)
        exact absurd (Heap.lt_size e) (Nat.not_lt.mpr (Nat.le_of_lt lt))
    have out : ∀ {σ' : Loc} {H' : Store} {s' : Shared}, Act (fcx c d (c.A.deeper (envOfC d.name d.scope s.heap.objs.size f cd)) s.heap.objs.size f cd) σ' H' s'.heap → Kp (Xe (envOfC d.name d.scope s.heap.objs.size f cd)) h₁ H s'.heap H' →
        Act c σ H' s'.heap ∧ Kp (Xe c.env) s.heap H s'.heap H' := by
      intro σ' H' s' F' k'
      have k : Kp (fun _ => False) s.heap H s'.heap H' := fun b o e n _ => k' b o (ka b o e) n (Xfresh b o e)
      exact ⟨F.back k (fun _ _ _ x => x.elim) (fun x => x) (fun _ _ _ _ x => x) F'.base F'.keep fun a mo e => let ⟨m, _, q⟩ := F'.st a mo e; ⟨m, q⟩, k.weaken fun _ _ _ x => x.elim⟩
    refine SO.use (G (c.A.deeper (envOfC d.name d.scope s.heap.objs.size f cd)) s.heap.objs.size f cd rm.deeper) (s := { s with heap := h₁, toks := tk }) F₂ (fun σ' H' s' e k F' q => ?_) fun v p σ' H' s' e k F' r' q => ?_
    · obtain ⟨F3, k3⟩ := out F' k
      exact ⟨.none, H', Same.trans ⟨_, _, rfl⟩ e, k3, F3, .none, q⟩
    · obtain ⟨F3, k3⟩ := out F' k
      exact ⟨p, H', Same.trans ⟨_, _, rfl⟩ e, k3, F3, r', q⟩
end
end Mine

open PySem PySem.W PyProof.Rows PySem.Calls
set_option Elab.async false
set_option maxRecDepth 100000
set_option linter.unusedVariables false
set_option linter.unusedSectionVars false
namespace Mine

section
variable {c : Cx} {σ : Loc} {H K : Store} {Q : PV → Store → Prop} {Qn : Loc → Store → Prop} {Qr : PV → Store → Prop} {mg mb : Str → Option Value} {prog : Program} {k : Nat}

structure FnOK (d : DefRec) (n : Nat) : Prop where
  len : (d.params.args.map (·.arg)).length = n
  kinds : ∀ x ∈ d.params.args.map (·.arg), d.scope.names.lookup x = some .local ∨ d.scope.names.lookup x = some .cell
  bind : ∀ (pm cd doc : Value) (vs : List Value), vs.length = n → bindArgs (docDef d.name d.params d.body d.scope pm cd doc) ⟨vs, []⟩ = pure ((d.params.args.map (·.arg)).zip vs)
  co : d.scope.isCoroutine = false
  gen : d.scope.isGenerator = false
  kind : d.scope.kind = .function

theorem e_callF {d : DefRec} {n : Nat} {x : Str} {e : Expr} {rest : List Expr} {p pos : Pos} (G : Gl prog c.B mg mb) (hm : d ∈ recsOf prog) (ok : FnOK d n) (hg : ∀ a, c.g.get? a = none) (rm : Rm (k + 1) c.A)
    (h : AvO c (spliced (backTo pos (starEach (e :: rest) c.env))) σ H fun ps H' => n = ps.length ∧ FnO c d k ps H' Q) (hn : d.name = x := by rfl)
    (hx : c.env.kindOf x = some .globalImplicit := by rfl) (eg : c.env.globals = mainGlobals := by rfl) (hd : (x == ("__debug__" : Str)) = false := by decide)
    (he : starEach (e :: rest) c.env = (false, eval e c.env) :: starEach rest c.env := by rfl) : EvO c (eval (.Call (.Name x p) (e :: rest) [] pos) c.env) σ H Q := fun s F => by
  obtain ⟨a, o, pm, code, doc, hmg, ho, hdat, hcd⟩ := G.fn d hm
  refine Call_ (Name_function_global F.fn hx (loadGlobal_global (eg ▸ G.g.keeps F.base) (hn ▸ hmg) (callWith_def hdat (h.use F fun vs ps H' s' e' k' F' r q => ⟨F'.base _ _ ho, ?_⟩) he)) hd)
  obtain ⟨hl, q⟩ := q
  subst hl
  exact wpAny_mono (call_fn hg rm G.nolimit ho hdat hcd ok.len ok.kinds (ok.bind pm code doc) ok.co ok.gen ok.kind F' r q) (fun v s'' ⟨p, H'', e'', k'', F'', r', q'⟩ => ⟨p, H'', e'.trans e'', k'.trans k'', F'', r', q'⟩) fun _ _ x => x

theorem s_while {test : Expr} {body : List Stmt} {pos : Pos} (I : Nat → Loc → Store → Prop) (n : Nat) (h : I n σ H)
    (turn : ∀ n σ' H', I n σ' H' → TsO c (isTrue test c.env (eval test c.env)) σ' H' fun b H'' => if b = true then SO c (execs body c.env) σ' H'' (fun σ3 H3 => ∃ m, m < n ∧ I m σ3 H3) Qr else Qn σ' H'') : SO c (exec (.While test body [] pos) c.env) σ H Qn Qr := fun s F =>
  wpAny_While (by
    refine codeAny_whileLoop (fun n s' => ∃ σ' H', Same s s' ∧ Kp (Xe c.env) s.heap H s'.heap H' ∧ Act c σ' H' s'.heap ∧ I n σ' H') ?_ n ⟨σ, H, Same.refl _, Kp.refl, F, h⟩
    rintro n s₁ ⟨σ₁, H₁, e₁, k₁, F₁, i₁⟩
    refine wpAny_mono ((turn n σ₁ H₁ i₁).use F₁ (P := fun b s₂ => if b then wpAny (model c.prog c.w) c.A (execs body c.env) (fun f s₃ => match f with
            | .next | .cont => ∃ m, m < n ∧ ∃ σ' H', Same s s₃ ∧ Kp (Xe c.env) s.heap H s₃.heap H' ∧ Act c σ' H' s₃.heap ∧ I m σ' H'
            | .brk => ∃ σ' H', Same s s₃ ∧ Kp (Xe c.env) s.heap H s₃.heap H' ∧ Act c σ' H' s₃.heap ∧ Qn σ' H'
            | .ret v => ∃ σ' H', Same s s₃ ∧ Kp (Xe c.env) s.heap H s₃.heap H' ∧ Act c σ' H' s₃.heap ∧ ∃ p, R s₃.heap H' v p ∧ Qr p H') (fun _ _ => False) s₂
        else wpAny (model c.prog c.w) c.A (execs [] c.env) (fun f s₃ => ∃ σ' H', Same s s₃ ∧ Kp (Xe c.env) s.heap H s₃.heap H' ∧ Act c σ' H' s₃.heap ∧ match f with
    | .next => Qn σ' H'
    | .ret v => ∃ p, R s₃.heap H' v p ∧ Qr p H'
    | _ => False) (fun _ _ => False) s₂) fun b b' H₂ s₂ e₂ k₂ F₂ r₂ q₂ => ?_) (fun b s₂ h₂ => ?_) fun _ _ x => x.elim
    · obtain rfl : b = b' := r₂
      cases b with
      | true =>
        simp only [if_true] at q₂ ⊢
        exact q₂.use F₂ (fun σ₃ H₃ s₃ e₃ k₃ F₃ ⟨m, hm, i⟩ => ⟨m, hm, σ₃, H₃, (e₁.trans e₂).trans e₃, (k₁.trans k₂).trans k₃, F₃, i⟩) fun v p σ₃ H₃ s₃ e₃ k₃ F₃ r₃ q₃ =>
          ⟨σ₃, H₃, (e₁.trans e₂).trans e₃, (k₁.trans k₂).trans k₃, F₃, p, r₃, q₃⟩
      | false =>
        simp only [Bool.false_eq_true, if_false] at q₂ ⊢
        exact wpAny_execs_nil ⟨σ₁, H₂, e₁.trans e₂, k₁.trans k₂, F₂, q₂⟩
    · split at h₂
      · rename_i hb
        simp only [hb, if_true]
        exact wpAny_mono h₂ (fun f s₃ h₃ => by cases f <;> exact h₃) fun _ _ x => x.elim
      · rename_i hb
        simp only [hb, Bool.false_eq_true, if_false]
        exact wpAny_mono h₂ (fun f s₃ h₃ => h₃) fun _ _ x => x.elim)

-- in a list
noncomputable def pin (p : PV) (l : List PV) : Bool := l.any fun q => peq q p
theorem pin_iff {p : PV} {l : List PV} : pin p l = true ↔ p ∈ l := by
  unfold pin
  rw [List.any_eq_true]
  constructor
  · rintro ⟨q, hq, e⟩; rw [peq_iff] at e; exact e ▸ hq
  · intro h; exact ⟨p, h, peq_self p⟩
open Classical in
theorem any_R {A : Around} {s : Shared} {H : Store} {vs : List Value} {ds : List PV} {v : Value} {p : PV} (r : RL s.heap H vs ds) (rv : R s.heap H v p) (ol : PV.okL ds = true) (op : p.ok = true) (hd : PV.depL ds ≤ 90) (hu : A.units + 100 < cLine) :
    ∃ e : Value → Bool, (∀ y, y ∈ vs.toArray → SeqAt.EqAt A.in1 s y v (e y)) ∧ vs.toArray.any e = pin p ds := by
  let e : Value → Bool := fun y => decide (∃ d ∈ ds, R s.heap H y d ∧ d = p)
  have uniq : ∀ {y : Value} {d d' : PV}, d ∈ ds → d' ∈ ds → R s.heap H y d → R s.heap H y d' → d = d' := fun h1 h2 r1 r2 =>
    R.inj _ _ _ _ _ _ (Nat.le_refl _) r1 r2 (PV.okL_get ol _ h1) (PV.okL_get ol _ h2)
  refine ⟨e, fun y hy => ?_, ?_⟩
  · have hy' : y ∈ vs := by simpa using hy
    obtain ⟨i, hi, rfl⟩ := List.mem_iff_getElem.mp hy'
    obtain ⟨d, hd1, r1⟩ := r.get' (List.getElem?_eq_getElem hi)
    have hdm := List.mem_of_getElem? hd1
    have E := eqAt_R d.dep d p A.in1 s H _ _ (Nat.le_refl _) r1 rv (PV.okL_get ol _ hdm) op (by have := PV.depL_get d hdm; simp; omega)
    have : e vs[i] = decide (d = p) := by
      show decide _ = decide _
      congr 1
      apply propext
      constructor
      · rintro ⟨d', h1, h2, h3⟩; rw [uniq hdm h1 r1 h2]; exact h3
      · intro h; exact ⟨d, hdm, r1, h⟩
    rw [this]; exact E
  · rw [Bool.eq_iff_iff, pin_iff]
    simp only [List.any_toArray, List.any_eq_true]
    constructor
    · rintro ⟨y, hy, he⟩
      obtain ⟨d, h1, h2, rfl⟩ := of_decide_eq_true he
      exact h1
    · intro h
      obtain ⟨i, hi, he⟩ := List.mem_iff_getElem.mp h
      obtain ⟨u, hu1, r1⟩ := r.get (List.getElem?_eq_getElem hi)
      exact ⟨u, List.mem_of_getElem? hu1, decide_eq_true ⟨_, List.getElem_mem hi, r1, he⟩⟩

theorem c_in_lst {x y : PV} {ds : List PV} (rm : Rm k c.A) (e : vw H y = .lst ds) (ol : PV.okL ds = true) (op : (vw H x).ok = true) (hd : PV.depL ds ≤ 90) (q : Q (.bool (pin (vw H x) ds)) H) : O2 c σ H x y (compareOp .In) Q := fun s va vb F ra rb => by
  have rv := F.view rb
  rw [e] at rv
  cases rv with
  | @lst a vs _ hl hn r =>
    obtain ⟨ev, he, hv⟩ := any_R (A := c.A) r (F.view ra) ol op hd rm.units
    refine SeqAt.in_listAt ev hl.isList he ?_
    rw [hv]
    exact fin0 F (.bool _) q
theorem c_notin_lst {x y : PV} {ds : List PV} (rm : Rm k c.A) (e : vw H y = .lst ds) (ol : PV.okL ds = true) (op : (vw H x).ok = true) (hd : PV.depL ds ≤ 90) (q : Q (.bool (!pin (vw H x) ds)) H) : O2 c σ H x y (compareOp .NotIn) Q := fun s va vb F ra rb => by
  have rv := F.view rb
  rw [e] at rv
  cases rv with
  | @lst a vs _ hl hn r =>
    obtain ⟨ev, he, hv⟩ := any_R (A := c.A) r (F.view ra) ol op hd rm.units
    refine SeqAt.notIn_listAt ev hl.isList he ?_
    rw [hv]
    exact fin0 F (.bool _) q
end
end Mine

open PySem PySem.W PyProof.Rows PySem.Calls
set_option Elab.async false
set_option maxRecDepth 100000
set_option maxHeartbeats 8000000
set_option linter.unusedVariables false
set_option linter.unusedSectionVars false
namespace Mine

abbrev thePr : Program := PySem.Challenge.pw_og0149_01
def recNo (i : Nat) : DefRec := (recsOf thePr)[i]?.getD ⟨"", default, [], default, default⟩
theorem recNo_mem {i : Nat} (h : i < (recsOf thePr).length) : recNo i ∈ recsOf thePr := by
  unfold recNo
  rw [List.getElem?_eq_getElem h]
  exact List.getElem_mem h
theorem nrecs : (recsOf thePr).length = 19 := by decide +kernel
noncomputable def is2 : { d : DefRec // recNo 2 = d } := ⟨_, by conv => { lhs; whnf }⟩
noncomputable def rc2 : DefRec := is2.1
theorem ok_need : FnOK rc2 2 := ⟨rfl, by decide, fun pm cd doc vs h => by
  match vs, h with
  | [a, b], _ => rfl, rfl, rfl, rfl⟩
theorem mem_need : rc2 ∈ recsOf thePr := by
  show is2.1 ∈ _
  rw [← is2.2]
  exact recNo_mem (by rw [nrecs]; decide)
noncomputable def is3 : { d : DefRec // recNo 3 = d } := ⟨_, by conv => { lhs; whnf }⟩
noncomputable def rc3 : DefRec := is3.1
theorem ok_grouped : FnOK rc3 1 := ⟨rfl, by decide, fun pm cd doc vs h => by
  match vs, h with
  | [a], _ => rfl, rfl, rfl, rfl⟩
theorem mem_grouped : rc3 ∈ recsOf thePr := by
  show is3.1 ∈ _
  rw [← is3.2]
  exact recNo_mem (by rw [nrecs]; decide)
noncomputable def is4 : { d : DefRec // recNo 4 = d } := ⟨_, by conv => { lhs; whnf }⟩
noncomputable def rc4 : DefRec := is4.1
theorem ok_single : FnOK rc4 2 := ⟨rfl, by decide, fun pm cd doc vs h => by
  match vs, h with
  | [a, b], _ => rfl, rfl, rfl, rfl⟩
theorem mem_single : rc4 ∈ recsOf thePr := by
  show is4.1 ∈ _
  rw [← is4.2]
  exact recNo_mem (by rw [nrecs]; decide)
noncomputable def is5 : { d : DefRec // recNo 5 = d } := ⟨_, by conv => { lhs; whnf }⟩
noncomputable def rc5 : DefRec := is5.1
theorem ok_shape : FnOK rc5 2 := ⟨rfl, by decide, fun pm cd doc vs h => by
  match vs, h with
  | [a, b], _ => rfl, rfl, rfl, rfl⟩
theorem mem_shape : rc5 ∈ recsOf thePr := by
  show is5.1 ∈ _
  rw [← is5.2]
  exact recNo_mem (by rw [nrecs]; decide)
noncomputable def is8 : { d : DefRec // recNo 8 = d } := ⟨_, by conv => { lhs; whnf }⟩
noncomputable def rc8 : DefRec := is8.1
theorem ok_array : FnOK rc8 2 := ⟨rfl, by decide, fun pm cd doc vs h => by
  match vs, h with
  | [a, b], _ => rfl, rfl, rfl, rfl⟩
theorem mem_array : rc8 ∈ recsOf thePr := by
  show is8.1 ∈ _
  rw [← is8.2]
  exact recNo_mem (by rw [nrecs]; decide)
noncomputable def is10 : { d : DefRec // recNo 10 = d } := ⟨_, by conv => { lhs; whnf }⟩
noncomputable def rc10 : DefRec := is10.1
theorem ok_midx : FnOK rc10 3 := ⟨rfl, by decide, fun pm cd doc vs h => by
  match vs, h with
  | [a, b, c], _ => rfl, rfl, rfl, rfl⟩
theorem mem_midx : rc10 ∈ recsOf thePr := by
  show is10.1 ∈ _
  rw [← is10.2]
  exact recNo_mem (by rw [nrecs]; decide)
noncomputable def is11 : { d : DefRec // recNo 11 = d } := ⟨_, by conv => { lhs; whnf }⟩
noncomputable def rc11 : DefRec := is11.1
theorem ok_moves : FnOK rc11 1 := ⟨rfl, by decide, fun pm cd doc vs h => by
  match vs, h with
  | [a], _ => rfl, rfl, rfl, rfl⟩
theorem mem_moves : rc11 ∈ recsOf thePr := by
  show is11.1 ∈ _
  rw [← is11.2]
  exact recNo_mem (by rw [nrecs]; decide)
noncomputable def is12 : { d : DefRec // recNo 12 = d } := ⟨_, by conv => { lhs; whnf }⟩
noncomputable def rc12 : DefRec := is12.1
theorem ok_npath : FnOK rc12 2 := ⟨rfl, by decide, fun pm cd doc vs h => by
  match vs, h with
  | [a, b], _ => rfl, rfl, rfl, rfl⟩
theorem mem_npath : rc12 ∈ recsOf thePr := by
  show is12.1 ∈ _
  rw [← is12.2]
  exact recNo_mem (by rw [nrecs]; decide)
noncomputable def is13 : { d : DefRec // recNo 13 = d } := ⟨_, by conv => { lhs; whnf }⟩
noncomputable def rc13 : DefRec := is13.1
theorem ok_turned : FnOK rc13 1 := ⟨rfl, by decide, fun pm cd doc vs h => by
  match vs, h with
  | [a], _ => rfl, rfl, rfl, rfl⟩
theorem mem_turned : rc13 ∈ recsOf thePr := by
  show is13.1 ∈ _
  rw [← is13.2]
  exact recNo_mem (by rw [nrecs]; decide)
noncomputable def is14 : { d : DefRec // recNo 14 = d } := ⟨_, by conv => { lhs; whnf }⟩
noncomputable def rc14 : DefRec := is14.1
theorem ok_pen : FnOK rc14 1 := ⟨rfl, by decide, fun pm cd doc vs h => by
  match vs, h with
  | [a], _ => rfl, rfl, rfl, rfl⟩
theorem mem_pen : rc14 ∈ recsOf thePr := by
  show is14.1 ∈ _
  rw [← is14.2]
  exact recNo_mem (by rw [nrecs]; decide)
noncomputable def is15 : { d : DefRec // recNo 15 = d } := ⟨_, by conv => { lhs; whnf }⟩
noncomputable def rc15 : DefRec := is15.1
theorem ok_draw : FnOK rc15 2 := ⟨rfl, by decide, fun pm cd doc vs h => by
  match vs, h with
  | [a, b], _ => rfl, rfl, rfl, rfl⟩
theorem mem_draw : rc15 ∈ recsOf thePr := by
  show is15.1 ∈ _
  rw [← is15.2]
  exact recNo_mem (by rw [nrecs]; decide)
noncomputable def is16 : { d : DefRec // recNo 16 = d } := ⟨_, by conv => { lhs; whnf }⟩
noncomputable def rc16 : DefRec := is16.1
theorem ok_change : FnOK rc16 1 := ⟨rfl, by decide, fun pm cd doc vs h => by
  match vs, h with
  | [a], _ => rfl, rfl, rfl, rfl⟩
theorem mem_change : rc16 ∈ recsOf thePr := by
  show is16.1 ∈ _
  rw [← is16.2]
  exact recNo_mem (by rw [nrecs]; decide)
noncomputable def is17 : { d : DefRec // recNo 17 = d } := ⟨_, by conv => { lhs; whnf }⟩
noncomputable def rc17 : DefRec := is17.1
theorem ok_rows : FnOK rc17 2 := ⟨rfl, by decide, fun pm cd doc vs h => by
  match vs, h with
  | [a, b], _ => rfl, rfl, rfl, rfl⟩
theorem mem_rows : rc17 ∈ recsOf thePr := by
  show is17.1 ∈ _
  rw [← is17.2]
  exact recNo_mem (by rw [nrecs]; decide)
noncomputable def is18 : { d : DefRec // recNo 18 = d } := ⟨_, by conv => { lhs; whnf }⟩
noncomputable def rc18 : DefRec := is18.1
theorem ok_law : FnOK rc18 1 := ⟨rfl, by decide, fun pm cd doc vs h => by
  match vs, h with
  | [a], _ => rfl, rfl, rfl, rfl⟩
theorem mem_law : rc18 ∈ recsOf thePr := by
  show is18.1 ∈ _
  rw [← is18.2]
  exact recNo_mem (by rw [nrecs]; decide)

theorem szl {n : Nat} (h : n ≤ 100000) : n ≤ sizeLine := by rw [sizeLine_eq]; omega
theorem bt {Qb : Bool → Store → Prop} {b : Bool} {H : Store} (q : Qb b H) : BoolThen Qb (.bool b) H := q
theorem if_t {b : Bool} {A B : Prop} (h : b = true) (a : A) : if b = true then A else B := by rw [if_pos h]; exact a
theorem if_f {b : Bool} {A B : Prop} (h : b = false) (a : B) : if b = true then A else B := by rw [if_neg (by rw [h]; decide)]; exact a
section
variable {c : Cx} {σ : Loc} {H : Store} {Q : PV → Store → Prop} {k : Nat} {mg mb : Str → Option Value}
theorem c_eqb (t : Bool) {x y : PV} (r : Rm k c.A) (ox : (vw H x).ok = true) (oy : (vw H y).ok = true) (d : (vw H x).dep ≤ 100) (h : peq (vw H x) (vw H y) = t) (q : Q (.bool t) H) : O2 c σ H x y (compareOp .Eq) Q := c_eq r ox oy d (h ▸ q)
theorem c_neb (t : Bool) {x y : PV} (r : Rm k c.A) (ox : (vw H x).ok = true) (oy : (vw H y).ok = true) (d : (vw H x).dep ≤ 100) (h : (!peq (vw H x) (vw H y)) = t) (q : Q (.bool t) H) : O2 c σ H x y (compareOp .NotEq) Q := c_ne r ox oy d (h ▸ q)
theorem c_ltb (t : Bool) {a b : Int} (h : decide (a < b) = t) (q : Q (.bool t) H) : O2 c σ H (.int a) (.int b) (compareOp .Lt) Q := c_lt (h ▸ q)
theorem c_gtb (t : Bool) {a b : Int} (h : decide (b < a) = t) (q : Q (.bool t) H) : O2 c σ H (.int a) (.int b) (compareOp .Gt) Q := c_gt (h ▸ q)
theorem c_geb (t : Bool) {a b : Int} (h : decide (b ≤ a) = t) (q : Q (.bool t) H) : O2 c σ H (.int a) (.int b) (compareOp .GtE) Q := c_ge (h ▸ q)
theorem c_ieq {a b : Int} (r : Rm k c.A) (t : Bool) (h : decide (a = b) = t) (q : Q (.bool t) H) : O2 c σ H (.int a) (.int b) (compareOp .Eq) Q := c_eqb t r rfl rfl (show 1 ≤ 100 by decide) (by show peq (.int a) (.int b) = t; rw [peq_int, h]) q
theorem c_ine {a b : Int} (r : Rm k c.A) (t : Bool) (h : (!decide (a = b)) = t) (q : Q (.bool t) H) : O2 c σ H (.int a) (.int b) (compareOp .NotEq) Q := c_neb t r rfl rfl (show 1 ≤ 100 by decide) (by show (!peq (.int a) (.int b)) = t; rw [peq_int, h]) q
theorem c_seq {a b : Str} (r : Rm k c.A) (t : Bool) (h : decide (a = b) = t) (q : Q (.bool t) H) : O2 c σ H (.str a) (.str b) (compareOp .Eq) Q := c_eqb t r rfl rfl (show 1 ≤ 100 by decide) (by show peq (.str a) (.str b) = t; rw [peq_str, h]) q
theorem c_sne {a b : Str} (r : Rm k c.A) (t : Bool) (h : (!decide (a = b)) = t) (q : Q (.bool t) H) : O2 c σ H (.str a) (.str b) (compareOp .NotEq) Q := c_neb t r rfl rfl (show 1 ≤ 100 by decide) (by show (!peq (.str a) (.str b)) = t; rw [peq_str, h]) q
theorem c_inb (t : Bool) {x y : PV} {ds : List PV} (rm : Rm k c.A) (e : vw H y = .lst ds) (ol : PV.okL ds = true) (op : (vw H x).ok = true) (hd : PV.depL ds ≤ 90) (h : pin (vw H x) ds = t) (q : Q (.bool t) H) : O2 c σ H x y (compareOp .In) Q := c_in_lst rm e ol op hd (h ▸ q)
theorem c_nib (t : Bool) {x y : PV} {ds : List PV} (rm : Rm k c.A) (e : vw H y = .lst ds) (ol : PV.okL ds = true) (op : (vw H x).ok = true) (hd : PV.depL ds ≤ 90) (h : (!pin (vw H x) ds) = t) (q : Q (.bool t) H) : O2 c σ H x y (compareOp .NotIn) Q := c_notin_lst rm e ol op hd (h ▸ q)
theorem c_idb (t : Bool) {d : Addr} {kvs : List (Key × PV)} {k : PV} (G : Gl thePr c.B mg mb) (e : H d = some (.dct kvs)) (ik : isK k = true) (h : (kvGet kvs (kOf k)).isSome = t) (q : Q (.bool t) H) : O2 c σ H k (.ref d) (compareOp .In) Q := c_in_dct G e ik (h ▸ q)
theorem c_ndb (t : Bool) {d : Addr} {kvs : List (Key × PV)} {k : PV} (G : Gl thePr c.B mg mb) (e : H d = some (.dct kvs)) (ik : isK k = true) (h : (!(kvGet kvs (kOf k)).isSome) = t) (q : Q (.bool t) H) : O2 c σ H k (.ref d) (compareOp .NotIn) Q := c_notin_dct G e ik (h ▸ q)
theorem vw_upd {a : Addr} {ds : List PV} : vw (upd H a (.lst ds)) (.ref a) = .lst ds := vw_ref (upd_same _ _ _)

def Le (H K : Store) : Prop := ∀ a mo, H a = some mo → K a = some mo
theorem Le.refl (H : Store) : Le H H := fun _ _ e => e
theorem Le.upd {H K : Store} (h : Le H K) {a : Addr} (n : K a = none) (mo : MO) : Le H (upd K a mo) := fun b m e => by
  rw [upd_ne (by rintro rfl; rw [h _ _ e] at n; cases n)]; exact h b m e
theorem Le.put {H K : Store} {a : Addr} {mo mo' : MO} (h : Le H (Mine.upd K a mo)) (n : H a = none) : Le H (Mine.upd K a mo') := fun b m e => by
  have := h b m e
  have hb : b ≠ a := by rintro rfl; rw [n] at e; cases e
  rw [upd_ne hb] at this ⊢; exact this
theorem Le.upd' {H K : Store} (h : Le H K) {a : Addr} (n : H a = none) (mo : MO) : Le H (Mine.upd K a mo) := fun b m e => by
  rw [upd_ne (by rintro rfl; rw [e] at n; cases n)]; exact h b m e
theorem Le.none {H K : Store} (h : Le H K) {a : Addr} (n : K a = Option.none) : H a = Option.none := by
  cases e : H a with
  | none => rfl
  | some mo => rw [h _ _ e] at n; cases n
theorem fn_tidy {d : DefRec} {ps : List PV} (h : FnO c d k ps H fun p H'' => ∃ q K, FzS H'' K ∧ Fz H'' K p q ∧ Q q K) : FnO c d k ps H Q := fun A L a cd rm s F =>
  (h A L a cd rm).use F (fun σ' H' s' e kp F' ⟨q, K, f, z, hq⟩ => by
    cases z
    exact ⟨σ', K, e, kp.trans (.fz f), F'.fz f (fun x p e => ⟨p, e, .same p⟩), hq⟩) fun v p σ' H' s' e kp F' r ⟨q, K, f, z, hq⟩ =>
    ⟨σ', K, e, kp.trans (.fz f), F'.fz f (fun x p e => ⟨p, e, .same p⟩), q, r.fz f F'.lists z, hq⟩
theorem fn_le {d : DefRec} {ps : List PV} (h : FnO c d k ps H fun p H'' => Le H H'' ∧ Q p H) : FnO c d k ps H Q :=
  fn_tidy (Q := Q) fun A L a cd rm => (h A L a cd rm).mono (fun _ H' ⟨l, q⟩ => ⟨_, H, .of_le l, .same _, q⟩) fun p H' ⟨l, q⟩ => ⟨_, H, .of_le l, .same _, q⟩

def Sub (σ σ' : Loc) : Prop := ∀ x p, σ x = some p → σ' x = some p
theorem Sub.refl (σ : Loc) : Sub σ σ := fun _ _ e => e
theorem Sub.bnd {σ σ' : Loc} (h : Sub σ σ') {x : Str} (n : σ x = none) (p : PV) : Sub σ (Mine.bnd σ' x p) := fun y q e => by
  unfold Mine.bnd
  rw [if_neg (by rintro rfl; rw [n] at e; cases e)]; exact h y q e
theorem Sub.put {σ σ' : Loc} {x : Str} {v : PV} (h : Sub (Mine.bnd σ x v) σ') (v' : PV) : Sub (Mine.bnd σ x v') (Mine.bnd σ' x v') := fun y q e => by
  unfold Mine.bnd at e ⊢
  split
  · rename_i hy; rw [if_pos hy] at e; exact e
  · rename_i hy
    rw [if_neg hy] at e
    exact h y q (by unfold Mine.bnd; rw [if_neg hy]; exact e)
variable {Qn : Loc → Store → Prop} {Qr : PV → Store → Prop}
theorem s_loc {t : Sem Flow} {σ' : Loc} (le : Sub σ' σ) (G : SO c t σ' H Qn Qr) : SO c t σ H Qn Qr := fun s F =>
  G.use (F.locals le) (fun σ'' H' s' e kp F' q => ⟨σ'', H', e, kp, F', q⟩) fun v p σ'' H' s' e kp F' r q => ⟨σ'', H', e, kp, F', p, r, q⟩
theorem u_loc {t : Value → Sem Unit} {p : PV} {σ' : Loc} (le : Sub σ' σ) (G : UO c t p σ' H Qn) : UO c t p σ H Qn := fun s v F r =>
  G.use (F.locals le) r fun σ'' H' s' e kp F' q => ⟨σ'', H', e, kp, F', q⟩

/-- at a block's end the state may be told anew -/
theorem s_end {t : Sem Flow} (G : SO c t σ H (fun σ' H' => ∃ σ'' K, FzS H' K ∧ (∀ x q, σ'' x = some q → ∃ p, σ' x = some p ∧ Fz H' K p q) ∧ Qn σ'' K) Qr) : SO c t σ H Qn Qr := fun s F =>
  G.use F (fun σ' H' s' e kp F' ⟨σ'', K, f, z, q⟩ => ⟨σ'', K, e, kp.trans (.fz f), F'.fz f z, q⟩) fun v p σ' H' s' e kp F' r q => ⟨σ', H', e, kp, F', p, r, q⟩
theorem Sub.fz {σ σ' : Loc} {H K : Store} (h : Sub σ σ') : ∀ x q, σ x = some q → ∃ p, σ' x = some p ∧ Fz H K p q := fun x q e => ⟨q, h x q e, .same q⟩
theorem upd_none {H : Store} {a b : Addr} {mo : MO} (h : upd H a mo b = none) : b ≠ a ∧ H b = none := by
  have hb : b ≠ a := by rintro rfl; rw [upd_same] at h; cases h
  exact ⟨hb, by rw [upd_ne hb] at h; exact h⟩
theorem kvGet_none {α : Type} [DecidableEq α] {kvs : List (α × PV)} {k : α} (h : k ∉ kvs.map (·.1)) : kvGet kvs k = none := by
  unfold kvGet
  rw [List.find?_eq_none.mpr]
  · rfl
  · intro x hx; simp only [decide_eq_true_eq]; rintro rfl; exact h (List.mem_map_of_mem hx)
theorem kvPut_new {α : Type} [DecidableEq α] {kvs : List (α × PV)} {k : α} (h : k ∉ kvs.map (·.1)) (p : PV) : kvPut kvs k p = kvs ++ [(k, p)] := by
  unfold kvPut
  rw [if_neg]
  simp only [List.any_eq_true, decide_eq_true_eq, not_exists, not_and]
  intro x hx e; exact h (e ▸ List.mem_map_of_mem hx)
end
end Mine

local macro_rules | `(tactic| walk_at "mine.step") => `(tactic| first | (with_reducible refine Mine.s_cons ?_) | (with_reducible refine Mine.s_nil ?_) | (with_reducible refine Mine.s_if ?_) | (with_reducible refine Mine.s_return ?_) | (focus ((with_reducible refine Mine.s_assign ?_ ?_ ?_); rotate_left; exact rfl; exact rfl)) | (focus ((with_reducible refine Mine.s_expr ?_ ?_ ?_); rotate_left; exact rfl; exact rfl)) | (focus ((with_reducible refine Mine.s_unpack ?_ ?_ ?_); rotate_left; exact rfl; exact rfl)) | (focus ((with_reducible refine Mine.s_setitem ?_ ?_); rotate_left; exact rfl)) | (focus ((with_reducible refine' Mine.e_name _ _ _ _ _); rotate_left; exact rfl; rotate_left; exact rfl; decide; decide)) | (with_reducible refine Mine.e_int ?_) | (with_reducible refine Mine.e_str ?_) | (with_reducible refine Mine.e_bool ?_) | (with_reducible refine Mine.e_none ?_) | (with_reducible refine Mine.e_neg ?_) | (with_reducible refine Mine.e_bin ?_) | (with_reducible refine Mine.e_ifexp ?_) | (with_reducible refine Mine.e_tuple ?_) | (with_reducible refine Mine.e_list ?_) | (focus ((with_reducible refine Mine.e_upto ?_ ?_); rotate_left; exact fun _ _ => rfl)) | (focus ((with_reducible refine Mine.e_from ?_ ?_); rotate_left; exact fun _ _ => rfl)) | (focus ((with_reducible refine Mine.e_item ?_ ?_); rotate_left; exact rfl)) | (focus ((with_reducible refine Mine.t_cmp ?_ ?_); rotate_left; exact rfl)) | (focus ((with_reducible refine Mine.e_cmp ?_ ?_); rotate_left; exact rfl)) | (with_reducible refine Mine.t_not ?_) | (with_reducible refine Mine.t_bop ?_) | (with_reducible refine Mine.a_nil ?_) | (with_reducible refine Mine.a_and ?_) | (with_reducible refine Mine.a_or ?_) | (focus ((with_reducible refine Mine.args_cons' ?_ ?_); rotate_left; exact rfl)) | (with_reducible refine Mine.args_nil' ?_) | (with_reducible refine Mine.us_cons ?_) | (with_reducible refine Mine.us_nil ?_) | (focus ((with_reducible refine Mine.u_name ?_ ?_); rotate_left; exact rfl)) | (with_reducible refine Mine.bt ?_))
open PySem PySem.W PyProof.Rows PySem.Calls
set_option Elab.async false
set_option maxRecDepth 100000
set_option maxHeartbeats 8000000
set_option linter.unusedVariables false
set_option linter.unusedSectionVars false
namespace Mine
section
variable {c : Cx} {σ : Loc} {H K : Store} {Q : PV → Store → Prop} {Qn : Loc → Store → Prop} {Qr : PV → Store → Prop} {mg mb : Str → Option Value} {k : Nat}
theorem fn_need {x : PV} (q : Q .none H) : FnO c rc2 k [.bool true, x] H Q := by
  intro A L a cd rm
  have hb : rc2.body = rc2.body := rfl
  conv at hb => rhs; whnf
  rw [hb]; clear hb
  walk_at "mine.step"
  walk_at "mine.step"
  walk_at "mine.step"
  refine t_val ?_
  repeat walk_at "mine.step"
  first | (focus ((with_reducible refine' if_t ?_ ?_); exact rfl)) | (focus ((with_reducible refine' if_f ?_ ?_); exact rfl))
  repeat walk_at "mine.step"
  exact q
end
end Mine

open PySem PySem.W PyProof.Rows PySem.Calls
set_option Elab.async false
set_option maxRecDepth 100000
set_option maxHeartbeats 8000000
set_option linter.unusedVariables false
set_option linter.unusedSectionVars false
namespace Mine
abbrev rowP (path : List PV) (way : Str) (o n : PV) : PV := .tup [.tup path, .str way, o, n]
section
variable {c : Cx} {σ : Loc} {H K : Store} {Q : PV → Store → Prop} {Qn : Loc → Store → Prop} {Qr : PV → Store → Prop} {mg mb : Str → Option Value} {k : Nat}
theorem fn_single1 {w : Str} {o n : PV} (G : Gl thePr c.B mg mb) (hg : ∀ a, c.g.get? a = none) (q : Q (rowP [] w o n) H) (od : PV.ok o = true) (nd : PV.ok n = true) (odd : o.dep ≤ 50) (ndd : n.dep ≤ 50) : FnO c rc4 (k + 2) [.lst [rowP [] w o n], .str w] H Q := by
  refine fn_le ?_
  intro A L a cd rm
  have hb : rc4.body = rc4.body := rfl
  conv at hb => rhs; whnf
  rw [hb]; clear hb
  refine s_cons (s_comp rm.1 hg (cl := [("way", L + 1)]) ⟨rfl, by decide, rfl, by decide, rfl, by intro p hp; simp only [List.mem_singleton] at hp; subst hp; exact ⟨rfl, rfl, rfl⟩, rfl⟩ ?_)
  repeat walk_at "mine.step"
  refine ⟨[rowP [] w o n], .lst _, szl (by simp), fun i ys H' => H' = H ∧ ys = [rowP [] w o n].take i, ⟨rfl, rfl⟩, ?_, ?_⟩
  · rintro C D i d ys H' hD hi ⟨rfl, rfl⟩
    have hi0 : i = 0 := by
      cases i with
      | zero => rfl
      | succ i => simp at hi
    subst hi0
    obtain rfl : rowP [] w o n = d := by simpa using hi
    refine tests_one ?_
    repeat walk_at "mine.step"
    (focus ((refine' i_tup (k := 0) (j := 0) (by decide) (by decide) _ _ _); rotate_left; exact rfl; exact rfl))
    repeat walk_at "mine.step"
    refine ⟨szl (by simp), ?_⟩
    refine c_eqb true rm rfl rfl (Nat.le_of_ble_eq_true rfl) (peq_self _) ?_
    repeat walk_at "mine.step"
    first | (focus ((with_reducible refine' if_t ?_ ?_); exact rfl)) | (focus ((with_reducible refine' if_f ?_ ?_); exact rfl))
    repeat walk_at "mine.step"
    (focus ((refine' i_tup (k := 1) (j := 1) (by decide) (by decide) _ _ _); rotate_left; exact rfl; exact rfl))
    repeat walk_at "mine.step"
    refine c_seq rm true (by simp) ?_
    repeat walk_at "mine.step"
    first | (focus ((with_reducible refine' if_t ?_ ?_); exact rfl)) | (focus ((with_reducible refine' if_f ?_ ?_); exact rfl))
    repeat walk_at "mine.step"
    first | (focus ((with_reducible refine' if_t ?_ ?_); exact rfl)) | (focus ((with_reducible refine' if_f ?_ ?_); exact rfl))
    repeat walk_at "mine.step"
    exact ⟨H', rfl, hD, rfl, rfl⟩
  · rintro D ys H' hD ⟨rfl, rfl⟩
    repeat walk_at "mine.step"
    (focus ((with_reducible refine' e_callF G mem_need ok_need hg rm ?_ ?_ ?_ ?_ ?_ ?_); rotate_left; exact rfl; exact rfl; exact rfl; decide; exact rfl))
    repeat walk_at "mine.step"
    (focus ((with_reducible refine' e_callB (x := "len") (id := "len") G ?_ ?_ ?_ ?_ ?_ ?_ ?_ ?_ ?_ ?_); decide; exact rfl; decide; decide; rotate_left; exact rfl; exact rfl; exact rfl; exact rfl; exact rfl))
    repeat walk_at "mine.step"
    refine k_len_lst vw_upd (szl (by simp)) ?_
    repeat walk_at "mine.step"
    refine c_ltb true (by simp) ?_
    repeat walk_at "mine.step"
    refine ⟨rfl, fn_need ⟨rfl, ?_⟩⟩
    repeat walk_at "mine.step"
    refine ⟨szl (by simp), fun l hl => ?_⟩
    have hne : l ≠ D := by rintro rfl; rw [upd_same] at hl; cases hl
    have e1 : vw (upd (upd H' D (.lst [rowP [] w o n])) l (.lst [])) (.ref D) = .lst [rowP [] w o n] := vw_ref (by rw [upd_ne (Ne.symm hne), upd_same])
    refine c_neb true rm (by rw [show List.take [rowP [] w o n].length [rowP [] w o n] = [rowP [] w o n] from rfl, e1]; simp [PV.ok, PV.okL, od, nd]) (by rw [vw_upd]; rfl) ?_ ?_ ?_
    · rw [show List.take [rowP [] w o n].length [rowP [] w o n] = [rowP [] w o n] from rfl, e1]
      simp [PV.dep, PV.depL]; omega
    · rw [show List.take [rowP [] w o n].length [rowP [] w o n] = [rowP [] w o n] from rfl, e1, vw_upd, peq_ne (by simp)]; rfl
    repeat walk_at "mine.step"
    first | (focus ((with_reducible refine' if_t ?_ ?_); exact rfl)) | (focus ((with_reducible refine' if_f ?_ ?_); exact rfl))
    repeat walk_at "mine.step"
    exact i_lst (ds := [rowP [] w o n]) (k := 0) (p := rowP [] w o n) e1 (by decide) (by decide) rfl ⟨((Le.refl _).upd hD _).upd hl _, q⟩

theorem fn_single0 {w : Str} (G : Gl thePr c.B mg mb) (hg : ∀ a, c.g.get? a = none) (q : Q .none H) : FnO c rc4 (k + 2) [.lst [], .str w] H Q := by
  refine fn_le ?_
  intro A L a cd rm
  have hb : rc4.body = rc4.body := rfl
  conv at hb => rhs; whnf
  rw [hb]; clear hb
  refine s_cons (s_comp rm.1 hg (cl := [("way", L + 1)]) ⟨rfl, by decide, rfl, by decide, rfl, by intro p hp; simp only [List.mem_singleton] at hp; subst hp; exact ⟨rfl, rfl, rfl⟩, rfl⟩ ?_)
  repeat walk_at "mine.step"
  refine ⟨[], .lst _, szl (by simp), fun i ys H' => H' = H ∧ ys = [], ⟨rfl, rfl⟩, ?_, ?_⟩
  · rintro C D i d ys H' hD hi ⟨rfl, rfl⟩
    simp at hi
  · rintro D ys H' hD ⟨rfl, rfl⟩
    repeat walk_at "mine.step"
    (focus ((with_reducible refine' e_callF G mem_need ok_need hg rm ?_ ?_ ?_ ?_ ?_ ?_); rotate_left; exact rfl; exact rfl; exact rfl; decide; exact rfl))
    repeat walk_at "mine.step"
    (focus ((with_reducible refine' e_callB (x := "len") (id := "len") G ?_ ?_ ?_ ?_ ?_ ?_ ?_ ?_ ?_ ?_); decide; exact rfl; decide; decide; rotate_left; exact rfl; exact rfl; exact rfl; exact rfl; exact rfl))
    repeat walk_at "mine.step"
    refine k_len_lst vw_upd (szl (by simp)) ?_
    repeat walk_at "mine.step"
    refine c_ltb true (by simp) ?_
    repeat walk_at "mine.step"
    refine ⟨rfl, fn_need ⟨rfl, ?_⟩⟩
    repeat walk_at "mine.step"
    refine ⟨szl (by simp), fun l hl => ?_⟩
    have hne : l ≠ D := by rintro rfl; rw [upd_same] at hl; cases hl
    have e1 : vw (upd (upd H' D (.lst [])) l (.lst [])) (.ref D) = .lst [] := vw_ref (by rw [upd_ne (Ne.symm hne), upd_same])
    refine c_neb false rm (by rw [e1]; rfl) (by rw [vw_upd]; rfl) (by rw [e1]; exact Nat.le_of_ble_eq_true rfl) (by rw [e1, vw_upd, peq_self]; rfl) ?_
    repeat walk_at "mine.step"
    first | (focus ((with_reducible refine' if_t ?_ ?_); exact rfl)) | (focus ((with_reducible refine' if_f ?_ ?_); exact rfl))
    repeat walk_at "mine.step"
    exact ⟨((Le.refl _).upd hD _).upd hl _, q⟩

theorem fn_shape {p : PV} (hg : ∀ a, c.g.get? a = none) (q : Q p H) : FnO c rc5 (k + 1) [p, .lst []] H Q := by
  refine fn_le ?_
  intro A L a cd rm
  have hb : rc5.body = rc5.body := rfl
  conv at hb => rhs; whnf
  rw [hb]; clear hb
  repeat walk_at "mine.step"
  refine ⟨szl (by simp), fun l hl => ?_⟩
  refine c_eqb true rm rfl (by rw [vw_upd]; rfl) (Nat.le_of_ble_eq_true rfl) (by rw [vw_upd]; exact peq_self _) ?_
  repeat walk_at "mine.step"
  first | (focus ((with_reducible refine' if_t ?_ ?_); exact rfl)) | (focus ((with_reducible refine' if_f ?_ ?_); exact rfl))
  repeat walk_at "mine.step"
  exact ⟨(Le.refl _).upd hl _, q⟩
end
end Mine

open PySem PySem.W PyProof.Rows PySem.Calls
set_option Elab.async false
set_option maxRecDepth 100000
set_option maxHeartbeats 8000000
set_option linter.unusedVariables false
set_option linter.unusedSectionVars false
namespace Mine
def intP (s : Int) : PV := .tup [.str "int", .int s]
def nameP (s : Int) : PV := .tup [.str "name", .str (Str.ofString (toString s))]
def goneR (path : List PV) (s : Int) : PV := rowP (path ++ [.int s]) "gone" (intP s) .none
def addR (path : List PV) (s : Int) : PV := rowP (path ++ [.int s]) "added" .none (nameP s)
def behindE (s : Int) : Key × PV := (.i s, .lst [rowP [] "gone" (intP s) .none])
section
variable {c : Cx} {σ : Loc} {H K : Store} {Q : PV → Store → Prop} {Qn : Loc → Store → Prop} {Qr : PV → Store → Prop} {mg mb : Str → Option Value} {k : Nat}
theorem FzD.append {α : Type} {H K : Store} {a b x y : List (α × PV)} (h : FzD H K a b) (g : FzD H K x y) : FzD H K (a ++ x) (b ++ y) := by
  induction h with
  | nil => exact g
  | cons z _ ih => exact .cons z ih
theorem take_succ' {α : Type} {l : List α} {i : Nat} {x : α} (h : l[i]? = some x) : l.take (i + 1) = l.take i ++ [x] := by
  rw [List.take_add_one, h]; rfl
theorem not_mem_take {gs : List Int} (nd : gs.Nodup) {i : Nat} {s : Int} (h : gs[i]? = some s) : s ∉ gs.take i := by
  intro hm
  have hn : (gs.take (i + 1)).Nodup := nd.sublist (List.take_sublist _ _)
  rw [take_succ' h] at hn
  exact (List.nodup_append.mp hn).2.2 s hm s (by simp) rfl
theorem fn_grouped {gs : List Int} (G : Gl thePr c.B mg mb) (hg : ∀ a, c.g.get? a = none) (nd : gs.Nodup) (sz : gs.length ≤ 100) (q : ∀ d, H d = none → Q (.ref d) (upd H d (.dct (gs.map behindE)))) : FnO c rc3 (k + 2) [.lst (gs.map (goneR []))] H Q := by
  intro A L a cd rm
  have hb : rc3.body = rc3.body := rfl
  conv at hb => rhs; whnf
  rw [hb]; clear hb
  repeat walk_at "mine.step"
  refine e_dict0 fun d hd => ?_
  repeat walk_at "mine.step"
  refine s_for rm.1 ?_
  repeat walk_at "mine.step"
  refine ⟨gs.map (goneR []), .lst _, fun i σ' H' => Sub (bnd (argL ["rows"] [.lst (gs.map (goneR []))] fun _ => none) "found" (.ref d)) σ' ∧ H' = upd H d (.dct ((gs.take i).map behindE)), ⟨Sub.refl _, rfl⟩, ?_, ?_⟩
  · rintro i x σ' H' hx ⟨hs, rfl⟩
    obtain ⟨s, hs1, rfl⟩ : ∃ s, gs[i]? = some s ∧ goneR [] s = x := by simpa using hx
    refine u_loc hs ?_
    refine u_tup rm.1 (us_cons (u_name (us_cons (u_name (us_cons (u_name (us_cons (u_name (us_nil ?_))))))))) rfl rfl
    refine s_end ?_
    repeat walk_at "mine.step"
    (focus ((with_reducible refine' e_callF G mem_need ok_need hg rm ?_ ?_ ?_ ?_ ?_ ?_); rotate_left; exact rfl; exact rfl; exact rfl; decide; exact rfl))
    repeat walk_at "mine.step"
    (focus ((with_reducible refine' e_callB (x := "len") (id := "len") G ?_ ?_ ?_ ?_ ?_ ?_ ?_ ?_ ?_ ?_); decide; exact rfl; decide; decide; rotate_left; exact rfl; exact rfl; exact rfl; exact rfl; exact rfl))
    repeat walk_at "mine.step"
    refine k_len_tup (szl (by simp)) ?_
    repeat walk_at "mine.step"
    refine c_gtb true (by simp) ?_
    repeat walk_at "mine.step"
    refine ⟨rfl, fn_need ⟨rfl, ?_⟩⟩
    repeat walk_at "mine.step"
    (focus ((with_reducible refine' e_meth PySem.F.plainAttrs_list PySem.F.slot_list_append PySem.F.type_list_append ?_ ?_ ?_ ?_ ?_ ?_); rotate_left; exact rfl; exact rfl; exact rfl; exact rfl; exact rfl))
    (focus ((with_reducible refine' e_meth PySem.F.plainAttrs_dict PySem.F.slot_dict_setdefault PySem.F.type_dict_setdefault ?_ ?_ ?_ ?_ ?_ ?_); rotate_left; exact rfl; exact rfl; exact rfl; exact rfl; exact rfl))
    repeat walk_at "mine.step"
    refine ⟨hasDct (upd_same _ _ _), ?_⟩
    repeat walk_at "mine.step"
    (focus ((refine' i_tup (k := 0) (j := 0) (by decide) (by decide) _ _ _); rotate_left; exact rfl; exact rfl))
    repeat walk_at "mine.step"
    refine ⟨szl (by simp), fun l hl => ?_⟩
    repeat walk_at "mine.step"
    have hnk : Key.i s ∉ ((gs.take i).map behindE).map (·.1) := by
      rw [List.map_map]
      intro hm
      obtain ⟨t, ht, e⟩ := List.mem_map.mp hm
      injection e with e
      exact not_mem_take nd hs1 (e ▸ ht)
    have hld : l ≠ d := by rintro rfl; rw [upd_same] at hl; cases hl
    refine k_dsetdef G (kvs := (gs.take i).map behindE) (by rw [upd_ne (Ne.symm hld), upd_same]) rfl (szl (by simp; omega)) ?_
    rw [show kvGet ((gs.take i).map behindE) (kOf (.int s)) = none from kvGet_none hnk, show kvPut ((gs.take i).map behindE) (kOf (.int s)) (.ref l) = _ from kvPut_new hnk _]
    refine ⟨hasList (ds := []) (vw_ref (by rw [upd_ne hld, upd_same])), ?_⟩
    repeat walk_at "mine.step"
    refine ⟨[.int s], 1, rfl, rfl, Nat.le_refl _, Nat.le_refl _, szl (by simp), ?_⟩
    repeat walk_at "mine.step"
    refine ⟨szl (by simp), ?_⟩
    repeat walk_at "mine.step"
    refine k_append (ds := []) (by rw [upd_ne hld, upd_same]) (szl (by simp)) ⟨rfl, ?_⟩
    repeat walk_at "mine.step"
    obtain ⟨_, hl'⟩ := upd_none hl
    refine ⟨bnd (argL ["rows"] [.lst (gs.map (goneR []))] fun _ => none) "found" (.ref d), upd H d (.dct ((gs.take (i + 1)).map behindE)), ?_, Sub.fz ((((Sub.refl _).bnd rfl _).bnd rfl _).bnd rfl _ |>.bnd rfl _), Sub.refl _, rfl⟩
    intro a mo e
    by_cases ha : a = d
    · subst ha
      rw [upd_same] at e
      obtain rfl := Option.some.inj e
      refine ⟨_, by rw [upd_ne (Ne.symm hld), upd_same], .dct ?_⟩
      rw [take_succ' hs1, List.map_append]
      exact (FzD.refl _).append (.cons (.ref (upd_same _ _ _) (by rw [upd_ne hld]; exact hl') (.refl _)) .nil)
    · rw [upd_ne ha] at e
      have hal : a ≠ l := by rintro rfl; rw [hl'] at e; cases e
      exact ⟨mo, by rw [upd_ne hal, upd_ne ha, upd_ne hal, upd_ne ha]; exact e, .refl _⟩
  · rintro σ' H' ⟨hs, rfl⟩
    refine s_loc hs ?_
    repeat walk_at "mine.step"
    rw [List.length_map, List.take_length]
    exact q d hd
end
end Mine

open PySem PySem.W PyProof.Rows PySem.Calls
set_option Elab.async false
set_option maxRecDepth 100000
set_option maxHeartbeats 8000000
set_option linter.unusedVariables false
set_option linter.unusedSectionVars false
namespace Mine
def toRow (x : Bool × Int) : PV := if x.1 then addR [] x.2 else goneR [] x.2
def addE (x : Bool × Int) : Key × PV := (.i x.2, nameP x.2)
section
variable {c : Cx} {σ : Loc} {H K : Store} {Q : PV → Store → Prop} {Qn : Loc → Store → Prop} {Qr : PV → Store → Prop} {mg mb : Str → Option Value} {k : Nat}
theorem upd_comm {H : Store} {a b : Addr} (n : a ≠ b) (x y : MO) : upd (upd H a x) b y = upd (upd H b y) a x := by
  funext z; unfold upd; by_cases h1 : z = a <;> by_cases h2 : z = b <;> simp_all
theorem filter_take {α : Type} {l : List α} {i : Nat} {x : α} (p : α → Bool) (h : l[i]? = some x) : (l.take (i + 1)).filter p = (l.take i).filter p ++ (if p x then [x] else []) := by
  rw [take_succ' h, List.filter_append]; congr 1; cases hp : p x <;> simp [hp]
def rngI (n : Nat) : List Int := (List.range n).map fun (i : Nat) => (i : Int)
theorem rngI_succ (n : Nat) : rngI (n + 1) = rngI n ++ [(n : Int)] := by simp [rngI, List.range_succ]
theorem kvGet_key {g : Int → PV} (l : List Int) (s : Int) : kvGet (l.map fun x => (Key.i x, g x)) (.i s) = if s ∈ l then some (g s) else none := by
  by_cases h : s ∈ l
  · rw [if_pos h]
    induction l with
    | nil => cases h
    | cons a l ih =>
      by_cases ha : a = s
      · subst ha; simp [kvGet]
      · have hm : s ∈ l := by rcases List.mem_cons.mp h with e | e; exact absurd e.symm ha; exact e
        have := ih hm
        unfold kvGet at this ⊢
        rw [List.map_cons, List.find?_cons_of_neg (by simp [ha])]; exact this
  · rw [if_neg h]
    refine kvGet_none ?_
    rw [List.map_map]
    intro hm
    obtain ⟨x, hx, e⟩ := List.mem_map.mp hm
    injection e with e
    exact h (e ▸ hx)
theorem kvDel_key {g : Int → PV} (l : List Int) (s : Int) : kvDel ((l.filter fun x => decide (s ≤ x)).map fun x => (Key.i x, g x)) (.i s) = (l.filter fun x => decide (s + 1 ≤ x)).map fun x => (Key.i x, g x) := by
  unfold kvDel
  rw [List.filter_map, List.filter_filter]
  congr 1
  refine List.filter_congr fun x _ => ?_
  simp only [Function.comp]
  by_cases h : s + 1 ≤ x
  · have h1 : s ≤ x := by omega
    have h2 : x ≠ s := by omega
    simp [h, h1, h2]
  · by_cases h1 : s ≤ x
    · have h2 : x = s := by omega
      simp [h2]; omega
    · simp [h, h1]
theorem filter_step (l : List Int) (s : Int) (h : s ∉ l) : (l.filter fun x => decide (s ≤ x)) = l.filter fun x => decide (s + 1 ≤ x) := by
  refine List.filter_congr fun x hx => ?_
  have h2 : x ≠ s := by rintro rfl; exact h hx
  by_cases h : s + 1 ≤ x
  · have h1 : s ≤ x := by omega
    simp [h, h1]
  · have h1 : ¬ s ≤ x := by omega
    simp [h, h1]
def wantAt (made : List (Option Int)) (i : Nat) : PV := match made[i]? with | some (some s) => intP s | _ => nameP i
theorem rngL_get {n : Int} {i : Nat} {x : PV} (h : (rngL n)[i]? = some x) : x = .int i ∧ i < n.toNat := by
  unfold rngL at h
  rw [List.getElem?_map] at h
  cases e : (List.range n.toNat)[i]? with
  | none => rw [e] at h; cases h
  | some j =>
    rw [e] at h
    have hi : i < n.toNat := by
      rcases Nat.lt_or_ge i n.toNat with q | q
      · exact q
      · rw [List.getElem?_eq_none (by simpa using q)] at e; cases e
    rw [List.getElem?_eq_getElem (by simpa using hi)] at e
    simp at e; subst e
    injection h with h
    exact ⟨h.symm, hi⟩
theorem rngL_len (n : Nat) : (rngL n).length = n := by simp [rngL]
theorem adds_nodup {ars : List (Bool × Int)} (nd : ((ars.filter (·.1)).map (·.2)).Nodup) {i : Nat} {s : Int} (h : ars[i]? = some (true, s)) : Key.i s ∉ (((ars.take i).filter (·.1)).map addE).map (·.1) := by
  intro hm
  rw [List.map_map] at hm
  obtain ⟨x, hx, e⟩ := List.mem_map.mp hm
  injection e with e
  have hn : (((ars.take (i + 1)).filter (·.1)).map (·.2)).Nodup := nd.sublist (((List.take_sublist _ _).filter _).map _)
  rw [filter_take _ h, List.map_append] at hn
  simp only [if_true] at hn
  exact (List.nodup_append.mp hn).2.2 x.2 (List.mem_map_of_mem hx) s (by simp) e

theorem fn_array {ars : List (Bool × Int)} {n : Nat} {gs as : List Int} {made : List (Option Int)} (G : Gl thePr c.B mg mb) (hg : ∀ a, c.g.get? a = none)
    (egs : (ars.filter (!·.1)).map (·.2) = gs) (eas : (ars.filter (·.1)).map (·.2) = as) (ngs : gs.Nodup) (nd' : as.Nodup) (sz : ars.length ≤ 100) (hgs : ∀ s ∈ gs, 0 ≤ s ∧ s < n) (hk : (rngI n).filter (fun s => decide (s ∉ gs)) = made.filterMap id)
    (has : ∀ i : Nat, i < made.length → ((i : Int) ∈ as ↔ made[i]? = some none)) (hal : ∀ s ∈ as, 0 ≤ s ∧ s < made.length) (hlen : as.length + (made.filterMap id).length = made.length) (hn : n ≤ 100) (hm : made.length ≤ 100)
    (q : Q (.tup (.str "array" :: (List.range made.length).map (wantAt made))) H) : FnO c rc8 (k + 4) [.lst ((rngI n).map intP), .lst (ars.map toRow)] H Q := by
  have nd : ((ars.filter (·.1)).map (·.2)).Nodup := eas ▸ nd'
  refine fn_le ?_
  intro A L a cd rm
  have hb : rc8.body = rc8.body := rfl
  conv at hb => rhs; whnf
  rw [hb]; clear hb
  repeat walk_at "mine.step"
  refine e_dict0 fun d hd => ?_
  repeat walk_at "mine.step"
  refine ⟨szl (by simp), fun l hl => ?_⟩
  repeat walk_at "mine.step"
  obtain ⟨hld, hl'⟩ := upd_none hl
  refine s_for rm.1 ?_
  repeat walk_at "mine.step"
  refine ⟨ars.map toRow, .lst _, fun i σ' H' => Sub (bnd (bnd (argL ["parts", "rows"] [.lst ((rngI n).map intP), .lst (ars.map toRow)] fun _ => none) "added" (.ref d)) "later" (.ref l)) σ' ∧ H' = upd (upd H d (.dct (((ars.take i).filter (·.1)).map addE))) l (.lst (((ars.take i).filter (!·.1)).map toRow)), ⟨Sub.refl _, rfl⟩, ?_, ?_⟩
  · rintro i x σ' H' hx ⟨hs, rfl⟩
    obtain ⟨⟨b, s⟩, hs1, rfl⟩ : ∃ s, ars[i]? = some s ∧ toRow s = x := by simpa using hx
    refine u_loc hs ?_
    repeat walk_at "mine.step"
    cases b
    · -- gone
      rw [show toRow (false, s) = goneR [] s from rfl]
      repeat walk_at "mine.step"
      (focus ((with_reducible refine' e_callB (x := "len") (id := "len") G ?_ ?_ ?_ ?_ ?_ ?_ ?_ ?_ ?_ ?_); decide; exact rfl; decide; decide; rotate_left; exact rfl; exact rfl; exact rfl; exact rfl; exact rfl))
      repeat walk_at "mine.step"
      (focus ((refine' i_tup (k := 0) (j := 0) (by decide) (by decide) _ _ _); rotate_left; exact rfl; exact rfl))
      repeat walk_at "mine.step"
      refine k_len_tup (szl (by simp)) ?_
      repeat walk_at "mine.step"
      refine c_ieq rm true (by simp) ?_
      repeat walk_at "mine.step"
      first | (focus ((with_reducible refine' if_t ?_ ?_); exact rfl)) | (focus ((with_reducible refine' if_f ?_ ?_); exact rfl))
      repeat walk_at "mine.step"
      (focus ((refine' i_tup (k := 1) (j := 1) (by decide) (by decide) _ _ _); rotate_left; exact rfl; exact rfl))
      repeat walk_at "mine.step"
      refine c_seq rm false (by decide) ?_
      repeat walk_at "mine.step"
      first | (focus ((with_reducible refine' if_t ?_ ?_); exact rfl)) | (focus ((with_reducible refine' if_f ?_ ?_); exact rfl))
      first | (focus ((with_reducible refine' if_t ?_ ?_); exact rfl)) | (focus ((with_reducible refine' if_f ?_ ?_); exact rfl))
      repeat walk_at "mine.step"
      (focus ((with_reducible refine' e_meth PySem.F.plainAttrs_list PySem.F.slot_list_append PySem.F.type_list_append ?_ ?_ ?_ ?_ ?_ ?_); rotate_left; exact rfl; exact rfl; exact rfl; exact rfl; exact rfl))
      repeat walk_at "mine.step"
      refine ⟨hasList (ds := ((ars.take i).filter (!·.1)).map toRow) (vw_ref (by rw [upd_same])), ?_⟩
      repeat walk_at "mine.step"
      refine k_append (upd_same _ _ _) (szl ?_) ⟨rfl, ?_⟩
      · have := List.length_filter_le (fun x : Bool × Int => !x.1) (ars.take i)
        simp at this ⊢; omega
      repeat walk_at "mine.step"
      refine ⟨(Sub.refl _).bnd rfl _, ?_⟩
      rw [upd_upd, filter_take _ hs1, filter_take _ hs1]
      simp [toRow]
    · rw [show toRow (true, s) = addR [] s from rfl]
      repeat walk_at "mine.step"
      (focus ((with_reducible refine' e_callB (x := "len") (id := "len") G ?_ ?_ ?_ ?_ ?_ ?_ ?_ ?_ ?_ ?_); decide; exact rfl; decide; decide; rotate_left; exact rfl; exact rfl; exact rfl; exact rfl; exact rfl))
      repeat walk_at "mine.step"
      (focus ((refine' i_tup (k := 0) (j := 0) (by decide) (by decide) _ _ _); rotate_left; exact rfl; exact rfl))
      repeat walk_at "mine.step"
      refine k_len_tup (szl (by simp)) ?_
      repeat walk_at "mine.step"
      refine c_ieq rm true (by simp) ?_
      repeat walk_at "mine.step"
      first | (focus ((with_reducible refine' if_t ?_ ?_); exact rfl)) | (focus ((with_reducible refine' if_f ?_ ?_); exact rfl))
      repeat walk_at "mine.step"
      (focus ((refine' i_tup (k := 1) (j := 1) (by decide) (by decide) _ _ _); rotate_left; exact rfl; exact rfl))
      repeat walk_at "mine.step"
      refine c_seq rm true (by decide) ?_
      repeat walk_at "mine.step"
      first | (focus ((with_reducible refine' if_t ?_ ?_); exact rfl)) | (focus ((with_reducible refine' if_f ?_ ?_); exact rfl))
      repeat walk_at "mine.step"
      first | (focus ((with_reducible refine' if_t ?_ ?_); exact rfl)) | (focus ((with_reducible refine' if_f ?_ ?_); exact rfl))
      repeat walk_at "mine.step"
      (focus ((with_reducible refine' e_callF G mem_need ok_need hg rm ?_ ?_ ?_ ?_ ?_ ?_); rotate_left; exact rfl; exact rfl; exact rfl; decide; exact rfl))
      repeat walk_at "mine.step"
      (focus ((refine' i_tup (k := 0) (j := 0) (by decide) (by decide) _ _ _); rotate_left; exact rfl; exact rfl))
      repeat walk_at "mine.step"
      (focus ((refine' i_tup (k := 0) (j := 0) (by decide) (by decide) _ _ _); rotate_left; exact rfl; exact rfl))
      repeat walk_at "mine.step"
      refine c_ndb true G (by rw [upd_ne (Ne.symm hld), upd_same]) rfl (by rw [show kvGet (((ars.take i).filter (·.1)).map addE) (kOf (.int s)) = none from kvGet_none (adds_nodup nd hs1)]; rfl) ?_
      repeat walk_at "mine.step"
      refine ⟨rfl, fn_need ⟨rfl, ?_⟩⟩
      repeat walk_at "mine.step"
      (focus ((refine' i_tup (k := 3) (j := 3) (by decide) (by decide) _ _ _); rotate_left; exact rfl; exact rfl))
      repeat walk_at "mine.step"
      (focus ((refine' i_tup (k := 0) (j := 0) (by decide) (by decide) _ _ _); rotate_left; exact rfl; exact rfl))
      repeat walk_at "mine.step"
      (focus ((refine' i_tup (k := 0) (j := 0) (by decide) (by decide) _ _ _); rotate_left; exact rfl; exact rfl))
      refine set_dct (kvs := ((ars.take i).filter (·.1)).map addE) (by rw [upd_ne (Ne.symm hld), upd_same]) rfl (szl ?_) ?_
      · have := List.length_filter_le (fun x : Bool × Int => x.1) (ars.take i)
        simp at this ⊢; omega
      rw [show kvPut (((ars.take i).filter (·.1)).map addE) (kOf (.int s)) _ = _ from kvPut_new (adds_nodup nd hs1) _]
      repeat walk_at "mine.step"
      refine ⟨(Sub.refl _).bnd rfl _, ?_⟩
      rw [upd_comm hld, upd_upd, filter_take _ hs1, filter_take _ hs1]
      simp [addE]
  · rintro σ' H' ⟨hs, rfl⟩
    have ea : ((ars.take (ars.map toRow).length).filter (·.1)).map addE = as.map fun x => (Key.i x, nameP x) := by
      rw [List.length_map, List.take_length, ← eas, List.map_map]; rfl
    have eg : ((ars.take (ars.map toRow).length).filter (!·.1)).map toRow = gs.map (goneR []) := by
      rw [List.length_map, List.take_length, ← egs, List.map_map]
      refine List.map_congr_left fun x hx => ?_
      have := (List.mem_filter.mp hx).2
      simp at this
      simp [toRow, this]
    rw [ea, eg]
    have hgsz : gs.length ≤ 100 := by
      rw [← egs, List.length_map]
      exact Nat.le_trans (List.length_filter_le _ _) sz
    have hasz : as.length ≤ 100 := by
      rw [← eas, List.length_map]
      exact Nat.le_trans (List.length_filter_le _ _) sz
    refine s_fz (K := upd H d (.dct (as.map fun x => (Key.i x, nameP x)))) (σ' := bnd (bnd (argL ["parts", "rows"] [.lst ((rngI n).map intP), .lst (ars.map toRow)] fun _ => none) "added" (.ref d)) "later" (.lst (gs.map (goneR [])))) ?_ ?_ ?_
    · refine FzS.of_le fun a mo e => ?_
      have hal : a ≠ l := by rintro rfl; rw [upd_ne hld] at e; rw [hl'] at e; cases e
      rw [upd_ne hal]; exact e
    · intro x q e
      unfold bnd at e
      by_cases hx : x = "later"
      · rw [if_pos hx] at e
        obtain rfl := Option.some.inj e
        refine ⟨.ref l, hs x _ (by unfold bnd; rw [if_pos hx]), .ref (upd_same _ _ _) (by rw [upd_ne hld]; exact hl') (.refl _)⟩
      · rw [if_neg hx] at e
        exact ⟨q, hs x _ (by unfold bnd; rw [if_neg hx]; exact e), .same _⟩
    clear hs σ'
    repeat walk_at "mine.step"
    (focus ((with_reducible refine' e_callF G mem_grouped ok_grouped hg rm ?_ ?_ ?_ ?_ ?_ ?_); rotate_left; exact rfl; exact rfl; exact rfl; decide; exact rfl))
    repeat walk_at "mine.step"
    refine ⟨rfl, fn_grouped G hg ngs hgsz fun b hb => ?_⟩
    obtain ⟨hbd, hb'⟩ := upd_none hb
    repeat walk_at "mine.step"
    refine ⟨szl (by simp), fun kp hkp => ?_⟩
    obtain ⟨hkb, hkp'⟩ := upd_none hkp
    obtain ⟨hkd, hkp''⟩ := upd_none hkp'
    repeat walk_at "mine.step"
    generalize hHA : upd H d (.dct (as.map fun x => (Key.i x, nameP x))) = HA at *
    refine s_for rm.1 ?_
    (focus ((with_reducible refine' e_callT (x := "range") (T := "range") G ?_ ?_ ?_ ?_ ?_ ?_ ?_ ?_ ?_ ?_); decide; exact rfl; decide; decide; rotate_left; exact rfl; exact rfl; exact rfl; exact rfl; exact rfl))
    repeat walk_at "mine.step"
    (focus ((with_reducible refine' e_callB (x := "len") (id := "len") G ?_ ?_ ?_ ?_ ?_ ?_ ?_ ?_ ?_ ?_); decide; exact rfl; decide; decide; rotate_left; exact rfl; exact rfl; exact rfl; exact rfl; exact rfl))
    repeat walk_at "mine.step"
    refine k_len_lst rfl (szl (by simp [rngI]; omega)) ?_
    repeat walk_at "mine.step"
    rw [show (((rngI n).map intP).length : Int) = (n : Int) by simp [rngI]]
    refine k_range ?_
    refine ⟨rngL n, .rng n (by omega) (by omega), fun i σ' H' => Sub (bnd (bnd (bnd (bnd (argL ["parts", "rows"] [.lst ((rngI n).map intP), .lst (ars.map toRow)] fun _ => none) "added" (.ref d)) "later" (.lst (gs.map (goneR [])))) "behind" (.ref b)) "kept" (.ref kp)) σ' ∧
      H' = upd (upd HA b (.dct ((gs.filter fun x => decide ((i : Int) ≤ x)).map behindE))) kp (.lst (((rngI i).filter (fun s => decide (s ∉ gs))).map intP)), ⟨Sub.refl _, ?_⟩, ?_, ?_⟩
    · rw [show (gs.filter fun x => decide (((0 : Nat) : Int) ≤ x)) = gs from List.filter_eq_self.mpr fun x hx => by simpa using (hgs x hx).1]
      rfl
    · rintro i x σ' H' hx ⟨hs, rfl⟩
      obtain ⟨rfl, hin⟩ := rngL_get hx
      have hin' : i < n := by omega
      have hfl : (gs.filter fun x => decide ((i : Int) ≤ x)).length ≤ 100 := Nat.le_trans (List.length_filter_le _ _) hgsz
      have hpi : ((rngI n).map intP)[(i : Int).toNat]? = some (intP i) := by simp [rngI, hin']
      refine u_loc hs ?_
      repeat walk_at "mine.step"
      refine e_fz ?_
      (focus ((with_reducible refine' e_meth PySem.F.plainAttrs_dict PySem.F.slot_dict_pop PySem.F.type_dict_pop ?_ ?_ ?_ ?_ ?_ ?_); rotate_left; exact rfl; exact rfl; exact rfl; exact rfl; exact rfl))
      repeat walk_at "mine.step"
      refine ⟨hasDct (kvs := (gs.filter fun x => decide ((i : Int) ≤ x)).map behindE) (by simp [upd, Ne.symm hkb]), ?_⟩
      repeat walk_at "mine.step"
      refine ⟨szl (by simp), fun lj hlj => ?_⟩
      repeat walk_at "mine.step"
      obtain ⟨hj1, hj2⟩ := upd_none hlj
      obtain ⟨hj3, hj4⟩ := upd_none hj2
      have hkg := kvGet_key (g := fun s => .lst [rowP [] "gone" (intP s) .none]) (gs.filter fun x => decide ((i : Int) ≤ x)) i
      have hdel := kvDel_key (g := fun s => .lst [rowP [] "gone" (intP s) .none]) gs i
      by_cases hig : (i : Int) ∈ gs
      · rw [if_pos (by simp [hig])] at hkg
        refine k_dpop (kvs := (gs.filter fun x => decide ((i : Int) ≤ x)).map behindE) (.inr ⟨_, rfl⟩) (by simp [upd, Ne.symm hkb, Ne.symm hj3]) rfl hkg (szl (by simp; omega)) ?_
        refine ⟨.lst [rowP [] "gone" (intP i) .none], upd (upd HA b (.dct ((gs.filter fun x => decide ((i : Int) + 1 ≤ x)).map behindE))) kp (.lst (((rngI i).filter (fun s => decide (s ∉ gs))).map intP)), .of_le ?_, .same _, ?_⟩
        · rw [show kvDel ((gs.filter fun x => decide ((i : Int) ≤ x)).map behindE) (kOf (.int (i : Int))) = (gs.filter fun x => decide ((i : Int) + 1 ≤ x)).map behindE from hdel]
          rw [show upd (upd (upd (upd HA b (.dct ((gs.filter fun x => decide ((i : Int) ≤ x)).map behindE))) kp (.lst (((rngI i).filter (fun s => decide (s ∉ gs))).map intP))) lj (.lst [])) b (.dct ((gs.filter fun x => decide ((i : Int) + 1 ≤ x)).map behindE)) =
            upd (upd (upd HA b (.dct ((gs.filter fun x => decide ((i : Int) + 1 ≤ x)).map behindE))) kp (.lst (((rngI i).filter (fun s => decide (s ∉ gs))).map intP))) lj (.lst []) by
              rw [upd_comm hj3, upd_comm hkb, upd_upd]]
          exact (Le.refl _).upd (by simp [upd, hj1, hj3, hj4]) _
        repeat walk_at "mine.step"
        (focus ((with_reducible refine' e_callF G mem_single ok_single hg rm ?_ ?_ ?_ ?_ ?_ ?_); rotate_left; exact rfl; exact rfl; exact rfl; decide; exact rfl))
        repeat walk_at "mine.step"
        refine ⟨rfl, fn_single1 G hg ?_ rfl rfl (Nat.le_of_ble_eq_true rfl) (Nat.le_of_ble_eq_true rfl)⟩
        repeat walk_at "mine.step"
        refine c_isnot ?_
        repeat walk_at "mine.step"
        first | (focus ((with_reducible refine' if_t ?_ ?_); exact rfl)) | (focus ((with_reducible refine' if_f ?_ ?_); exact rfl))
        repeat walk_at "mine.step"
        (focus ((with_reducible refine' e_callF G mem_need ok_need hg rm ?_ ?_ ?_ ?_ ?_ ?_); rotate_left; exact rfl; exact rfl; exact rfl; decide; exact rfl))
        repeat walk_at "mine.step"
        refine e_and2 ?_
        repeat walk_at "mine.step"
        (focus ((with_reducible refine' e_callB (x := "len") (id := "len") G ?_ ?_ ?_ ?_ ?_ ?_ ?_ ?_ ?_ ?_); decide; exact rfl; decide; decide; rotate_left; exact rfl; exact rfl; exact rfl; exact rfl; exact rfl))
        repeat walk_at "mine.step"
        refine k_len_lst rfl (szl (by simp)) ?_
        repeat walk_at "mine.step"
        refine c_ieq rm true (by simp) ?_
        repeat walk_at "mine.step"
        first | (focus ((with_reducible refine' if_t ?_ ?_); exact rfl)) | (focus ((with_reducible refine' if_f ?_ ?_); exact rfl))
        repeat walk_at "mine.step"
        (focus ((refine' i_tup (k := 2) (j := 2) (by decide) (by decide) _ _ _); rotate_left; exact rfl; exact rfl))
        repeat walk_at "mine.step"
        refine i_lst (ds := (rngI n).map intP) (p := intP i) rfl (by omega) (by omega) hpi ?_
        refine c_eqb true rm rfl rfl (Nat.le_of_ble_eq_true rfl) (peq_self _) ?_
        repeat walk_at "mine.step"
        refine ⟨rfl, fn_need ⟨rfl, ?_⟩⟩
        repeat walk_at "mine.step"
        refine ⟨((((Sub.refl _).bnd rfl _).bnd rfl _).bnd rfl _), ?_⟩
        rw [rngI_succ, List.filter_append]
        simp [hig]
      · rw [if_neg (by simp [hig])] at hkg
        refine k_dpop_none (kvs := (gs.filter fun x => decide ((i : Int) ≤ x)).map behindE) G (by simp [upd, Ne.symm hkb, Ne.symm hj3]) rfl hkg ?_
        refine ⟨.lst [], upd (upd HA b (.dct ((gs.filter fun x => decide ((i : Int) + 1 ≤ x)).map behindE))) kp (.lst (((rngI i).filter (fun s => decide (s ∉ gs))).map intP)), .of_le ?_, .ref (upd_same _ _ _) ?_ (.refl _), ?_⟩
        · rw [filter_step gs i hig]
          exact (Le.refl _).upd (by simp [upd, hj1, hj3, hj4]) _
        · simp [upd, hj1, hj3, hj4]
        repeat walk_at "mine.step"
        (focus ((with_reducible refine' e_callF G mem_single ok_single hg rm ?_ ?_ ?_ ?_ ?_ ?_); rotate_left; exact rfl; exact rfl; exact rfl; decide; exact rfl))
        repeat walk_at "mine.step"
        refine ⟨rfl, fn_single0 G hg ?_⟩
        repeat walk_at "mine.step"
        refine c_isnot ?_
        repeat walk_at "mine.step"
        first | (focus ((with_reducible refine' if_t ?_ ?_); exact rfl)) | (focus ((with_reducible refine' if_f ?_ ?_); exact rfl))
        repeat walk_at "mine.step"
        (focus ((with_reducible refine' e_meth PySem.F.plainAttrs_list PySem.F.slot_list_append PySem.F.type_list_append ?_ ?_ ?_ ?_ ?_ ?_); rotate_left; exact rfl; exact rfl; exact rfl; exact rfl; exact rfl))
        repeat walk_at "mine.step"
        refine ⟨hasList (ds := ((rngI i).filter (fun s => decide (s ∉ gs))).map intP) (vw_ref (by rw [upd_same])), ?_⟩
        repeat walk_at "mine.step"
        (focus ((with_reducible refine' e_callF G mem_shape ok_shape hg rm ?_ ?_ ?_ ?_ ?_ ?_); rotate_left; exact rfl; exact rfl; exact rfl; decide; exact rfl))
        repeat walk_at "mine.step"
        refine i_lst (ds := (rngI n).map intP) (p := intP i) rfl (by omega) (by omega) hpi ?_
        repeat walk_at "mine.step"
        refine ⟨rfl, fn_shape hg ?_⟩
        repeat walk_at "mine.step"
        refine k_append (upd_same _ _ _) (szl ?_) ⟨rfl, ?_⟩
        · have := List.length_filter_le (fun s => decide (s ∉ gs)) (rngI i)
          simp [rngI] at this ⊢; omega
        repeat walk_at "mine.step"
        refine ⟨((((Sub.refl _).bnd rfl _).bnd rfl _).bnd rfl _), ?_⟩
        rw [upd_upd, rngI_succ, List.filter_append]
        simp [hig]
    · rintro σ' H' ⟨hs, rfl⟩
      refine s_loc hs ?_
      clear hs σ'
      rw [rngL_len, hk, show (gs.filter fun x => decide ((n : Int) ≤ x)) = [] from List.filter_eq_nil_iff.mpr fun x hx => by have := (hgs x hx).2; simp; omega]
      have hkl : (made.filterMap id).length ≤ 100 := by omega
      repeat walk_at "mine.step"
      (focus ((with_reducible refine' e_callF G mem_need ok_need hg rm ?_ ?_ ?_ ?_ ?_ ?_); rotate_left; exact rfl; exact rfl; exact rfl; decide; exact rfl))
      repeat walk_at "mine.step"
      (focus ((with_reducible refine' e_callB (x := "len") (id := "len") G ?_ ?_ ?_ ?_ ?_ ?_ ?_ ?_ ?_ ?_); decide; exact rfl; decide; decide; rotate_left; exact rfl; exact rfl; exact rfl; exact rfl; exact rfl))
      repeat walk_at "mine.step"
      refine k_len_dct G (kvs := []) (by simp [upd, Ne.symm hkb]) (szl (by simp)) ?_
      repeat walk_at "mine.step"
      refine c_ieq rm true (by simp) ?_
      repeat walk_at "mine.step"
      refine ⟨rfl, fn_need ⟨rfl, ?_⟩⟩
      repeat walk_at "mine.step"
      refine ⟨szl (by simp), fun f hf => ?_⟩
      obtain ⟨hfk, hf1⟩ := upd_none hf
      obtain ⟨hfb, hf2⟩ := upd_none hf1
      subst hHA
      obtain ⟨hfd, hf3⟩ := upd_none hf2
      repeat walk_at "mine.step"
      refine s_for rm.1 ?_
      (focus ((with_reducible refine' e_callT (x := "range") (T := "range") G ?_ ?_ ?_ ?_ ?_ ?_ ?_ ?_ ?_ ?_); decide; exact rfl; decide; decide; rotate_left; exact rfl; exact rfl; exact rfl; exact rfl; exact rfl))
      repeat walk_at "mine.step"
      (focus ((with_reducible refine' e_callB (x := "len") (id := "len") G ?_ ?_ ?_ ?_ ?_ ?_ ?_ ?_ ?_ ?_); decide; exact rfl; decide; decide; rotate_left; exact rfl; exact rfl; exact rfl; exact rfl; exact rfl))
      repeat walk_at "mine.step"
      refine k_len_lst (ds := (made.filterMap id).map intP) (vw_ref (by simp [upd, Ne.symm hfk])) (szl (by simp; omega)) ?_
      repeat walk_at "mine.step"
      (focus ((with_reducible refine' e_callB (x := "len") (id := "len") G ?_ ?_ ?_ ?_ ?_ ?_ ?_ ?_ ?_ ?_); decide; exact rfl; decide; decide; rotate_left; exact rfl; exact rfl; exact rfl; exact rfl; exact rfl))
      repeat walk_at "mine.step"
      refine k_len_dct (kvs := as.map fun x => (Key.i x, nameP x)) G (by simp [upd, Ne.symm hfd, Ne.symm hkd, Ne.symm hbd]) (szl (by simp; omega)) ?_
      refine b_add ?_
      repeat walk_at "mine.step"
      rw [show (((made.filterMap id).map intP).length : Int) + ((as.map fun x => (Key.i x, nameP x)).length : Int) = (made.length : Int) by simp; omega]
      refine k_range ?_
      refine ⟨rngL made.length, .rng _ (by omega) (by omega), fun i σ' H' => Sub (bnd (bnd (bnd (bnd (bnd (argL ["parts", "rows"] [.lst ((rngI n).map intP), .lst (ars.map toRow)] fun _ => none) "added" (.ref d)) "later" (.lst (gs.map (goneR [])))) "behind" (.ref b)) "kept" (.ref kp)) "found" (.ref f)) σ' ∧
        H' = upd (upd (upd (upd H d (.dct ((as.filter fun x => decide ((i : Int) ≤ x)).map fun x => (Key.i x, nameP x)))) b (.dct [])) kp (.lst (((made.drop i).filterMap id).map intP))) f (.lst ((List.range i).map (wantAt made))), ⟨Sub.refl _, ?_⟩, ?_, ?_⟩
      · rw [show (as.filter fun x => decide (((0 : Nat) : Int) ≤ x)) = as from List.filter_eq_self.mpr fun x hx => by simpa using (hal x hx).1]
        rfl
      · rintro i x σ' H' hx ⟨hs, rfl⟩
        obtain ⟨rfl, hin⟩ := rngL_get hx
        have hin' : i < made.length := by omega
        have hfl : (as.filter fun x => decide ((i : Int) ≤ x)).length ≤ 100 := Nat.le_trans (List.length_filter_le _ _) hasz
        have hkg := kvGet_key (g := nameP) (as.filter fun x => decide ((i : Int) ≤ x)) i
        have hdel := kvDel_key (g := nameP) as i
        have hdr : made.drop i = made[i] :: made.drop (i + 1) := List.drop_eq_getElem_cons hin'
        refine u_loc hs ?_
        repeat walk_at "mine.step"
        by_cases hia : (i : Int) ∈ as
        · rw [if_pos (by simp [hia])] at hkg
          have hmi : made[i]? = some none := (has i hin').mp hia
          have hmi' : made[i] = none := by rw [List.getElem?_eq_getElem hin'] at hmi; exact Option.some.inj hmi
          refine c_idb true (kvs := (as.filter fun x => decide ((i : Int) ≤ x)).map fun x => (Key.i x, nameP x)) G (by simp [upd, Ne.symm hfd, Ne.symm hkd, Ne.symm hbd]) rfl (by rw [show kOf (.int (i : Int)) = Key.i i from rfl, hkg]; rfl) ?_
          repeat walk_at "mine.step"
          first | (focus ((with_reducible refine' if_t ?_ ?_); exact rfl)) | (focus ((with_reducible refine' if_f ?_ ?_); exact rfl))
          repeat walk_at "mine.step"
          (focus ((with_reducible refine' e_meth PySem.F.plainAttrs_list PySem.F.slot_list_append PySem.F.type_list_append ?_ ?_ ?_ ?_ ?_ ?_); rotate_left; exact rfl; exact rfl; exact rfl; exact rfl; exact rfl))
          repeat walk_at "mine.step"
          refine ⟨hasList (ds := (List.range i).map (wantAt made)) (vw_ref (by rw [upd_same])), ?_⟩
          repeat walk_at "mine.step"
          (focus ((with_reducible refine' e_meth PySem.F.plainAttrs_dict PySem.F.slot_dict_pop PySem.F.type_dict_pop ?_ ?_ ?_ ?_ ?_ ?_); rotate_left; exact rfl; exact rfl; exact rfl; exact rfl; exact rfl))
          repeat walk_at "mine.step"
          refine ⟨hasDct (kvs := (as.filter fun x => decide ((i : Int) ≤ x)).map fun x => (Key.i x, nameP x)) (by simp [upd, Ne.symm hfd, Ne.symm hkd, Ne.symm hbd]), ?_⟩
          repeat walk_at "mine.step"
          refine k_dpop (kvs := (as.filter fun x => decide ((i : Int) ≤ x)).map fun x => (Key.i x, nameP x)) (.inl rfl) (by simp [upd, Ne.symm hfd, Ne.symm hkd, Ne.symm hbd]) rfl hkg (szl (by simp; omega)) ?_
          rw [show kvDel ((as.filter fun x => decide ((i : Int) ≤ x)).map fun x => (Key.i x, nameP x)) (kOf (.int (i : Int))) = (as.filter fun x => decide ((i : Int) + 1 ≤ x)).map (fun x => (Key.i x, nameP x)) from hdel]
          repeat walk_at "mine.step"
          refine k_append (ds := (List.range i).map (wantAt made)) (by simp [upd, hfd]) (szl (by simp; omega)) ⟨rfl, ?_⟩
          repeat walk_at "mine.step"
          refine ⟨(Sub.refl _).bnd rfl _, ?_⟩
          rw [hdr, hmi', List.filterMap_cons_none rfl, List.range_succ, List.map_append]
          rw [upd_comm hfd, upd_comm hkd, upd_comm hbd, upd_upd, upd_upd]
          simp [wantAt, hmi]
        · rw [if_neg (by simp [hia])] at hkg
          have hmn : made[i]? ≠ some none := fun e => hia ((has i hin').mpr e)
          obtain ⟨s, hmi'⟩ : ∃ s, made[i] = some s := by
            cases e : made[i] with
            | none => exact absurd (by rw [List.getElem?_eq_getElem hin', e]) hmn
            | some s => exact ⟨s, rfl⟩
          have hmi : made[i]? = some (some s) := by rw [List.getElem?_eq_getElem hin', hmi']
          refine c_idb false (kvs := (as.filter fun x => decide ((i : Int) ≤ x)).map fun x => (Key.i x, nameP x)) G (by simp [upd, Ne.symm hfd, Ne.symm hkd, Ne.symm hbd]) rfl (by rw [show kOf (.int (i : Int)) = Key.i i from rfl, hkg]; rfl) ?_
          rw [hdr, hmi', List.filterMap_cons_some (f := id) (a := some s) (b := s) rfl, List.map_cons]
          repeat walk_at "mine.step"
          first | (focus ((with_reducible refine' if_t ?_ ?_); exact rfl)) | (focus ((with_reducible refine' if_f ?_ ?_); exact rfl))
          repeat walk_at "mine.step"
          refine ⟨szl (by simp), fun z hz => ?_⟩
          obtain ⟨hzf, hz1⟩ := upd_none hz
          obtain ⟨hzk, hz2⟩ := upd_none hz1
          obtain ⟨hzb, hz3⟩ := upd_none hz2
          obtain ⟨hzd, hz4⟩ := upd_none hz3
          have hdl : ((made.drop (i + 1)).filterMap id).length ≤ 100 := Nat.le_trans (List.length_filterMap_le _ _) (by simp; omega)
          have ek : vw (upd (upd (upd (upd (upd H d (.dct ((as.filter fun x => decide ((i : Int) ≤ x)).map fun x => (Key.i x, nameP x)))) b (.dct [])) kp (.lst (intP s :: ((made.drop (i + 1)).filterMap id).map intP))) f (.lst ((List.range i).map (wantAt made)))) z (.lst [])) (.ref kp) = .lst (intP s :: ((made.drop (i + 1)).filterMap id).map intP) := vw_ref (by simp [upd, Ne.symm hfk, Ne.symm hzk])
          have okm : ∀ l : List Int, PV.okL (l.map intP) = true := by
            intro l; induction l with
            | nil => rfl
            | cons a l ih => rw [List.map_cons, PV.okL, ih]; rfl
          have depm : ∀ l : List Int, PV.depL (l.map intP) ≤ 2 := by
            intro l; induction l with
            | nil => exact Nat.zero_le _
            | cons a l ih => rw [List.map_cons, PV.depL]; exact Nat.max_le.mpr ⟨Nat.le_of_ble_eq_true rfl, ih⟩
          refine c_neb true rm (by rw [ek]; exact okm (s :: (made.drop (i + 1)).filterMap id)) (by rw [vw_upd]; rfl) (by rw [ek]; exact Nat.le_trans (Nat.succ_le_succ (depm (s :: (made.drop (i + 1)).filterMap id))) (by decide)) (by rw [ek, vw_upd, peq_ne (by simp)]; rfl) ?_
          repeat walk_at "mine.step"
          first | (focus ((with_reducible refine' if_t ?_ ?_); exact rfl)) | (focus ((with_reducible refine' if_f ?_ ?_); exact rfl))
          refine s_end ?_
          repeat walk_at "mine.step"
          (focus ((with_reducible refine' e_meth PySem.F.plainAttrs_list PySem.F.slot_list_append PySem.F.type_list_append ?_ ?_ ?_ ?_ ?_ ?_); rotate_left; exact rfl; exact rfl; exact rfl; exact rfl; exact rfl))
          repeat walk_at "mine.step"
          refine ⟨hasList (ds := (List.range i).map (wantAt made)) (vw_ref (by simp [upd, Ne.symm hzf])), ?_⟩
          repeat walk_at "mine.step"
          (focus ((with_reducible refine' e_meth PySem.F.plainAttrs_list PySem.F.slot_list_pop PySem.F.type_list_pop ?_ ?_ ?_ ?_ ?_ ?_); rotate_left; exact rfl; exact rfl; exact rfl; exact rfl; exact rfl))
          repeat walk_at "mine.step"
          refine ⟨hasList ek, ?_⟩
          repeat walk_at "mine.step"
          refine k_pop0 (x := intP s) (ds := ((made.drop (i + 1)).filterMap id).map intP) (by simp [upd, Ne.symm hfk, Ne.symm hzk]) (szl (by simp; omega)) ?_
          repeat walk_at "mine.step"
          refine k_append (ds := (List.range i).map (wantAt made)) (by simp [upd, hfk, Ne.symm hzf]) (szl (by simp; omega)) ⟨rfl, ?_⟩
          repeat walk_at "mine.step"
          refine ⟨_, upd (upd (upd (upd H d (.dct ((as.filter fun x => decide ((i : Int) + 1 ≤ x)).map fun x => (Key.i x, nameP x)))) b (.dct [])) kp (.lst (((made.drop (i + 1)).filterMap id).map intP))) f (.lst ((List.range (i + 1)).map (wantAt made))), .of_le ?_, Sub.fz ((Sub.refl _).bnd rfl _), s_nil (s_nil ⟨Sub.refl _, rfl⟩)⟩
          rw [List.range_succ, List.map_append, filter_step as i hia]
          have ew : wantAt made i = intP s := by simp [wantAt, hmi]
          rw [upd_comm hzk, upd_comm hfk, upd_upd, upd_comm hzf, upd_upd]
          rw [List.map_singleton, ew]
          exact (Le.refl _).upd (by simp [upd, hzf, hzk, hzb, hzd, hz4]) _
      · rintro σ' H' ⟨hs, rfl⟩
        refine s_loc hs ?_
        clear hs σ'
        rw [rngL_len, show (as.filter fun x => decide ((made.length : Int) ≤ x)) = [] from List.filter_eq_nil_iff.mpr fun x hx => by have := (hal x hx).2; simp; omega]
        repeat walk_at "mine.step"
        (focus ((with_reducible refine' e_callF G mem_need ok_need hg rm ?_ ?_ ?_ ?_ ?_ ?_); rotate_left; exact rfl; exact rfl; exact rfl; decide; exact rfl))
        repeat walk_at "mine.step"
        (focus ((with_reducible refine' e_callB (x := "len") (id := "len") G ?_ ?_ ?_ ?_ ?_ ?_ ?_ ?_ ?_ ?_); decide; exact rfl; decide; decide; rotate_left; exact rfl; exact rfl; exact rfl; exact rfl; exact rfl))
        repeat walk_at "mine.step"
        refine k_len_dct G (kvs := []) (by simp [upd, Ne.symm hfd, Ne.symm hkd, Ne.symm hbd]) (szl (by simp)) ?_
        repeat walk_at "mine.step"
        refine c_ieq rm true (by simp) ?_
        repeat walk_at "mine.step"
        refine ⟨rfl, fn_need ⟨rfl, ?_⟩⟩
        repeat walk_at "mine.step"
        refine ⟨szl (by simp), ?_⟩
        (focus ((with_reducible refine' e_callT (x := "tuple") (T := "tuple") G ?_ ?_ ?_ ?_ ?_ ?_ ?_ ?_ ?_ ?_); decide; exact rfl; decide; decide; rotate_left; exact rfl; exact rfl; exact rfl; exact rfl; exact rfl))
        repeat walk_at "mine.step"
        refine k_tuple (vw_ref (upd_same _ _ _)) (szl (by simp; omega)) ?_
        refine b_tup (szl (by simp; omega)) ⟨?_, q⟩
        exact (((Le.refl _).upd hd _).upd (by rw [upd_ne hbd]; exact hb') _).upd (by rw [upd_ne hkb, upd_ne hkd]; exact hkp'') _ |>.upd (by rw [upd_ne hfk, upd_ne hfb, upd_ne hfd]; exact hf3) _
end
end Mine

open PySem PySem.W PyProof.Rows PySem.Calls
set_option Elab.async false
set_option maxRecDepth 100000
set_option maxHeartbeats 8000000
set_option linter.unusedVariables false
set_option linter.unusedSectionVars false
namespace Mine
def pvs (l : List Int) : List PV := l.map PV.int
theorem pvs_ok (l : List Int) : PV.okL (pvs l) = true := by
  induction l with
  | nil => rfl
  | cons a l ih => show PV.okL (.int a :: pvs l) = true; rw [PV.okL, ih]; rfl
theorem pvs_dep (l : List Int) : PV.depL (pvs l) ≤ 1 := by
  induction l with
  | nil => exact Nat.zero_le _
  | cons a l ih => show PV.depL (.int a :: pvs l) ≤ 1; rw [PV.depL]; exact Nat.max_le.mpr ⟨Nat.le_of_ble_eq_true rfl, ih⟩
theorem pin_int (l : List Int) (j : Int) : pin (.int j) (pvs l) = decide (j ∈ l) := by
  rw [Bool.eq_iff_iff, pin_iff, decide_eq_true_iff]
  unfold pvs
  simp
def cntOut (as : List Int) (j : Nat) : Nat := ((List.range j).filter fun (i : Nat) => decide ((i : Int) ∉ as)).length
theorem cntOut_succ (as : List Int) (j : Nat) : cntOut as (j + 1) = cntOut as j + (if (j : Int) ∈ as then 0 else 1) := by
  unfold cntOut
  rw [List.range_succ, List.filter_append, List.length_append]
  by_cases h : (j : Int) ∈ as <;> simp [h]
theorem cntOut_mono (as : List Int) {j t : Nat} (h : j ≤ t) : cntOut as j ≤ cntOut as t := by
  induction t with
  | zero => obtain rfl : j = 0 := by omega
            exact Nat.le_refl _
  | succ t ih =>
    rcases Nat.lt_or_ge t j with q | q
    · obtain rfl : j = t + 1 := by omega
      exact Nat.le_refl _
    · rw [cntOut_succ]; have := ih q; omega
/-- the mark's index in the new list -/
def MI (s : Int) (gs as : List Int) (t : Nat) : Prop := (t : Int) ∉ as ∧ (cntOut as t : Int) = s - ((gs.filter fun x => decide (x < s)).length : Int)
section
variable {c : Cx} {σ : Loc} {H K : Store} {Q : PV → Store → Prop} {Qn : Loc → Store → Prop} {Qr : PV → Store → Prop} {mg mb : Str → Option Value} {k : Nat}
theorem fn_midx {s : Int} {gs as : List Int} {t : Nat} (G : Gl thePr c.B mg mb) (hg : ∀ a, c.g.get? a = none) (mi : MI s gs as t) (sz : gs.length ≤ 100) (q : Q (.int t) H) : FnO c rc10 (k + 1) [.int s, .lst (pvs gs), .lst (pvs as)] H Q := by
  refine fn_le ?_
  intro A L a cd rm
  have hb : rc10.body = rc10.body := rfl
  conv at hb => rhs; whnf
  rw [hb]; clear hb
  repeat walk_at "mine.step"
  (focus ((with_reducible refine' e_callB (x := "len") (id := "len") G ?_ ?_ ?_ ?_ ?_ ?_ ?_ ?_ ?_ ?_); decide; exact rfl; decide; decide; rotate_left; exact rfl; exact rfl; exact rfl; exact rfl; exact rfl))
  refine args_cons' ?_
  refine e_comp rm.1 hg (cl := [("spot", L + 1)]) ⟨rfl, by decide, rfl, by decide, rfl, by intro p hp; simp only [List.mem_singleton] at hp; subst hp; exact ⟨rfl, rfl, rfl⟩, rfl⟩ ?_
  repeat walk_at "mine.step"
  refine ⟨pvs gs, .lst _, szl (by simp [pvs]; omega), fun i ys H' => H' = H ∧ ys = pvs ((gs.take i).filter fun x => decide (x < s)), ⟨rfl, rfl⟩, ?_, ?_⟩
  · rintro C D i d ys H' hD hi ⟨rfl, rfl⟩
    obtain ⟨x, hx, rfl⟩ : ∃ x, gs[i]? = some x ∧ PV.int x = d := by simpa [pvs] using hi
    refine tests_one ?_
    repeat walk_at "mine.step"
    refine c_ltb (decide (x < s)) rfl ?_
    repeat walk_at "mine.step"
    by_cases hxs : x < s
    · rw [decide_eq_true hxs]
      first | (focus ((with_reducible refine' if_t ?_ ?_); exact rfl)) | (focus ((with_reducible refine' if_f ?_ ?_); exact rfl))
      repeat walk_at "mine.step"
      refine ⟨H', rfl, hD, rfl, ?_⟩
      rw [filter_take _ hx]; simp [pvs, hxs]
    · rw [decide_eq_false hxs]
      first | (focus ((with_reducible refine' if_t ?_ ?_); exact rfl)) | (focus ((with_reducible refine' if_f ?_ ?_); exact rfl))
      refine ⟨H', rfl, hD, rfl, ?_⟩
      rw [filter_take _ hx]; simp [pvs, hxs]
  · rintro D ys H' hD ⟨rfl, rfl⟩
    repeat walk_at "mine.step"
    have hfl := List.length_filter_le (fun x => decide (x < s)) gs
    rw [show (gs.take (pvs gs).length) = gs by simp [pvs]]
    refine k_len_lst vw_upd (szl (by simp [pvs]; omega)) ?_
    rw [show ((pvs (gs.filter fun x => decide (x < s))).length : Int) = ((gs.filter fun x => decide (x < s)).length : Int) by simp [pvs], ]
    obtain ⟨hm, hc⟩ := mi
    refine b_sub ?_
    rw [← hc]
    repeat walk_at "mine.step"
    refine s_while (fun n σ' H'' => ∃ j : Nat, n = t - j ∧ j ≤ t ∧ Sub (bnd (bnd (argL ["spot", "gone", "added"] [.int s, .lst (pvs gs), .lst (pvs as)] fun _ => none) "rank" (.int ((cntOut as t : Int) - cntOut as j))) "at" (.int j)) σ' ∧ H'' = upd H' D (.lst (pvs (gs.filter fun x => decide (x < s))))) t ⟨0, rfl, Nat.zero_le _, ?_, rfl⟩ ?_
    · rw [show (cntOut as t : Int) - cntOut as 0 = cntOut as t by simp [cntOut]]; exact Sub.refl _
    · rintro n σ' H'' ⟨j, rfl, hj, hs, rfl⟩
      refine t_val ?_
      repeat walk_at "mine.step"
      first | (focus ((with_reducible refine' if_t ?_ ?_); exact rfl)) | (focus ((with_reducible refine' if_f ?_ ?_); exact rfl))
      refine s_loc hs ?_
      repeat walk_at "mine.step"
      refine c_nib (decide ((j : Int) ∉ as)) rm rfl (pvs_ok _) rfl (Nat.le_trans (pvs_dep _) (by decide)) (by rw [show vw _ (.int (j : Int)) = .int j from rfl, pin_int]; simp) ?_
      repeat walk_at "mine.step"
      by_cases hja : (j : Int) ∈ as
      · rw [decide_eq_false (by simpa using hja)]
        first | (focus ((with_reducible refine' if_t ?_ ?_); exact rfl)) | (focus ((with_reducible refine' if_f ?_ ?_); exact rfl))
        repeat walk_at "mine.step"
        refine b_add ?_
        repeat walk_at "mine.step"
        have hjt : j ≠ t := by rintro rfl; exact hm hja
        refine ⟨t - (j + 1), by omega, j + 1, rfl, by omega, ?_, rfl⟩
        rw [cntOut_succ, if_pos hja]
        exact Sub.put (Sub.refl _) _
      · rw [decide_eq_true hja]
        first | (focus ((with_reducible refine' if_t ?_ ?_); exact rfl)) | (focus ((with_reducible refine' if_f ?_ ?_); exact rfl))
        repeat walk_at "mine.step"
        by_cases hjt : j = t
        · subst hjt
          refine c_ieq rm true (by simp) ?_
          repeat walk_at "mine.step"
          first | (focus ((with_reducible refine' if_t ?_ ?_); exact rfl)) | (focus ((with_reducible refine' if_f ?_ ?_); exact rfl))
          repeat walk_at "mine.step"
          exact ⟨(Le.refl _).upd hD _, q⟩
        · have h1 := cntOut_mono as (show j + 1 ≤ t by omega)
          rw [cntOut_succ, if_neg hja] at h1
          refine c_ieq rm false (by simp; omega) ?_
          repeat walk_at "mine.step"
          first | (focus ((with_reducible refine' if_t ?_ ?_); exact rfl)) | (focus ((with_reducible refine' if_f ?_ ?_); exact rfl))
          repeat walk_at "mine.step"
          refine b_sub ?_
          repeat walk_at "mine.step"
          refine b_add ?_
          repeat walk_at "mine.step"
          refine ⟨t - (j + 1), by omega, j + 1, rfl, by omega, ?_, rfl⟩
          rw [cntOut_succ, if_neg hja]
          have e1 : (cntOut as t : Int) - (((cntOut as j + 1 : Nat) : Int)) = (cntOut as t : Int) - cntOut as j - 1 := by omega
          have e2 : ((j + 1 : Nat) : Int) = (j : Int) + 1 := by omega
          rw [e1, e2]
          intro x p e
          unfold bnd at e ⊢
          by_cases h1 : x = "at" <;> by_cases h2 : x = "rank" <;> simp_all
end
end Mine

open PySem PySem.W PyProof.Rows PySem.Calls
set_option Elab.async false
set_option maxRecDepth 100000
set_option maxHeartbeats 8000000
set_option linter.unusedVariables false
set_option linter.unusedSectionVars false
namespace Mine
structure RD where
  pre : List PV
  last : PV
  way : Str
  old : PV
  new : PV
abbrev RD.pv (r : RD) : PV := rowP (r.pre ++ [r.last]) r.way r.old r.new
abbrev Mv := List (List Key × (List PV × List PV))
def mvEns (m : Mv) (k : List Key) : Mv := if m.any (fun e => decide (e.1 = k)) then m else m ++ [(k, [], [])]
def mvPush (m : Mv) (k : List Key) (b : Bool) (x : PV) : Mv := m.map fun e => if e.1 = k then (e.1, if b then (e.2.1 ++ [x], e.2.2) else (e.2.1, e.2.2 ++ [x])) else e
def RD.counts (r : RD) : Bool := isInt r.last && decide (r.way ≠ ("turned" : Str))
def mvRow (m : Mv) (r : RD) : Mv := if r.counts then mvPush (mvEns m (r.pre.map kOf)) (r.pre.map kOf) (decide (r.way = ("gone" : Str))) r.last else m
def mvs (rs : List RD) : Mv := rs.foldl mvRow []
def mvD (m : Mv) : List (List Key × PV) := m.map fun e => (e.1, .tup [.lst e.2.1, .lst e.2.2])

structure En where
  key : List Key
  ga : Addr
  aa : Addr
  gl : List PV
  al : List PV
def En.mv (e : En) : List Key × (List PV × List PV) := (e.key, (e.gl, e.al))
def En.di (e : En) : List Key × PV := (e.key, .tup [.ref e.ga, .ref e.aa])
def En.push (k : List Key) (b : Bool) (x : PV) (e : En) : En := if e.key = k then (if b then { e with gl := e.gl ++ [x] } else { e with al := e.al ++ [x] }) else e
def adr (es : List En) : List Addr := es.flatMap fun e => [e.ga, e.aa]
structure InvS (H : Store) (d : Addr) (n : Nat) (es : List En) (H' : Store) : Prop where
  d0 : H d = none
  dd : H' d = some (.tdct (es.map En.di))
  ls : ∀ e ∈ es, H' e.ga = some (.lst e.gl) ∧ H' e.aa = some (.lst e.al)
  nd : (adr es).Nodup
  ad : ∀ a ∈ adr es, a ≠ d ∧ H a = none
  ks : (es.map (·.key)).Nodup
  le : Le H H'
  sz : es.length ≤ n ∧ ∀ e ∈ es, e.gl.length ≤ n ∧ e.al.length ≤ n

theorem En.push_key (k : List Key) (b : Bool) (x : PV) (e : En) : (e.push k b x).key = e.key ∧ (e.push k b x).ga = e.ga ∧ (e.push k b x).aa = e.aa := by
  unfold En.push; split
  · split <;> exact ⟨rfl, rfl, rfl⟩
  · exact ⟨rfl, rfl, rfl⟩
theorem adr_push (k : List Key) (b : Bool) (x : PV) (es : List En) : adr (es.map (En.push k b x)) = adr es := by
  unfold adr
  rw [List.flatMap_map]
  congr 1
  funext e
  obtain ⟨_, h1, h2⟩ := En.push_key k b x e
  simp [h1, h2]
theorem adr_mem {es : List En} {e : En} (h : e ∈ es) : e.ga ∈ adr es ∧ e.aa ∈ adr es := by
  unfold adr
  exact ⟨List.mem_flatMap.mpr ⟨e, h, by simp⟩, List.mem_flatMap.mpr ⟨e, h, by simp⟩⟩
theorem adr_apart : ∀ {es : List En}, (adr es).Nodup → ∀ {e f : En}, e ∈ es → f ∈ es → (e.ga = f.ga → e = f) ∧ (e.aa = f.aa → e = f) ∧ e.ga ≠ f.aa
  | [], _, _, _, h, _ => nomatch h
  | x :: es, nd, e, f, he, hf => by
    have nd' : ([x.ga, x.aa] ++ adr es).Nodup := nd
    obtain ⟨n1, n2, n3⟩ := List.nodup_append.mp nd'
    have hx : x.ga ≠ x.aa := by simpa using n1
    rcases List.mem_cons.mp he with e1 | e1 <;> rcases List.mem_cons.mp hf with f1 | f1
    · subst e1; subst f1; exact ⟨fun _ => rfl, fun _ => rfl, hx⟩
    · subst e1
      obtain ⟨m1, m2⟩ := adr_mem f1
      exact ⟨fun q => absurd q (n3 _ (by simp) _ m1), fun q => absurd q (n3 _ (by simp) _ m2), n3 _ (by simp) _ m2⟩
    · subst f1
      obtain ⟨m1, m2⟩ := adr_mem e1
      exact ⟨fun q => absurd q.symm (n3 _ (by simp) _ m1), fun q => absurd q.symm (n3 _ (by simp) _ m2), fun q => n3 _ (by simp) _ m1 q.symm⟩
    · exact adr_apart n2 e1 f1
theorem key_apart : ∀ {es : List En}, (es.map (·.key)).Nodup → ∀ {e f : En}, e ∈ es → f ∈ es → e.key = f.key → e = f
  | [], _, _, _, h, _ => nomatch h
  | x :: es, nd, e, f, he, hf => by
    rw [List.map_cons, List.nodup_cons] at nd
    intro q
    rcases List.mem_cons.mp he with e1 | e1 <;> rcases List.mem_cons.mp hf with f1 | f1
    · rw [e1, f1]
    · subst e1; exact absurd (q ▸ List.mem_map_of_mem f1) nd.1
    · subst f1; exact absurd (q ▸ List.mem_map_of_mem e1) nd.1
    · exact key_apart nd.2 e1 f1 q
theorem InvS.push {H H' : Store} {d : Addr} {n : Nat} {es : List En} (I : InvS H d n es H') {e : En} (he : e ∈ es) (b : Bool) (x : PV) :
    InvS H d (n + 1) (es.map (En.push e.key b x)) (upd H' (if b then e.ga else e.aa) (.lst ((if b then e.gl else e.al) ++ [x]))) := by
  obtain ⟨m1, m2⟩ := adr_mem he
  have hz : ∀ z : Addr, z = (if b then e.ga else e.aa) → z ∈ adr es := by rintro z rfl; cases b; exact m2; exact m1
  refine ⟨I.d0, ?_, ?_, by rw [adr_push]; exact I.nd, by rw [adr_push]; exact I.ad, ?_, ?_, ?_, ?_⟩
  · rw [upd_ne (fun q => (I.ad _ (hz _ q)).1 rfl), I.dd, List.map_map]
    congr 2
    refine List.map_congr_left fun f hf => ?_
    obtain ⟨h0, h1, h2⟩ := En.push_key e.key b x f
    simp [En.di, h0, h1, h2]
  · intro f hf
    obtain ⟨f0, hf0, rfl⟩ := List.mem_map.mp hf
    obtain ⟨h0, h1, h2⟩ := En.push_key e.key b x f0
    obtain ⟨a1, a2, a3⟩ := adr_apart I.nd he hf0
    obtain ⟨_, _, a4⟩ := adr_apart I.nd hf0 he
    obtain ⟨l1, l2⟩ := I.ls f0 hf0
    rw [h1, h2]
    by_cases hk : f0.key = e.key
    · obtain rfl : f0 = e := key_apart I.ks hf0 he hk
      cases b
      · simp [En.push, upd, l1, a3]
      · simp [En.push, upd, l2, Ne.symm a3]
    · have hne : f0 ≠ e := by rintro rfl; exact hk rfl
      cases b
      · have : f0.aa ≠ e.aa := fun q => hne (a2 q.symm).symm
        simp [En.push, hk, upd, this, a4, l1, l2]
      · have : f0.ga ≠ e.ga := fun q => hne (a1 q.symm).symm
        simp [En.push, hk, upd, this, Ne.symm a3, l1, l2]
  · rw [List.map_map]
    have : (es.map ((fun e => e.key) ∘ En.push e.key b x)) = es.map (·.key) := List.map_congr_left fun f hf => (En.push_key e.key b x f).1
    rw [this]; exact I.ks
  · exact I.le.upd' (I.ad _ (hz _ rfl)).2 _
  · rw [List.length_map]; exact Nat.le_succ_of_le I.sz.1
  · intro f hf
    obtain ⟨f0, hf0, rfl⟩ := List.mem_map.mp hf
    obtain ⟨s1, s2⟩ := I.sz.2 f0 hf0
    unfold En.push
    split
    · split <;> simp <;> omega
    · omega
theorem InvS.junk {H H' : Store} {d : Addr} {n : Nat} {es : List En} (I : InvS H d n es H') {l : Addr} (hl : H' l = none) (mo : MO) : InvS H d n es (upd H' l mo) := by
  refine ⟨I.d0, ?_, fun e he => ?_, I.nd, I.ad, I.ks, I.le.upd hl mo, I.sz⟩
  · rw [upd_ne (by rintro rfl; have := I.dd; rw [hl] at this; cases this)]; exact I.dd
  · obtain ⟨l1, l2⟩ := I.ls e he
    exact ⟨by rw [upd_ne (by rintro rfl; rw [hl] at l1; cases l1)]; exact l1, by rw [upd_ne (by rintro rfl; rw [hl] at l2; cases l2)]; exact l2⟩
theorem InvS.new {H H' : Store} {d : Addr} {n : Nat} {es : List En} (I : InvS H d n es H') {k : List Key} (hk : k ∉ es.map (·.key)) {l1 l2 : Addr} (h1 : H' l1 = none) (h2 : upd H' l1 (.lst []) l2 = none) :
    InvS H d (n + 1) (es ++ [⟨k, l1, l2, [], []⟩]) (upd (upd (upd H' l1 (.lst [])) l2 (.lst [])) d (.tdct (es.map En.di ++ [(k, .tup [.ref l1, .ref l2])]))) := by
  obtain ⟨h21, h2'⟩ := upd_none h2
  have d1 : l1 ≠ d := by rintro rfl; have := I.dd; rw [h1] at this; cases this
  have d2 : l2 ≠ d := by rintro rfl; have := I.dd; rw [h2'] at this; cases this
  have hn : ∀ a ∈ adr es, a ≠ l1 ∧ a ≠ l2 := by
    intro a ha
    have hs : ∃ mo, H' a = some mo := by
      obtain ⟨e, he, hm⟩ := List.mem_flatMap.mp ha
      obtain ⟨q1, q2⟩ := I.ls e he
      simp only [List.mem_cons, List.not_mem_nil, or_false] at hm
      rcases hm with rfl | rfl
      · exact ⟨_, q1⟩
      · exact ⟨_, q2⟩
    obtain ⟨mo, hs⟩ := hs
    exact ⟨(by rintro rfl; rw [h1] at hs; cases hs), (by rintro rfl; rw [h2'] at hs; cases hs)⟩
  have ea : adr (es ++ [⟨k, l1, l2, [], []⟩]) = adr es ++ [l1, l2] := by simp [adr]
  refine ⟨I.d0, ?_, ?_, ?_, ?_, ?_, ?_, ?_, ?_⟩
  · rw [upd_same, List.map_append]; rfl
  · intro e he
    rcases List.mem_append.mp he with he | he
    · obtain ⟨m1, m2⟩ := adr_mem he
      obtain ⟨q1, q2⟩ := I.ls e he
      obtain ⟨n1, n2⟩ := hn _ m1
      obtain ⟨n3, n4⟩ := hn _ m2
      rw [upd_ne (I.ad _ m1).1, upd_ne n2, upd_ne n1, upd_ne (I.ad _ m2).1, upd_ne n4, upd_ne n3]
      exact ⟨q1, q2⟩
    · obtain rfl : e = ⟨k, l1, l2, [], []⟩ := by simpa using he
      show upd _ _ _ l1 = _ ∧ upd _ _ _ l2 = _
      rw [upd_ne d1, upd_ne (Ne.symm h21), upd_same, upd_ne d2, upd_same]
      exact ⟨rfl, rfl⟩
  · rw [ea, List.nodup_append]
    refine ⟨I.nd, by simp [Ne.symm h21], fun a ha b hb => ?_⟩
    simp only [List.mem_cons, List.not_mem_nil, or_false] at hb
    rcases hb with rfl | rfl
    · exact (hn a ha).1
    · exact (hn a ha).2
  · intro a ha
    rw [ea] at ha
    rcases List.mem_append.mp ha with ha | ha
    · exact I.ad a ha
    · simp only [List.mem_cons, List.not_mem_nil, or_false] at ha
      rcases ha with rfl | rfl
      · exact ⟨d1, I.le.none h1⟩
      · exact ⟨d2, I.le.none h2'⟩
  · rw [List.map_append, List.nodup_append]
    refine ⟨I.ks, by simp, fun a ha b hb => ?_⟩
    simp only [List.map_cons, List.map_nil, List.mem_singleton] at hb
    subst hb; rintro rfl; exact hk ha
  · exact ((I.le.upd h1 _).upd h2 _).upd' I.d0 _
  · simp; exact I.sz.1
  · intro e he
    rcases List.mem_append.mp he with he | he
    · have := I.sz.2 e he; omega
    · obtain rfl : e = ⟨k, l1, l2, [], []⟩ := by simpa using he
      simp
theorem any_mv (es : List En) (k : List Key) : ((es.map En.mv).any fun e => decide (e.1 = k)) = decide (k ∈ es.map (·.key)) := by
  rw [Bool.eq_iff_iff]
  simp only [List.any_map, List.any_eq_true, decide_eq_true_eq, List.mem_map, Function.comp]
  constructor
  · rintro ⟨e, he, q⟩; exact ⟨e, he, q⟩
  · rintro ⟨e, he, q⟩; exact ⟨e, he, q⟩
theorem mv_push (es : List En) (k : List Key) (b : Bool) (x : PV) : (es.map (En.push k b x)).map En.mv = mvPush (es.map En.mv) k b x := by
  unfold mvPush
  rw [List.map_map, List.map_map]
  refine List.map_congr_left fun e _ => ?_
  unfold En.push En.mv
  simp only [Function.comp]
  split
  · cases b <;> rfl
  · rfl
theorem kvGet_di : ∀ {es : List En}, (es.map (·.key)).Nodup → ∀ {e : En}, e ∈ es → kvGet (es.map En.di) e.key = some (.tup [.ref e.ga, .ref e.aa])
  | [], _, _, h => nomatch h
  | x :: es, nd, e, he => by
    rw [List.map_cons, List.nodup_cons] at nd
    rcases List.mem_cons.mp he with e1 | e1
    · subst e1; simp [kvGet, En.di]
    · have := kvGet_di nd.2 e1
      unfold kvGet at this ⊢
      rw [List.map_cons, List.find?_cons_of_neg]
      · exact this
      · simp only [En.di, decide_eq_true_eq]
        intro q
        exact nd.1 (List.mem_map.mpr ⟨e, e1, (show x.key = e.key from of_decide_eq_true q).symm⟩)
theorem InvS.more {H H' : Store} {d : Addr} {n m : Nat} {es : List En} (I : InvS H d n es H') (h : n ≤ m) : InvS H d m es H' :=
  ⟨I.d0, I.dd, I.ls, I.nd, I.ad, I.ks, I.le, Nat.le_trans I.sz.1 h, fun e he => ⟨Nat.le_trans (I.sz.2 e he).1 h, Nat.le_trans (I.sz.2 e he).2 h⟩⟩
theorem Rm.le {j k : Nat} {A : Around} (r : Rm k A) (h : j ≤ k) : Rm j A := by
  obtain ⟨h1, h2, h3⟩ := r
  exact ⟨h1, by omega, by omega⟩
theorem setd_case {H H' : Store} {d : Addr} {n : Nat} {es : List En} (I : InvS H d n es H') {key : List Key} {l1 l2 : Addr} (h1 : H' l1 = none) (h2 : upd H' l1 (.lst []) l2 = none) {Q : PV → Store → Prop}
    (h : ∀ e0 es' H2, InvS H d (n + 1) es' H2 → e0 ∈ es' → e0.key = key → es'.map En.mv = mvEns (es.map En.mv) key → Q (.tup [.ref e0.ga, .ref e0.aa]) H2) :
    match kvGet (es.map En.di) key with
    | some x => Q x (upd (upd H' l1 (.lst [])) l2 (.lst []))
    | none => Q (.tup [.ref l1, .ref l2]) (upd (upd (upd H' l1 (.lst [])) l2 (.lst [])) d (.tdct (kvPut (es.map En.di) key (.tup [.ref l1, .ref l2])))) := by
  by_cases hk : key ∈ es.map (·.key)
  · obtain ⟨e, he, rfl⟩ := List.mem_map.mp hk
    rw [kvGet_di I.ks he]
    exact h e es _ (((I.junk h1 _).junk h2 _).more (Nat.le_succ _)) he rfl (by unfold mvEns; rw [any_mv, decide_eq_true hk]; rfl)
  · have hk' : key ∉ (es.map En.di).map (·.1) := by rw [List.map_map]; exact hk
    rw [kvGet_none hk', kvPut_new hk']
    exact h ⟨key, l1, l2, [], []⟩ _ _ (I.new hk h1 h2) (by simp) rfl (by unfold mvEns; rw [any_mv, decide_eq_false hk, List.map_append]; rfl)
section
variable {c : Cx} {σ : Loc} {H K : Store} {Q : PV → Store → Prop} {Qn : Loc → Store → Prop} {Qr : PV → Store → Prop} {mg mb : Str → Option Value} {k : Nat}
theorem k_setd {H' : Store} {d : Addr} {n : Nat} {es : List En} (G : Gl thePr c.B mg mb) (rm : Rm 1 c.A) (I : InvS H d n es H') {ps : List PV} (ik : ps.all isK = true) (sz : n ≤ 100000) {l1 l2 : Addr} (h1 : H' l1 = none) (h2 : upd H' l1 (.lst []) l2 = none)
    (h : ∀ e0 es' H2, InvS H d (n + 1) es' H2 → e0 ∈ es' → e0.key = ps.map kOf → es'.map En.mv = mvEns (es.map En.mv) (ps.map kOf) → Q (.tup [.ref e0.ga, .ref e0.aa]) H2) :
    CallO c σ (upd (upd H' l1 (.lst [])) l2 (.lst [])) (.builtin "dict.setdefault") [.ref d, .tup ps, .tup [.ref l1, .ref l2]] Q :=
  k_tsetdef G rm ((I.junk h1 (.lst [])).junk h2 (.lst [])).dd ik (szl (by have := I.sz.1; simp; omega)) (setd_case I h1 h2 h)
theorem okL_append {l m : List PV} : PV.okL (l ++ m) = (PV.okL l && PV.okL m) := by
  induction l with
  | nil => simp [PV.okL]
  | cons a l ih => simp [PV.okL, ih, Bool.and_assoc]
theorem isK_ok {p : PV} (h : isK p = true) : p.ok = true ∧ p.dep ≤ 1 := by cases p <;> simp_all [isK, PV.ok, PV.dep]
theorem isK_okL {l : List PV} (h : l.all isK = true) : PV.okL l = true ∧ PV.depL l ≤ 1 := by
  induction l with
  | nil => exact ⟨rfl, Nat.zero_le _⟩
  | cons a l ih =>
    rw [List.all_cons, Bool.and_eq_true] at h
    obtain ⟨i1, i2⟩ := ih h.2
    obtain ⟨j1, j2⟩ := isK_ok h.1
    exact ⟨by rw [PV.okL, j1, i1]; rfl, by rw [PV.depL]; exact Nat.max_le.mpr ⟨j2, i2⟩⟩
theorem fn_moves {rs : List RD} (G : Gl thePr c.B mg mb) (hg : ∀ a, c.g.get? a = none) (hk : ∀ r ∈ rs, (r.pre ++ [r.last]).all isK = true ∧ r.pre.length ≤ 50) (sz : rs.length ≤ 1000) (q : ∀ d, H d = none → Q (.ref d) (upd H d (.tdct (mvD (mvs rs))))) : FnO c rc11 (k + 2) [.lst (rs.map RD.pv)] H Q := by
  refine fn_tidy ?_
  intro A L a cd rm
  have hb : rc11.body = rc11.body := rfl
  conv at hb => rhs; whnf
  rw [hb]; clear hb
  repeat walk_at "mine.step"
  refine e_tdict0 fun d hd => ?_
  repeat walk_at "mine.step"
  refine s_for rm.1 ?_
  repeat walk_at "mine.step"
  refine ⟨rs.map RD.pv, .lst _, fun i σ' H' => Sub (bnd (argL ["rows"] [.lst (rs.map RD.pv)] fun _ => none) "found" (.ref d)) σ' ∧ ∃ es, InvS H d (2 * i) es H' ∧ es.map En.mv = mvs (rs.take i), ⟨Sub.refl _, [], ?_, rfl⟩, ?_, ?_⟩
  · exact ⟨hd, upd_same _ _ _, (fun _ h => nomatch h), List.nodup_nil, (fun _ h => nomatch h), List.nodup_nil, (Le.refl _).upd hd _, Nat.le_refl _, (fun _ h => nomatch h)⟩
  · rintro i x σ' H' hx ⟨hs, es, I, he⟩
    obtain ⟨r, hr, rfl⟩ : ∃ r, rs[i]? = some r ∧ RD.pv r = x := by simpa using hx
    obtain ⟨hk1, hk2⟩ := hk r (List.mem_of_getElem? hr)
    have hk3 : r.pre.all isK = true ∧ isK r.last = true := by simpa using hk1
    obtain ⟨ok1, ok2⟩ := isK_okL hk1
    have hi : i < rs.length := by
      rcases Nat.lt_or_ge i rs.length with q | q
      · exact q
      · rw [List.getElem?_eq_none q] at hr; cases hr
    have hstep : mvs (rs.take (i + 1)) = mvRow (mvs (rs.take i)) r := by rw [take_succ' hr]; unfold mvs; rw [List.foldl_append]; rfl
    refine u_loc hs ?_
    refine u_tup rm.1 (us_cons (u_name (us_cons (u_name (us_cons (u_name (us_cons (u_name (us_nil ?_))))))))) rfl rfl
    repeat walk_at "mine.step"
    refine ⟨szl (by simp), ?_⟩
    refine c_neb true rm ok1 rfl (show PV.depL _ + 1 ≤ 100 by omega) (by show (!peq (.tup (r.pre ++ [r.last])) (.tup [])) = true; rw [peq_ne (by simp)]; rfl) ?_
    repeat walk_at "mine.step"
    first | (focus ((with_reducible refine' if_t ?_ ?_); exact rfl)) | (focus ((with_reducible refine' if_f ?_ ?_); exact rfl))
    repeat walk_at "mine.step"
    refine t_val (e_isint G ?_)
    repeat walk_at "mine.step"
    refine i_tup (k := -1) (j := r.pre.length) (p := r.last) (by decide) (by decide) ?_ (by simp) ?_
    · unfold seqIndex?; simp; omega
    have skip : r.counts = false → mvRow (mvs (rs.take i)) r = mvs (rs.take i) := fun h => by unfold mvRow; rw [h]; rfl
    have hl : (∃ n, r.last = .int n) ∨ ∃ y, r.last = .str y := by
      have := hk3.2
      cases e : r.last <;> rw [e] at this <;> simp_all [isK]
    rcases hl with ⟨n, hl⟩ | ⟨y, hl⟩
    · refine ⟨.inl (by rw [hl]; rfl), ?_⟩
      rw [show isInt r.last = true by rw [hl]; rfl]
      repeat walk_at "mine.step"
      first | (focus ((with_reducible refine' if_t ?_ ?_); exact rfl)) | (focus ((with_reducible refine' if_f ?_ ?_); exact rfl))
      repeat walk_at "mine.step"
      by_cases hw : r.way = "turned"
      · refine c_sne rm false (by simp [hw]) ?_
        repeat walk_at "mine.step"
        first | (focus ((with_reducible refine' if_t ?_ ?_); exact rfl)) | (focus ((with_reducible refine' if_f ?_ ?_); exact rfl))
        first | (focus ((with_reducible refine' if_t ?_ ?_); exact rfl)) | (focus ((with_reducible refine' if_f ?_ ?_); exact rfl))
        repeat walk_at "mine.step"
        exact ⟨((((Sub.refl _).bnd rfl _).bnd rfl _).bnd rfl _).bnd rfl _, es, I.more (by omega), by rw [hstep, skip (by simp [RD.counts, hw]), he]⟩
      · refine c_sne rm true (by simp [hw]) ?_
        repeat walk_at "mine.step"
        first | (focus ((with_reducible refine' if_t ?_ ?_); exact rfl)) | (focus ((with_reducible refine' if_f ?_ ?_); exact rfl))
        repeat walk_at "mine.step"
        first | (focus ((with_reducible refine' if_t ?_ ?_); exact rfl)) | (focus ((with_reducible refine' if_f ?_ ?_); exact rfl))
        repeat walk_at "mine.step"
        (focus ((with_reducible refine' e_meth PySem.F.plainAttrs_dict PySem.F.slot_dict_setdefault PySem.F.type_dict_setdefault ?_ ?_ ?_ ?_ ?_ ?_); rotate_left; exact rfl; exact rfl; exact rfl; exact rfl; exact rfl))
        repeat walk_at "mine.step"
        refine ⟨hasTdct I.dd, ?_⟩
        repeat walk_at "mine.step"
        refine ⟨r.pre ++ [r.last], -1, rfl, rfl, szl (by simp; omega), ?_⟩
        rw [show (r.pre ++ [r.last]).take (cut (-1) (r.pre ++ [r.last]).length) = r.pre by
          rw [show cut (-1) (r.pre ++ [r.last]).length = r.pre.length by unfold cut; simp; omega]; simp]
        repeat walk_at "mine.step"
        refine ⟨szl (by simp), fun l1 h1 => ?_⟩
        repeat walk_at "mine.step"
        refine ⟨szl (by simp), fun l2 h2 => ?_⟩
        repeat walk_at "mine.step"
        refine ⟨szl (by simp), ?_⟩
        repeat walk_at "mine.step"
        have rm1 : Rm 1 A := Rm.le rm (by omega)
        refine k_setd (c := fcx c rc11 A L a cd) G rm1 I hk3.1 (by omega) h1 h2 fun e0 es' H2 I3 he0 hkey hmv => ?_
        repeat walk_at "mine.step"
        (focus ((with_reducible refine' e_meth PySem.F.plainAttrs_list PySem.F.slot_list_append PySem.F.type_list_append ?_ ?_ ?_ ?_ ?_ ?_); rotate_left; exact rfl; exact rfl; exact rfl; exact rfl; exact rfl))
        repeat walk_at "mine.step"
        have hcnt : r.counts = true := by simp [RD.counts, hl, hw, isInt]
        have fin : ∀ b : Bool, b = decide (r.way = ("gone" : Str)) → (es'.map (En.push e0.key b r.last)).map En.mv = mvs (rs.take (i + 1)) := by
          intro b hb
          rw [hstep, mv_push, hmv, hkey, hb, he]
          unfold mvRow; rw [hcnt]; rfl
        have hsz := I3.sz.2 e0 he0
        by_cases hgo : r.way = "gone"
        · refine c_seq rm true (by simp [hgo]) ?_
          repeat walk_at "mine.step"
          first | (focus ((with_reducible refine' if_t ?_ ?_); exact rfl)) | (focus ((with_reducible refine' if_f ?_ ?_); exact rfl))
          repeat walk_at "mine.step"
          (focus ((refine' i_tup (k := 0) (j := 0) (by decide) (by decide) _ _ _); rotate_left; exact rfl; exact rfl))
          refine ⟨hasList (ds := e0.gl) (vw_ref (I3.ls e0 he0).1), ?_⟩
          repeat walk_at "mine.step"
          refine i_tup (k := -1) (j := r.pre.length) (p := r.last) (by decide) (by decide) (by unfold seqIndex?; simp; omega) (by simp) ?_
          repeat walk_at "mine.step"
          refine k_append (ds := e0.gl) (I3.ls e0 he0).1 (szl (by omega)) ⟨rfl, ?_⟩
          repeat walk_at "mine.step"
          exact ⟨(((((Sub.refl _).bnd rfl _).bnd rfl _).bnd rfl _).bnd rfl _).bnd rfl _, _, (I3.push he0 true r.last).more (by omega), fin true (by simp [hgo])⟩
        · refine c_seq rm false (by simp [hgo]) ?_
          repeat walk_at "mine.step"
          first | (focus ((with_reducible refine' if_t ?_ ?_); exact rfl)) | (focus ((with_reducible refine' if_f ?_ ?_); exact rfl))
          repeat walk_at "mine.step"
          (focus ((refine' i_tup (k := 1) (j := 1) (by decide) (by decide) _ _ _); rotate_left; exact rfl; exact rfl))
          refine ⟨hasList (ds := e0.al) (vw_ref (I3.ls e0 he0).2), ?_⟩
          repeat walk_at "mine.step"
          refine i_tup (k := -1) (j := r.pre.length) (p := r.last) (by decide) (by decide) (by unfold seqIndex?; simp; omega) (by simp) ?_
          repeat walk_at "mine.step"
          refine k_append (ds := e0.al) (I3.ls e0 he0).2 (szl (by omega)) ⟨rfl, ?_⟩
          repeat walk_at "mine.step"
          exact ⟨(((((Sub.refl _).bnd rfl _).bnd rfl _).bnd rfl _).bnd rfl _).bnd rfl _, _, (I3.push he0 false r.last).more (by omega), fin false (by simp [hgo])⟩
    · refine ⟨.inr (.inl ⟨y, hl⟩), ?_⟩
      rw [show isInt r.last = false by rw [hl]; rfl]
      repeat walk_at "mine.step"
      first | (focus ((with_reducible refine' if_t ?_ ?_); exact rfl)) | (focus ((with_reducible refine' if_f ?_ ?_); exact rfl))
      first | (focus ((with_reducible refine' if_t ?_ ?_); exact rfl)) | (focus ((with_reducible refine' if_f ?_ ?_); exact rfl))
      repeat walk_at "mine.step"
      exact ⟨((((Sub.refl _).bnd rfl _).bnd rfl _).bnd rfl _).bnd rfl _, es, I.more (by omega), by rw [hstep, skip (by simp [RD.counts, hl, isInt]), he]⟩
  · rintro σ' H' ⟨hs, es, I, he⟩
    refine s_loc hs ?_
    repeat walk_at "mine.step"
    rw [List.length_map, List.take_length] at he
    refine ⟨.ref d, upd H d (.tdct (mvD (mvs rs))), ?_, .same _, q d hd⟩
    intro a mo e
    by_cases ha : a = d
    · subst ha
      rw [upd_same] at e
      obtain rfl := Option.some.inj e
      refine ⟨_, I.dd, .tdct ?_⟩
      rw [← he]
      have gen : ∀ l : List En, (∀ e ∈ l, e ∈ es) → FzD H' (upd H a (.tdct (mvD (es.map En.mv)))) (l.map En.di) (mvD (l.map En.mv)) := by
        intro l
        induction l with
        | nil => intro _; exact .nil
        | cons e l ih =>
          intro hm
          have hee := hm e List.mem_cons_self
          obtain ⟨l1, l2⟩ := I.ls e hee
          obtain ⟨m1, m2⟩ := adr_mem hee
          refine .cons (.tup (.cons (.ref l1 ?_ (.refl _)) (.cons (.ref l2 ?_ (.refl _)) .nil))) (ih fun e he => hm e (List.mem_cons_of_mem _ he))
          · rw [upd_ne (I.ad _ m1).1]; exact (I.ad _ m1).2
          · rw [upd_ne (I.ad _ m2).1]; exact (I.ad _ m2).2
      exact gen es fun _ h => h
    · rw [upd_ne ha] at e
      exact ⟨mo, I.le a mo e, .refl _⟩
end
end Mine

open PySem PySem.W PyProof.Rows PySem.Calls
set_option Elab.async false
set_option maxRecDepth 100000
set_option maxHeartbeats 8000000
set_option linter.unusedVariables false
set_option linter.unusedSectionVars false
namespace Mine
abbrev Mi := List (List Key × (List Int × List Int))
def miD (m : Mi) : List (List Key × PV) := m.map fun e => (e.1, .tup [.lst (pvs e.2.1), .lst (pvs e.2.2)])
def look (m : Mi) (ks : List Key) : List Int × List Int := ((m.find? fun e => decide (e.1 = ks)).map (·.2)).getD ([], [])
theorem kvGet_mi (m : Mi) (ks : List Key) (p : PV) : (kvGet (miD m) ks).getD p = .tup [.lst (pvs (look m ks).1), .lst (pvs (look m ks).2)] ∨ (kvGet (miD m) ks = none ∧ look m ks = ([], [])) := by
  unfold kvGet miD look
  rw [List.find?_map]
  cases e : m.find? ((fun kv : List Key × PV => decide (kv.1 = ks)) ∘ fun e => (e.1, .tup [.lst (pvs e.2.1), .lst (pvs e.2.2)])) with
  | none =>
    right
    have e' : m.find? (fun e => decide (e.1 = ks)) = none := e
    rw [e']; exact ⟨rfl, rfl⟩
  | some x =>
    left
    have e' : m.find? (fun e => decide (e.1 = ks)) = some x := e
    rw [e']; rfl
theorem look_len {m : Mi} (h : ∀ e ∈ m, e.2.1.length ≤ 100) (ks : List Key) : (look m ks).1.length ≤ 100 := by
  unfold look
  cases e : m.find? fun e => decide (e.1 = ks) with
  | none => simp
  | some x => exact h x (List.mem_of_find?_eq_some e)
/-- the new path -/
def NP (m : Mi) (ps qs : List PV) : Prop := qs.length = ps.length ∧ ∀ i p, ps[i]? = some p →
  (∀ n, p = .int n → ∃ t : Nat, MI n (look m ((ps.take i).map kOf)).1 (look m ((ps.take i).map kOf)).2 t ∧ qs[i]? = some (.int t)) ∧ (isInt p = false → qs[i]? = some p)
section
variable {c : Cx} {σ : Loc} {H K : Store} {Q : PV → Store → Prop} {Qn : Loc → Store → Prop} {Qr : PV → Store → Prop} {mg mb : Str → Option Value} {k : Nat}
theorem fn_npath {m : Mi} {ps qs : List PV} {ma : Addr} (G : Gl thePr c.B mg mb) (hg : ∀ a, c.g.get? a = none) (ea : H ma = some (.tdct (miD m))) (np : NP m ps qs) (h1 : ps.dropLast.all isK = true)
    (h2 : ∀ p ∈ ps, isInt p = true ∨ (∃ y, p = .str y) ∨ ∃ l, p = .tup l) (h3 : ∀ e ∈ m, e.2.1.length ≤ 100) (sz : ps.length ≤ 50) (q : Q (.tup qs) H) : FnO c rc12 (k + 3) [.tup ps, .ref ma] H Q := by
  intro A L a cd rm
  have hb : rc12.body = rc12.body := rfl
  conv at hb => rhs; whnf
  rw [hb]; clear hb
  repeat walk_at "mine.step"
  refine ⟨szl (by simp), ?_⟩
  repeat walk_at "mine.step"
  refine s_for rm.1 ?_
  (focus ((with_reducible refine' e_callT (x := "range") (T := "range") G ?_ ?_ ?_ ?_ ?_ ?_ ?_ ?_ ?_ ?_); decide; exact rfl; decide; decide; rotate_left; exact rfl; exact rfl; exact rfl; exact rfl; exact rfl))
  repeat walk_at "mine.step"
  (focus ((with_reducible refine' e_callB (x := "len") (id := "len") G ?_ ?_ ?_ ?_ ?_ ?_ ?_ ?_ ?_ ?_); decide; exact rfl; decide; decide; rotate_left; exact rfl; exact rfl; exact rfl; exact rfl; exact rfl))
  repeat walk_at "mine.step"
  refine k_len_tup (szl (by omega)) ?_
  repeat walk_at "mine.step"
  refine k_range ?_
  refine ⟨rngL ps.length, .rng _ (by omega) (by omega), fun i σ' H' => H' = H ∧ Sub (bnd (argL ["path", "moves"] [.tup ps, .ref ma] fun _ => none) "found" (.tup (qs.take i))) σ', ⟨rfl, Sub.refl _⟩, ?_, ?_⟩
  · rintro i x σ' H' hx ⟨rfl, hs⟩
    obtain ⟨rfl, hin⟩ := rngL_get hx
    have hi : i < ps.length := by omega
    obtain ⟨hl, np⟩ := np
    obtain ⟨np1, np2⟩ := np i ps[i] (List.getElem?_eq_getElem hi)
    refine u_loc hs ?_
    repeat walk_at "mine.step"
    refine i_tup (j := i) (p := ps[i]) (by omega) (by omega) (by unfold seqIndex?; simp; omega) (List.getElem?_eq_getElem hi) ?_
    repeat walk_at "mine.step"
    refine e_fz ?_
    (focus ((with_reducible refine' e_meth PySem.F.plainAttrs_dict PySem.F.slot_dict_get PySem.F.type_dict_get ?_ ?_ ?_ ?_ ?_ ?_); rotate_left; exact rfl; exact rfl; exact rfl; exact rfl; exact rfl))
    repeat walk_at "mine.step"
    refine ⟨hasTdct ea, ?_⟩
    repeat walk_at "mine.step"
    refine ⟨ps, i, rfl, rfl, szl (by omega), ?_⟩
    rw [show ps.take (cut (i : Int) ps.length) = ps.take i by rw [show cut (i : Int) ps.length = i by unfold cut; rw [if_neg (by omega)]; simp; omega]]
    repeat walk_at "mine.step"
    refine ⟨szl (by simp), fun l1 hl1 => ?_⟩
    repeat walk_at "mine.step"
    refine ⟨szl (by simp), fun l2 hl2 => ?_⟩
    repeat walk_at "mine.step"
    refine ⟨szl (by simp), ?_⟩
    repeat walk_at "mine.step"
    obtain ⟨h21, hl2'⟩ := upd_none hl2
    have ea2 : upd (upd H' l1 (.lst [])) l2 (.lst []) ma = some (.tdct (miD m)) := by
      rw [upd_ne (by rintro rfl; rw [ea] at hl2'; cases hl2'), upd_ne (by rintro rfl; rw [ea] at hl1; cases hl1)]; exact ea
    have hall : (ps.take i).all isK = true := by
      rw [List.all_eq_true] at h1 ⊢
      intro p hp
      refine h1 p ?_
      rw [List.dropLast_eq_take]
      exact (List.take_subset_take_left ps (show i ≤ ps.length - 1 by omega)) hp
    have rm1 : Rm 1 A := Rm.le rm (by omega)
    refine k_tget (c := fcx c rc12 A L a cd) G rm1 ea2 hall ?_
    have nl1 : H' l1 = none := hl1
    have hz : Fz (upd (upd H' l1 (.lst [])) l2 (.lst [])) H' ((kvGet (miD m) ((ps.take i).map kOf)).getD (.tup [.ref l1, .ref l2])) (.tup [.lst (pvs (look m ((ps.take i).map kOf)).1), .lst (pvs (look m ((ps.take i).map kOf)).2)]) := by
      rcases kvGet_mi m ((ps.take i).map kOf) (.tup [.ref l1, .ref l2]) with e | ⟨e1, e2⟩
      · rw [e]; exact .same _
      · rw [e1, e2]
        exact .tup (.cons (.ref (by rw [upd_ne (Ne.symm h21), upd_same]) nl1 .nil) (.cons (.ref (upd_same _ _ _) hl2' .nil) .nil))
    refine ⟨_, H', .of_le (((Le.refl _).upd nl1 _).upd hl2 _), hz, ?_⟩
    refine u_tup rm.1 (us_cons (u_name (us_cons (u_name (us_nil ?_))))) rfl rfl
    repeat walk_at "mine.step"
    refine t_val (e_isint G ?_)
    repeat walk_at "mine.step"
    have fin : ∀ z : PV, qs[i]? = some z → bnd (argL ["path", "moves"] [.tup ps, .ref ma] fun _ => none) "found" (.tup (qs.take (i + 1))) = bnd (argL ["path", "moves"] [.tup ps, .ref ma] fun _ => none) "found" (.tup (qs.take i ++ [z])) := by
      intro z hz; rw [take_succ' hz]
    have fin2 : ∀ z : PV, qs[i]? = some z → Sub (bnd (argL ["path", "moves"] [.tup ps, .ref ma] fun _ => none) "found" (.tup (qs.take (i + 1))))
        (bnd (bnd (bnd (bnd (bnd (bnd (argL ["path", "moves"] [.tup ps, .ref ma] fun _ => none) "found" (.tup (qs.take i))) "spot" (.int i)) "step" ps[i]) "gone" (.lst (pvs (look m ((ps.take i).map kOf)).1))) "added" (.lst (pvs (look m ((ps.take i).map kOf)).2))) "found" (.tup (qs.take i ++ [z]))) := by
      intro z hz
      rw [fin z hz]
      exact Sub.put (((((Sub.refl _).bnd rfl _).bnd rfl _).bnd rfl _).bnd rfl _) _
    have hqs : (qs.take i).length ≤ 50 := by rw [List.length_take]; omega
    by_cases hint : isInt ps[i] = true
    · obtain ⟨n, hn⟩ : ∃ n, ps[i] = .int n := by cases e : ps[i] <;> rw [e] at hint <;> simp_all [isInt]
      obtain ⟨t, mi, ht⟩ := np1 n hn
      refine ⟨.inl hint, ?_⟩
      rw [hint]
      repeat walk_at "mine.step"
      first | (focus ((with_reducible refine' if_t ?_ ?_); exact rfl)) | (focus ((with_reducible refine' if_f ?_ ?_); exact rfl))
      (focus ((with_reducible refine' e_callF G mem_midx ok_midx hg rm ?_ ?_ ?_ ?_ ?_ ?_); rotate_left; exact rfl; exact rfl; exact rfl; decide; exact rfl))
      repeat walk_at "mine.step"
      rw [hn]
      refine ⟨rfl, fn_midx G hg mi (look_len h3 _) ?_⟩
      repeat walk_at "mine.step"
      refine ⟨szl (by simp), ?_⟩
      refine b_tup (szl (by simp; omega)) ?_
      repeat walk_at "mine.step"
      rw [← hn]
      exact ⟨rfl, fin2 _ ht⟩
    · have hint' : isInt ps[i] = false := by simpa using hint
      refine ⟨h2 _ (List.getElem_mem hi), ?_⟩
      rw [hint']
      repeat walk_at "mine.step"
      first | (focus ((with_reducible refine' if_t ?_ ?_); exact rfl)) | (focus ((with_reducible refine' if_f ?_ ?_); exact rfl))
      repeat walk_at "mine.step"
      refine ⟨szl (by simp), ?_⟩
      refine b_tup (szl (by simp; omega)) ?_
      repeat walk_at "mine.step"
      exact ⟨rfl, fin2 _ (np2 hint')⟩
  · rintro σ' H' ⟨rfl, hs⟩
    refine s_loc hs ?_
    repeat walk_at "mine.step"
    rw [rngL_len, ← np.1, List.take_length]
    exact q
end
end Mine

open PySem PySem.W PyProof.Rows PySem.Calls
set_option Elab.async false
set_option maxRecDepth 100000
set_option maxHeartbeats 8000000
set_option linter.unusedVariables false
set_option linter.unusedSectionVars false
namespace Mine
def backW (w : Str) : Str := if w = ("gone" : Str) then "added" else if w = ("added" : Str) then "gone" else "turned"
def backD : List (Key × PV) := [(.s "gone", .str "added"), (.s "added", .str "gone"), (.s "turned", .str "turned")]
structure TB (m : Mi) (r r' : RD) : Prop where
  way : r'.way = backW r.way
  old : r'.old = r.new
  new : r'.new = r.old
  whole : (r.way = "turned" ∨ isInt r.last = false) → NP m (r.pre ++ [r.last]) (r'.pre ++ [r'.last])
  part : r.way ≠ "turned" → isInt r.last = true → NP m r.pre r'.pre ∧ r'.last = r.last
def wayOK (w : Str) : Prop := w = "gone" ∨ w = "added" ∨ w = "turned"
theorem backD_get {w : Str} (h : wayOK w) : kvGet backD (.s w) = some (.str (backW w)) := by
  rcases h with rfl | rfl | rfl <;> rfl
section
variable {c : Cx} {σ : Loc} {H K : Store} {Q : PV → Store → Prop} {Qn : Loc → Store → Prop} {Qr : PV → Store → Prop} {mg mb : Str → Option Value} {k : Nat}
theorem fn_turned {m : Mi} {rs rs' : List RD} (G : Gl thePr c.B mg mb) (hg : ∀ a, c.g.get? a = none) (hk : ∀ r ∈ rs, (r.pre ++ [r.last]).all isK = true ∧ r.pre.length ≤ 40) (hw : ∀ r ∈ rs, wayOK r.way) (sz : rs.length ≤ 1000)
    (hm : mvD (mvs rs) = miD m) (h3 : ∀ e ∈ m, e.2.1.length ≤ 100) (hl : rs'.length = rs.length) (tb : ∀ (i : Nat) (r r' : RD), rs[i]? = some r → rs'[i]? = some r' → TB m r r') (q : Q (.lst (rs'.map RD.pv)) H) : FnO c rc13 (k + 4) [.lst (rs.map RD.pv)] H Q := by
  refine fn_tidy ?_
  intro A L a cd rm
  have hb : rc13.body = rc13.body := rfl
  conv at hb => rhs; whnf
  rw [hb]; clear hb
  repeat walk_at "mine.step"
  (focus ((with_reducible refine' e_callF G mem_moves ok_moves hg rm ?_ ?_ ?_ ?_ ?_ ?_); rotate_left; exact rfl; exact rfl; exact rfl; decide; exact rfl))
  repeat walk_at "mine.step"
  refine ⟨rfl, fn_moves G hg (fun r hr => ⟨(hk r hr).1, Nat.le_trans (hk r hr).2 (by decide)⟩) sz fun d hd => ?_⟩
  rw [hm]
  repeat walk_at "mine.step"
  (with_reducible refine' e_dict3 (by decide) ?_)
  intro b hb
  obtain ⟨hbd, hb'⟩ := upd_none hb
  repeat walk_at "mine.step"
  refine ⟨szl (by simp), fun f hf => ?_⟩
  obtain ⟨hfb, hf'⟩ := upd_none hf
  obtain ⟨hfd, hf''⟩ := upd_none hf'
  repeat walk_at "mine.step"
  refine s_for rm.1 ?_
  repeat walk_at "mine.step"
  refine ⟨rs.map RD.pv, .lst _, fun i σ' H' => H' = upd (upd (upd H d (.tdct (miD m))) b (.dct backD)) f (.lst ((rs'.take i).map RD.pv)) ∧ Sub (bnd (bnd (bnd (argL ["rows"] [.lst (rs.map RD.pv)] fun _ => none) "moves" (.ref d)) "back" (.ref b)) "found" (.ref f)) σ', ⟨rfl, Sub.refl _⟩, ?_, ?_⟩
  · rintro i x σ' H' hx ⟨rfl, hs⟩
    obtain ⟨r, hr, rfl⟩ : ∃ r, rs[i]? = some r ∧ RD.pv r = x := by simpa using hx
    obtain ⟨hk1, hk2⟩ := hk r (List.mem_of_getElem? hr)
    have hk3 : r.pre.all isK = true ∧ isK r.last = true := by simpa using hk1
    obtain ⟨ok1, ok2⟩ := isK_okL hk1
    have hi : i < rs.length := by
      rcases Nat.lt_or_ge i rs.length with q | q
      · exact q
      · rw [List.getElem?_eq_none q] at hr; cases hr
    have hr' : rs'[i]? = some rs'[i] := List.getElem?_eq_getElem (by omega)
    generalize rs'[i] = r' at hr'
    have T := tb i r r' hr hr'
    have hwr := hw r (List.mem_of_getElem? hr)
    have ed : upd (upd (upd H d (.tdct (miD m))) b (.dct backD)) f (.lst ((rs'.take i).map RD.pv)) d = some (.tdct (miD m)) := by rw [upd_ne (Ne.symm hfd), upd_ne (Ne.symm hbd), upd_same]
    have eb : upd (upd (upd H d (.tdct (miD m))) b (.dct backD)) f (.lst ((rs'.take i).map RD.pv)) b = some (.dct backD) := by rw [upd_ne (Ne.symm hfb), upd_same]
    have hkt : ∀ p, isK p = true → isInt p = true ∨ (∃ y, p = .str y) ∨ ∃ l, p = .tup l := by
      intro p hp
      cases p <;> simp_all [isK, isInt]
    have fin : ∀ σ'' : Loc, Sub (bnd (bnd (bnd (argL ["rows"] [.lst (rs.map RD.pv)] fun _ => none) "moves" (.ref d)) "back" (.ref b)) "found" (.ref f)) σ'' →
       (upd (upd (upd (upd H d (.tdct (miD m))) b (.dct backD)) f (.lst ((rs'.take i).map RD.pv))) f (.lst ((rs'.take i).map RD.pv ++ [.tup [.tup (r'.pre ++ [r'.last]), .str (backW r.way), r.new, r.old]]))
        = upd (upd (upd H d (.tdct (miD m))) b (.dct backD)) f (.lst ((rs'.take (i + 1)).map RD.pv))) ∧ Sub (bnd (bnd (bnd (argL ["rows"] [.lst (rs.map RD.pv)] fun _ => none) "moves" (.ref d)) "back" (.ref b)) "found" (.ref f)) σ'' := by
      intro σ'' h
      refine ⟨?_, h⟩
      rw [upd_upd, take_succ' hr', List.map_append, List.map_singleton]
      rw [show RD.pv r' = .tup [.tup (r'.pre ++ [r'.last]), .str (backW r.way), r.new, r.old] by rw [RD.pv, T.way, T.old, T.new]]
    have hsz : ((rs'.take i).map RD.pv).length ≤ 1000 := by rw [List.length_map, List.length_take]; omega
    refine u_loc hs ?_
    refine u_tup rm.1 (us_cons (u_name (us_cons (u_name (us_cons (u_name (us_cons (u_name (us_nil ?_))))))))) rfl rfl
    repeat walk_at "mine.step"
    refine ⟨szl (by simp), ?_⟩
    refine c_neb true rm ok1 rfl (show PV.depL _ + 1 ≤ 100 by omega) (by show (!peq (.tup (r.pre ++ [r.last])) (.tup [])) = true; rw [peq_ne (by simp)]; rfl) ?_
    repeat walk_at "mine.step"
    first | (focus ((with_reducible refine' if_t ?_ ?_); exact rfl)) | (focus ((with_reducible refine' if_f ?_ ?_); exact rfl))
    repeat walk_at "mine.step"
    refine i_tup (k := -1) (j := r.pre.length) (p := r.last) (by decide) (by decide) (by unfold seqIndex?; simp; omega) (by simp) ?_
    repeat walk_at "mine.step"
    by_cases hwt : r.way = "turned"
    · refine c_seq rm true (by simp [hwt]) ?_
      repeat walk_at "mine.step"
      first | (focus ((with_reducible refine' if_t ?_ ?_); exact rfl)) | (focus ((with_reducible refine' if_f ?_ ?_); exact rfl))
      repeat walk_at "mine.step"
      first | (focus ((with_reducible refine' if_t ?_ ?_); exact rfl)) | (focus ((with_reducible refine' if_f ?_ ?_); exact rfl))
      repeat walk_at "mine.step"
      (focus ((with_reducible refine' e_callF G mem_npath ok_npath hg rm ?_ ?_ ?_ ?_ ?_ ?_); rotate_left; exact rfl; exact rfl; exact rfl; decide; exact rfl))
      repeat walk_at "mine.step"
      refine ⟨rfl, fn_npath (m := m) G hg ed (T.whole (.inl hwt)) (by simpa using hk3.1) (fun p hp => hkt p (List.all_eq_true.mp hk1 p hp)) h3 (by simp; omega) ?_⟩
      repeat walk_at "mine.step"
      (focus ((with_reducible refine' e_meth PySem.F.plainAttrs_list PySem.F.slot_list_append PySem.F.type_list_append ?_ ?_ ?_ ?_ ?_ ?_); rotate_left; exact rfl; exact rfl; exact rfl; exact rfl; exact rfl))
      repeat walk_at "mine.step"
      refine ⟨hasList (ds := (rs'.take i).map RD.pv) (vw_ref (upd_same _ _ _)), ?_⟩
      repeat walk_at "mine.step"
      refine i_dct eb rfl (backD_get hwr) ?_
      repeat walk_at "mine.step"
      refine ⟨szl (by simp), ?_⟩
      repeat walk_at "mine.step"
      refine k_append (upd_same _ _ _) (szl (by omega)) ⟨rfl, ?_⟩
      repeat walk_at "mine.step"
      exact fin _ (by repeat' first | exact Sub.refl _ | refine Sub.bnd ?_ rfl _)
    · refine c_seq rm false (by simp [hwt]) ?_
      repeat walk_at "mine.step"
      first | (focus ((with_reducible refine' if_t ?_ ?_); exact rfl)) | (focus ((with_reducible refine' if_f ?_ ?_); exact rfl))
      repeat walk_at "mine.step"
      refine t_val (e_isint G ?_)
      repeat walk_at "mine.step"
      refine ⟨hkt _ hk3.2, ?_⟩
      by_cases hint : isInt r.last = true
      · rw [hint]
        repeat walk_at "mine.step"
        first | (focus ((with_reducible refine' if_t ?_ ?_); exact rfl)) | (focus ((with_reducible refine' if_f ?_ ?_); exact rfl))
        repeat walk_at "mine.step"
        first | (focus ((with_reducible refine' if_t ?_ ?_); exact rfl)) | (focus ((with_reducible refine' if_f ?_ ?_); exact rfl))
        repeat walk_at "mine.step"
        (focus ((with_reducible refine' e_callF G mem_npath ok_npath hg rm ?_ ?_ ?_ ?_ ?_ ?_); rotate_left; exact rfl; exact rfl; exact rfl; decide; exact rfl))
        repeat walk_at "mine.step"
        refine ⟨r.pre ++ [r.last], -1, rfl, rfl, szl (by simp; omega), ?_⟩
        rw [show (r.pre ++ [r.last]).take (cut (-1) (r.pre ++ [r.last]).length) = r.pre by
          rw [show cut (-1) (r.pre ++ [r.last]).length = r.pre.length by unfold cut; simp; omega]; simp]
        repeat walk_at "mine.step"
        have hdl : r.pre.dropLast.all isK = true := by
          rw [List.all_eq_true]
          intro p hp
          exact List.all_eq_true.mp hk3.1 p (by rw [List.dropLast_eq_take] at hp; exact List.mem_of_mem_take hp)
        refine ⟨rfl, fn_npath (m := m) G hg ed (T.part hwt hint).1 hdl (fun p hp => hkt p (List.all_eq_true.mp hk3.1 p hp)) h3 (by omega) ?_⟩
        repeat walk_at "mine.step"
        refine ⟨szl (by simp), ?_⟩
        refine b_tup (szl (by have := (T.part hwt hint).1.1; simp; omega)) ?_
        repeat walk_at "mine.step"
        rw [← (T.part hwt hint).2]
        (focus ((with_reducible refine' e_meth PySem.F.plainAttrs_list PySem.F.slot_list_append PySem.F.type_list_append ?_ ?_ ?_ ?_ ?_ ?_); rotate_left; exact rfl; exact rfl; exact rfl; exact rfl; exact rfl))
        repeat walk_at "mine.step"
        refine ⟨hasList (ds := (rs'.take i).map RD.pv) (vw_ref (upd_same _ _ _)), ?_⟩
        repeat walk_at "mine.step"
        refine i_dct eb rfl (backD_get hwr) ?_
        repeat walk_at "mine.step"
        refine ⟨szl (by simp), ?_⟩
        repeat walk_at "mine.step"
        refine k_append (upd_same _ _ _) (szl (by omega)) ⟨rfl, ?_⟩
        repeat walk_at "mine.step"
        exact fin _ (by repeat' first | exact Sub.refl _ | refine Sub.bnd ?_ rfl _)
      · have hint' : isInt r.last = false := by simpa using hint
        rw [hint']
        repeat walk_at "mine.step"
        first | (focus ((with_reducible refine' if_t ?_ ?_); exact rfl)) | (focus ((with_reducible refine' if_f ?_ ?_); exact rfl))
        repeat walk_at "mine.step"
        first | (focus ((with_reducible refine' if_t ?_ ?_); exact rfl)) | (focus ((with_reducible refine' if_f ?_ ?_); exact rfl))
        repeat walk_at "mine.step"
        (focus ((with_reducible refine' e_callF G mem_npath ok_npath hg rm ?_ ?_ ?_ ?_ ?_ ?_); rotate_left; exact rfl; exact rfl; exact rfl; decide; exact rfl))
        repeat walk_at "mine.step"
        refine ⟨rfl, fn_npath (m := m) G hg ed (T.whole (.inr hint')) (by simpa using hk3.1) (fun p hp => hkt p (List.all_eq_true.mp hk1 p hp)) h3 (by simp; omega) ?_⟩
        repeat walk_at "mine.step"
        (focus ((with_reducible refine' e_meth PySem.F.plainAttrs_list PySem.F.slot_list_append PySem.F.type_list_append ?_ ?_ ?_ ?_ ?_ ?_); rotate_left; exact rfl; exact rfl; exact rfl; exact rfl; exact rfl))
        repeat walk_at "mine.step"
        refine ⟨hasList (ds := (rs'.take i).map RD.pv) (vw_ref (upd_same _ _ _)), ?_⟩
        repeat walk_at "mine.step"
        refine i_dct eb rfl (backD_get hwr) ?_
        repeat walk_at "mine.step"
        refine ⟨szl (by simp), ?_⟩
        repeat walk_at "mine.step"
        refine k_append (upd_same _ _ _) (szl (by omega)) ⟨rfl, ?_⟩
        repeat walk_at "mine.step"
        exact fin _ (by repeat' first | exact Sub.refl _ | refine Sub.bnd ?_ rfl _)
  · rintro σ' H' ⟨rfl, hs⟩
    refine s_loc hs ?_
    repeat walk_at "mine.step"
    rw [List.length_map, ← hl, List.take_length]
    refine ⟨.lst (rs'.map RD.pv), H, .of_le (((Le.refl _).upd hd _).upd hb _ |>.upd hf _), .ref (upd_same _ _ _) hf'' (.refl _), q⟩
end
end Mine

open PySem PySem.W PyProof.Rows PySem.Calls
set_option Elab.async false
set_option maxRecDepth 100000
set_option maxHeartbeats 8000000
set_option linter.unusedVariables false
set_option linter.unusedSectionVars false
namespace Mine
section
variable {c : Cx} {σ : Loc} {H K : Store} {Q : PV → Store → Prop} {Qn : Loc → Store → Prop} {Qr : PV → Store → Prop} {mg mb : Str → Option Value} {k : Nat}
theorem fn_rows {p : List PV} {n : Int} {gs as : List Int} {x : PV} (G : Gl thePr c.B mg mb) (hg : ∀ a, c.g.get? a = none) (sz1 : gs.length ≤ 100) (sz2 : as.length ≤ 100) (szp : p.length ≤ 50) (hgs : ∀ s ∈ gs, s.natAbs < 1000) (has : ∀ s ∈ as, s.natAbs < 1000)
    (q : Q (.lst (gs.map (goneR p) ++ as.map (addR p))) H) : FnO c rc17 (k + 1) [.tup p, .tup [.int n, .lst (pvs gs), .lst (pvs as), x]] H Q := by
  refine fn_tidy ?_
  intro A L a cd rm
  have hb : rc17.body = rc17.body := rfl
  conv at hb => rhs; whnf
  rw [hb]; clear hb
  repeat walk_at "mine.step"
  refine u_tup rm.1 (us_cons (u_name (us_cons (u_name (us_cons (u_name (us_cons (u_name (us_nil ?_))))))))) rfl rfl
  refine s_cons (s_comp rm.1 hg (cl := [("path", L + 1)]) ⟨rfl, by decide, rfl, by decide, rfl, by intro p hp; simp only [List.mem_singleton] at hp; subst hp; exact ⟨rfl, rfl, rfl⟩, rfl⟩ ?_)
  repeat walk_at "mine.step"
  refine ⟨pvs gs, .lst _, szl (by simp [pvs]; omega), fun i ys H' => H' = H ∧ ys = (gs.take i).map (goneR p), ⟨rfl, rfl⟩, ?_, ?_⟩
  · rintro C D i d ys H' hD hi ⟨rfl, rfl⟩
    obtain ⟨s, hs, rfl⟩ : ∃ s, gs[i]? = some s ∧ PV.int s = d := by simpa [pvs] using hi
    refine tests_nil ?_
    first | (focus ((with_reducible refine' if_t ?_ ?_); exact rfl)) | (focus ((with_reducible refine' if_f ?_ ?_); exact rfl))
    repeat walk_at "mine.step"
    refine ⟨szl (by simp), ?_⟩
    refine b_tup (szl (by simp; omega)) ?_
    repeat walk_at "mine.step"
    refine ⟨szl (by simp), ?_⟩
    repeat walk_at "mine.step"
    refine ⟨szl (by simp), ?_⟩
    refine ⟨H', rfl, hD, rfl, ?_⟩
    rw [take_succ' hs, List.map_append]; rfl
  · rintro D ys H' hD ⟨rfl, rfl⟩
    rw [show (gs.take (pvs gs).length) = gs by simp [pvs]]
    repeat walk_at "mine.step"
    refine e_comp rm.1 hg (cl := [("path", L + 1)]) ⟨rfl, by decide, rfl, by decide, rfl, by intro p hp; simp only [List.mem_singleton] at hp; subst hp; exact ⟨rfl, rfl, rfl⟩, rfl⟩ ?_
    repeat walk_at "mine.step"
    refine ⟨pvs as, .lst _, szl (by simp [pvs]; omega), fun i ys H'' => H'' = upd H' D (.lst (gs.map (goneR p))) ∧ ys = (as.take i).map (addR p), ⟨rfl, rfl⟩, ?_, ?_⟩
    · rintro C E i d ys H'' hE hi ⟨rfl, rfl⟩
      obtain ⟨s, hs, rfl⟩ : ∃ s, as[i]? = some s ∧ PV.int s = d := by simpa [pvs] using hi
      refine tests_nil ?_
      first | (focus ((with_reducible refine' if_t ?_ ?_); exact rfl)) | (focus ((with_reducible refine' if_f ?_ ?_); exact rfl))
      repeat walk_at "mine.step"
      refine ⟨szl (by simp), ?_⟩
      refine b_tup (szl (by simp; omega)) ?_
      repeat walk_at "mine.step"
      (focus ((with_reducible refine' e_callT (x := "str") (T := "str") G ?_ ?_ ?_ ?_ ?_ ?_ ?_ ?_ ?_ ?_); decide; exact rfl; decide; decide; rotate_left; exact rfl; exact rfl; exact rfl; exact rfl; exact rfl))
      repeat walk_at "mine.step"
      refine k_str (by have := has s (List.mem_of_getElem? hs); omega) ?_
      repeat walk_at "mine.step"
      refine ⟨szl (by simp), ?_⟩
      repeat walk_at "mine.step"
      refine ⟨szl (by simp), ?_⟩
      refine ⟨_, rfl, hE, rfl, ?_⟩
      rw [take_succ' hs, List.map_append]; rfl
    · rintro E ys H'' hE ⟨rfl, rfl⟩
      rw [show (as.take (pvs as).length) = as by simp [pvs]]
      obtain ⟨hED, hE'⟩ := upd_none hE
      refine b_lst (l := gs.map (goneR p)) (m := as.map (addR p)) (vw_ref (by rw [upd_ne (Ne.symm hED), upd_same])) vw_upd (szl (by simp; omega)) fun r hr => ?_
      obtain ⟨hrE, hr1⟩ := upd_none hr
      obtain ⟨hrD, hr2⟩ := upd_none hr1
      exact ⟨_, H', .of_le ((((Le.refl _).upd hD _).upd hE _).upd hr _), .ref (upd_same _ _ _) hr2 (.refl _), q⟩
end
end Mine

open PySem PySem.W PyProof.Rows PySem.Calls
set_option Elab.async false
set_option maxRecDepth 100000
set_option maxHeartbeats 8000000
set_option linter.unusedVariables false
set_option linter.unusedSectionVars false
namespace Mine
def penV (cs : List Int) (z d : Int) : MO := .lst [.lst (pvs cs), .int z, .int d]
section
variable {c : Cx} {σ : Loc} {H K : Store} {Q : PV → Store → Prop} {Qn : Loc → Store → Prop} {Qr : PV → Store → Prop} {mg mb : Str → Option Value} {k : Nat}
theorem fn_draw {pen : Addr} {cs : List Int} {z d many : Int} (G : Gl thePr c.B mg mb) (hP : H pen = some (penV cs z d)) (hcs : cs.length ≤ 24) (hz : 0 ≤ z) (hz' : z ≤ 1000) (hm : 0 < many) (hm' : many ≤ 1000)
    (q : ∀ r z' d', 0 ≤ r → r < many → 0 ≤ z' → z' ≤ z + 1 → Q (.int r) (upd H pen (penV cs z' d'))) : FnO c rc15 k [.ref pen, .int many] H Q := by
  have hv : vw H (.ref pen) = .lst [.lst (pvs cs), .int z, .int d] := vw_ref hP
  have hm0 : many ≠ 0 := by omega
  have hm64 : many.natAbs < 2 ^ 64 := by omega
  have r0 : ∀ x : Int, 0 ≤ x.fmod many := fun x => Int.fmod_nonneg_of_pos x hm
  have r1 : ∀ x : Int, x.fmod many < many := fun x => Int.fmod_lt_of_pos x hm
  intro A L a cd rm
  have hb : rc15.body = rc15.body := rfl
  conv at hb => rhs; whnf
  rw [hb]; clear hb
  repeat walk_at "mine.step"
  refine i_lst (k := 2) (p := .int d) hv (by decide) (by decide) rfl ?_
  repeat walk_at "mine.step"
  refine c_gtb (decide (0 < d)) rfl ?_
  repeat walk_at "mine.step"
  by_cases hd : 0 < d
  · rw [decide_eq_true hd]
    first | (focus ((with_reducible refine' if_t ?_ ?_); exact rfl)) | (focus ((with_reducible refine' if_f ?_ ?_); exact rfl))
    repeat walk_at "mine.step"
    refine i_lst (k := 2) (p := .int d) hv (by decide) (by decide) rfl ?_
    repeat walk_at "mine.step"
    refine b_mod hm0 ?_
    repeat walk_at "mine.step"
    refine i_lst (k := 2) (p := .int d) hv (by decide) (by decide) rfl ?_
    repeat walk_at "mine.step"
    refine b_div hm0 hm64 ?_
    repeat walk_at "mine.step"
    refine set_lst hP (by decide) (by simp) (szl (by simp)) ?_
    repeat walk_at "mine.step"
    exact q _ z _ (r0 _) (r1 _) hz (by omega)
  · rw [decide_eq_false hd]
    first | (focus ((with_reducible refine' if_t ?_ ?_); exact rfl)) | (focus ((with_reducible refine' if_f ?_ ?_); exact rfl))
    repeat walk_at "mine.step"
    refine i_lst (k := 1) (p := .int z) hv (by decide) (by decide) rfl ?_
    repeat walk_at "mine.step"
    refine b_add ?_
    repeat walk_at "mine.step"
    refine set_lst hP (by decide) (by simp) (szl (by simp)) ?_
    rw [show ([.lst (pvs cs), .int z, .int d] : List PV).set (1 : Int).toNat (.int (z + 1)) = [.lst (pvs cs), .int (z + 1), .int d] from rfl]
    have hv2 : vw (upd H pen (.lst [.lst (pvs cs), .int (z + 1), .int d])) (.ref pen) = .lst [.lst (pvs cs), .int (z + 1), .int d] := vw_upd
    repeat walk_at "mine.step"
    refine b_mul (.of_left (by decide)) ?_
    repeat walk_at "mine.step"
    refine b_add ?_
    refine s_cons (SO.mono (Qn := fun σ' H' => H' = upd H pen (.lst [.lst (pvs cs), .int (z + 1), .int d]) ∧ ∃ x : Int, Sub (bnd (bnd (argL ["pen", "many"] [.ref pen, .int many] fun _ => none) "spot" (.int z)) "cell" (.int x)) σ') (Qr := fun _ _ => False) ?_ (fun σ' H' hh => ?_) fun _ _ h => h.elim)
    · repeat walk_at "mine.step"
      (focus ((with_reducible refine' e_callB (x := "len") (id := "len") G ?_ ?_ ?_ ?_ ?_ ?_ ?_ ?_ ?_ ?_); decide; exact rfl; decide; decide; rotate_left; exact rfl; exact rfl; exact rfl; exact rfl; exact rfl))
      repeat walk_at "mine.step"
      refine i_lst (k := 0) (p := .lst (pvs cs)) hv2 (by decide) (by decide) rfl ?_
      repeat walk_at "mine.step"
      refine k_len_lst rfl (szl (by simp [pvs]; omega)) ?_
      repeat walk_at "mine.step"
      refine c_gtb (decide (0 < (((pvs cs).length : Nat) : Int))) rfl ?_
      repeat walk_at "mine.step"
      by_cases hc : (0 : Int) < ((pvs cs).length : Nat)
      · rw [decide_eq_true hc]
        first | (focus ((with_reducible refine' if_t ?_ ?_); exact rfl)) | (focus ((with_reducible refine' if_f ?_ ?_); exact rfl))
        repeat walk_at "mine.step"
        refine i_lst (k := 0) (p := .lst (pvs cs)) hv2 (by decide) (by decide) rfl ?_
        repeat walk_at "mine.step"
        (focus ((with_reducible refine' e_callB (x := "len") (id := "len") G ?_ ?_ ?_ ?_ ?_ ?_ ?_ ?_ ?_ ?_); decide; exact rfl; decide; decide; rotate_left; exact rfl; exact rfl; exact rfl; exact rfl; exact rfl))
        repeat walk_at "mine.step"
        refine i_lst (k := 0) (p := .lst (pvs cs)) hv2 (by decide) (by decide) rfl ?_
        repeat walk_at "mine.step"
        refine k_len_lst rfl (szl (by simp [pvs]; omega)) ?_
        refine b_mod (by omega) ?_
        have hl : (pvs cs).length = cs.length := by simp [pvs]
        have h0 := Int.fmod_nonneg_of_pos z hc
        have h1 := Int.fmod_lt_of_pos z hc
        have hj : (z.fmod ((pvs cs).length : Nat)).toNat < cs.length := by omega
        refine i_lst (ds := pvs cs) (p := .int cs[(z.fmod ((pvs cs).length : Nat)).toNat]) rfl h0 (by omega) (by simp only [pvs, List.getElem?_map]; rw [List.getElem?_eq_getElem (by simpa [pvs] using hj)]; simp [pvs]) ?_
        repeat walk_at "mine.step"
        exact ⟨rfl, _, Sub.put (Sub.refl _) _⟩
      · rw [decide_eq_false hc]
        first | (focus ((with_reducible refine' if_t ?_ ?_); exact rfl)) | (focus ((with_reducible refine' if_f ?_ ?_); exact rfl))
        repeat walk_at "mine.step"
        exact ⟨rfl, _, Sub.refl _⟩
    · obtain ⟨rfl, x, hs⟩ := hh
      refine s_loc hs ?_
      refine s_cons (s_if (GO.mono (Q := fun (b : Bool) H' => H' = upd H pen (.lst [.lst (pvs cs), .int (z + 1), .int d])) ?_ fun b H' e => ?_))
      · repeat walk_at "mine.step"
        (focus ((with_reducible refine' e_callB (x := "len") (id := "len") G ?_ ?_ ?_ ?_ ?_ ?_ ?_ ?_ ?_ ?_); decide; exact rfl; decide; decide; rotate_left; exact rfl; exact rfl; exact rfl; exact rfl; exact rfl))
        repeat walk_at "mine.step"
        refine i_lst (k := 0) (p := .lst (pvs cs)) hv2 (by decide) (by decide) rfl ?_
        repeat walk_at "mine.step"
        refine k_len_lst rfl (szl (by simp [pvs]; omega)) ?_
        refine c_ltb (decide (z < (((pvs cs).length : Nat) : Int))) rfl ?_
        repeat walk_at "mine.step"
        by_cases hc : z < ((pvs cs).length : Nat)
        · rw [decide_eq_true hc]
          first | (focus ((with_reducible refine' if_t ?_ ?_); exact rfl)) | (focus ((with_reducible refine' if_f ?_ ?_); exact rfl))
          repeat walk_at "mine.step"
          (focus ((with_reducible refine' e_callB (x := "abs") (id := "abs") G ?_ ?_ ?_ ?_ ?_ ?_ ?_ ?_ ?_ ?_); decide; exact rfl; decide; decide; rotate_left; exact rfl; exact rfl; exact rfl; exact rfl; exact rfl))
          repeat walk_at "mine.step"
          refine k_abs ?_
          repeat walk_at "mine.step"
          refine b_pow (by decide) (by decide) (by decide) ?_
          refine c_ge ?_
          repeat walk_at "mine.step"
          by_cases h : (10 : Int) ^ (18 : Int).toNat ≤ (if x < 0 then -x else x)
          · rw [decide_eq_true h]
            first | (focus ((with_reducible refine' if_t ?_ ?_); exact rfl)) | (focus ((with_reducible refine' if_f ?_ ?_); exact rfl))
            repeat walk_at "mine.step"
            rfl
          · rw [decide_eq_false h]
            first | (focus ((with_reducible refine' if_t ?_ ?_); exact rfl)) | (focus ((with_reducible refine' if_f ?_ ?_); exact rfl))
            rfl
        · rw [decide_eq_false hc]
          first | (focus ((with_reducible refine' if_t ?_ ?_); exact rfl)) | (focus ((with_reducible refine' if_f ?_ ?_); exact rfl))
          rfl
      · subst e
        cases b
        · first | (focus ((with_reducible refine' if_t ?_ ?_); exact rfl)) | (focus ((with_reducible refine' if_f ?_ ?_); exact rfl))
          repeat walk_at "mine.step"
          refine b_mod (by decide) ?_
          repeat walk_at "mine.step"
          refine b_mul (.of_left (by decide)) ?_
          refine b_add ?_
          repeat walk_at "mine.step"
          refine b_add ?_
          repeat walk_at "mine.step"
          have x0 := Int.fmod_nonneg_of_pos x (b := 2147483579) (by decide)
          have x1 := Int.fmod_lt_of_pos x (b := 2147483579) (by decide)
          refine b_pow (by decide) (by decide) (by omega) ?_
          repeat walk_at "mine.step"
          refine b_mod (by decide) ?_
          generalize (x.fmod 2147483579 + 92143 * z + 5741) ^ (3 : Int).toNat = y
          have y0 := Int.fmod_nonneg_of_pos y (b := 2147483647) (by decide)
          have y1 := Int.fmod_lt_of_pos y (b := 2147483647) (by decide)
          generalize y.fmod 2147483647 = m1 at y0 y1
          repeat walk_at "mine.step"
          refine b_mul (.of_left (by decide)) ?_
          repeat walk_at "mine.step"
          refine b_add ?_
          refine b_mul (.of_left (intBits_le_iff.mpr (by omega))) ?_
          repeat walk_at "mine.step"
          refine b_mul (.of_left (by decide)) ?_
          refine b_add ?_
          repeat walk_at "mine.step"
          refine b_add ?_
          repeat walk_at "mine.step"
          have m0 : 0 ≤ m1 * (2 * z + 373) := Int.mul_nonneg y0 (by omega)
          have m2 : m1 * (2 * z + 373) ≤ 2147483647 * 2373 := Int.mul_le_mul (by omega) (by omega) (by omega) (by omega)
          refine b_pow (by decide) (by decide) (by omega) ?_
          repeat walk_at "mine.step"
          refine b_mod (by decide) ?_
          repeat walk_at "mine.step"
          refine b_div (by decide) (by decide) ?_
          repeat walk_at "mine.step"
          refine b_mod hm0 ?_
          exact q _ _ _ (r0 _) (r1 _) (by omega) (Int.le_refl _)
        · first | (focus ((with_reducible refine' if_t ?_ ?_); exact rfl)) | (focus ((with_reducible refine' if_f ?_ ?_); exact rfl))
          repeat walk_at "mine.step"
          (focus ((with_reducible refine' e_callB (x := "abs") (id := "abs") G ?_ ?_ ?_ ?_ ?_ ?_ ?_ ?_ ?_ ?_); decide; exact rfl; decide; decide; rotate_left; exact rfl; exact rfl; exact rfl; exact rfl; exact rfl))
          repeat walk_at "mine.step"
          refine k_abs ?_
          repeat walk_at "mine.step"
          refine b_pow (by decide) (by decide) (by decide) ?_
          refine b_sub ?_
          refine b_mul (.of_left (by decide)) ?_
          (focus ((with_reducible refine' e_callT (x := "int") (T := "int") G ?_ ?_ ?_ ?_ ?_ ?_ ?_ ?_ ?_ ?_); decide; exact rfl; decide; decide; rotate_left; exact rfl; exact rfl; exact rfl; exact rfl; exact rfl))
          repeat walk_at "mine.step"
          refine c_lt ?_
          repeat walk_at "mine.step"
          refine k_intb ?_
          refine b_add ?_
          repeat walk_at "mine.step"
          refine set_lst (upd_same _ _ _) (by decide) (by simp) (szl (by simp)) ?_
          rw [upd_upd]
          generalize (2 * ((if x < 0 then -x else x) - 10 ^ (18 : Int).toNat) + if decide (x < 0) = true then 1 else 0) = y
          rw [show ([.lst (pvs cs), .int (z + 1), .int d] : List PV).set (2 : Int).toNat (.int y) = [.lst (pvs cs), .int (z + 1), .int y] from rfl]
          have hv3 : vw (upd H pen (.lst [.lst (pvs cs), .int (z + 1), .int y])) (.ref pen) = .lst [.lst (pvs cs), .int (z + 1), .int y] := vw_upd
          repeat walk_at "mine.step"
          refine i_lst (k := 2) (p := .int y) hv3 (by decide) (by decide) rfl ?_
          repeat walk_at "mine.step"
          refine b_mod hm0 ?_
          repeat walk_at "mine.step"
          refine i_lst (k := 2) (p := .int y) hv3 (by decide) (by decide) rfl ?_
          repeat walk_at "mine.step"
          refine b_div hm0 hm64 ?_
          repeat walk_at "mine.step"
          refine set_lst (upd_same _ _ _) (by decide) (by simp) (szl (by simp)) ?_
          rw [upd_upd]
          repeat walk_at "mine.step"
          exact q _ _ _ (r0 _) (r1 _) (by omega) (Int.le_refl _)
end
end Mine

open PySem PySem.W PyProof.Rows PySem.Calls
set_option Elab.async false
set_option maxRecDepth 100000
set_option maxHeartbeats 8000000
set_option linter.unusedVariables false
set_option linter.unusedSectionVars false
namespace Mine
def PenOK (N : Int) (mo : MO) : Prop := ∃ cs z d, mo = penV cs z d ∧ cs.length ≤ 24 ∧ 0 ≤ z ∧ z ≤ N
theorem PenOK.mono {N M : Int} {mo : MO} (h : PenOK N mo) (le : N ≤ M) : PenOK M mo := by
  obtain ⟨cs, z, d, e, h1, h2, h3⟩ := h
  exact ⟨cs, z, d, e, h1, h2, Int.le_trans h3 le⟩
def optP : Option Int → PV | none => .none | some s => .int s
def addedOf (mk : List (Option Int)) : List Int := ((List.range mk.length).filter fun i => decide (mk[i]? = some none)).map fun (i : Nat) => (i : Int)
structure Chg (n : Nat) (gs as : List Int) (mk : List (Option Int)) : Prop where
  size : n ≤ 7
  gone : gs.Sublist (rngI n)
  made : mk.filterMap id = (rngI n).filter fun s => decide (s ∉ gs)
  added : as = addedOf mk
  len : mk.length ≤ 20
def chP (size : Nat) (gone added : List Int) (made : List (Option Int)) : PV := .tup [.int size, .lst (pvs gone), .lst (pvs added), .lst (made.map optP)]
theorem addedOf_snoc (mk : List (Option Int)) (x : Option Int) : addedOf (mk ++ [x]) = addedOf mk ++ (match x with | none => [(mk.length : Int)] | some _ => []) := by
  unfold addedOf
  rw [List.length_append, List.length_singleton, List.range_succ, List.filter_append, List.map_append]
  congr 1
  · congr 1
    refine List.filter_congr fun i hi => ?_
    rw [List.getElem?_append_left (by simpa using hi)]
  · cases x <;> simp
structure D4 (pen S Ad Md : Addr) : Prop where
  pS : S ≠ pen
  pA : Ad ≠ pen
  pM : Md ≠ pen
  SA : Ad ≠ S
  SM : Md ≠ S
  AM : Md ≠ Ad
def S4 (H : Store) (pen S Ad Md : Addr) (mo : MO) (st ad : List Int) (mk : List (Option Int)) : Store := upd (upd (upd (upd H pen mo) S (.lst (pvs st))) Ad (.lst (pvs ad))) Md (.lst (mk.map optP))
section
variable {H : Store} {pen S Ad Md : Addr} {mo mo' : MO} {st st' ad ad' : List Int} {mk mk' : List (Option Int)}
theorem D4.g1 (d : D4 pen S Ad Md) : S4 H pen S Ad Md mo st ad mk pen = some mo := by
  unfold S4; rw [upd_ne (Ne.symm d.pM), upd_ne (Ne.symm d.pA), upd_ne (Ne.symm d.pS), upd_same]
theorem D4.g2 (d : D4 pen S Ad Md) : S4 H pen S Ad Md mo st ad mk S = some (.lst (pvs st)) := by
  unfold S4; rw [upd_ne (Ne.symm d.SM), upd_ne (Ne.symm d.SA), upd_same]
theorem D4.g3 (d : D4 pen S Ad Md) : S4 H pen S Ad Md mo st ad mk Ad = some (.lst (pvs ad)) := by
  unfold S4; rw [upd_ne (Ne.symm d.AM), upd_same]
theorem D4.g4 (d : D4 pen S Ad Md) : S4 H pen S Ad Md mo st ad mk Md = some (.lst (mk.map optP)) := upd_same _ _ _
theorem D4.p1 (d : D4 pen S Ad Md) : upd (S4 H pen S Ad Md mo st ad mk) pen mo' = S4 H pen S Ad Md mo' st ad mk := by
  unfold S4; rw [upd_comm d.pM, upd_comm d.pA, upd_comm d.pS, upd_upd]
theorem D4.p2 (d : D4 pen S Ad Md) : upd (S4 H pen S Ad Md mo st ad mk) S (.lst (pvs st')) = S4 H pen S Ad Md mo st' ad mk := by
  unfold S4; rw [upd_comm d.SM, upd_comm d.SA, upd_upd]
theorem D4.p3 (d : D4 pen S Ad Md) : upd (S4 H pen S Ad Md mo st ad mk) Ad (.lst (pvs ad')) = S4 H pen S Ad Md mo st ad' mk := by
  unfold S4; rw [upd_comm d.AM, upd_upd]
theorem D4.p4 (d : D4 pen S Ad Md) : upd (S4 H pen S Ad Md mo st ad mk) Md (.lst (mk'.map optP)) = S4 H pen S Ad Md mo st ad mk' := by
  unfold S4; rw [upd_upd]
end
section
variable {c : Cx} {σ : Loc} {H K : Store} {Q : PV → Store → Prop} {Qn : Loc → Store → Prop} {Qr : PV → Store → Prop} {mg mb : Str → Option Value} {k : Nat}
theorem s_whileC {test : Expr} {body : List Stmt} {pos : Pos} (I : Nat → Store → Prop) (n : Nat) (h : I n H)
    (turn : ∀ n H', I n H' → TsO c (isTrue test c.env (eval test c.env)) σ H' fun b H'' => if b = true then SO c (execs body c.env) σ H'' (fun σ3 H3 => Sub σ σ3 ∧ ∃ m, m < n ∧ I m H3) Qr else Qn σ H'') : SO c (exec (.While test body [] pos) c.env) σ H Qn Qr := by
  refine s_while (fun n σ' H' => σ' = σ ∧ I n H') n ⟨rfl, h⟩ ?_
  rintro n σ' H' ⟨rfl, i⟩
  refine GO.mono (turn n H' i) fun b H'' q => ?_
  cases b with
  | false => exact q
  | true => exact s_end (SO.mono q (fun σ3 H3 ⟨hs, m, hm, im⟩ => ⟨σ', H3, .of_le (fun _ _ e => e), Sub.fz hs, m, hm, rfl, im⟩) fun _ _ h => h)
theorem s_consC {st : Stmt} {rest : List Stmt} (M : Store → Prop) (h : SO c (exec st c.env) σ H (fun σ' H' => Sub σ σ' ∧ M H') (fun _ _ => False)) (k : ∀ H', M H' → SO c (execs rest c.env) σ H' Qn Qr) : SO c (execs (st :: rest) c.env) σ H Qn Qr :=
  s_cons (SO.mono h (fun σ' H' ⟨hs, m⟩ => s_loc hs (k H' m)) fun _ _ h => h.elim)
theorem D4.fresh {pen S Ad Md l : Addr} {mo : MO} {st ad : List Int} {mk : List (Option Int)} (h : S4 H pen S Ad Md mo st ad mk l = none) : l ≠ pen ∧ l ≠ S ∧ l ≠ Ad ∧ l ≠ Md ∧ H l = none := by
  unfold S4 at h
  obtain ⟨h1, h⟩ := upd_none h
  obtain ⟨h2, h⟩ := upd_none h
  obtain ⟨h3, h⟩ := upd_none h
  obtain ⟨h4, h⟩ := upd_none h
  exact ⟨h4, h3, h2, h1, h⟩
theorem addedOf_somes (mk : List (Option Int)) (l : List Int) : addedOf (mk ++ l.map some) = addedOf mk := by
  induction l generalizing mk with
  | nil => simp
  | cons a l ih =>
    have : mk ++ (a :: l).map some = (mk ++ [some a]) ++ l.map some := by simp
    rw [this, ih, addedOf_snoc]; simp
theorem fn_draw' {pen : Addr} {mo : MO} {N many : Int} (G : Gl thePr c.B mg mb) (hP : H pen = some mo) (ok : PenOK N mo) (hN : N ≤ 999) (hm : 0 < many) (hm' : many ≤ 1000)
    (q : ∀ r mo', 0 ≤ r → r < many → PenOK (N + 1) mo' → Q (.int r) (upd H pen mo')) : FnO c rc15 k [.ref pen, .int many] H Q := by
  obtain ⟨cs, z, d, rfl, h1, h2, h3⟩ := ok
  exact fn_draw G hP h1 h2 (by omega) hm hm' fun r z' d' a b e f => q r _ a b ⟨cs, z', d', rfl, h1, e, by omega⟩
theorem pvs_len (l : List Int) : (pvs l).length = l.length := by simp [pvs]
theorem rngI_sub (n : Nat) : (rngI n).length = n := by simp [rngI]
theorem fn_change {pen : Addr} {mo : MO} {N : Int} (G : Gl thePr c.B mg mb) (hg : ∀ a, c.g.get? a = none) (hP : H pen = some mo) (ok : PenOK N mo) (hN : N ≤ 500)
    (q : ∀ size gone added made mo', Chg size gone added made → PenOK (N + 50) mo' → Q (chP size gone added made) (upd H pen mo')) : FnO c rc16 (k + 2) [.ref pen] H Q := by
  refine fn_tidy ?_
  intro A L a cd rm
  have hb : rc16.body = rc16.body := rfl
  conv at hb => rhs; whnf
  rw [hb]; clear hb
  repeat walk_at "mine.step"
  (focus ((with_reducible refine' e_callF G mem_draw ok_draw hg rm ?_ ?_ ?_ ?_ ?_ ?_); rotate_left; exact rfl; exact rfl; exact rfl; decide; exact rfl))
  repeat walk_at "mine.step"
  refine ⟨rfl, fn_draw' G hP ok (by omega) (by decide) (by decide) fun size mo1 s0 s1 ok1 => ?_⟩
  obtain ⟨n, rfl⟩ := Int.eq_ofNat_of_zero_le s0
  repeat walk_at "mine.step"
  refine e_fz ?_
  refine e_comp rm.1 hg (cl := [("pen", L + 1)]) ⟨rfl, by decide, rfl, by decide, rfl, by intro p hp; simp only [List.mem_singleton] at hp; subst hp; exact ⟨rfl, rfl, rfl⟩, rfl⟩ ?_
  (focus ((with_reducible refine' e_callT (x := "range") (T := "range") G ?_ ?_ ?_ ?_ ?_ ?_ ?_ ?_ ?_ ?_); decide; exact rfl; decide; decide; rotate_left; exact rfl; exact rfl; exact rfl; exact rfl; exact rfl))
  repeat walk_at "mine.step"
  refine k_range ?_
  refine ⟨rngL n, .rng _ (by omega) (by omega), szl (by rw [rngL_len]; omega), fun i ys H' => ∃ mo, PenOK (N + 1 + i) mo ∧ H' = upd H pen mo ∧ ∃ g, ys = pvs g ∧ g.Sublist (rngI i), ⟨mo1, ok1.mono (by omega), rfl, [], rfl, .slnil⟩, ?_, ?_⟩
  · rintro C D i d ys H' hD hi ⟨mo, okm, rfl, g, rfl, hgs⟩
    obtain ⟨rfl, hin⟩ := rngL_get hi
    obtain ⟨hDp, hD'⟩ := upd_none hD
    refine tests_one ?_
    repeat walk_at "mine.step"
    (focus ((with_reducible refine' e_callF G mem_draw ok_draw hg rm ?_ ?_ ?_ ?_ ?_ ?_); rotate_left; exact rfl; exact rfl; exact rfl; decide; exact rfl))
    repeat walk_at "mine.step"
    refine ⟨rfl, fn_draw' G (mo := mo) (N := N + 1 + i) (by rw [upd_ne (Ne.symm hDp), upd_same]) okm (by omega) (by decide) (by decide) fun r mo' r0 r1 ok' => ?_⟩
    rw [upd_comm hDp, upd_upd]
    repeat walk_at "mine.step"
    refine c_ieq rm (decide (r = 0)) rfl ?_
    repeat walk_at "mine.step"
    have hDn : upd H pen mo' D = none := by rw [upd_ne hDp]; exact hD'
    by_cases hr : r = 0
    · rw [decide_eq_true hr]
      first | (focus ((with_reducible refine' if_t ?_ ?_); exact rfl)) | (focus ((with_reducible refine' if_f ?_ ?_); exact rfl))
      repeat walk_at "mine.step"
      refine ⟨_, rfl, hDn, mo', ok'.mono (by omega), rfl, g ++ [(i : Int)], by simp [pvs], ?_⟩
      rw [rngI_succ]; exact hgs.append (.refl _)
    · rw [decide_eq_false hr]
      first | (focus ((with_reducible refine' if_t ?_ ?_); exact rfl)) | (focus ((with_reducible refine' if_f ?_ ?_); exact rfl))
      refine ⟨_, rfl, hDn, mo', ok'.mono (by omega), rfl, g, rfl, ?_⟩
      rw [rngI_succ]; exact hgs.trans (List.sublist_append_left _ _)
  rintro D ys H' hD ⟨mo2, ok2, rfl, g, rfl, hgs⟩
  rw [rngL_len] at ok2 hgs
  clear ok1
  refine ⟨.lst (pvs g), upd H pen mo2, .of_le ((Le.refl _).upd hD _), .ref (upd_same _ _ _) hD (.refl _), ?_⟩
  clear hD
  repeat walk_at "mine.step"
  refine s_comp rm.1 hg (cl := [("gone", L + 2)]) ⟨rfl, by decide, rfl, by decide, rfl, by intro p hp; simp only [List.mem_singleton] at hp; subst hp; exact ⟨rfl, rfl, rfl⟩, rfl⟩ ?_
  (focus ((with_reducible refine' e_callT (x := "range") (T := "range") G ?_ ?_ ?_ ?_ ?_ ?_ ?_ ?_ ?_ ?_); decide; exact rfl; decide; decide; rotate_left; exact rfl; exact rfl; exact rfl; exact rfl; exact rfl))
  repeat walk_at "mine.step"
  refine k_range ?_
  refine ⟨rngL n, .rng _ (by omega) (by omega), szl (by rw [rngL_len]; omega), fun i ys H' => H' = upd H pen mo2 ∧ ys = pvs ((rngI i).filter fun s => decide (s ∉ g)), ⟨rfl, rfl⟩, ?_, ?_⟩
  · rintro C D i d ys H' hD hi ⟨rfl, rfl⟩
    obtain ⟨rfl, hin⟩ := rngL_get hi
    refine tests_one ?_
    repeat walk_at "mine.step"
    refine c_nib (decide ((i : Int) ∉ g)) rm rfl (pvs_ok _) rfl (Nat.le_trans (pvs_dep _) (by decide)) (by rw [show vw _ (.int (i : Int)) = .int i from rfl, pin_int]; simp) ?_
    repeat walk_at "mine.step"
    by_cases hr : (i : Int) ∈ g
    · rw [decide_eq_false (by simpa using hr)]
      first | (focus ((with_reducible refine' if_t ?_ ?_); exact rfl)) | (focus ((with_reducible refine' if_f ?_ ?_); exact rfl))
      refine ⟨_, rfl, hD, rfl, ?_⟩
      rw [rngI_succ, List.filter_append]; simp [hr]
    · rw [decide_eq_true hr]
      first | (focus ((with_reducible refine' if_t ?_ ?_); exact rfl)) | (focus ((with_reducible refine' if_f ?_ ?_); exact rfl))
      repeat walk_at "mine.step"
      refine ⟨_, rfl, hD, rfl, ?_⟩
      rw [rngI_succ, List.filter_append]; simp [hr, pvs]
  rintro S ys H' hS ⟨rfl, rfl⟩
  rw [rngL_len]
  obtain ⟨hSp, hS'⟩ := upd_none hS
  generalize hst0 : ((rngI n).filter fun s => decide (s ∉ g)) = st0
  have hst0l : st0.length ≤ 7 := by
    rw [← hst0]
    exact Nat.le_trans (List.length_filter_le _ _) (by rw [rngI_sub]; omega)
  refine s_cons (s_swap rm.1 ?_)
  repeat walk_at "mine.step"
  refine ⟨szl (by simp), fun Ad hAd => ?_⟩
  repeat walk_at "mine.step"
  refine ⟨szl (by simp), fun Md hMd => ?_⟩
  repeat walk_at "mine.step"
  refine ⟨szl (by simp), _, _, rfl, ?_⟩
  obtain ⟨hMA, hM1⟩ := upd_none hMd
  obtain ⟨hMS, hM2⟩ := upd_none hM1
  obtain ⟨hMp, hM3⟩ := upd_none hM2
  obtain ⟨hAS, hA1⟩ := upd_none hAd
  obtain ⟨hAp, hA2⟩ := upd_none hA1
  have d4 : D4 pen S Ad Md := ⟨hSp, hAp, hMp, hAS, hMS, hMA⟩
  rw [show upd (upd (upd (upd H pen mo2) S (.lst (pvs st0))) Ad (.lst [])) Md (.lst []) = S4 H pen S Ad Md mo2 st0 [] [] from rfl]
  have fin : ∀ mo' st' mk' HH, Le (S4 H pen S Ad Md mo' st' (addedOf mk') mk') HH → PenOK (N + 50) mo' → mk'.filterMap id = st0 → mk'.length ≤ 20 →
      ∃ q K, FzS HH K ∧ Fz HH K (.tup [.int n, .lst (pvs g), .ref Ad, .ref Md]) q ∧ Q q K := by
    intro mo' st' mk' HH le okp hm hl
    refine ⟨chP n g (addedOf mk') mk', upd H pen mo', .of_le fun a m e => le a m ?_, .tup (.cons (.same _) (.cons (.same _) (.cons (.ref (le _ _ d4.g3) (by rw [upd_ne hAp]; exact hA2) (.refl _)) (.cons (.ref (le _ _ d4.g4) (by rw [upd_ne hMp]; exact hM3) (.refl _)) .nil)))), q n g _ _ mo' ⟨by omega, hgs, hm.trans hst0.symm, rfl, hl⟩ okp⟩
    have nS : a ≠ S := by rintro rfl; rw [upd_ne hSp, hS'] at e; cases e
    have nA : a ≠ Ad := by rintro rfl; rw [upd_ne hAp, hA2] at e; cases e
    have nM : a ≠ Md := by rintro rfl; rw [upd_ne hMp, hM3] at e; cases e
    unfold S4
    rw [upd_ne nM, upd_ne nA, upd_ne nS]; exact e
  refine s_cons (s_whileC (fun m H' => ∃ mk st mo, H' = S4 H pen S Ad Md mo st (addedOf mk) mk ∧ mk.filterMap id ++ st = st0 ∧ mk.length ≤ 12 ∧ m = 13 - mk.length ∧ PenOK (N + 8 + 2 * mk.length) mo) 13 ⟨[], st0, mo2, rfl, rfl, by simp, rfl, ok2.mono (by simp; omega)⟩ ?_)
  rintro m H' ⟨mk, st, mo, rfl, hsp, hml, rfl, okm⟩
  have hstl : st.length ≤ 7 := by
    have : (mk.filterMap id ++ st).length ≤ 7 := hsp ▸ hst0l
    rw [List.length_append] at this; omega
  have vS : ∀ {mo : MO} {l : Addr}, l ≠ S → vw (upd (S4 H pen S Ad Md mo st (addedOf mk) mk) l (.lst [])) (.ref S) = .lst (pvs st) := fun h => vw_ref (by rw [upd_ne (Ne.symm h), d4.g2])
  refine GO.mono (Q := fun (b : Bool) H'' => ∃ mo', PenOK (N + 9 + 2 * mk.length) mo' ∧ Le (S4 H pen S Ad Md mo' st (addedOf mk) mk) H'' ∧ (b = false → st = [])) ?_ ?_
  · repeat walk_at "mine.step"
    refine ⟨szl (by simp), fun l hl => ?_⟩
    obtain ⟨l1, l2, l3, l4, l5⟩ := D4.fresh hl
    by_cases hst : st = []
    · refine c_neb false rm (by rw [vS l2]; exact pvs_ok _) (by rw [vw_upd]; rfl) (by rw [vS l2]; exact Nat.le_trans (Nat.succ_le_succ (pvs_dep _)) (by decide)) (by rw [vS l2, vw_upd, hst]; simp [pvs, peq_self]) ?_
      repeat walk_at "mine.step"
      first | (focus ((with_reducible refine' if_t ?_ ?_); exact rfl)) | (focus ((with_reducible refine' if_f ?_ ?_); exact rfl))
      repeat walk_at "mine.step"
      (focus ((with_reducible refine' e_callF G mem_draw ok_draw hg rm ?_ ?_ ?_ ?_ ?_ ?_); rotate_left; exact rfl; exact rfl; exact rfl; decide; exact rfl))
      repeat walk_at "mine.step"
      refine ⟨rfl, fn_draw' G (mo := mo) (N := N + 8 + 2 * mk.length) (by rw [upd_ne (Ne.symm l1), d4.g1]) okm (by omega) (by decide) (by decide) fun r mo' r0 r1 ok' => ?_⟩
      rw [upd_comm l1, d4.p1]
      have hl' : S4 H pen S Ad Md mo' st (addedOf mk) mk l = none := by unfold S4; rw [upd_ne l4, upd_ne l3, upd_ne l2, upd_ne l1]; exact l5
      repeat walk_at "mine.step"
      refine c_ieq rm (decide (r = 0)) rfl ?_
      repeat walk_at "mine.step"
      by_cases hr : r = 0
      · rw [decide_eq_true hr]
        first | (focus ((with_reducible refine' if_t ?_ ?_); exact rfl)) | (focus ((with_reducible refine' if_f ?_ ?_); exact rfl))
        exact ⟨mo', ok'.mono (by omega), (Le.refl _).upd hl' _, fun _ => hst⟩
      · rw [decide_eq_false hr]
        first | (focus ((with_reducible refine' if_t ?_ ?_); exact rfl)) | (focus ((with_reducible refine' if_f ?_ ?_); exact rfl))
        repeat walk_at "mine.step"
        exact ⟨mo', ok'.mono (by omega), (Le.refl _).upd hl' _, fun _ => hst⟩
    · refine c_neb true rm (by rw [vS l2]; exact pvs_ok _) (by rw [vw_upd]; rfl) (by rw [vS l2]; exact Nat.le_trans (Nat.succ_le_succ (pvs_dep _)) (by decide)) (by rw [vS l2, vw_upd, peq_ne (by simp [pvs, hst])]; rfl) ?_
      repeat walk_at "mine.step"
      first | (focus ((with_reducible refine' if_t ?_ ?_); exact rfl)) | (focus ((with_reducible refine' if_f ?_ ?_); exact rfl))
      exact ⟨mo, okm.mono (by omega), (Le.refl _).upd hl _, by simp⟩
  rintro b H'' ⟨mo1, ok1, le1, hb⟩
  cases b with
  | false =>
    first | (focus ((with_reducible refine' if_t ?_ ?_); exact rfl)) | (focus ((with_reducible refine' if_f ?_ ?_); exact rfl))
    obtain rfl := hb rfl
    repeat walk_at "mine.step"
    refine ⟨szl (by simp), ?_⟩
    exact fin mo1 [] mk H'' le1 (ok1.mono (by omega)) (by simpa using hsp) (by omega)
  | true =>
    first | (focus ((with_reducible refine' if_t ?_ ?_); exact rfl)) | (focus ((with_reducible refine' if_f ?_ ?_); exact rfl))
    refine SO.of_forget ?_ le1
    clear le1 hb okm
    refine s_consC (fun H' => ∃ mk' st' mo', H' = S4 H pen S Ad Md mo' st' (addedOf mk') mk' ∧ mk'.filterMap id ++ st' = st0 ∧ mk'.length = mk.length + 1 ∧ PenOK (N + 10 + 2 * mk.length) mo') (s_if (GO.mono (Q := fun (b : Bool) H'' => ∃ mo', PenOK (N + 10 + 2 * mk.length) mo' ∧ Le (S4 H pen S Ad Md mo' st (addedOf mk) mk) H'' ∧ (b = false → st ≠ [])) ?_ ?_)) ?_
    · repeat walk_at "mine.step"
      refine ⟨szl (by simp), fun l hl => ?_⟩
      obtain ⟨l1, l2, l3, l4, l5⟩ := D4.fresh hl
      by_cases hst : st = []
      · refine c_eqb true rm (by rw [vS l2]; exact pvs_ok _) (by rw [vw_upd]; rfl) (by rw [vS l2]; exact Nat.le_trans (Nat.succ_le_succ (pvs_dep _)) (by decide)) (by rw [vS l2, vw_upd, hst]; simp [pvs, peq_self]) ?_
        repeat walk_at "mine.step"
        first | (focus ((with_reducible refine' if_t ?_ ?_); exact rfl)) | (focus ((with_reducible refine' if_f ?_ ?_); exact rfl))
        exact ⟨mo1, ok1.mono (by omega), (Le.refl _).upd hl _, by simp⟩
      · refine c_eqb false rm (by rw [vS l2]; exact pvs_ok _) (by rw [vw_upd]; rfl) (by rw [vS l2]; exact Nat.le_trans (Nat.succ_le_succ (pvs_dep _)) (by decide)) (by rw [vS l2, vw_upd, peq_ne (by simp [pvs, hst])]) ?_
        repeat walk_at "mine.step"
        first | (focus ((with_reducible refine' if_t ?_ ?_); exact rfl)) | (focus ((with_reducible refine' if_f ?_ ?_); exact rfl))
        repeat walk_at "mine.step"
        (focus ((with_reducible refine' e_callF G mem_draw ok_draw hg rm ?_ ?_ ?_ ?_ ?_ ?_); rotate_left; exact rfl; exact rfl; exact rfl; decide; exact rfl))
        repeat walk_at "mine.step"
        refine ⟨rfl, fn_draw' G (mo := mo1) (N := N + 9 + 2 * mk.length) (by rw [upd_ne (Ne.symm l1), d4.g1]) ok1 (by omega) (by decide) (by decide) fun r mo' r0 r1 ok' => ?_⟩
        rw [upd_comm l1, d4.p1]
        have hl' : S4 H pen S Ad Md mo' st (addedOf mk) mk l = none := by unfold S4; rw [upd_ne l4, upd_ne l3, upd_ne l2, upd_ne l1]; exact l5
        repeat walk_at "mine.step"
        refine c_ieq rm (decide (r = 0)) rfl ?_
        repeat walk_at "mine.step"
        by_cases hr : r = 0
        · rw [decide_eq_true hr]
          first | (focus ((with_reducible refine' if_t ?_ ?_); exact rfl)) | (focus ((with_reducible refine' if_f ?_ ?_); exact rfl))
          exact ⟨mo', ok'.mono (by omega), (Le.refl _).upd hl' _, fun _ => hst⟩
        · rw [decide_eq_false hr]
          first | (focus ((with_reducible refine' if_t ?_ ?_); exact rfl)) | (focus ((with_reducible refine' if_f ?_ ?_); exact rfl))
          repeat walk_at "mine.step"
          exact ⟨mo', ok'.mono (by omega), (Le.refl _).upd hl' _, fun _ => hst⟩
    · rintro b H'' ⟨mo3, ok3, le3, hb⟩
      cases b with
      | true =>
        first | (focus ((with_reducible refine' if_t ?_ ?_); exact rfl)) | (focus ((with_reducible refine' if_f ?_ ?_); exact rfl))
        refine SO.of_forget ?_ le3
        repeat walk_at "mine.step"
        (focus ((with_reducible refine' e_meth PySem.F.plainAttrs_list PySem.F.slot_list_append PySem.F.type_list_append ?_ ?_ ?_ ?_ ?_ ?_); rotate_left; exact rfl; exact rfl; exact rfl; exact rfl; exact rfl))
        repeat walk_at "mine.step"
        refine ⟨hasList (vw_ref d4.g3), ?_⟩
        repeat walk_at "mine.step"
        (focus ((with_reducible refine' e_callB (x := "len") (id := "len") G ?_ ?_ ?_ ?_ ?_ ?_ ?_ ?_ ?_ ?_); decide; exact rfl; decide; decide; rotate_left; exact rfl; exact rfl; exact rfl; exact rfl; exact rfl))
        repeat walk_at "mine.step"
        refine k_len_lst (vw_ref d4.g4) (szl (by simp; omega)) ?_
        repeat walk_at "mine.step"
        refine k_append d4.g3 (szl (by rw [pvs_len]; unfold addedOf; rw [List.length_map]; exact Nat.le_trans (List.length_filter_le _ _) (by simp; omega))) ⟨rfl, ?_⟩
        rw [show pvs (addedOf mk) ++ [.int ((mk.map optP).length : Nat)] = pvs (addedOf (mk ++ [none])) by rw [addedOf_snoc]; simp [pvs], d4.p3]
        repeat walk_at "mine.step"
        (focus ((with_reducible refine' e_meth PySem.F.plainAttrs_list PySem.F.slot_list_append PySem.F.type_list_append ?_ ?_ ?_ ?_ ?_ ?_); rotate_left; exact rfl; exact rfl; exact rfl; exact rfl; exact rfl))
        repeat walk_at "mine.step"
        refine ⟨hasList (vw_ref d4.g4), ?_⟩
        repeat walk_at "mine.step"
        refine k_append d4.g4 (szl (by simp; omega)) ⟨rfl, ?_⟩
        rw [show mk.map optP ++ [.none] = (mk ++ [none]).map optP by simp [optP], d4.p4]
        repeat walk_at "mine.step"
        exact ⟨Sub.refl _, mk ++ [none], st, mo3, rfl, by simpa using hsp, by simp, ok3⟩
      | false =>
        first | (focus ((with_reducible refine' if_t ?_ ?_); exact rfl)) | (focus ((with_reducible refine' if_f ?_ ?_); exact rfl))
        refine SO.of_forget ?_ le3
        obtain ⟨s, st', rfl⟩ : ∃ s st', st = s :: st' := by
          cases st with
          | nil => exact absurd rfl (hb rfl)
          | cons s st' => exact ⟨s, st', rfl⟩
        repeat walk_at "mine.step"
        (focus ((with_reducible refine' e_meth PySem.F.plainAttrs_list PySem.F.slot_list_append PySem.F.type_list_append ?_ ?_ ?_ ?_ ?_ ?_); rotate_left; exact rfl; exact rfl; exact rfl; exact rfl; exact rfl))
        repeat walk_at "mine.step"
        refine ⟨hasList (vw_ref d4.g4), ?_⟩
        repeat walk_at "mine.step"
        (focus ((with_reducible refine' e_meth PySem.F.plainAttrs_list PySem.F.slot_list_pop PySem.F.type_list_pop ?_ ?_ ?_ ?_ ?_ ?_); rotate_left; exact rfl; exact rfl; exact rfl; exact rfl; exact rfl))
        repeat walk_at "mine.step"
        refine ⟨hasList (vw_ref d4.g2), ?_⟩
        repeat walk_at "mine.step"
        refine k_pop0 (x := .int s) (ds := pvs st') d4.g2 (szl (by rw [pvs_len]; simp at hstl; omega)) ?_
        rw [d4.p2]
        repeat walk_at "mine.step"
        refine k_append d4.g4 (szl (by simp; omega)) ⟨rfl, ?_⟩
        rw [show mk.map optP ++ [.int s] = (mk ++ [some s]).map optP by simp [optP], d4.p4]
        repeat walk_at "mine.step"
        refine ⟨Sub.refl _, mk ++ [some s], st', mo3, by rw [addedOf_snoc]; simp, by simpa using hsp, by simp, ok3⟩
    · rintro H' ⟨mk', st', mo4, rfl, hsp', hml', ok4⟩
      have hstl' : st'.length ≤ 7 := by
        have : (mk'.filterMap id ++ st').length ≤ 7 := hsp' ▸ hst0l
        rw [List.length_append] at this; omega
      repeat walk_at "mine.step"
      (focus ((with_reducible refine' e_callB (x := "len") (id := "len") G ?_ ?_ ?_ ?_ ?_ ?_ ?_ ?_ ?_ ?_); decide; exact rfl; decide; decide; rotate_left; exact rfl; exact rfl; exact rfl; exact rfl; exact rfl))
      repeat walk_at "mine.step"
      refine k_len_lst (vw_ref d4.g4) (szl (by simp; omega)) ?_
      repeat walk_at "mine.step"
      refine c_gtb (decide (12 < (((mk'.map optP).length : Nat) : Int))) rfl ?_
      repeat walk_at "mine.step"
      by_cases h12 : (12 : Int) < ((mk'.map optP).length : Nat)
      · rw [decide_eq_true h12]
        first | (focus ((with_reducible refine' if_t ?_ ?_); exact rfl)) | (focus ((with_reducible refine' if_f ?_ ?_); exact rfl))
        repeat walk_at "mine.step"
        (focus ((with_reducible refine' e_meth PySem.F.plainAttrs_list PySem.F.slot_list_extend PySem.F.type_list_extend ?_ ?_ ?_ ?_ ?_ ?_); rotate_left; exact rfl; exact rfl; exact rfl; exact rfl; exact rfl))
        repeat walk_at "mine.step"
        refine ⟨hasList (vw_ref d4.g4), ?_⟩
        repeat walk_at "mine.step"
        refine k_extend d4.g4 (vw_ref d4.g2) (szl (by rw [pvs_len]; simp; omega)) ⟨rfl, ?_⟩
        rw [show mk'.map optP ++ pvs st' = (mk' ++ st'.map some).map optP by simp [pvs, optP], d4.p4]
        repeat walk_at "mine.step"
        refine ⟨szl (by simp), fun l hl => ?_⟩
        repeat walk_at "mine.step"
        refine ⟨szl (by simp), ?_⟩
        rw [← addedOf_somes mk' st'] at hl ⊢
        refine fin mo4 st' _ _ ((Le.refl _).upd hl _) (ok4.mono (by omega)) ?_ (by simp; omega)
        rw [List.filterMap_append, ← hsp']
        congr 1
        induction st' with
        | nil => rfl
        | cons a l ih => simp
      · rw [decide_eq_false h12]
        first | (focus ((with_reducible refine' if_t ?_ ?_); exact rfl)) | (focus ((with_reducible refine' if_f ?_ ?_); exact rfl))
        repeat walk_at "mine.step"
        rw [List.length_map] at h12
        exact ⟨Sub.refl _, _, by omega, mk', st', mo4, rfl, hsp', by omega, rfl, ok4.mono (by omega)⟩
end
end Mine

open PySem PySem.W PyProof.Rows PySem.Calls
set_option Elab.async false
set_option maxRecDepth 100000
set_option maxHeartbeats 8000000
set_option linter.unusedVariables false
set_option linter.unusedSectionVars false
namespace Mine
section
variable {c : Cx} {σ : Loc} {H K : Store} {Q : PV → Store → Prop} {Qn : Loc → Store → Prop} {Qr : PV → Store → Prop} {mg mb : Str → Option Value} {k : Nat} {prog : Program}
theorem Act.moveW {W : Addr → Prop} {H' : Store} {h h' : Heap} (F : Act c σ H h) (k : ∀ b o, ¬ W b → h.get? b = some o → h'.get? b = some o) (hV : ∀ b o, W b → h.get? b = some o → IsV o → H b ≠ none) (hn : ∀ b, H b = none → H' b = none)
    (hL : ¬ W c.env.locals) (hc : ∀ x a, c.env.cells.lookup x = some a → ¬ W a) (hB : ∀ b, W b → c.B.get? b = none) (hg : ∀ b, W b → c.D b ∨ c.g.get? b = none)
    (st : ∀ a mo, H' a = some mo → (¬ W a ∧ H a = some mo) ∨ (MOR c.prog c.w h' H' a mo ∧ a ≠ c.env.locals ∧ c.B.objs.size ≤ a ∧ (c.D a ∨ c.g.get? a = none))) : Act c σ H' h' := by
  have kk : ∀ b o, h.get? b = some o → IsV o → H b = none → h'.get? b = some o ∧ H' b = none := fun b o e v n => ⟨k b o (fun w => hV b o w e v n) e, hn b n⟩
  refine ⟨fun b o e => k b o (fun w => by rw [hB b w] at e; cases e) (F.base b o e), fun b o e n => k b o (fun w => ?_) (F.keep b o e n), F.Lb, F.Lg, ?_, ?_, ?_, F.apart, F.has, F.fn, ?_⟩
  · rcases hg b w with d | d
    · exact n d
    · rw [d] at e; cases e
  · obtain ⟨m, hm, hv⟩ := F.loc
    exact ⟨m, hm.at' fun o e => k _ o hL e, fun x p e l => let ⟨v, hm, r⟩ := hv x p e l; ⟨v, hm, r.keep kk⟩⟩
  · exact fun x p e l => let ⟨a, v, ha, hc', r⟩ := F.cel x p e l; ⟨a, v, ha, let ⟨o, ho, hd⟩ := hc'; ⟨o, k _ o (hc x a ha) ho, hd⟩, r.keep kk⟩
  · exact fun x a e => let ⟨⟨v, o, ho, hd⟩, r⟩ := F.own x a e; ⟨⟨v, o, k _ o (hc x a e) ho, hd⟩, r⟩
  · intro a mo e
    rcases st a mo e with ⟨w, e'⟩ | m
    · obtain ⟨m, r⟩ := F.st a mo e'
      exact ⟨m.keep kk fun o e => k _ o w e, r⟩
    · exact m

theorem zip_loop {elts : List Expr} {tk : Nat} {tp : Pos} {body : List Stmt} {s₁ s₂ : Shared} {z TI TO i1 i2 l1 l2 : Addr} {xs ys : List Value} {l m : List PV} {RR : Result → Shared → Prop} (hh : c.A.handled = none) (D : ZipApart z TI TO i1 i2 l1 l2)
    (F₁ : Act c σ H s₁.heap) (hl1 : s₁.heap.PlainList l1 xs.toArray) (hl2 : s₁.heap.PlainList l2 ys.toArray) (hn1 : H l1 = none) (hn2 : H l2 = none) (r1 : RL s₁.heap H xs l) (r2 : RL s₁.heap H ys m) (hlm : l.length = m.length)
    (fz : s₁.heap.objs.size ≤ z) (fTI : s₁.heap.objs.size ≤ TI) (fTO : s₁.heap.objs.size ≤ TO) (f1 : s₁.heap.objs.size ≤ i1) (f2 : s₁.heap.objs.size ≤ i2)
    (hz : IsZip s₂.heap z TI TO .none) (hTI : IsPair s₂.heap TI (.ref i1) (.ref i2)) (hTO : IsPair s₂.heap TO .none .none) (hi1 : s₂.heap.IsListIter i1 l1 0) (hi2 : s₂.heap.IsListIter i2 l2 0)
    (e₂ : Same s₁ s₂) (hk : ∀ b o, s₁.heap.get? b = some o → s₂.heap.get? b = some o)
    (bh : ∀ (i : Nat) p q TO v w, l[i]? = some p → m[i]? = some q → H TO = none → UO c (assign (.Tuple elts tk tp) c.env) (.tup [p, q]) σ (upd H TO (.hid v w)) (fun σ' H' => SO c (execs body c.env) σ' H' (fun σ3 H3 => Sub σ σ3 ∧ Le (upd H TO (.hid v w)) H3) Qr))
    (done : ∀ s', Same s₁ s' → Kp (Xe c.env) s₁.heap H s'.heap H → Act c σ H s'.heap → RR (.ok .next) s')
    (rets : ∀ v p σ' H' s', Same s₁ s' → Kp (Xe c.env) s₁.heap H s'.heap H' → Act c σ' H' s'.heap → R s'.heap H' v p → Qr p H' → RR (.ok (.ret v)) s') :
    codeAny (model c.prog c.w) c.A (.forLoop (.Tuple elts tk tp) (.ref z) body [] c.env) RR s₂ := by
  have W := WalksT.zip2 (prog := c.prog) (w := c.w) hh z TI TO i1 i2 l1 l2 D xs.toArray ys.toArray
  have hmin : min xs.toArray.size ys.toArray.size = l.length := by rw [List.size_toArray, List.size_toArray, r1.length, r2.length, ← hlm, Nat.min_self]
  rw [hmin] at W
  have hHTO : H TO = none := F₁.fresh (Heap.get?_none_of_le fTO)
  have fresh : ∀ b ∈ [z, TO, i1, i2], s₁.heap.objs.size ≤ b := by
    intro b hb
    simp only [List.mem_cons, List.not_mem_nil, or_false] at hb
    rcases hb with rfl | rfl | rfl | rfl <;> assumption
  have old : ∀ b o, s₁.heap.get? b = some o → b ∉ [z, TO, i1, i2] := fun b o e hb => absurd (Heap.lt_size e) (Nat.not_lt.mpr (fresh b hb))
  have oTO : ∀ b o, s₁.heap.get? b = some o → b ≠ TO := fun b o e q => absurd (Heap.lt_size e) (Nat.not_lt.mpr (q ▸ fTO))
  have move : ∀ {h h' : Heap} {H' : Store} {v w : Value} {i : Nat}, Act c σ (upd H TO (.hid v w)) h → (IsZip h z TI TO .none ∧ h.IsListIter i1 l1 i ∧ h.IsListIter i2 l2 i) → (∀ b o, b ∉ [z, TO, i1, i2] → h.get? b = some o → h'.get? b = some o) →
      (H' = H ∨ ∃ a b, H' = upd H TO (.hid a b) ∧ IsPair h' TO a b) → Act c σ H' h' := by
    intro h h' H' v w i F ⟨g1, g2, g3⟩ k e
    have FF := fun b hb => F₁.freshFacts (fresh b hb)
    refine F.moveW (W := fun b => b ∈ [z, TO, i1, i2]) (fun b o w e => k b o w e) ?_ ?_ (fun q => (FF _ q).2.2.1 rfl) (fun x a e q => (FF _ q).2.2.2.1 x e) (fun b q => (FF b q).2.2.2.2.1) (fun b q => (FF b q).2.2.2.2.2) ?_
    · intro b o hb e v
      simp only [List.mem_cons, List.not_mem_nil, or_false] at hb
      have notV : ∀ {T : String} {vs : Array Value}, o.cls = .type T → o.data = .fields vs → T ≠ "range" → False := by
        intro T vs hc hd hT
        unfold IsV at v; rw [hd, hc] at v
        injection v with v; exact hT v
      rcases hb with rfl | rfl | rfl | rfl
      · rw [show h.get? b = some _ from g1] at e
        obtain rfl := Option.some.inj e
        exact (notV rfl rfl (by decide)).elim
      · rw [upd_same]; simp
      · obtain ⟨o', ho, hc, hd⟩ := g2
        obtain rfl : o = o' := Option.some.inj (e.symm.trans ho)
        exact (notV hc hd (by decide)).elim
      · obtain ⟨o', ho, hc, hd⟩ := g3
        obtain rfl : o = o' := Option.some.inj (e.symm.trans ho)
        exact (notV hc hd (by decide)).elim
    · intro b n
      obtain ⟨nb, n⟩ := upd_none n
      rcases e with rfl | ⟨a, b', rfl, _⟩
      · exact n
      · rw [upd_ne nb]; exact n
    · intro a mo ea
      have go : a ≠ TO → H a = some mo → (¬ a ∈ [z, TO, i1, i2] ∧ upd H TO (.hid v w) a = some mo) := by
        intro na ea
        obtain ⟨o, ho, _⟩ := F₁.stGet ea
        exact ⟨old a o ho, by rw [upd_ne na]; exact ea⟩
      have nTO : H a = some mo → a ≠ TO := by rintro ea rfl; rw [hHTO] at ea; cases ea
      rcases e with rfl | ⟨x, y, rfl, hp⟩
      · exact .inl (go (nTO ea) ea)
      · by_cases na : a = TO
        · subst na
          rw [upd_same] at ea
          obtain rfl := Option.some.inj ea
          have FT := FF a (by simp)
          obtain ⟨oL, hoL⟩ := F₁.Lin
          exact .inr ⟨hp, Ne.symm FT.2.2.1, Nat.le_trans F₁.Lb (Nat.le_trans (Nat.le_of_lt (Heap.lt_size hoL)) fTO), FT.2.2.2.2.2⟩
        · rw [upd_ne na] at ea
          exact .inl (go na ea)
  refine codeAny_forLoop_any (fun n s' => ∃ i v w, n = l.length + 1 - i ∧ i ≤ l.length ∧ Same s₁ s' ∧ Kp (Xe c.env) s₁.heap H s'.heap (upd H TO (.hid v w)) ∧ Act c σ (upd H TO (.hid v w)) s'.heap ∧
     (IsZip s'.heap z TI TO .none ∧ IsPair s'.heap TI (.ref i1) (.ref i2) ∧ (∃ a b, IsPair s'.heap TO a b) ∧ s'.heap.IsListIter i1 l1 i ∧ s'.heap.IsListIter i2 l2 i ∧ s'.heap.IsList l1 xs.toArray ∧ s'.heap.IsList l2 ys.toArray)) ?_ (l.length + 1)
     ⟨0, .none, .none, by omega, Nat.zero_le _, e₂, fun b o e n _ => ⟨hk b o e, by rw [upd_ne (oTO b o e)]; exact n⟩, F₁.add fTO hk hTO, hz, hTI, ⟨_, _, hTO⟩, hi1, hi2, hl1.isList.at fun o e => hk _ o e, hl2.isList.at fun o e => hk _ o e⟩
  rintro n s₃ ⟨i, v, w, rfl, hi, e₃, k₃, F₃, st⟩
  by_cases hlt : i < l.length
  · refine W.item i _ _ _ hlt st fun T vals h4 t4 hP hT hTup hMid k4 => ?_
    refine W.go _ _ _ i T _ _ _ hMid fun h5 st5 k5 => ?_
    obtain ⟨x, y, hx, hy, rfl⟩ := hP
    have k45 : ∀ b o, b ∉ [z, TO, i1, i2] → s₃.heap.get? b = some o → h5.get? b = some o := fun b o hb e => k5 b o hb (k4 b o hb e)
    obtain ⟨g1, g2, ⟨a, b, g3⟩, g4, g5, g6, g7⟩ := st5
    have F₅ : Act c σ (upd H TO (.hid a b)) h5 := move F₃ ⟨st.1, st.2.2.2.1, st.2.2.2.2.1⟩ k45 (.inr ⟨a, b, rfl, g3⟩)
    have kp5 : Kp (Xe c.env) s₁.heap H h5 (upd H TO (.hid a b)) := fun b o e n x => by
      obtain ⟨e', n'⟩ := k₃ b o e n x
      exact ⟨k45 b o (old b o e) e', by rw [upd_ne (oTO b o e)]; exact n⟩
    obtain ⟨p, hp, rp⟩ := r1.get' (k := i) (v := x) (by simpa using hx)
    obtain ⟨q, hq, rq⟩ := r2.get' (k := i) (v := y) (by simpa using hy)
    have nT : s₃.heap.get? T = none := Heap.get?_none_of_le hT
    have hT0 := F₃.fresh nT
    obtain ⟨nTO, hT1⟩ := upd_none hT0
    have rT : R h5 (upd H TO (.hid a b)) (.ref T) (.tup [p, q]) := by
      obtain ⟨o, ho, hc, nn, hd⟩ := hTup
      refine .tup (vs := [x, y]) ⟨o, k5 T o (W.apart _ _ _ hMid) ho, hc, nn, hd⟩ (by rw [upd_ne nTO]; exact hT1) (.cons (F₁.keepR kp5 rp) (.cons (F₁.keepR kp5 rq) .nil))
    have back : ∀ {s' : Shared} {σ3 : Loc} {H3 : Store}, Kp (Xe c.env) h5 (upd H TO (.hid a b)) s'.heap H3 → Act c σ3 H3 s'.heap → Sub σ σ3 → Le (upd H TO (.hid a b)) H3 → Act c σ (upd H TO (.hid a b)) s'.heap ∧
        (IsZip s'.heap z TI TO .none ∧ IsPair s'.heap TI (.ref i1) (.ref i2) ∧ (∃ a b, IsPair s'.heap TO a b) ∧ s'.heap.IsListIter i1 l1 (i + 1) ∧ s'.heap.IsListIter i2 l2 (i + 1) ∧ s'.heap.IsList l1 xs.toArray ∧ s'.heap.IsList l2 ys.toArray) := by
      intro s' σ3 H3 k F' sb le
      have F6 := (F'.locals sb).forget le
      have keepB : ∀ d, s₁.heap.objs.size ≤ d → d ≠ TO → ∀ o, h5.get? d = some o → s'.heap.get? d = some o := by
        intro d hd nd o e
        obtain ⟨_, fH, fL, fC, _⟩ := F₁.freshFacts hd
        refine (k d o e (by rw [upd_ne nd]; exact fH) ?_).1
        rintro (q | ⟨zz, q⟩)
        · exact fL q.symm
        · exact fC zz q
      have keepL : ∀ d o, s₁.heap.get? d = some o → IsV o → H d = none → ∀ o', h5.get? d = some o' → s'.heap.get? d = some o' := by
        intro d o e v n o' e'
        exact (k d o' e' (by rw [upd_ne (oTO d o e)]; exact n) (F₁.noX e v)).1
      refine ⟨F6, keepB z fz (Ne.symm D.TOz) _ g1, keepB TI fTI D.TITO _ g2, ⟨a, b, (F6.st TO _ (upd_same _ _ _)).1⟩, g4.at fun o e => keepB i1 f1 (Ne.symm D.TOi1) o e, g5.at fun o e => keepB i2 f2 (Ne.symm D.TOi2) o e, g6.at fun o e => ?_, g7.at fun o e => ?_⟩
      · obtain ⟨nn, e1⟩ := hl1; exact keepL l1 _ e1 trivial hn1 o e
      · obtain ⟨nn, e1⟩ := hl2; exact keepL l2 _ e1 trivial hn2 o e
    refine wpAny_mono ((bh i p q TO a b hp hq hHTO).use (s := { s₃ with heap := h5, toks := t4 }) F₅ rT (P := fun _ s₅ => wpAny (model c.prog c.w) c.A (execs body c.env) (fun f s₆ => match f with
            | .next | .cont => ∃ m, m < l.length + 1 - i ∧ ∃ i v w, m = l.length + 1 - i ∧ i ≤ l.length ∧ Same s₁ s₆ ∧ Kp (Xe c.env) s₁.heap H s₆.heap (upd H TO (.hid v w)) ∧ Act c σ (upd H TO (.hid v w)) s₆.heap ∧
     (IsZip s₆.heap z TI TO .none ∧ IsPair s₆.heap TI (.ref i1) (.ref i2) ∧ (∃ a b, IsPair s₆.heap TO a b) ∧ s₆.heap.IsListIter i1 l1 i ∧ s₆.heap.IsListIter i2 l2 i ∧ s₆.heap.IsList l1 xs.toArray ∧ s₆.heap.IsList l2 ys.toArray)
            | .brk => RR (.ok .next) s₆
            | .ret v => RR (.ok (.ret v)) s₆) (fun _ _ => False) s₅) fun σ₅ H₅ s₅ e₅ k₅ F₅' q₅ => ?_) (fun _ s₅ h₅ => wpAny_mono h₅ (fun _ _ x => x) fun _ _ x => x.elim) fun _ _ x => x.elim
    refine q₅.use F₅' (fun σ₆ H₆ s₆ e₆ k₆ F₆ q₆ => ?_) fun v p σ₆ H₆ s₆ e₆ k₆ F₆ r₆ q₆ => ?_
    · obtain ⟨f1', f2'⟩ := back (k₅.trans k₆) F₆ q₆.1 q₆.2
      have kk := (kp5.trans k₅).trans k₆
      refine ⟨l.length + 1 - (i + 1), by omega, i + 1, a, b, rfl, hlt, ((e₃.trans ⟨_, _, rfl⟩).trans e₅).trans e₆, fun d o e n x => ⟨(kk d o e n x).1, by rw [upd_ne (oTO d o e)]; exact n⟩, f1', f2'⟩
    · exact rets v p σ₆ H₆ s₆ (((e₃.trans ⟨_, _, rfl⟩).trans e₅).trans e₆) ((kp5.trans k₅).trans k₆) F₆ r₆ q₆
  · have hin : i = l.length := by omega
    subst hin
    refine W.done _ _ _ st fun h' tk k4 => ?_
    refine wpAny_execs_nil (done _ (e₃.trans ⟨_, _, rfl⟩) (fun b o e n x => ⟨k4 b o (old b o e) (k₃ b o e n x).1, n⟩) (move F₃ ⟨st.1, st.2.2.2.1, st.2.2.2.2.1⟩ k4 (.inl rfl)))

theorem s_zip {elts : List Expr} {tk : Nat} {tp : Pos} {e1 e2 : Expr} {p cpos pos : Pos} {body : List Stmt} (G : Gl prog c.B mg mb) (hh : c.A.handled = none)
    (h : AvO c (spliced (backTo cpos (starEach [e1, e2] c.env))) σ H fun ps H₁ => ∃ l m, ps = [.lst l, .lst m] ∧ l.length = m.length ∧ Qn σ H₁ ∧
      ∀ (i : Nat) p q TO v w, l[i]? = some p → m[i]? = some q → H₁ TO = none → UO c (assign (.Tuple elts tk tp) c.env) (.tup [p, q]) σ (upd H₁ TO (.hid v w)) (fun σ' H' => SO c (execs body c.env) σ' H' (fun σ3 H3 => Sub σ σ3 ∧ Le (upd H₁ TO (.hid v w)) H3) Qr))
    (hx : c.env.kindOf "zip" = some .globalImplicit := by rfl) (eg : c.env.globals = mainGlobals := by rfl) (eb : c.env.builtins = builtinsNs := by rfl)
    (he : starEach [e1, e2] c.env = (false, eval e1 c.env) :: starEach [e2] c.env := by rfl)
    (hplain : ((false, eval e1 c.env) :: backTo cpos (starEach [e2] c.env)).any (·.1) = false := by rfl)
    (hs : ∀ x, foldedSetIterable (.Call (.Name "zip" p) [e1, e2] [] cpos) c.env x = pure x := by intro _; rfl) : SO c (exec (.For (.Tuple elts tk tp) (.Call (.Name "zip" p) [e1, e2] [] cpos) body [] pos) c.env) σ H Qn Qr := fun s F =>
  wpAny_For (Call_ (nameB (x := "zip") (v := .type "zip") G F eg eb (by simp) (by decide +kernel) (by decide) hx (by decide) (by
    rw [he] at h ⊢
    refine PySem.callWith_type hplain (evalArgs_plain (h.use F fun vs ps H₁ s₁ e₁ k₁ F₁ r₁ q₁ => ?_))
    obtain ⟨l, m, rfl, hlm, qn, bh⟩ := q₁
    cases r₁ with
    | cons ra rr =>
      cases rr with
      | cons rb rr =>
        cases rr
        cases ra with
        | @lst l1 xs _ hl1 hn1 r1 =>
          cases rb with
          | @lst l2 ys _ hl2 hn2 r2 =>
            have a1 : l1 < s₁.heap.objs.size := by obtain ⟨n, e⟩ := hl1; exact Heap.lt_size e
            have a2 : l2 < s₁.heap.objs.size := by obtain ⟨n, e⟩ := hl2; exact Heap.lt_size e
            refine call_zip_2 hl1.isList hl2.isList fun h' hz hTI hTO hi1 hi2 hsz hk => ?_
            have D := zipApart_new a1 a2
            have fr : ∀ j, s₁.heap.objs.size ≤ s₁.heap.objs.size + j := fun j => Nat.le_add_right _ _
            refine wpAny_pyIter_zip hz ?_
            exact zip_loop (s₂ := { s₁ with heap := h' }) hh D F₁ hl1 hl2 hn1 hn2 r1 r2 hlm (fr 4) (fr 2) (fr 3) (Nat.le_refl _) (fr 1) hz hTI hTO hi1 hi2 ⟨_, _, rfl⟩ hk bh
              (fun s' e' k' F' => ⟨σ, H₁, e₁.trans e', k₁.trans k', F', qn⟩) fun v p σ' H' s' e' k' F' r' q' => ⟨σ', H', e₁.trans e', k₁.trans k', F', p, r', q'⟩))) hs
end
end Mine

open PySem PySem.W PyProof.Rows PySem.Calls
set_option Elab.async false
set_option maxRecDepth 100000
set_option maxHeartbeats 8000000
set_option linter.unusedVariables false
set_option linter.unusedSectionVars false
namespace Mine
section
variable {prog : Program} {w : World} {K : Type} [DecidableEq K] {knd : HeapKind prog w K} {A : Around} {E : Value → Shared → Prop} {s : Shared}
theorem sameH {nm : String} {a b : Addr} {xa xb : List (K × Addr × Value)} {Q : Bool → Shared → Prop} (ha : (a == sysModules) = false) (hb : (b == sysModules) = false)
    (da : s.heap.DictOfH knd a xa) (db : s.heap.DictOfH knd b xb) (hu : knd.room A) (hk : xa.map (·.1) = xb.map (·.1)) (hv : ∀ (j : Nat) x y, xa[j]? = some x → xb[j]? = some y → SeqAt.EqAt A s x.2.2 y.2.2 true) (h : Q true s) :
    wpAny (model prog w) A (Builtin.Dict.samePairs nm a b) Q E s := by
  obtain ⟨oa, es, ep, hoa, _, hda, hea, hia, hna⟩ := da
  obtain ⟨ob, es', ep', hob, _, hdb, heb, hib, hnb⟩ := db
  have hla := size_of_entries hea
  have hlb := size_of_entries heb
  have hlen : xa.length = xb.length := by simpa using congrArg List.length hk
  unfold Builtin.Dict.samePairs Builtin.Dict.showsAll
  rw [if_neg (show ¬ (a == sysModules) = true by rw [ha]; exact Bool.false_ne_true), if_neg (show ¬ (b == sysModules) = true by rw [hb]; exact Bool.false_ne_true)]
  refine wpAny_bind (wpAny_pure (wpAny_bind (wpAny_pure ?_)))
  refine wpAny_bind (wpAny_dictEntries hoa hda ?_)
  dsimp only
  refine wpAny_bind (wpAny_dictEntries hob hdb ?_)
  rw [if_neg (by simp; omega)]
  refine wpAny_bind (wpAny_dictEpoch hoa hda ?_)
  refine wpAny_bind ?_
  rw [Std.Legacy.Range.forIn_eq_forIn_range']
  simp only [Std.Legacy.Range.size, Nat.sub_zero, Nat.add_sub_cancel, Nat.div_one]
  refine wpAny_forIn_list _
    (fun rest q s' => s' = s ∧ q = (none, ()) ∧ ∃ i, rest = List.range' i (es.size - i) ∧ i ≤ es.size)
    _ ?_ ?_ _ _ ⟨rfl, rfl, 0, by simp, Nat.zero_le _⟩
  · rintro x rest q s' ⟨rfl, rfl, i, hr, hi⟩
    have hlt : i < es.size := by
      rcases Nat.lt_or_ge i es.size with h | h
      · exact h
      · rw [Nat.sub_eq_zero_of_le h] at hr; simp at hr
    obtain ⟨rfl, hrest⟩ : x = i ∧ rest = List.range' (i + 1) (es.size - (i + 1)) := by
      have e : es.size - i = (es.size - (i + 1)) + 1 := by omega
      rw [e, List.range'_succ] at hr
      injection hr with h1 h2
      exact ⟨h1, h2⟩
    refine wpAny_bind (wpAny_dictEntries hoa hda ?_)
    have hlt' : x < xa.length := by omega
    have hlt2 : x < xb.length := by omega
    have hax : xa[x]? = some xa[x] := List.getElem?_eq_getElem hlt'
    have hbx : xb[x]? = some xb[x] := List.getElem?_eq_getElem hlt2
    have hkx : xa[x].1 = xb[x].1 := by
      have := congrArg (fun l => l[x]?) hk
      simp only [List.getElem?_map, hax, hbx, Option.map_some] at this
      exact Option.some.inj this
    rw [entry_at hea x, hax]
    show wpAny _ _ (holding [Value.ref xa[x].2.1, xa[x].2.2] _ >>= _) _ _ _
    refine wpAny_bind (wpAny_holding (wpAny_bind (wpAny_dictFind_heap hu (hia _ (List.getElem_mem hlt')) hob hdb heb hib hnb ?_ ?_)))
    · intro hno
      exact absurd hbx (by rw [show xb[x] = (xb[x].1, xb[x].2) from rfl, ← hkx]; exact hno x xb[x].2)
    · intro j p hj
      have hjx : j = x := by
        have e1 : (xb.map (·.1))[j]? = some xa[x].1 := by rw [List.getElem?_map, hj]; rfl
        have e2 : (xb.map (·.1))[x]? = some xa[x].1 := by rw [List.getElem?_map, hbx, hkx]; rfl
        have hj' : j < (xb.map (·.1)).length := by
          rcases Nat.lt_or_ge j (xb.map (·.1)).length with q | q
          · exact q
          · rw [List.getElem?_eq_none q] at e1; cases e1
        have hx' : x < (xb.map (·.1)).length := by simpa using hlt2
        exact (List.getElem?_inj hj' hnb).mp (e1.trans e2.symm)
      subst hjx
      refine wpAny_bind (wpAny_dictEntries hob hdb ?_)
      rw [entry_at heb j, hbx]
      refine wpAny_holding (hv j _ _ hax hbx prog w _ _ ?_)
      show wpAny _ _ (if (!true) = true then _ else _) _ _ _
      rw [if_neg (by decide)]
      refine wpAny_bind (wpAny_dictEpoch hoa hda ?_)
      rw [if_neg (by simp)]
      exact wpAny_pure ⟨rfl, rfl, j + 1, hrest, hlt⟩
  · rintro q s' ⟨rfl, rfl, i, hr, hi⟩
    exact wpAny_pure h
theorem neH {a b : Addr} {xa xb : List (K × Addr × Value)} {Q : Value → Shared → Prop} (ha : (a == sysModules) = false) (hb : (b == sysModules) = false)
    (da : s.heap.DictOfH knd a xa) (db : s.heap.DictOfH knd b xb) (hA : A.units < cLine) (hu : knd.room A.in1) (hk : xa.map (·.1) = xb.map (·.1)) (hv : ∀ (j : Nat) x y, xa[j]? = some x → xb[j]? = some y → SeqAt.EqAt A.in1 s x.2.2 y.2.2 true) (h : Q (.bool false) s) :
    wpAny (model prog w) A (compareOp .NotEq (.ref a) (.ref b)) Q E s := by
  refine wpAny_richCompare_same_room (op := .NotEq) da.typeIs db.typeIs PySem.F.slot_dict_ne (wpAny_call_entry PySem.F.slot_dict_ne da.typeIs PySem.F.entry_dict_ne ?_ (PySem.F.args_dict_ne_2 _ _)) hA
  show wpAny _ _ (Builtin.Dict.dictSlotArgs "__ne__" ⟨[.ref a, .ref b], []⟩ >>= _) _ _ s
  refine wpAny_bind ?_
  unfold Builtin.Dict.dictSlotArgs
  refine wpAny_bind (wpAny_notOrdered_dict da.typeIs ?_)
  show wpAny _ _ (pure (Value.ref a, Value.ref b)) _ _ s
  refine wpAny_pure ?_
  refine wpAny_bind (wpAny_isInstance (T := "dict") db.typeIs PySem.F.sub_dict_dict ?_)
  simp only [Bool.not_true, Bool.false_eq_true, if_false]
  refine wpAny_bind (wpAny_pure (wpAny_bind (wpAny_pure ?_)))
  refine wpAny_bind (sameH ha hb da db hu hk hv ?_)
  refine wpAny_pure ⟨_, rfl, ?_, ?_⟩
  · exact fun x => nomatch x
  · simpa using h
end
section
variable {c : Cx} {σ : Loc} {H K : Store} {Q : PV → Store → Prop} {mg mb : Str → Option Value} {k : Nat} {prog : Program}
theorem DR.at {α : Type} {h : Heap} {H : Store} {xs : List (α × Value)} {ks : List (α × PV)} (r : DR h H xs ks) : xs.map (·.1) = ks.map (·.1) ∧ ∀ (j : Nat) x, xs[j]? = some x → ∃ p, ks[j]? = some p ∧ R h H x.2 p.2 := by
  induction r with
  | nil => exact ⟨rfl, fun j x e => by simp at e⟩
  | cons a _ ih =>
    refine ⟨by simp [ih.1], fun j x e => ?_⟩
    cases j with
    | zero => simp at e; subst e; exact ⟨_, rfl, a⟩
    | succ j => simpa using ih.2 j x (by simpa using e)
open Classical in
theorem c_tne {a b : Addr} {kvs : List (List Key × PV)} (G : Gl prog c.B mg mb) (rm : Rm k c.A) (ea : H a = some (.tdct kvs)) (eb : H b = some (.tdct kvs)) (ok : ∀ e ∈ kvs, e.2.ok = true ∧ e.2.dep ≤ 50) (q : Q (.bool false) H) :
    O2 c σ H (.ref a) (.ref b) (compareOp .NotEq) Q := fun s va vb F ra rb => by
  cases ra; cases rb
  obtain ⟨xs, hx, r, hn, _⟩ := F.tdct ea
  obtain ⟨ys, hy, r', hn', _⟩ := F.tdct eb
  obtain ⟨k1, g1⟩ := r.at
  obtain ⟨k2, g2⟩ := r'.at
  refine neH (F.modules G ea) (F.modules G eb) hx hy (by have := rm.units; omega) (by have := rm.units; show c.A.units + 1 < cLine; omega) ?_ ?_ (fin0 F (.bool _) q)
  · have : xs.map (·.1) = (xs.map fun x => (x.1, x.2.2)).map (·.1) := by rw [List.map_map]; rfl
    rw [this, k1, ← k2, List.map_map]; rfl
  · intro j x y hxj hyj
    obtain ⟨p, hp, rp⟩ := g1 j (x.1, x.2.2) (by rw [List.getElem?_map, hxj]; rfl)
    obtain ⟨p', hp', rp'⟩ := g2 j (y.1, y.2.2) (by rw [List.getElem?_map, hyj]; rfl)
    obtain rfl : p = p' := Option.some.inj (hp.symm.trans hp')
    obtain ⟨o1, o2⟩ := ok p (List.mem_of_getElem? hp)
    have := eqAt_R p.2.dep p.2 p.2 c.A.in1 s H _ _ (Nat.le_refl _) rp rp' o1 o1 (by have := rm.units; simp; omega)
    simpa using this
end
end Mine

open PySem PySem.W PyProof.Rows PySem.Calls
set_option Elab.async false
set_option maxRecDepth 100000
set_option maxHeartbeats 8000000
set_option linter.unusedVariables false
set_option linter.unusedSectionVars false
namespace Mine
theorem intsRL {h : Heap} {H : Store} : ∀ {us : List Value}, (∀ v ∈ us, ∃ (n : Int) (t : Tok), v = .int n t) → ∃ cs : List Int, RL h H us (pvs cs) ∧ cs.length = us.length
  | [], _ => ⟨[], .nil, rfl⟩
  | v :: us, hv => by
    obtain ⟨n, t, rfl⟩ := hv v List.mem_cons_self
    obtain ⟨cs, r, l⟩ := intsRL (us := us) fun v h => hv v (List.mem_cons_of_mem _ h)
    exact ⟨n :: cs, .cons (.int n t) r, by simp [l]⟩
theorem intsAre_mem {vs : List Value} {ns : List Int} (h : IntsAre vs ns) : ∀ v ∈ vs, ∃ (n : Int) (t : Tok), v = .int n t := by
  induction h with
  | nil => intro v hv; cases hv
  | cons n t _ ih =>
    intro v hv
    rcases List.mem_cons.mp hv with rfl | hv
    · exact ⟨n, t, rfl⟩
    · exact ih v hv
theorem pick_len (items : Array Value) : (PySem.slicePick items none (some 24) none).toList.length ≤ 24 := by
  unfold PySem.slicePick
  rw [List.toList_toArray]
  refine Nat.le_trans (List.length_filterMap_le _ _) ?_
  unfold sliceRange
  rw [List.length_map, List.length_range]
  show Int.toNat (if (1 : Int) > 0 then (if (0 : Int) < max 0 (min (if (24 : Int) < 0 then 24 + (items.size : Int) else 24) items.size) then (max 0 (min (if (24 : Int) < 0 then 24 + (items.size : Int) else 24) items.size) - 0 + 1 - 1) / 1 else 0) else _) ≤ 24
  rw [if_pos (show (1 : Int) > 0 by decide), show (if (24 : Int) < 0 then 24 + (items.size : Int) else 24) = 24 from if_neg (by decide)]
  split
  · rw [Int.ediv_one]; omega
  · exact Nat.zero_le _
section
variable {c : Cx} {σ : Loc} {H K : Store} {Q : PV → Store → Prop} {Qn : Loc → Store → Prop} {Qr : PV → Store → Prop} {mg mb : Str → Option Value} {k : Nat}
theorem e_cutb {value u : Expr} {p pos : Pos} {l : Addr} {vs : List Value} {ns : List Int} (hl : c.B.IsList l vs.toArray) (hi : IntsAre vs ns) (sz : vs.length ≤ 1000)
    (h : EvO c (eval value c.env) σ H fun o H₁ => o = .ref l ∧ EvO c (eval u c.env) σ H₁ fun i H₂ => i = .int 24 ∧ ∀ D cs, H₂ D = none → cs.length ≤ 24 → Q (.ref D) (upd H₂ D (.lst (pvs cs))))
    (ht : ∀ o r, letTemporaryGo value o r = pure () := by intro _ _; rfl) :
    EvO c (eval (.Subscript value (.Slice none (some u) none p) pos) c.env) σ H Q :=
  fun s F => Subscript_Slice (h.use F fun vo o H₁ s₁ e₁ k₁ F₁ r₁ q₁ => wpAny_Slice (wpAny_pure (q₁.2.use F₁ fun vi i H₂ s₂ e₂ k₂ F₂ r₂ q₂ => wpAny_pure (by
    obtain ⟨rfl, _⟩ := q₁
    obtain ⟨rfl, q⟩ := q₂
    cases r₁
    cases r₂ with
    | int _ t =>
    obtain ⟨F₃, k₃⟩ := F₂.pushAny (s := s₂) { cls := .type "slice", data := .fields #[.none, .int 24 t, .none] }
    have hl3 : (s₂.heap.push { cls := .type "slice", data := .fields #[.none, .int 24 t, .none] }).IsList l vs.toArray := hl.at fun o e => F₃.base _ _ e
    have hT : ({ s₂ with heap := s₂.heap.push { cls := .type "slice", data := .fields #[.none, .int 24 t, .none] } } : Shared).TypeIs (.ref l) "list" := hl3.typeIs
    refine ⟨"list", _, slot_list_getitem.lookup, hT, wpAny_getItem_list_slice hl3 (Heap.IsSliceOf.new ..) .none (.int 24 t) .none (by simp) ?_ (by rw [List.size_toArray]; exact szl (by omega))⟩
    obtain ⟨cs, rc, lc⟩ := intsRL (h := s₂.heap.push { cls := .type "slice", data := .fields #[.none, .int 24 t, .none] }) (H := H₂) (us := (PySem.slicePick vs.toArray none (some 24) none).toList) (by
      intro v hv
      unfold PySem.slicePick at hv
      rw [List.toList_toArray, List.mem_filterMap] at hv
      obtain ⟨j, _, hj⟩ := hv
      have := Array.mem_of_getElem? hj
      exact intsAre_mem hi v (by simpa using this))
    obtain ⟨F₄, k₄⟩ := F₃.lstNew (s := { s₂ with heap := s₂.heap.push { cls := .type "slice", data := .fields #[.none, .int 24 t, .none] } }) rc
    exact ⟨_, _, (e₁.trans e₂).trans ⟨_, _, rfl⟩, ((k₁.trans k₂).trans k₃).trans k₄, F₄, .ref _, q _ cs (F₃.fresh (get?_size _)) (by rw [lc]; exact pick_len _)⟩)))) ht
theorem fn_pen {l : Addr} {vs : List Value} {ns : List Int} (G : Gl thePr c.B mg mb) (hl : c.B.IsList l vs.toArray) (hi : IntsAre vs ns) (sz : vs.length ≤ 1000) (q : ∀ p mo, H p = none → PenOK 0 mo → Q (.ref p) (upd H p mo)) : FnO c rc14 k [.ref l] H Q := by
  refine fn_tidy ?_
  intro A L a cd rm
  have hb : rc14.body = rc14.body := rfl
  conv at hb => rhs; whnf
  rw [hb]; clear hb
  repeat walk_at "mine.step"
  (focus ((with_reducible refine' e_callT (x := "list") (T := "list") G ?_ ?_ ?_ ?_ ?_ ?_ ?_ ?_ ?_ ?_); decide; exact rfl; decide; decide; rotate_left; exact rfl; exact rfl; exact rfl; exact rfl; exact rfl))
  refine args_cons' ?_
  refine e_cutb (c := fcx c rc14 A L a cd) hl hi sz ?_
  repeat walk_at "mine.step"
  refine ⟨rfl, ?_⟩
  repeat walk_at "mine.step"
  refine ⟨rfl, fun D cs hD hcs => ?_⟩
  repeat walk_at "mine.step"
  refine k_list vw_upd (szl (by rw [pvs_len]; omega)) fun l2 hl2 => ?_
  repeat walk_at "mine.step"
  refine ⟨szl (by simp), fun p hp => ?_⟩
  obtain ⟨hpl, hp1⟩ := upd_none hp
  obtain ⟨hpD, hp2⟩ := upd_none hp1
  obtain ⟨hlD, hl3⟩ := upd_none hl2
  refine ⟨.ref p, upd H p (penV cs 0 0), ?_, .same _, q p _ hp2 ⟨cs, 0, 0, rfl, hcs, Int.le_refl _, Int.le_refl _⟩⟩
  intro b mo e
  by_cases hb : b = p
  · subst hb
    rw [upd_same] at e
    obtain rfl := Option.some.inj e
    refine ⟨_, upd_same _ _ _, .lst (.cons (.ref (by rw [upd_ne (Ne.symm hpl), upd_same]) (by rw [upd_ne (Ne.symm hpl)]; exact hl3) (.refl _)) (.cons (.same _) (.cons (.same _) .nil)))⟩
  · rw [upd_ne hb] at e
    have n1 : b ≠ D := by rintro rfl; rw [hD] at e; cases e
    have n2 : b ≠ l2 := by rintro rfl; rw [hl3] at e; cases e
    exact ⟨mo, by rw [upd_ne hb, upd_ne n2, upd_ne n1]; exact e, .refl _⟩
end
end Mine

open PySem PySem.W PyProof.Rows PySem.Calls
set_option Elab.async false
set_option maxRecDepth 100000
set_option maxHeartbeats 8000000
set_option linter.unusedVariables false
set_option linter.unusedSectionVars false
namespace Mine
def e0 : Heap := { objs := #[] }
theorem e0_get (a : Addr) : e0.get? a = none := by
  unfold e0 Heap.get?
  simp
def topCx (prog : Program) (w : World) (A : Around) (B : Heap) : Cx := { prog := prog, w := w, A := A, B := B, g := e0, D := fun _ => False, env := envOfC "" default 0 0 .none }
section
variable {prog : Program} {w : World} {A : Around} {k : Nat}
theorem enter_fn {d : DefRec} {s₁ : Shared} {f l : Addr} {o : Obj} {pm cd doc : Value} {Q : PV → Store → Prop} {RR : Result → Shared → Prop} (ok : FnOK d 1) (rm : Rm (k + 1) A) (hlim : s₁.heap.NoLimit) (ho : s₁.heap.get? f = some o)
    (hd : o.data = .func (docDef d.name d.params d.body d.scope pm cd doc)) (hcd : s₁.heap.CodeRec cd d.name)
    (G : FnO (topCx prog w A s₁.heap) d k [.ref l] (fun _ => none) Q)
    (fin : ∀ v p H' s' L m, Same s₁ s' → R s'.heap H' v p → Q p H' → Fr s₁.heap L s'.heap m → RR (.ok (.ret v)) s') :
    codeAny (model prog w) A (.call (.ref f) ⟨[.ref l], []⟩) RR s₁ := by
  have cellHas : ∀ {n : Nat} {x : Str}, d.scope.names.lookup x = some .cell → ((cellsFrom n d.scope.names []).lookup x).isSome = true := fun e => cellsFrom_has (.inl (mem_of_lookup e))
  refine call_cells_ret (by obtain ⟨_, h2, _⟩ := rm; have : (900 : Nat) < recursionLimit := by decide
                            omega) ho hd hlim hcd (ok.bind _ _ _ [.ref l] rfl) ?_ (fun h₁ tk F₁ X => ?_) ok.co ok.gen ok.kind
  · rintro ⟨x, v⟩ hx
    rcases ok.kinds x (List.of_mem_zip hx).1 with q | q
    · exact .inl q
    · exact .inr ⟨q, cellHas q⟩
  · have ka := F₁.keep
    have BA := bindArgs_ok (h := h₁) (H := fun _ => none) (kindOf := (envOfC d.name d.scope s₁.heap.objs.size f cd).kindOf) (vs := [.ref l]) (ps := [.ref l]) (m := fun _ => none) (cm := fun _ => none) (σ := fun _ => none) ok.len (.cons (.ref l) .nil) ok.kinds (fun x p e => by cases e)
    have F₂ : Act (fcx (topCx prog w A s₁.heap) d (A.deeper (envOfC d.name d.scope s₁.heap.objs.size f cd)) s₁.heap.objs.size f cd) (argL (d.params.args.map (·.arg)) [.ref l] fun _ => none) (fun _ => none) h₁ := by
      refine ⟨fun b o e => ka b o e, (fun b o e n => by rw [show (fcx (topCx prog w A s₁.heap) d (A.deeper (envOfC d.name d.scope s₁.heap.objs.size f cd)) s₁.heap.objs.size f cd).g.get? b = none from e0_get b] at e; cases e), Nat.le_refl _, e0_get _, ⟨_, F₁.ns, fun x p e l => (BA x p e).1 l⟩, ?_, ?_, ?_, ?_, ok.kind, ?_⟩
      · intro x p e l
        obtain ⟨v, hv, r'⟩ := (BA x p e).2 l
        rcases l with l | l
        · have := cellHas (n := s₁.heap.objs.size + 1) l
          cases ea : (cellsFrom (s₁.heap.objs.size + 1) d.scope.names []).lookup x with
          | none => rw [ea] at this; cases this
          | some a => exact ⟨a, v, ea, hv ▸ X.cell x a ea, r'⟩
        · exfalso
          have hx : x ∈ d.params.args.map (·.arg) := by
            have len := ok.len
            clear BA r' hv l
            revert e len
            generalize d.params.args.map (·.arg) = ns
            intro e len
            cases ns with
            | nil => simp at len
            | cons n ns =>
              have e : argL ns [] (bnd (fun _ => none) n (.ref _)) x = some p := e
              have e2 : ∀ (ns : List Str) (σ : Loc), argL ns [] σ = σ := by intro ns σ; cases ns <;> rfl
              rw [e2] at e
              simp only [bnd] at e
              split at e
              · rename_i q; rw [q]; exact List.mem_cons_self
              · cases e
          have l' : d.scope.names.lookup x = some .free := l
          rcases ok.kinds x hx with q | q <;> (rw [l'] at q; cases q)
      · intro x a ha
        have lt : s₁.heap.objs.size < a := X.above x a (mem_of_lookup ha)
        exact ⟨⟨_, X.cell x a ha⟩, Heap.get?_none_of_le (Nat.le_of_lt lt), e0_get _⟩
      · intro x y a hx hy
        exact name_of_addr X.apart (mem_of_lookup hx) (mem_of_lookup hy)
      · intro x hx
        have := cellHas (n := s₁.heap.objs.size + 1) hx
        show ∃ a, (cellsFrom (s₁.heap.objs.size + 1) d.scope.names []).lookup x = some a
        cases ea : (cellsFrom (s₁.heap.objs.size + 1) d.scope.names []).lookup x with
        | none => rw [ea] at this; cases this
        | some a => exact ⟨a, rfl⟩
      · intro a mo e; cases e
    refine SO.use (G (A.deeper (envOfC d.name d.scope s₁.heap.objs.size f cd)) s₁.heap.objs.size f cd rm.deeper) (s := { s₁ with heap := h₁, toks := tk }) F₂ (fun σ' H' s' e k F' q => ?_) fun v p σ' H' s' e k F' r' q => ?_
    · obtain ⟨m, hm, _⟩ := F'.loc
      exact fin .none .none H' s' _ m (Same.trans ⟨_, _, rfl⟩ e) .none q ⟨hm, F'.base, Nat.le_refl _⟩
    · obtain ⟨m, hm, _⟩ := F'.loc
      exact fin v p H' s' _ m (Same.trans ⟨_, _, rfl⟩ e) r' q ⟨hm, F'.base, Nat.le_refl _⟩
end
end Mine

open PySem PySem.W PyProof.Rows PySem.Calls
set_option Elab.async false
set_option maxRecDepth 100000
set_option linter.unusedVariables false
set_option linter.unusedSectionVars false
namespace Mine
theorem len_split {α : Type} (p : α → Bool) (l : List α) : (l.filter p).length + (l.filter fun x => !p x).length = l.length := by
  induction l with
  | nil => rfl
  | cons a l ih => cases h : p a <;> simp [h] <;> omega
theorem sub_filter : ∀ {gs L : List Int}, gs.Sublist L → L.Nodup → L.filter (fun x => decide (x ∈ gs)) = gs := by
  intro gs L h
  induction h with
  | slnil => intro _; rfl
  | @cons l₁ l₂ a h ih =>
    intro nd
    rw [List.nodup_cons] at nd
    have : a ∉ l₁ := fun q => nd.1 (h.subset q)
    rw [List.filter_cons_of_neg (by simpa using this)]
    exact ih nd.2
  | @cons_cons l₁ l₂ a h ih =>
    intro nd
    rw [List.nodup_cons] at nd
    rw [List.filter_cons_of_pos (by simp)]
    congr 1
    rw [← ih nd.2]
    refine List.filter_congr fun x hx => ?_
    have hxa : x ≠ a := by rintro rfl; exact nd.1 hx
    rw [ih nd.2]
    simp [hxa]
theorem rngI_lt (n : Nat) : (rngI n).Pairwise (· < ·) := by
  unfold rngI
  rw [List.pairwise_map]
  exact List.pairwise_lt_range.imp fun h => by omega
theorem rngI_nodup (n : Nat) : (rngI n).Nodup := (rngI_lt n).imp fun h => by omega
theorem rngI_mem {n : Nat} {x : Int} : x ∈ rngI n ↔ 0 ≤ x ∧ x < n := by
  unfold rngI
  rw [List.mem_map]
  constructor
  · rintro ⟨i, hi, rfl⟩; simp at hi; omega
  · intro h; exact ⟨x.toNat, by simp; omega, by omega⟩
theorem rngI_filter {n : Nat} {s : Nat} (h : s ≤ n) : (rngI n).filter (fun x => decide (x < (s : Int))) = rngI s := by
  induction n with
  | zero => obtain rfl : s = 0 := by omega
            rfl
  | succ n ih =>
    rw [rngI_succ, List.filter_append]
    rcases Nat.lt_or_ge n s with q | q
    · obtain rfl : s = n + 1 := by omega
      rw [rngI_succ]
      congr 1
      · exact List.filter_eq_self.mpr fun x hx => by have := rngI_mem.mp hx; simp; omega
      · simp
        omega
    · rw [ih q]
      have : ¬ ((n : Int) < s) := by omega
      simp [this]
section
variable {n : Nat} {gs as : List Int} {mk : List (Option Int)}
theorem addedOf_mem {mk : List (Option Int)} {t : Nat} : (t : Int) ∈ addedOf mk ↔ mk[t]? = some none := by
  unfold addedOf
  simp only [List.mem_map, List.mem_filter, List.mem_range, decide_eq_true_eq]
  constructor
  · rintro ⟨i, ⟨h1, h2⟩, h3⟩
    obtain rfl : i = t := by omega
    exact h2
  · intro h
    refine ⟨t, ⟨?_, h⟩, rfl⟩
    rcases Nat.lt_or_ge t mk.length with q | q
    · exact q
    · rw [List.getElem?_eq_none q] at h; cases h
theorem cnt_take {mk : List (Option Int)} : ∀ {t : Nat}, t ≤ mk.length → cntOut (addedOf mk) t = ((mk.take t).filterMap id).length := by
  intro t
  induction t with
  | zero => intro _; simp [cntOut]
  | succ t ih =>
    intro h
    have hg : mk[t]? = some mk[t] := List.getElem?_eq_getElem (by omega)
    rw [cntOut_succ, ih (by omega), take_succ' hg, List.filterMap_append, List.length_append]
    cases e : mk[t] with
    | none => rw [if_pos (addedOf_mem.mpr (by rw [hg, e]))]; rfl
    | some s => rw [if_neg (fun q => by have := addedOf_mem.mp q; rw [hg, e] at this; cases this)]; rfl
theorem Chg.split (ch : Chg n gs as mk) {t : Nat} {s : Int} (h : mk[t]? = some (some s)) :
    ∃ k : Nat, s = k ∧ k < n ∧ s ∉ gs ∧ cntOut as t = ((rngI k).filter fun x => decide (x ∉ gs)).length ∧ ((rngI k).filter fun x => decide (x ∈ gs)) = gs.filter fun x => decide (x < s) := by
  have ht : t < mk.length := by
    rcases Nat.lt_or_ge t mk.length with q | q
    · exact q
    · rw [List.getElem?_eq_none q] at h; cases h
  have hsplit : mk.filterMap id = (mk.take t).filterMap id ++ s :: (mk.drop (t + 1)).filterMap id := by
    have e1 : mk = mk.take t ++ (some s :: mk.drop (t + 1)) := by
      have hd : mk.drop t = mk[t] :: mk.drop (t + 1) := List.drop_eq_getElem_cons ht
      have hs : mk[t] = some s := by rw [List.getElem?_eq_getElem ht] at h; exact Option.some.inj h
      rw [← hs, ← hd, List.take_append_drop]
    conv => lhs; rw [e1]
    rw [List.filterMap_append]; rfl
  have hkept : ((rngI n).filter fun x => decide (x ∉ gs)) = (mk.take t).filterMap id ++ s :: (mk.drop (t + 1)).filterMap id := ch.made ▸ hsplit
  have hsm : s ∈ (rngI n).filter fun x => decide (x ∉ gs) := by rw [hkept]; simp
  obtain ⟨hs1, hs2⟩ := List.mem_filter.mp hsm
  obtain ⟨s0, sn⟩ := rngI_mem.mp hs1
  obtain ⟨k, rfl⟩ := Int.eq_ofNat_of_zero_le s0
  have hkn : k < n := by omega
  have hp : ((rngI n).filter fun x => decide (x ∉ gs)).Pairwise (· < ·) := (rngI_lt n).filter _
  have hlt : ((rngI n).filter fun x => decide (x ∉ gs)).filter (fun x => decide (x < (k : Int))) = (mk.take t).filterMap id := by
    rw [hkept] at hp ⊢
    obtain ⟨p1, p2, p3⟩ := List.pairwise_append.mp hp
    rw [List.filter_append, List.filter_eq_self.mpr (fun x hx => by have := p3 x hx k (by simp); simpa using this), List.filter_cons_of_neg (by simp)]
    rw [List.filter_eq_nil_iff.mpr, List.append_nil]
    intro x hx
    have := (List.pairwise_cons.mp p2).1 x hx
    simp; omega
  refine ⟨k, rfl, hkn, by simpa using hs2, ?_, ?_⟩
  · rw [ch.added, cnt_take (by omega), ← hlt, List.filter_filter, ← rngI_filter (Nat.le_of_lt hkn), List.filter_filter]
    congr 1
    refine List.filter_congr fun x _ => ?_
    simp [Bool.and_comm]
  · have := sub_filter ch.gone (rngI_nodup n)
    conv => rhs; rw [← this]
    rw [List.filter_filter, ← rngI_filter (Nat.le_of_lt hkn), List.filter_filter]
    refine List.filter_congr fun x _ => ?_
    have hmem : (x ∈ (rngI n).filter fun y => decide (y ∈ gs)) ↔ x ∈ gs := by rw [this]
    simp [Bool.and_comm]
theorem neg_filter (l : List Int) (gs : List Int) : (l.filter fun x => decide (x ∉ gs)).length + (l.filter fun x => decide (x ∈ gs)).length = l.length := by
  have := len_split (fun x => decide (x ∈ gs)) l
  have e : (l.filter fun x => !decide (x ∈ gs)) = l.filter fun x => decide (x ∉ gs) := List.filter_congr fun x _ => by simp
  rw [e] at this; omega
theorem Chg.mi (ch : Chg n gs as mk) {t : Nat} {s : Int} (h : mk[t]? = some (some s)) : MI s gs as t := by
  obtain ⟨k, rfl, hk, hs, e1, e2⟩ := ch.split h
  refine ⟨?_, ?_⟩
  · rw [ch.added]; intro q; rw [addedOf_mem, h] at q; cases q
  · rw [e1, ← e2]
    have := neg_filter (rngI k) gs
    rw [rngI_sub] at this
    omega
theorem cntOut_rng (gs : List Int) (k : Nat) : cntOut gs k = ((rngI k).filter fun x => decide (x ∉ gs)).length := by
  unfold cntOut rngI
  rw [List.filter_map, List.length_map]; rfl
theorem Chg.mi' (ch : Chg n gs as mk) {t : Nat} {s : Int} (h : mk[t]? = some (some s)) : ∃ k : Nat, s = k ∧ MI t as gs k := by
  obtain ⟨k, rfl, hk, hs, e1, e2⟩ := ch.split h
  have ht : t < mk.length := by
    rcases Nat.lt_or_ge t mk.length with q | q
    · exact q
    · rw [List.getElem?_eq_none q] at h; cases h
  refine ⟨k, rfl, hs, ?_⟩
  rw [cntOut_rng, ← e1, cntOut_rng as t]
  have h1 := neg_filter (rngI t) as
  rw [rngI_sub] at h1
  have h2 : ((rngI t).filter fun x => decide (x ∈ as)).length = (as.filter fun x => decide (x < (t : Int))).length := by
    have sub : as.Sublist (rngI mk.length) := by rw [ch.added]; unfold addedOf rngI; exact (List.filter_sublist).map _
    have := sub_filter sub (rngI_nodup _)
    conv => rhs; rw [← this]
    rw [List.filter_filter, ← rngI_filter (Nat.le_of_lt ht), List.filter_filter]
    congr 1
    refine List.filter_congr fun x _ => ?_
    simp [Bool.and_comm]
  omega
end
end Mine

open PySem PySem.W PyProof.Rows PySem.Calls
set_option Elab.async false
set_option maxRecDepth 100000
set_option linter.unusedVariables false
set_option linter.unusedSectionVars false
namespace Mine
def gRD (pre : List PV) (s : Int) : RD := ⟨pre, .int s, "gone", intP s, .none⟩
def aRD (pre : List PV) (s : Int) : RD := ⟨pre, .int s, "added", .none, nameP s⟩
def gRD' (pre : List PV) (s : Int) : RD := ⟨pre, .int s, "added", .none, intP s⟩
def aRD' (pre : List PV) (s : Int) : RD := ⟨pre, .int s, "gone", nameP s, .none⟩
def pA : List PV := [.str "A"]
def pH (h : Int) : List PV := [.str "A", .int h, .str "B"]
def pK (h : Int) : List PV := [.str "A", .int h]
def kA : List Key := [.s "A"]
def kH (h : Int) : List Key := [.s "A", .i h, .s "B"]
def ent (key : List Key) (gs as : List Int) : Mi := if gs ++ as = [] then [] else [(key, (gs, as))]
def mvI (m : Mi) : Mv := m.map fun e => (e.1, (pvs e.2.1, pvs e.2.2))
theorem mvD_mvI (m : Mi) : mvD (mvI m) = miD m := by unfold mvD mvI miD; rw [List.map_map]; rfl

def blk (m : Mi) (key : List Key) (G A : List Int) : Mv := mvI (m ++ ent key G A)
theorem mvEns_blk {m : Mi} {key : List Key} (h : key ∉ m.map (·.1)) (G A : List Int) : mvEns (blk m key G A) key = mvI (m ++ [(key, (G, A))]) := by
  have hm : ((mvI m).any fun e => decide (e.1 = key)) = false := by
    rw [List.any_eq_false]
    intro x hx
    unfold mvI at hx
    obtain ⟨e, he, rfl⟩ := List.mem_map.mp hx
    simp only [decide_eq_true_eq]
    rintro rfl; exact h (List.mem_map_of_mem he)
  unfold mvEns blk ent
  by_cases hg : G ++ A = []
  · rw [if_pos hg, List.append_nil]
    simp only [hm, Bool.false_eq_true, if_false]
    obtain ⟨rfl, rfl⟩ := List.append_eq_nil_iff.mp hg
    simp [mvI, pvs]
  · rw [if_neg hg]
    have : ((mvI (m ++ [(key, (G, A))])).any fun e => decide (e.1 = key)) = true := by
      rw [List.any_eq_true]
      exact ⟨(key, (pvs G, pvs A)), by simp [mvI], by simp⟩
    rw [if_pos this]
theorem mvPush_last {m : Mi} {key : List Key} (h : key ∉ m.map (·.1)) (G A : List Int) (b : Bool) (s : Int) : mvPush (mvI (m ++ [(key, (G, A))])) key b (.int s) = blk m key (if b then G ++ [s] else G) (if b then A else A ++ [s]) := by
  have hne : (if b then G ++ [s] else G) ++ (if b then A else A ++ [s]) ≠ [] := by cases b <;> simp
  unfold blk ent
  rw [if_neg hne]
  unfold mvPush mvI
  rw [List.map_append, List.map_append, List.map_append]
  congr 1
  · rw [List.map_map]
    refine List.map_congr_left fun e he => ?_
    have : e.1 ≠ key := by rintro rfl; exact h (List.mem_map_of_mem he)
    simp [this]
  · cases b <;> simp [pvs]
theorem mvRow_blk {m : Mi} {key : List Key} (h : key ∉ m.map (·.1)) (G A : List Int) {r : RD} {s : Int} (hl : r.last = .int s) (hk : r.pre.map kOf = key) (hw : r.way = "gone" ∨ r.way = "added") :
    mvRow (blk m key G A) r = blk m key (if decide (r.way = ("gone" : Str)) then G ++ [s] else G) (if decide (r.way = ("gone" : Str)) then A else A ++ [s]) := by
  have hc : r.counts = true := by
    unfold RD.counts; rw [hl]
    rw [show isInt (PV.int s) = true from rfl, Bool.true_and]
    rcases hw with e | e <;> (rw [e]; decide)
  unfold mvRow
  rw [hc, hk, hl, mvEns_blk h, if_pos rfl, mvPush_last h]
theorem fold_g {m : Mi} {key : List Key} (h : key ∉ m.map (·.1)) {f : Int → RD} (hl : ∀ s, (f s).last = .int s) (hk : ∀ s, (f s).pre.map kOf = key) (hw : ∀ s, (f s).way = "gone") : ∀ (l : List Int) (G A : List Int), (l.map f).foldl mvRow (blk m key G A) = blk m key (G ++ l) A
  | [], G, A => by simp
  | s :: l, G, A => by
    rw [List.map_cons, List.foldl_cons, mvRow_blk h G A (hl s) (hk s) (.inl (hw s)), hw s]
    simp only [decide_true, if_true]
    rw [fold_g h hl hk hw l]; simp
theorem fold_a {m : Mi} {key : List Key} (h : key ∉ m.map (·.1)) {f : Int → RD} (hl : ∀ s, (f s).last = .int s) (hk : ∀ s, (f s).pre.map kOf = key) (hw : ∀ s, (f s).way = "added") : ∀ (l : List Int) (G A : List Int), (l.map f).foldl mvRow (blk m key G A) = blk m key G (A ++ l)
  | [], G, A => by simp
  | s :: l, G, A => by
    rw [List.map_cons, List.foldl_cons, mvRow_blk h G A (hl s) (hk s) (.inr (hw s)), hw s]
    rw [show decide (("added" : Str) = ("gone" : Str)) = false by decide]
    simp only [Bool.false_eq_true, if_false]
    rw [fold_a h hl hk hw l]; simp
theorem blk_nil (m : Mi) (key : List Key) : blk m key [] [] = mvI m := by simp [blk, ent]
theorem mvRow_skip {m : Mv} {r : RD} (h : r.counts = false) : mvRow m r = m := by unfold mvRow; rw [h]; rfl

-- looking up
theorem look_ent1 {m : Mi} {key : List Key} {gs as : List Int} (h : key ∉ m.map (·.1)) : look (ent key gs as ++ m) key = (gs, as) := by
  unfold ent
  by_cases hg : gs ++ as = []
  · rw [if_pos hg]
    obtain ⟨rfl, rfl⟩ := List.append_eq_nil_iff.mp hg
    unfold look
    rw [List.nil_append, List.find?_eq_none.mpr]
    · rfl
    · intro x hx; simp only [decide_eq_true_eq]; rintro rfl; exact h (List.mem_map_of_mem hx)
  · rw [if_neg hg]; simp [look]
theorem look_skip {m : Mi} {key k2 : List Key} {gs as : List Int} (h : key ≠ k2) : look (ent key gs as ++ m) k2 = look m k2 := by
  unfold ent
  by_cases hg : gs ++ as = []
  · rw [if_pos hg]; rfl
  · rw [if_neg hg]; simp [look, h]
theorem look_nil (k : List Key) : look [] k = ([], []) := rfl

-- the new path, from behind
def Elt (m : Mi) (ks : List Key) (p q : PV) : Prop := (∀ n, p = .int n → ∃ t : Nat, MI n (look m ks).1 (look m ks).2 t ∧ q = .int t) ∧ (isInt p = false → q = p)
theorem NP_nil (m : Mi) : NP m [] [] := ⟨rfl, fun i p h => by simp at h⟩
theorem NP_snoc {m : Mi} {ps qs : List PV} {p q : PV} (h : NP m ps qs) (e : Elt m (ps.map kOf) p q) : NP m (ps ++ [p]) (qs ++ [q]) := by
  refine ⟨by simp [h.1], fun i x hx => ?_⟩
  rcases Nat.lt_or_ge i ps.length with hi | hi
  · rw [List.getElem?_append_left hi] at hx
    rw [List.take_append_of_le_length (Nat.le_of_lt hi), List.getElem?_append_left (by rw [h.1]; exact hi)]
    exact h.2 i x hx
  · have hi' : i = ps.length := by
      rcases Nat.lt_or_ge i (ps.length + 1) with q | q
      · omega
      · rw [List.getElem?_eq_none (by simpa using q)] at hx; cases hx
    subst hi'
    obtain rfl : p = x := by simpa using hx
    rw [show (ps ++ [p]).take ps.length = ps by simp, show (qs ++ [q])[ps.length]? = some q by rw [← h.1]; simp]
    exact ⟨fun n hn => let ⟨t, a, b⟩ := e.1 n hn; ⟨t, a, by rw [b]⟩, fun hn => by rw [e.2 hn]⟩
theorem Elt.str (m : Mi) (ks : List Key) (x : Str) : Elt m ks (.str x) (.str x) := ⟨(fun n h => by cases h), fun _ => rfl⟩
theorem Elt.int {m : Mi} {ks : List Key} {s : Int} {t : Nat} {gs as : List Int} (h : look m ks = (gs, as)) (mi : MI s gs as t) : Elt m ks (.int s) (.int t) :=
  ⟨(fun n hn => by cases hn; exact ⟨t, (by rw [h]; exact mi), rfl⟩), fun h => by cases h⟩
theorem NP_A (m : Mi) : NP m pA pA := NP_snoc (NP_nil m) (.str _ _ _)
theorem NP_K {m : Mi} {h : Int} {t : Nat} {gs as : List Int} (l : look m kA = (gs, as)) (mi : MI h gs as t) : NP m (pK h) (pK t) := NP_snoc (NP_A m) (.int (ks := kA) l mi)
theorem NP_H {m : Mi} {h : Int} {t : Nat} {gs as : List Int} (l : look m kA = (gs, as)) (mi : MI h gs as t) : NP m (pH h) (pH t) := NP_snoc (NP_K l mi) (.str _ _ _)

-- pairs of rows
inductive TBL (m : Mi) : List RD → List RD → Prop
  | nil : TBL m [] []
  | cons {r r' : RD} {rs rs' : List RD} : TB m r r' → TBL m rs rs' → TBL m (r :: rs) (r' :: rs')
theorem TBL.append {m : Mi} {a b c d : List RD} (h : TBL m a b) (g : TBL m c d) : TBL m (a ++ c) (b ++ d) := by
  induction h with
  | nil => exact g
  | cons t _ ih => exact .cons t ih
theorem TBL.map {m : Mi} {f g : Int → RD} (h : ∀ s, TB m (f s) (g s)) (l : List Int) : TBL m (l.map f) (l.map g) := by
  induction l with
  | nil => exact .nil
  | cons s l ih => exact .cons (h s) ih
theorem TBL.len {m : Mi} {a b : List RD} (h : TBL m a b) : b.length = a.length := by
  induction h with
  | nil => rfl
  | cons _ _ ih => simp [ih]
theorem TBL.get {m : Mi} {a b : List RD} (h : TBL m a b) : ∀ (i : Nat) (r r' : RD), a[i]? = some r → b[i]? = some r' → TB m r r' := by
  induction h with
  | nil => intro i r r' e; simp at e
  | cons t _ ih =>
    intro i r r' e e'
    cases i with
    | zero => simp at e e'; subst e; subst e'; exact t
    | succ i => exact ih i r r' (by simpa using e) (by simpa using e')
theorem TB_p {m : Mi} {pre pre' : List PV} {w w' : Str} {o n : PV} (np : NP m pre pre') (hw : w ≠ "turned") (hw' : w' = backW w) (s : Int) : TB m ⟨pre, .int s, w, o, n⟩ ⟨pre', .int s, w', n, o⟩ :=
  ⟨hw', rfl, rfl, (fun h => by
    rcases h with h | h
    · exact absurd h hw
    · cases h), fun _ _ => ⟨np, rfl⟩⟩
theorem TB_g {m : Mi} {pre pre' : List PV} (np : NP m pre pre') (s : Int) : TB m (gRD pre s) (gRD' pre' s) := TB_p np (by decide) (by decide) s
theorem TB_a {m : Mi} {pre pre' : List PV} (np : NP m pre pre') (s : Int) : TB m (aRD pre s) (aRD' pre' s) := TB_p np (by decide) (by decide) s
theorem TB_g' {m : Mi} {pre pre' : List PV} (np : NP m pre pre') (s : Int) : TB m (gRD' pre s) (gRD pre' s) := TB_p np (by decide) (by decide) s
theorem TB_a' {m : Mi} {pre pre' : List PV} (np : NP m pre pre') (s : Int) : TB m (aRD' pre s) (aRD pre' s) := TB_p np (by decide) (by decide) s
/-- a row told by its whole path -/
theorem TB_w {m : Mi} {pre pre' : List PV} {l l' : PV} {w : Str} {o n : PV} (np : NP m (pre ++ [l]) (pre' ++ [l'])) (h : w = "turned" ∨ isInt l = false) : TB m ⟨pre, l, w, o, n⟩ ⟨pre', l', backW w, n, o⟩ :=
  ⟨rfl, rfl, rfl, fun _ => np, fun h1 h2 => by
    rcases h with h | h
    · exact absurd h h1
    · rw [show isInt l = true from h2] at h; cases h⟩
end Mine

open PySem PySem.W PyProof.Rows PySem.Calls
set_option Elab.async false
set_option maxRecDepth 100000
set_option linter.unusedVariables false
set_option linter.unusedSectionVars false
namespace Mine
def rG (pre : List PV) (gs as : List Int) : List RD := gs.map (gRD pre) ++ as.map (aRD pre)
def rG' (pre : List PV) (gs as : List Int) : List RD := gs.map (gRD' pre) ++ as.map (aRD' pre)
def rX (h : Int) : List RD := [⟨pK h, .str "K", "turned", intP 1, intP 2⟩, ⟨pK h, .str "L", "gone", intP 3, .none⟩]
def rX' (h : Int) : List RD := [⟨pK h, .str "K", "turned", intP 2, intP 1⟩, ⟨pK h, .str "L", "added", .none, intP 3⟩]
def rT (h s : Int) : List RD := [⟨pH h, .int s, "turned", intP 5, intP 6⟩]
def rT' (h s : Int) : List RD := [⟨pH h, .int s, "turned", intP 6, intP 5⟩]
/-- all that the law asks of its rows -/
structure Rw (rs : List RD) : Prop where
  ks : ∀ r ∈ rs, (r.pre ++ [r.last]).all isK = true ∧ r.pre.length ≤ 40
  ways : ∀ r ∈ rs, wayOK r.way
  sz : rs.length ≤ 500
  okv : ∀ r ∈ rs, r.old.ok = true ∧ r.new.ok = true ∧ r.old.dep ≤ 10 ∧ r.new.dep ≤ 10
  two : ∀ r ∈ rs, r.pre.length = 1 → r.pre = pA ∧ r.way ≠ "turned" ∧ isInt r.last = true
structure Bk (rs rs' : List RD) (m m' : Mi) : Prop where
  mv : mvs rs = mvI m
  mv' : mvs rs' = mvI m'
  tb : TBL m rs rs'
  tb' : TBL m' rs' rs
  rw : Rw rs
  rw' : Rw rs'
  sz : ∀ e ∈ m, e.2.1.length ≤ 100 ∧ e.2.2.length ≤ 100
  sz' : ∀ e ∈ m', e.2.1.length ≤ 100 ∧ e.2.2.length ≤ 100
  lc : look m [.s "C"] = ([], [])
theorem Rw.append {a b : List RD} (h : Rw a) (g : Rw b) (sz : a.length + b.length ≤ 500) : Rw (a ++ b) :=
  ⟨fun r hr => (List.mem_append.mp hr).elim (h.ks r) (g.ks r), fun r hr => (List.mem_append.mp hr).elim (h.ways r) (g.ways r), by simpa using sz,
   fun r hr => (List.mem_append.mp hr).elim (h.okv r) (g.okv r), fun r hr => (List.mem_append.mp hr).elim (h.two r) (g.two r)⟩
theorem Rw.map {f : Int → RD} {l : List Int} (sz : l.length ≤ 100) (h : ∀ s, ((f s).pre ++ [(f s).last]).all isK = true ∧ (f s).pre.length ≤ 40) (hw : ∀ s, wayOK (f s).way)
    (ho : ∀ s, (f s).old.ok = true ∧ (f s).new.ok = true ∧ (f s).old.dep ≤ 10 ∧ (f s).new.dep ≤ 10) (ht : ∀ s, (f s).pre.length = 1 → (f s).pre = pA ∧ (f s).way ≠ "turned" ∧ isInt (f s).last = true) : Rw (l.map f) := by
  refine ⟨?_, ?_, by rw [List.length_map]; omega, ?_, ?_⟩ <;> (intro r hr; obtain ⟨s, _, rfl⟩ := List.mem_map.mp hr)
  · exact h s
  · exact hw s
  · exact ho s
  · exact ht s
theorem okI (s : Int) : (intP s).ok = true ∧ (intP s).dep ≤ 10 := ⟨rfl, Nat.le_of_ble_eq_true rfl⟩
theorem okN (s : Int) : (nameP s).ok = true ∧ (nameP s).dep ≤ 10 := ⟨rfl, Nat.le_of_ble_eq_true rfl⟩
theorem ok0 : (PV.none).ok = true ∧ (PV.none).dep ≤ 10 := ⟨rfl, by decide⟩
theorem Rw.rG {pre : List PV} {gs as : List Int} (hp : pre.all isK = true) (hl : pre.length ≤ 40) (h2 : pre.length = 1 → pre = pA) (s1 : gs.length ≤ 100) (s2 : as.length ≤ 100) : Rw (rG pre gs as) ∧ Rw (rG' pre gs as) := by
  have hk : ∀ s : Int, (pre ++ [PV.int s]).all isK = true := fun s => by rw [List.all_append, hp]; rfl
  constructor
  · refine Rw.append (.map s1 (fun s => ⟨hk s, hl⟩) (fun s => .inl rfl) (fun s => ⟨(okI s).1, rfl, (okI s).2, ok0.2⟩) fun s h => ⟨h2 h, by show ("gone" : Str) ≠ "turned"; decide, rfl⟩)
      (.map s2 (fun s => ⟨hk s, hl⟩) (fun s => .inr (.inl rfl)) (fun s => ⟨rfl, (okN s).1, ok0.2, (okN s).2⟩) fun s h => ⟨h2 h, by show ("added" : Str) ≠ "turned"; decide, rfl⟩) (by simp; omega)
  · refine Rw.append (.map s1 (fun s => ⟨hk s, hl⟩) (fun s => .inr (.inl rfl)) (fun s => ⟨rfl, (okI s).1, ok0.2, (okI s).2⟩) fun s h => ⟨h2 h, by show ("added" : Str) ≠ "turned"; decide, rfl⟩)
      (.map s2 (fun s => ⟨hk s, hl⟩) (fun s => .inl rfl) (fun s => ⟨(okN s).1, rfl, (okN s).2, ok0.2⟩) fun s h => ⟨h2 h, by show ("gone" : Str) ≠ "turned"; decide, rfl⟩) (by simp; omega)
theorem Rw.one {r : RD} (h1 : (r.pre ++ [r.last]).all isK = true) (h2 : r.pre.length ≤ 40) (h3 : wayOK r.way) (h4 : r.old.ok = true ∧ r.new.ok = true ∧ r.old.dep ≤ 10 ∧ r.new.dep ≤ 10) (h5 : r.pre.length ≠ 1) : Rw [r] := by
  refine ⟨?_, ?_, by simp, ?_, ?_⟩ <;> (intro q hq; obtain rfl : q = r := by simpa using hq)
  · exact ⟨h1, h2⟩
  · exact h3
  · exact h4
  · intro h; exact absurd h h5
theorem Rw.rX (h : Int) : Rw (rX h) ∧ Rw (rX' h) :=
  ⟨Rw.append (a := [⟨pK h, .str "K", "turned", intP 1, intP 2⟩]) (b := [⟨pK h, .str "L", "gone", intP 3, .none⟩]) (.one rfl (by simp [pK]) (.inr (.inr rfl)) ⟨rfl, rfl, (okI 1).2, (okI 2).2⟩ (by simp [pK])) (.one rfl (by simp [pK]) (.inl rfl) ⟨rfl, rfl, (okI 3).2, ok0.2⟩ (by simp [pK])) (by simp),
   Rw.append (a := [⟨pK h, .str "K", "turned", intP 2, intP 1⟩]) (b := [⟨pK h, .str "L", "added", .none, intP 3⟩]) (.one rfl (by simp [pK]) (.inr (.inr rfl)) ⟨rfl, rfl, (okI 2).2, (okI 1).2⟩ (by simp [pK])) (.one rfl (by simp [pK]) (.inr (.inl rfl)) ⟨rfl, rfl, ok0.2, (okI 3).2⟩ (by simp [pK])) (by simp)⟩
theorem Rw.rT (h s : Int) : Rw (rT h s) ∧ Rw (rT' h s) :=
  ⟨.one rfl (by simp [pH]) (.inr (.inr rfl)) ⟨rfl, rfl, (okI 5).2, (okI 6).2⟩ (by simp [pH]), .one rfl (by simp [pH]) (.inr (.inr rfl)) ⟨rfl, rfl, (okI 6).2, (okI 5).2⟩ (by simp [pH])⟩

theorem mvs_app (a b : List RD) : mvs (a ++ b) = b.foldl mvRow (mvs a) := by unfold mvs; rw [List.foldl_append]
theorem fold_rG {m : Mi} {pre : List PV} {key : List Key} (h : key ∉ m.map (·.1)) (hk : pre.map kOf = key) (gs as : List Int) : (rG pre gs as).foldl mvRow (mvI m) = mvI (m ++ ent key gs as) := by
  unfold rG
  rw [List.foldl_append, ← blk_nil m key, fold_g h (fun _ => rfl) (fun _ => hk) (fun _ => rfl), fold_a h (fun _ => rfl) (fun _ => hk) (fun _ => rfl)]
  simp [blk]
theorem fold_rG' {m : Mi} {pre : List PV} {key : List Key} (h : key ∉ m.map (·.1)) (hk : pre.map kOf = key) (gs as : List Int) : (rG' pre gs as).foldl mvRow (mvI m) = mvI (m ++ ent key as gs) := by
  unfold rG'
  rw [List.foldl_append, ← blk_nil m key, fold_a h (fun _ => rfl) (fun _ => hk) (fun _ => rfl), fold_g h (fun _ => rfl) (fun _ => hk) (fun _ => rfl)]
  simp [blk]
theorem fold_rX (m : Mv) (h : Int) : (rX h).foldl mvRow m = m ∧ (rX' h).foldl mvRow m = m := by
  constructor <;> (simp only [rX, rX', List.foldl_cons, List.foldl_nil]; rw [mvRow_skip rfl, mvRow_skip rfl])
theorem fold_rT (m : Mv) (h s : Int) : (rT h s).foldl mvRow m = m ∧ (rT' h s).foldl mvRow m = m := by
  have c1 : RD.counts ⟨pH h, .int s, "turned", intP 5, intP 6⟩ = false := by unfold RD.counts; rw [show isInt (PV.int s) = true from rfl, Bool.true_and]; show decide (("turned" : Str) ≠ "turned") = false; decide
  have c2 : RD.counts ⟨pH h, .int s, "turned", intP 6, intP 5⟩ = false := by unfold RD.counts; rw [show isInt (PV.int s) = true from rfl, Bool.true_and]; show decide (("turned" : Str) ≠ "turned") = false; decide
  constructor
  · simp only [rT, List.foldl_cons, List.foldl_nil]; rw [mvRow_skip c1]
  · simp only [rT', List.foldl_cons, List.foldl_nil]; rw [mvRow_skip c2]
theorem ent_sz {key : List Key} {gs as : List Int} (h1 : gs.length ≤ 100) (h2 : as.length ≤ 100) : ∀ e ∈ ent key gs as, e.2.1.length ≤ 100 ∧ e.2.2.length ≤ 100 := by
  intro e he
  unfold ent at he
  split at he
  · cases he
  · obtain rfl : e = (key, (gs, as)) := by simpa using he
    exact ⟨h1, h2⟩
theorem kH_new (gs as : List Int) (h : Int) : kH h ∉ (ent kA gs as).map (·.1) := by
  intro q
  unfold ent at q
  split at q
  · cases q
  · have : kH h = kA := by simpa using q
    cases this
theorem bk0 {gs as : List Int} (h1 : gs.length ≤ 100) (h2 : as.length ≤ 100) : Bk (rG pA gs as) (rG' pA gs as) (ent kA gs as) (ent kA as gs) := by
  have R := Rw.rG (pre := pA) (gs := gs) (as := as) rfl (by decide) (fun _ => rfl) h1 h2
  refine ⟨?_, ?_, .append (.map (TB_g (NP_A _)) _) (.map (TB_a (NP_A _)) _), .append (.map (TB_g' (NP_A _)) _) (.map (TB_a' (NP_A _)) _), R.1, R.2, ent_sz h1 h2, ent_sz h2 h1, by have := look_skip (m := []) (key := kA) (k2 := [.s "C"]) (gs := gs) (as := as) (by decide); simpa [look_nil] using this⟩
  · exact fold_rG (m := []) (by simp) rfl gs as
  · exact fold_rG' (m := []) (by simp) rfl gs as
section
variable {g1 a1 g2 a2 : List Int} {h : Nat} {t : Nat}
theorem TBL_X {m : Mi} {gs as : List Int} {h : Int} {t : Nat} (l : look m kA = (gs, as)) (mi : MI h gs as t) : TBL m (rX h) (rX' t) :=
  .cons (TB_w (NP_snoc (NP_K l mi) (.str _ _ _)) (.inl rfl)) (.cons (TB_w (NP_snoc (NP_K l mi) (.str _ _ _)) (.inr rfl)) .nil)
theorem TBL_X' {m : Mi} {gs as : List Int} {h : Int} {t : Nat} (l : look m kA = (gs, as)) (mi : MI h gs as t) : TBL m (rX' h) (rX t) :=
  .cons (TB_w (NP_snoc (NP_K l mi) (.str _ _ _)) (.inl rfl)) (.cons (TB_w (NP_snoc (NP_K l mi) (.str _ _ _)) (.inr rfl)) .nil)
theorem look2A (gs as gs2 as2 : List Int) (h : Int) : look (ent kA gs as ++ ent (kH h) gs2 as2) kA = (gs, as) := by
  refine look_ent1 ?_
  intro q
  unfold ent at q
  split at q
  · cases q
  · have : kA = kH h := by simpa using q
    cases this
theorem look2H (gs as gs2 as2 : List Int) (h : Int) : look (ent kA gs as ++ ent (kH h) gs2 as2) (kH h) = (gs2, as2) := by
  rw [look_skip (by intro q; cases q)]
  have := look_ent1 (m := []) (key := kH h) (gs := gs2) (as := as2) (by simp)
  simpa using this
theorem look2C (gs as gs2 as2 : List Int) (h : Int) : look (ent kA gs as ++ ent (kH h) gs2 as2) [.s "C"] = ([], []) := by
  rw [look_skip (by decide)]
  have := look_skip (m := []) (key := kH h) (k2 := [.s "C"]) (gs := gs2) (as := as2) (by intro q; cases q)
  simpa [look_nil] using this
theorem bk1 (s1 : g1.length ≤ 100) (s2 : a1.length ≤ 100) (s3 : g2.length ≤ 100) (s4 : a2.length ≤ 100) (mi : MI h g1 a1 t) (mi' : MI t a1 g1 h) :
    Bk (rG pA g1 a1 ++ rG (pH h) g2 a2 ++ rX h) (rG' pA g1 a1 ++ rG' (pH t) g2 a2 ++ rX' t) (ent kA g1 a1 ++ ent (kH h) g2 a2) (ent kA a1 g1 ++ ent (kH t) a2 g2) := by
  have R := Rw.rG (pre := pA) (gs := g1) (as := a1) rfl (by decide) (fun _ => rfl) s1 s2
  have R2 := Rw.rG (pre := pH h) (gs := g2) (as := a2) rfl (by simp [pH]) (by simp [pH]) s3 s4
  have R3 := Rw.rG (pre := pH t) (gs := g2) (as := a2) rfl (by simp [pH]) (by simp [pH]) s3 s4
  have l1 := look2A g1 a1 g2 a2 h
  have l2 := look2A a1 g1 a2 g2 t
  refine ⟨?_, ?_, ?_, ?_, (R.1.append R2.1 (by simp [rG]; omega)).append (Rw.rX h).1 (by simp [rG, rX]; omega), (R.2.append R3.2 (by simp [rG']; omega)).append (Rw.rX t).2 (by simp [rG', rX']; omega), ?_, ?_, look2C _ _ _ _ _⟩
  · rw [mvs_app, mvs_app, (bk0 s1 s2).mv, fold_rG (kH_new _ _ _) rfl, (fold_rX _ _).1]
  · rw [mvs_app, mvs_app, (bk0 s1 s2).mv', fold_rG' (kH_new _ _ _) rfl, (fold_rX _ _).2]
  · exact (TBL.append (.append (.map (TB_g (NP_A _)) _) (.map (TB_a (NP_A _)) _)) (.append (.map (TB_g (NP_H l1 mi)) _) (.map (TB_a (NP_H l1 mi)) _))).append (TBL_X l1 mi)
  · exact (TBL.append (.append (.map (TB_g' (NP_A _)) _) (.map (TB_a' (NP_A _)) _)) (.append (.map (TB_g' (NP_H l2 mi')) _) (.map (TB_a' (NP_H l2 mi')) _))).append (TBL_X' l2 mi')
  · intro e he; exact (List.mem_append.mp he).elim (ent_sz s1 s2 e) (ent_sz s3 s4 e)
  · intro e he; exact (List.mem_append.mp he).elim (ent_sz s2 s1 e) (ent_sz s4 s3 e)
theorem bk2 {s u : Nat} (s1 : g1.length ≤ 100) (s2 : a1.length ≤ 100) (s3 : g2.length ≤ 100) (s4 : a2.length ≤ 100) (mi : MI h g1 a1 t) (mi' : MI t a1 g1 h) (ni : MI s g2 a2 u) (ni' : MI u a2 g2 s) :
    Bk (rG pA g1 a1 ++ rG (pH h) g2 a2 ++ rX h ++ rT h s) (rG' pA g1 a1 ++ rG' (pH t) g2 a2 ++ rX' t ++ rT' t u) (ent kA g1 a1 ++ ent (kH h) g2 a2) (ent kA a1 g1 ++ ent (kH t) a2 g2) := by
  have B := bk1 s1 s2 s3 s4 mi mi'
  have l1 := look2A g1 a1 g2 a2 h
  have l2 := look2A a1 g1 a2 g2 t
  refine ⟨?_, ?_, B.tb.append (.cons (TB_w (NP_snoc (NP_H l1 mi) (.int (ks := kH h) (look2H _ _ _ _ _) ni)) (.inl rfl)) .nil), B.tb'.append (.cons (TB_w (NP_snoc (NP_H l2 mi') (.int (ks := kH t) (look2H _ _ _ _ _) ni')) (.inl rfl)) .nil),
    B.rw.append (Rw.rT h s).1 (by simp [rG, rX, rT]; omega), B.rw'.append (Rw.rT t u).2 (by simp [rG', rX', rT']; omega), B.sz, B.sz', B.lc⟩
  · rw [mvs_app, B.mv, (fold_rT _ _ _).1]
  · rw [mvs_app, B.mv', (fold_rT _ _ _).2]
end
-- pairs, in the loop
theorem filter_pair : ∀ {ps qs : List PV}, qs.length = ps.length → (∀ (i : Nat) p q, ps[i]? = some p → qs[i]? = some q → (isInt p = true → isInt q = true) ∧ (isInt p = false → q = p)) → qs.filter (fun x => !isInt x) = ps.filter (fun x => !isInt x)
  | [], [], _, _ => rfl
  | [], _ :: _, h, _ => by simp at h
  | _ :: _, [], h, _ => by simp at h
  | p :: ps, q :: qs, h, k => by
    have ih := filter_pair (ps := ps) (qs := qs) (by simpa using h) fun i p q a b => k (i + 1) p q (by simpa using a) (by simpa using b)
    obtain ⟨k1, k2⟩ := k 0 p q rfl rfl
    cases e : isInt p with
    | true => simp [e, k1 e, ih]
    | false => rw [k2 e]; simp [e, ih]
theorem NP.pair {m : Mi} {ps qs : List PV} (np : NP m ps qs) : ∀ (i : Nat) p q, ps[i]? = some p → qs[i]? = some q → (isInt p = true → isInt q = true) ∧ (isInt p = false → q = p) := by
  intro i p q hp hq
  obtain ⟨h1, h2⟩ := np.2 i p hp
  constructor
  · intro hi
    obtain ⟨n, rfl⟩ : ∃ n, p = .int n := by cases p <;> simp_all [isInt]
    obtain ⟨t, _, e⟩ := h1 n rfl
    rw [hq] at e
    obtain rfl := Option.some.inj e
    rfl
  · intro hi
    have := h2 hi
    rw [hq] at this; exact Option.some.inj this
theorem TB.pair {m : Mi} {r r' : RD} (t : TB m r r') : (r'.pre ++ [r'.last]).length = (r.pre ++ [r.last]).length ∧ (r'.pre ++ [r'.last]).filter (fun x => !isInt x) = (r.pre ++ [r.last]).filter (fun x => !isInt x) := by
  by_cases h : r.way = "turned" ∨ isInt r.last = false
  · have np := t.whole h
    exact ⟨np.1, filter_pair np.1 np.pair⟩
  · have h1 : r.way ≠ "turned" := fun q => h (.inl q)
    have h2 : isInt r.last = true := by
      cases e : isInt r.last with
      | true => rfl
      | false => exact absurd (.inr e) h
    obtain ⟨np, e⟩ := t.part h1 h2
    refine ⟨by simp [np.1], ?_⟩
    rw [List.filter_append, List.filter_append, filter_pair np.1 np.pair, e]
theorem TB.two {m : Mi} {r r' : RD} (t : TB m r r') (h : r.pre = pA ∧ r.way ≠ "turned" ∧ isInt r.last = true) : r'.pre ++ [r'.last] = r.pre ++ [r.last] := by
  obtain ⟨h0, h1, h2⟩ := h
  obtain ⟨np, e⟩ := t.part h1 h2
  rw [e, h0] at *
  congr 1
  have l := np.1
  match hq : r'.pre, l with
  | [x], _ =>
    rw [hq] at np
    have := (np.2 0 (.str "A") rfl).2 rfl
    simp at this
    rw [this]; rfl
end Mine

open PySem PySem.W PyProof.Rows PySem.Calls
set_option Elab.async false
set_option maxRecDepth 100000
set_option maxHeartbeats 8000000
set_option linter.unusedVariables false
set_option linter.unusedSectionVars false
namespace Mine
theorem fz_bnd {H K : Store} {σ : Loc} {y : Str} {p q : PV} (z : Fz H K p q) : ∀ x r, bnd σ y q x = some r → ∃ p', bnd σ y p x = some p' ∧ Fz H K p' r := by
  intro x r e
  unfold bnd at e ⊢
  split
  · rename_i h; rw [if_pos h] at e; obtain rfl := Option.some.inj e; exact ⟨p, rfl, z⟩
  · rename_i h; rw [if_neg h] at e; exact ⟨r, e, .same r⟩
theorem okL_pv {rs : List RD} (w : Rw rs) : PV.okL (rs.map RD.pv) = true ∧ PV.depL (rs.map RD.pv) ≤ 20 := by
  have gen : ∀ l : List RD, (∀ r ∈ l, r ∈ rs) → PV.okL (l.map RD.pv) = true ∧ PV.depL (l.map RD.pv) ≤ 20 := by
    intro l
    induction l with
    | nil => intro _; exact ⟨rfl, Nat.zero_le _⟩
    | cons r l ih =>
      intro h
      obtain ⟨i1, i2⟩ := ih fun r hr => h r (List.mem_cons_of_mem _ hr)
      have hr := h r List.mem_cons_self
      obtain ⟨o1, o2, o3, o4⟩ := w.okv r hr
      obtain ⟨k1, k2⟩ := isK_okL (w.ks r hr).1
      rw [List.map_cons]
      constructor
      · simp [PV.okL, RD.pv, rowP, PV.ok, i1, o1, o2, k1]
      · simp only [PV.depL, RD.pv, rowP, PV.dep]
        omega
  exact gen rs fun _ h => h
section
variable {c : Cx} {σ : Loc} {H K : Store} {Q : PV → Store → Prop} {Qn : Loc → Store → Prop} {Qr : PV → Store → Prop} {mg mb : Str → Option Value} {k : Nat}
theorem us_consT {e : Expr} {es : List Expr} {p : PV} {ps : List PV} (h : UO c (assign e c.env) p σ H fun σ' H' => UsO c ((assignEach es c.env).map (·.2)) ps σ' H' Qn)
    (he : (assignEach (e :: es) c.env).map (·.2) = assign e c.env :: (assignEach es c.env).map (·.2) := by rfl) : UsO c ((assignEach (e :: es) c.env).map (·.2)) (p :: ps) σ H Qn := he ▸ us_cons h
theorem law_tail {A : Around} {L a : Addr} {cd : Value} {rs rs' : List RD} {m m' : Mi} {d : Addr} (G : Gl thePr c.B mg mb) (hg : ∀ a, c.g.get? a = none) (rm : Rm (k + 6) A) (B : Bk rs rs' m m') (hd : H d = some (.tdct (miD m))) (hq : ∀ H', Qr (.bool true) H') :
    SO (fcx c rc18 A L a cd) (execs (rc18.body.drop 8) (envOfC rc18.name rc18.scope L a cd)) (bnd (bnd (fun _ => none) "due" (.ref d)) "rows" (.lst (rs.map RD.pv))) H (fun _ _ => False) Qr := by
  have hb : rc18.body.drop 8 = rc18.body.drop 8 := rfl
  conv at hb => rhs; whnf
  rw [hb]; clear hb
  have ok1 := okL_pv B.rw
  have ok2 := okL_pv B.rw'
  have hl := B.tb.len
  refine s_cons ?_
  repeat walk_at "mine.step"
  (focus ((with_reducible refine' e_callF G mem_moves ok_moves hg rm ?_ ?_ ?_ ?_ ?_ ?_); rotate_left; exact rfl; exact rfl; exact rfl; decide; exact rfl))
  repeat walk_at "mine.step"
  have hkm : ∀ r ∈ rs, (r.pre ++ [r.last]).all isK = true ∧ r.pre.length ≤ 50 := fun r hr => ⟨(B.rw.ks r hr).1, Nat.le_trans (B.rw.ks r hr).2 (by decide)⟩
  refine ⟨rfl, fn_moves G hg hkm (Nat.le_trans B.rw.sz (by decide)) fun d2 hd2 => ?_⟩
  rw [B.mv, mvD_mvI]
  have hdd : d2 ≠ d := by rintro rfl; rw [hd] at hd2; cases hd2
  have hd' : upd H d2 (.tdct (miD m)) d = some (.tdct (miD m)) := by rw [upd_ne (Ne.symm hdd)]; exact hd
  repeat walk_at "mine.step"
  refine c_tne G rm (kvs := miD m) (upd_same _ _ _) hd' ?_ ?_
  · intro e he
    obtain ⟨x, hx, rfl⟩ := List.mem_map.mp he
    exact ⟨by simp [PV.ok, PV.okL, pvs_ok], by have := pvs_dep x.2.1; have := pvs_dep x.2.2; simp [PV.dep, PV.depL]; omega⟩
  repeat walk_at "mine.step"
  first | (focus ((with_reducible refine' if_t ?_ ?_); exact rfl)) | (focus ((with_reducible refine' if_f ?_ ?_); exact rfl))
  repeat walk_at "mine.step"
  (focus ((with_reducible refine' e_callF G mem_npath ok_npath hg rm ?_ ?_ ?_ ?_ ?_ ?_); rotate_left; exact rfl; exact rfl; exact rfl; decide; exact rfl))
  repeat walk_at "mine.step"
  refine ⟨szl (by simp), ?_⟩
  repeat walk_at "mine.step"
  refine ⟨szl (by simp), ?_⟩
  repeat walk_at "mine.step"
  have npC : NP m [.str "C", .int 3, .tup [.str "head"]] [.str "C", .int 3, .tup [.str "head"]] := by
    have e1 : Elt m [.s "C"] (.int 3) (.int 3) := .int (t := 3) B.lc ⟨by simp, by decide⟩
    exact NP_snoc (NP_snoc (NP_snoc (NP_nil m) (.str _ _ _)) e1) ⟨(fun n h => by cases h), fun _ => rfl⟩
  refine ⟨rfl, fn_npath (m := m) G hg hd' npC rfl ?_ (fun e he => (B.sz e he).1) (by simp) ?_⟩
  · intro p hp
    simp only [List.mem_cons, List.not_mem_nil, or_false] at hp
    rcases hp with rfl | rfl | rfl
    · exact .inr (.inl ⟨_, rfl⟩)
    · exact .inl rfl
    · exact .inr (.inr ⟨_, rfl⟩)
  repeat walk_at "mine.step"
  refine ⟨szl (by simp), ?_⟩
  repeat walk_at "mine.step"
  refine ⟨szl (by simp), ?_⟩
  refine c_neb false rm rfl rfl (Nat.le_of_ble_eq_true rfl) (by rw [show vw _ (.tup _) = _ from rfl, peq_self]; rfl) ?_
  repeat walk_at "mine.step"
  first | (focus ((with_reducible refine' if_t ?_ ?_); exact rfl)) | (focus ((with_reducible refine' if_f ?_ ?_); exact rfl))
  repeat walk_at "mine.step"
  first | (focus ((with_reducible refine' if_t ?_ ?_); exact rfl)) | (focus ((with_reducible refine' if_f ?_ ?_); exact rfl))
  repeat walk_at "mine.step"
  clear hd' hd2 hdd
  generalize upd H d2 (.tdct (miD m)) = H1
  have hk40 : ∀ {l : List RD}, Rw l → ∀ r ∈ l, (r.pre ++ [r.last]).all isK = true ∧ r.pre.length ≤ 40 := fun w => w.ks
  have sz1 : (rs.map RD.pv).length ≤ 500 := by rw [List.length_map]; exact B.rw.sz
  have sz2 : (rs'.map RD.pv).length ≤ 500 := by rw [List.length_map]; exact B.rw'.sz
  refine e_fz ?_
  (focus ((with_reducible refine' e_callT (x := "list") (T := "list") G ?_ ?_ ?_ ?_ ?_ ?_ ?_ ?_ ?_ ?_); decide; exact rfl; decide; decide; rotate_left; exact rfl; exact rfl; exact rfl; exact rfl; exact rfl))
  repeat walk_at "mine.step"
  refine k_list rfl (szl (by omega)) fun l hlk => ?_
  refine ⟨.lst (rs.map RD.pv), H1, .of_le ((Le.refl _).upd hlk _), .ref (upd_same _ _ _) hlk (.refl _), ?_⟩
  repeat walk_at "mine.step"
  (focus ((with_reducible refine' e_callF G mem_turned ok_turned hg rm ?_ ?_ ?_ ?_ ?_ ?_); rotate_left; exact rfl; exact rfl; exact rfl; decide; exact rfl))
  repeat walk_at "mine.step"
  refine ⟨rfl, fn_turned (m := m) (rs' := rs') G hg B.rw.ks B.rw.ways (Nat.le_trans B.rw.sz (by decide)) (by rw [B.mv, mvD_mvI]) (fun e he => (B.sz e he).1) hl B.tb.get ?_⟩
  repeat walk_at "mine.step"
  refine c_neb false rm ok1.1 ok1.1 (show PV.depL _ + 1 ≤ 100 by omega) (by rw [show vw H1 (.lst (rs.map RD.pv)) = .lst (rs.map RD.pv) from rfl, peq_self]; rfl) ?_
  repeat walk_at "mine.step"
  first | (focus ((with_reducible refine' if_t ?_ ?_); exact rfl)) | (focus ((with_reducible refine' if_f ?_ ?_); exact rfl))
  repeat walk_at "mine.step"
  (focus ((with_reducible refine' e_callB (x := "len") (id := "len") G ?_ ?_ ?_ ?_ ?_ ?_ ?_ ?_ ?_ ?_); decide; exact rfl; decide; decide; rotate_left; exact rfl; exact rfl; exact rfl; exact rfl; exact rfl))
  repeat walk_at "mine.step"
  refine k_len_lst rfl (szl (by omega)) ?_
  (focus ((with_reducible refine' e_callB (x := "len") (id := "len") G ?_ ?_ ?_ ?_ ?_ ?_ ?_ ?_ ?_ ?_); decide; exact rfl; decide; decide; rotate_left; exact rfl; exact rfl; exact rfl; exact rfl; exact rfl))
  repeat walk_at "mine.step"
  refine k_len_lst rfl (szl (by omega)) ?_
  refine c_ine rm false (by simp [hl]) ?_
  repeat walk_at "mine.step"
  first | (focus ((with_reducible refine' if_t ?_ ?_); exact rfl)) | (focus ((with_reducible refine' if_f ?_ ?_); exact rfl))
  repeat walk_at "mine.step"
  (focus ((with_reducible refine' e_callF G mem_turned ok_turned hg rm ?_ ?_ ?_ ?_ ?_ ?_); rotate_left; exact rfl; exact rfl; exact rfl; decide; exact rfl))
  repeat walk_at "mine.step"
  refine ⟨rfl, fn_turned (m := m') (rs' := rs) G hg B.rw'.ks B.rw'.ways (Nat.le_trans B.rw'.sz (by decide)) (by rw [B.mv', mvD_mvI]) (fun e he => (B.sz' e he).1) hl.symm B.tb'.get ?_⟩
  repeat walk_at "mine.step"
  refine c_neb false rm ok1.1 ok1.1 (show PV.depL _ + 1 ≤ 100 by omega) (by rw [show vw H1 (.lst (rs.map RD.pv)) = .lst (rs.map RD.pv) from rfl, peq_self]; rfl) ?_
  repeat walk_at "mine.step"
  first | (focus ((with_reducible refine' if_t ?_ ?_); exact rfl)) | (focus ((with_reducible refine' if_f ?_ ?_); exact rfl))
  repeat walk_at "mine.step"
  first | (focus ((with_reducible refine' if_t ?_ ?_); exact rfl)) | (focus ((with_reducible refine' if_f ?_ ?_); exact rfl))
  repeat walk_at "mine.step"
  refine s_zip G rm.1 ?_
  repeat walk_at "mine.step"
  refine ⟨rs.map RD.pv, rs'.map RD.pv, rfl, by simp [hl], ?_, ?_⟩
  · repeat walk_at "mine.step"
    exact hq _
  · intro i p q TO v w hp hq' hTO
    obtain ⟨r, hr, rfl⟩ : ∃ r, rs[i]? = some r ∧ RD.pv r = p := by simpa using hp
    obtain ⟨r', hr', rfl⟩ : ∃ r, rs'[i]? = some r ∧ RD.pv r = q := by simpa using hq'
    have T := B.tb.get i r r' hr hr'
    have hrm := List.mem_of_getElem? hr
    have hrm' := List.mem_of_getElem? hr'
    obtain ⟨o1, o2, o3, o4⟩ := B.rw.okv r hrm
    obtain ⟨k1, k2⟩ := B.rw.ks r hrm
    obtain ⟨k1', k2'⟩ := B.rw'.ks r' hrm'
    obtain ⟨pl, pf⟩ := T.pair
    have ptwo := fun h => T.two (B.rw.two r hrm h)
    rw [show RD.pv r' = rowP (r'.pre ++ [r'.last]) (backW r.way) r.new r.old by rw [RD.pv, T.way, T.old, T.new]]
    rw [show RD.pv r = rowP (r.pre ++ [r.last]) r.way r.old r.new from rfl]
    have hlen2 : (r.pre ++ [r.last]).length = 2 → r'.pre ++ [r'.last] = r.pre ++ [r.last] := fun h => ptwo (by simpa using h)
    have lp : (r.pre ++ [r.last]).length ≤ 41 := by simp; omega
    have lp' : (r'.pre ++ [r'.last]).length ≤ 41 := by simp; omega
    have hw := B.rw.ways r hrm
    generalize r.pre ++ [r.last] = P at *
    generalize r'.pre ++ [r'.last] = P' at *
    generalize upd H1 TO (.hid v w) = H2
    refine u_tup rm.1 (us_consT ?_) rfl rfl
    refine u_tup rm.1 ?_ rfl rfl
    refine us_consT (u_name ?_)
    refine us_consT (u_name ?_)
    refine us_consT (u_name ?_)
    refine us_consT (u_name ?_)
    refine us_nil ?_
    refine us_consT ?_
    refine u_tup rm.1 ?_ rfl rfl
    refine us_consT (u_name ?_)
    refine us_consT (u_name ?_)
    refine us_consT (u_name ?_)
    refine us_consT (u_name ?_)
    refine us_nil ?_
    refine us_nil ?_
    have sub0 : ∀ {σ' : Loc}, Sub σ' σ' := Sub.refl _
    refine s_consC (fun H' => Le H2 H') ?_ ?_
    · repeat walk_at "mine.step"
      refine ⟨szl (by simp), ?_⟩
      repeat walk_at "mine.step"
      refine ⟨szl (by simp), ?_⟩
      refine c_neb false rm (by show PV.okL [r.old, r.new] = true; simp [PV.okL, o1, o2]) (by show PV.okL [r.old, r.new] = true; simp [PV.okL, o1, o2]) (show PV.depL [r.old, r.new] + 1 ≤ 100 by simp [PV.depL]; omega) (by show (!peq (.tup [r.old, r.new]) (.tup [r.old, r.new])) = false; rw [peq_self]; rfl) ?_
      repeat walk_at "mine.step"
      first | (focus ((with_reducible refine' if_t ?_ ?_); exact rfl)) | (focus ((with_reducible refine' if_f ?_ ?_); exact rfl))
      repeat walk_at "mine.step"
      (with_reducible refine' e_dict3 (by decide) ?_)
      intro b hb
      repeat walk_at "mine.step"
      refine i_dct (kvs := backD) (upd_same _ _ _) rfl (backD_get hw) ?_
      repeat walk_at "mine.step"
      refine c_sne rm false (by simp) ?_
      repeat walk_at "mine.step"
      first | (focus ((with_reducible refine' if_t ?_ ?_); exact rfl)) | (focus ((with_reducible refine' if_f ?_ ?_); exact rfl))
      repeat walk_at "mine.step"
      first | (focus ((with_reducible refine' if_t ?_ ?_); exact rfl)) | (focus ((with_reducible refine' if_f ?_ ?_); exact rfl))
      repeat walk_at "mine.step"
      exact ⟨Sub.refl _, (Le.refl _).upd hb _⟩
    · intro H3 le3
      refine s_consC (fun H' => Le H2 H') ?_ ?_
      · repeat walk_at "mine.step"
        (focus ((with_reducible refine' e_callB (x := "len") (id := "len") G ?_ ?_ ?_ ?_ ?_ ?_ ?_ ?_ ?_ ?_); decide; exact rfl; decide; decide; rotate_left; exact rfl; exact rfl; exact rfl; exact rfl; exact rfl))
        repeat walk_at "mine.step"
        refine k_len_tup (szl (by omega)) ?_
        (focus ((with_reducible refine' e_callB (x := "len") (id := "len") G ?_ ?_ ?_ ?_ ?_ ?_ ?_ ?_ ?_ ?_); decide; exact rfl; decide; decide; rotate_left; exact rfl; exact rfl; exact rfl; exact rfl; exact rfl))
        repeat walk_at "mine.step"
        refine k_len_tup (szl (by omega)) ?_
        refine c_ine rm false (by simp [pl]) ?_
        repeat walk_at "mine.step"
        first | (focus ((with_reducible refine' if_t ?_ ?_); exact rfl)) | (focus ((with_reducible refine' if_f ?_ ?_); exact rfl))
        repeat walk_at "mine.step"
        refine e_comp rm.1 hg (cl := []) ⟨rfl, by decide, rfl, by decide, rfl, (by intro p hp; cases hp), rfl⟩ ?_
        repeat walk_at "mine.step"
        refine ⟨P', .tup _, szl (by omega), fun i ys HH => HH = H3 ∧ ys = (P'.take i).filter (fun x => !isInt x), ⟨rfl, rfl⟩, ?_, ?_⟩
        · rintro C D i x ys HH hD hi ⟨hH, rfl⟩
          refine tests_one ?_
          refine t_not ?_
          refine t_val (e_isint G ?_)
          repeat walk_at "mine.step"
          have hxk := List.all_eq_true.mp k1' x (List.mem_of_getElem? hi)
          refine ⟨(by cases x <;> simp_all [isK, isInt]), ?_⟩
          repeat walk_at "mine.step"
          cases hx : isInt x with
          | true =>
            refine if_f rfl ?_
            exact ⟨_, rfl, hD, hH, by rw [filter_take _ hi]; simp [hx]⟩
          | false =>
            refine if_t rfl ?_
            repeat walk_at "mine.step"
            exact ⟨_, rfl, hD, hH, by rw [filter_take _ hi]; simp [hx]⟩
        rintro D1 ys HH hD1 ⟨hH, rfl⟩
        rw [hH] at hD1 ⊢
        clear hH HH
        rw [List.take_length]
        refine e_comp rm.1 hg (cl := []) ⟨rfl, by decide, rfl, by decide, rfl, (by intro p hp; cases hp), rfl⟩ ?_
        repeat walk_at "mine.step"
        refine ⟨P, .tup _, szl (by omega), fun i ys HH => HH = upd H3 D1 (.lst (P'.filter fun x => !isInt x)) ∧ ys = (P.take i).filter (fun x => !isInt x), ⟨rfl, rfl⟩, ?_, ?_⟩
        · rintro C D i x ys HH hD hi ⟨hH, rfl⟩
          refine tests_one ?_
          refine t_not ?_
          refine t_val (e_isint G ?_)
          repeat walk_at "mine.step"
          have hxk := List.all_eq_true.mp k1 x (List.mem_of_getElem? hi)
          refine ⟨(by cases x <;> simp_all [isK, isInt]), ?_⟩
          repeat walk_at "mine.step"
          cases hx : isInt x with
          | true =>
            refine if_f rfl ?_
            exact ⟨_, rfl, hD, hH, by rw [filter_take _ hi]; simp [hx]⟩
          | false =>
            refine if_t rfl ?_
            repeat walk_at "mine.step"
            exact ⟨_, rfl, hD, hH, by rw [filter_take _ hi]; simp [hx]⟩
        rintro D2 ys HH hD2 ⟨hH, rfl⟩
        rw [hH] at hD2 ⊢
        clear hH HH
        rw [List.take_length]
        obtain ⟨h21, h2n⟩ := upd_none hD2
        have e1 : vw (upd (upd H3 D1 (.lst (P'.filter fun x => !isInt x))) D2 (.lst (P.filter fun x => !isInt x))) (.ref D1) = .lst (P.filter fun x => !isInt x) := by
          rw [← pf]; exact vw_ref (by rw [upd_ne (Ne.symm h21), upd_same])
        have fk : (P.filter fun x => !isInt x).all isK = true := by
          rw [List.all_eq_true] at *
          intro x hx
          exact List.all_eq_true.mp (by rw [List.all_eq_true]; exact k1) x (List.mem_filter.mp hx).1
        obtain ⟨q1, q2⟩ := isK_okL fk
        refine c_neb false rm (by rw [e1]; exact q1) (by rw [vw_upd]; exact q1) (by rw [e1]; show PV.depL _ + 1 ≤ 100; omega) (by rw [e1, vw_upd, peq_self]; rfl) ?_
        repeat walk_at "mine.step"
        first | (focus ((with_reducible refine' if_t ?_ ?_); exact rfl)) | (focus ((with_reducible refine' if_f ?_ ?_); exact rfl))
        repeat walk_at "mine.step"
        first | (focus ((with_reducible refine' if_t ?_ ?_); exact rfl)) | (focus ((with_reducible refine' if_f ?_ ?_); exact rfl))
        repeat walk_at "mine.step"
        exact ⟨Sub.refl _, fun b mo e => ((Le.refl _).upd hD1 _ |>.upd hD2 _) b mo (le3 b mo e)⟩
      · intro H4 le4
        repeat walk_at "mine.step"
        (focus ((with_reducible refine' e_callB (x := "len") (id := "len") G ?_ ?_ ?_ ?_ ?_ ?_ ?_ ?_ ?_ ?_); decide; exact rfl; decide; decide; rotate_left; exact rfl; exact rfl; exact rfl; exact rfl; exact rfl))
        repeat walk_at "mine.step"
        refine k_len_tup (szl (by omega)) ?_
        repeat walk_at "mine.step"
        refine c_ieq rm (decide ((P.length : Int) = 2)) rfl ?_
        repeat walk_at "mine.step"
        by_cases h2 : (P.length : Int) = 2
        · rw [decide_eq_true h2]
          first | (focus ((with_reducible refine' if_t ?_ ?_); exact rfl)) | (focus ((with_reducible refine' if_f ?_ ?_); exact rfl))
          repeat walk_at "mine.step"
          rw [hlen2 (by omega)]
          obtain ⟨q1, q2⟩ := isK_okL k1
          refine c_neb false rm q1 q1 (show PV.depL P + 1 ≤ 100 by omega) (by show (!peq (.tup P) (.tup P)) = false; rw [peq_self]; rfl) ?_
          repeat walk_at "mine.step"
          first | (focus ((with_reducible refine' if_t ?_ ?_); exact rfl)) | (focus ((with_reducible refine' if_f ?_ ?_); exact rfl))
          first | (focus ((with_reducible refine' if_t ?_ ?_); exact rfl)) | (focus ((with_reducible refine' if_f ?_ ?_); exact rfl))
          repeat walk_at "mine.step"
          exact ⟨((((((((Sub.refl _).bnd rfl _).bnd rfl _).bnd rfl _).bnd rfl _).bnd rfl _).bnd rfl _).bnd rfl _).bnd rfl _, le4⟩
        · rw [decide_eq_false h2]
          first | (focus ((with_reducible refine' if_t ?_ ?_); exact rfl)) | (focus ((with_reducible refine' if_f ?_ ?_); exact rfl))
          first | (focus ((with_reducible refine' if_t ?_ ?_); exact rfl)) | (focus ((with_reducible refine' if_f ?_ ?_); exact rfl))
          repeat walk_at "mine.step"
          exact ⟨((((((((Sub.refl _).bnd rfl _).bnd rfl _).bnd rfl _).bnd rfl _).bnd rfl _).bnd rfl _).bnd rfl _).bnd rfl _, le4⟩
end
end Mine

open PySem PySem.W PyProof.Rows PySem.Calls
set_option Elab.async false
set_option maxRecDepth 100000
set_option maxHeartbeats 8000000
set_option linter.unusedVariables false
set_option linter.unusedSectionVars false
namespace Mine
theorem fz_bnd' {H K : Store} {σ : Loc} {y : Str} {p q : PV} (z : Fz H K p q) : ∀ x r, bnd σ y q x = some r → ∃ p', bnd σ y p x = some p' ∧ Fz H K p' r := by
  intro x r e
  unfold bnd at e ⊢
  split
  · rename_i h; rw [if_pos h] at e; obtain rfl := Option.some.inj e; exact ⟨p, rfl, z⟩
  · rename_i h; rw [if_neg h] at e; exact ⟨r, e, .same r⟩
theorem first_index {n : Nat} {gs as : List Int} {mk : List (Option Int)} (ch : Chg n gs as mk) {s : Int} {t : Nat} (h : mk[t]? = some (some s)) : ∀ i < t, mk[i]? ≠ some (some s) := by
  intro i hi e
  obtain ⟨m1, m2⟩ := ch.mi h
  obtain ⟨k1, k2⟩ := ch.mi e
  have := cntOut_mono as (show i + 1 ≤ t by omega)
  rw [cntOut_succ, if_neg k1] at this
  omega
theorem stays_at {n : Nat} {gs as : List Int} {mk : List (Option Int)} (ch : Chg n gs as mk) {s : Int} (h1 : s ∈ rngI n) (h2 : s ∉ gs) : ∃ t : Nat, mk[t]? = some (some s) := by
  have : s ∈ mk.filterMap id := by rw [ch.made]; simp [h1, h2]
  obtain ⟨x, hx, e⟩ := List.mem_filterMap.mp this
  obtain rfl : x = some s := e
  obtain ⟨t, ht⟩ := List.getElem?_of_mem hx
  exact ⟨t, ht⟩
theorem optP_get {mk : List (Option Int)} {t : Nat} {s : Int} (h : mk[t]? = some (some s)) : (mk.map optP)[t]? = some (.int s) := by rw [List.getElem?_map, h]; rfl
theorem optP_ne {mk : List (Option Int)} {t : Nat} {s : Int} (h : mk[t]? ≠ some (some s)) : (mk.map optP)[t]? ≠ some (.int s) := by
  rw [List.getElem?_map]
  intro e
  cases q : mk[t]? with
  | none => rw [q] at e; cases e
  | some x =>
    rw [q] at e h
    cases x with
    | none => simp [optP] at e
    | some y => simp [optP] at e; subst e; exact h rfl
theorem optP_ok (mk : List (Option Int)) : PV.okL (mk.map optP) = true ∧ PV.depL (mk.map optP) ≤ 1 := by
  induction mk with
  | nil => exact ⟨rfl, Nat.zero_le _⟩
  | cons x l ih =>
    rw [List.map_cons]
    cases x <;> exact ⟨by simp [PV.okL, optP, PV.ok, ih.1], by simp only [PV.depL, optP, PV.dep]; exact Nat.max_le.mpr ⟨Nat.le_refl _, ih.2⟩⟩
theorem Chg.gl {n : Nat} {gs as : List Int} {mk : List (Option Int)} (ch : Chg n gs as mk) : gs.length ≤ 100 ∧ as.length ≤ 100 ∧ (∀ s ∈ gs, 0 ≤ s ∧ s < n) ∧ (∀ s ∈ as, 0 ≤ s ∧ s < mk.length) ∧ gs.Nodup ∧ as.Nodup := by
  have h1 := ch.gone.length_le
  rw [rngI_sub] at h1
  have hs := ch.size
  have sub : as.Sublist (rngI mk.length) := by rw [ch.added]; unfold addedOf rngI; exact (List.filter_sublist).map _
  have h2 := sub.length_le
  rw [rngI_sub] at h2
  have hl := ch.len
  exact ⟨by omega, by omega, fun s h => rngI_mem.mp (ch.gone.subset h), fun s h => rngI_mem.mp (sub.subset h), (rngI_nodup _).sublist ch.gone, (rngI_nodup _).sublist sub⟩
theorem Chg.count {n : Nat} {gs as : List Int} {mk : List (Option Int)} (ch : Chg n gs as mk) : as.length + (mk.filterMap id).length = mk.length := by
  have h := cnt_take (mk := mk) (Nat.le_refl _)
  rw [List.take_length, ← ch.added] at h
  have h2 := len_split (fun i : Nat => decide (mk[i]? = some none)) (List.range mk.length)
  have h3 : as.length = ((List.range mk.length).filter fun i => decide (mk[i]? = some none)).length := by rw [ch.added]; unfold addedOf; rw [List.length_map]
  have h4 : cntOut as mk.length = ((List.range mk.length).filter fun i => !decide (mk[i]? = some none)).length := by
    unfold cntOut
    congr 1
    refine List.filter_congr fun i hi => ?_
    have := addedOf_mem (mk := mk) (t := i)
    rw [← ch.added] at this
    simp [this]
  rw [List.length_range] at h2
  omega
section
variable {c : Cx} {σ : Loc} {H K : Store} {Q : PV → Store → Prop} {Qn : Loc → Store → Prop} {Qr : PV → Store → Prop} {mg mb : Str → Option Value} {k : Nat}
def lσ (pen : Addr) (O I : PV) : Loc := bnd (bnd (bnd (fun _ => none) "pen" (.ref pen)) "inner" I) "outer" O
theorem law_look {A : Around} {L a : Addr} {cd : Value} {pen : Addr} {n1 n2 : Nat} {g1 a1 g2 a2 : List Int} {m1 m2 : List (Option Int)} (G : Gl thePr c.B mg mb) (hg : ∀ a, c.g.get? a = none) (rm : Rm (k + 6) A) (c1 : Chg n1 g1 a1 m1) (c2 : Chg n2 g2 a2 m2)
    (q : SO (fcx c rc18 A L a cd) (execs (rc18.body.drop 3) (envOfC rc18.name rc18.scope L a cd)) (lσ pen (chP n1 g1 a1 m1) (chP n2 g2 a2 m2)) H Qn Qr) :
    SO (fcx c rc18 A L a cd) (execs (rc18.body.drop 2) (envOfC rc18.name rc18.scope L a cd)) (lσ pen (chP n1 g1 a1 m1) (chP n2 g2 a2 m2)) H Qn Qr := by
  have hb : rc18.body.drop 2 = rc18.body.drop 2 := rfl
  conv at hb => rhs; whnf
  rw [hb]; clear hb
  refine s_cons (s_for rm.1 ?_)
  repeat walk_at "mine.step"
  refine ⟨szl (by simp), ?_⟩
  refine ⟨[chP n1 g1 a1 m1, chP n2 g2 a2 m2], .tup _, fun i σ' H' => Sub (lσ pen (chP n1 g1 a1 m1) (chP n2 g2 a2 m2)) σ' ∧ H' = H, ⟨Sub.refl _, rfl⟩, ?_, ?_⟩
  · rintro i x σ' H' hx ⟨hs, rfl⟩
    obtain ⟨n, g, as, mk, ch, rfl⟩ : ∃ n g as mk, Chg n g as mk ∧ x = chP n g as mk := by
      match i, hx with
      | 0, hx => exact ⟨_, _, _, _, c1, by simpa using hx.symm⟩
      | 1, hx => exact ⟨_, _, _, _, c2, by simpa using hx.symm⟩
      | i + 2, hx => simp at hx
    obtain ⟨gl, al, gb, ab, gnd, and⟩ := ch.gl
    have nsz := ch.size
    have msz := ch.len
    obtain ⟨ok1, ok2⟩ := optP_ok mk
    refine u_loc hs ?_
    refine u_tup rm.1 (us_cons (u_name (us_cons (u_name (us_cons (u_name (us_cons (u_name (us_nil ?_))))))))) rfl rfl
    refine s_consC (fun H₁ => H₁ = H') ?_ ?_
    · refine s_for rm.1 ?_
      (focus ((with_reducible refine' e_callT (x := "range") (T := "range") G ?_ ?_ ?_ ?_ ?_ ?_ ?_ ?_ ?_ ?_); decide; exact rfl; decide; decide; rotate_left; exact rfl; exact rfl; exact rfl; exact rfl; exact rfl))
      repeat walk_at "mine.step"
      refine k_range ?_
      refine ⟨rngL n, .rng _ (by omega) (by omega), fun j σ'' H'' => Sub (bnd (bnd (bnd (bnd (lσ pen (chP n1 g1 a1 m1) (chP n2 g2 a2 m2)) "size" (.int n)) "gone" (.lst (pvs g))) "added" (.lst (pvs as))) "made" (.lst (mk.map optP))) σ'' ∧ H'' = H', ⟨Sub.refl _, rfl⟩, ?_, ?_⟩
      · rintro j x σ'' H'' hx ⟨hs2, rfl⟩
        obtain ⟨rfl, hj⟩ := rngL_get hx
        refine u_loc hs2 ?_
        repeat walk_at "mine.step"
        refine c_nib (decide ((j : Int) ∉ g)) rm rfl (pvs_ok _) rfl (Nat.le_trans (pvs_dep _) (by decide)) (by rw [show vw _ (.int (j : Int)) = .int j from rfl, pin_int]; simp) ?_
        repeat walk_at "mine.step"
        by_cases hjg : (j : Int) ∈ g
        · rw [decide_eq_false (by simpa using hjg)]
          first | (focus ((with_reducible refine' if_t ?_ ?_); exact rfl)) | (focus ((with_reducible refine' if_f ?_ ?_); exact rfl))
          first | (focus ((with_reducible refine' if_t ?_ ?_); exact rfl)) | (focus ((with_reducible refine' if_f ?_ ?_); exact rfl))
          repeat walk_at "mine.step"
          exact ⟨(Sub.refl _).bnd rfl _, rfl⟩
        · rw [decide_eq_true hjg]
          first | (focus ((with_reducible refine' if_t ?_ ?_); exact rfl)) | (focus ((with_reducible refine' if_f ?_ ?_); exact rfl))
          repeat walk_at "mine.step"
          obtain ⟨t, ht⟩ := stays_at ch (rngI_mem.mpr (by omega)) hjg
          (focus ((with_reducible refine' e_callF G mem_midx ok_midx hg rm ?_ ?_ ?_ ?_ ?_ ?_); rotate_left; exact rfl; exact rfl; exact rfl; decide; exact rfl))
          repeat walk_at "mine.step"
          refine ⟨rfl, fn_midx G hg (ch.mi ht) gl ?_⟩
          (focus ((with_reducible refine' e_meth PySem.F.plainAttrs_list PySem.F.slot_list_index PySem.F.type_list_index ?_ ?_ ?_ ?_ ?_ ?_); rotate_left; exact rfl; exact rfl; exact rfl; exact rfl; exact rfl))
          repeat walk_at "mine.step"
          refine ⟨hasList (ds := mk.map optP) rfl, ?_⟩
          repeat walk_at "mine.step"
          have rm1 : Rm 1 A := Rm.le rm (by omega)
          refine k_index (ds := mk.map optP) (j := t) (x := .int j) rm1 rfl rfl ok1 (by omega) (szl (by simp; omega)) (optP_get ht) (fun i hi => optP_ne (first_index ch ht i hi)) ?_
          refine c_ine rm false (by simp) ?_
          repeat walk_at "mine.step"
          first | (focus ((with_reducible refine' if_t ?_ ?_); exact rfl)) | (focus ((with_reducible refine' if_f ?_ ?_); exact rfl))
          first | (focus ((with_reducible refine' if_t ?_ ?_); exact rfl)) | (focus ((with_reducible refine' if_f ?_ ?_); exact rfl))
          repeat walk_at "mine.step"
          exact ⟨(Sub.refl _).bnd rfl _, rfl⟩
      · rintro σ'' H'' ⟨hs2, rfl⟩
        exact ⟨hs2, rfl⟩
    · rintro H₁ rfl
      refine s_cons (s_end (s_comp rm.1 hg (cl := [("made", L + 3)]) ⟨rfl, by decide, rfl, by decide, rfl, by intro p hp; simp only [List.mem_singleton] at hp; subst hp; exact ⟨rfl, rfl, rfl⟩, rfl⟩ ?_))
      (focus ((with_reducible refine' e_callT (x := "range") (T := "range") G ?_ ?_ ?_ ?_ ?_ ?_ ?_ ?_ ?_ ?_); decide; exact rfl; decide; decide; rotate_left; exact rfl; exact rfl; exact rfl; exact rfl; exact rfl))
      repeat walk_at "mine.step"
      (focus ((with_reducible refine' e_callB (x := "len") (id := "len") G ?_ ?_ ?_ ?_ ?_ ?_ ?_ ?_ ?_ ?_); decide; exact rfl; decide; decide; rotate_left; exact rfl; exact rfl; exact rfl; exact rfl; exact rfl))
      repeat walk_at "mine.step"
      refine k_len_lst rfl (szl (by simp; omega)) ?_
      repeat walk_at "mine.step"
      rw [show (((mk.map optP).length : Nat) : Int) = (mk.length : Int) by simp]
      refine k_range ?_
      refine ⟨rngL mk.length, .rng _ (by omega) (by omega), szl (by rw [rngL_len]; omega), fun i ys H' => H' = H₁ ∧ ys = (List.range i).map (wantAt mk), ⟨rfl, rfl⟩, ?_, ?_⟩
      · rintro C D i x ys H' hD hi ⟨rfl, rfl⟩
        obtain ⟨rfl, hi'⟩ := rngL_get hi
        have hil : i < mk.length := by omega
        have hmi : mk[i]? = some mk[i] := List.getElem?_eq_getElem hil
        have hget : (mk.map optP)[(i : Int).toNat]? = some (optP mk[i]) := by simp [hmi]
        have hstep : ∀ p, p = wantAt mk i → (List.range i).map (wantAt mk) ++ [p] = (List.range (i + 1)).map (wantAt mk) := by rintro p rfl; rw [List.range_succ, List.map_append]; rfl
        refine tests_nil ?_
        first | (focus ((with_reducible refine' if_t ?_ ?_); exact rfl)) | (focus ((with_reducible refine' if_f ?_ ?_); exact rfl))
        repeat walk_at "mine.step"
        refine i_lst (ds := mk.map optP) (p := optP mk[i]) rfl (by omega) (by omega) hget ?_
        repeat walk_at "mine.step"
        refine c_is ?_
        repeat walk_at "mine.step"
        cases hv : mk[i] with
        | none =>
          refine if_t rfl ?_
          repeat walk_at "mine.step"
          (focus ((with_reducible refine' e_callT (x := "str") (T := "str") G ?_ ?_ ?_ ?_ ?_ ?_ ?_ ?_ ?_ ?_); decide; exact rfl; decide; decide; rotate_left; exact rfl; exact rfl; exact rfl; exact rfl; exact rfl))
          repeat walk_at "mine.step"
          refine k_str (by omega) ?_
          repeat walk_at "mine.step"
          refine ⟨szl (by simp), ?_⟩
          exact ⟨_, rfl, hD, rfl, hstep _ (by simp [wantAt, hmi, hv]; rfl)⟩
        | some s =>
          refine if_f rfl ?_
          repeat walk_at "mine.step"
          refine i_lst (ds := mk.map optP) (p := optP mk[i]) rfl (by omega) (by omega) hget ?_
          repeat walk_at "mine.step"
          refine ⟨szl (by simp), ?_⟩
          exact ⟨_, rfl, hD, rfl, hstep _ (by simp [wantAt, hmi, hv, optP]; rfl)⟩
      rintro D ys H' hD ⟨rfl, rfl⟩
      rw [rngL_len]
      refine ⟨_, H', .of_le ((Le.refl _).upd hD _), fz_bnd' (.ref (upd_same _ _ _) hD (.refl _)), ?_⟩
      clear hD
      refine s_cons (s_end (s_comp rm.1 hg (cl := []) ⟨rfl, by decide, rfl, by decide, rfl, (by intro p hp; cases hp), rfl⟩ ?_))
      (focus ((with_reducible refine' e_callT (x := "range") (T := "range") G ?_ ?_ ?_ ?_ ?_ ?_ ?_ ?_ ?_ ?_); decide; exact rfl; decide; decide; rotate_left; exact rfl; exact rfl; exact rfl; exact rfl; exact rfl))
      repeat walk_at "mine.step"
      refine k_range ?_
      refine ⟨rngL n, .rng _ (by omega) (by omega), szl (by rw [rngL_len]; omega), fun i ys H₂ => H₂ = H' ∧ ys = (rngI i).map intP, ⟨rfl, rfl⟩, ?_, ?_⟩
      · rintro C D i x ys H₂ hD hi ⟨rfl, rfl⟩
        obtain ⟨rfl, hi'⟩ := rngL_get hi
        refine tests_nil ?_
        first | (focus ((with_reducible refine' if_t ?_ ?_); exact rfl)) | (focus ((with_reducible refine' if_f ?_ ?_); exact rfl))
        repeat walk_at "mine.step"
        refine ⟨szl (by simp), ?_⟩
        exact ⟨_, rfl, hD, rfl, by rw [rngI_succ, List.map_append]; rfl⟩
      rintro D ys H₂ hD ⟨rfl, rfl⟩
      rw [rngL_len]
      refine ⟨_, H₂, .of_le ((Le.refl _).upd hD _), fz_bnd' (.ref (upd_same _ _ _) hD (.refl _)), ?_⟩
      clear hD
      repeat walk_at "mine.step"
      (focus ((with_reducible refine' e_callF G mem_array ok_array hg rm ?_ ?_ ?_ ?_ ?_ ?_); rotate_left; exact rfl; exact rfl; exact rfl; decide; exact rfl))
      repeat walk_at "mine.step"
      (focus ((with_reducible refine' e_callF G mem_rows ok_rows hg rm ?_ ?_ ?_ ?_ ?_ ?_); rotate_left; exact rfl; exact rfl; exact rfl; decide; exact rfl))
      repeat walk_at "mine.step"
      refine ⟨szl (by simp), ?_⟩
      repeat walk_at "mine.step"
      refine ⟨szl (by simp), ?_⟩
      repeat walk_at "mine.step"
      refine ⟨rfl, fn_rows G hg gl al (by simp) (fun s h => by have := gb s h; omega) (fun s h => by have := ab s h; omega) ?_⟩
      repeat walk_at "mine.step"
      have ear : g.map (goneR []) ++ as.map (addR []) = (g.map (fun s => (false, s)) ++ as.map (fun s => (true, s))).map toRow := by
        rw [List.map_append, List.map_map, List.map_map]; rfl
      rw [ear]
      have egs : ((g.map (fun s => (false, s)) ++ as.map (fun s => (true, s))).filter (!·.1)).map (·.2) = g := by
        rw [List.filter_append, List.filter_eq_self.mpr (by intro x hx; obtain ⟨s, _, rfl⟩ := List.mem_map.mp hx; rfl), List.filter_eq_nil_iff.mpr (by intro x hx; obtain ⟨s, _, rfl⟩ := List.mem_map.mp hx; simp), List.append_nil, List.map_map]
        exact List.map_id _
      have eas : ((g.map (fun s => (false, s)) ++ as.map (fun s => (true, s))).filter (·.1)).map (·.2) = as := by
        rw [List.filter_append, List.filter_eq_nil_iff.mpr (by intro x hx; obtain ⟨s, _, rfl⟩ := List.mem_map.mp hx; simp), List.filter_eq_self.mpr (by intro x hx; obtain ⟨s, _, rfl⟩ := List.mem_map.mp hx; rfl), List.nil_append, List.map_map]
        exact List.map_id _
      have aslen : as.length ≤ 20 := by rw [ch.added]; unfold addedOf; rw [List.length_map]; exact Nat.le_trans (List.length_filter_le _ _) (by simp; omega)
      have glen : g.length ≤ 7 := by have := ch.gone.length_le; rw [rngI_sub] at this; omega
      refine ⟨rfl, fn_array (n := n) (made := mk) G hg egs eas gnd and (by simp; omega) gb ch.made.symm (fun i hi => by rw [ch.added]; exact addedOf_mem) ab ch.count (by omega) (by omega) ?_⟩
      repeat walk_at "mine.step"
      refine ⟨szl (by simp), ?_⟩
      (focus ((with_reducible refine' e_callT (x := "tuple") (T := "tuple") G ?_ ?_ ?_ ?_ ?_ ?_ ?_ ?_ ?_ ?_); decide; exact rfl; decide; decide; rotate_left; exact rfl; exact rfl; exact rfl; exact rfl; exact rfl))
      repeat walk_at "mine.step"
      refine k_tuple rfl (szl (by simp; omega)) ?_
      refine b_tup (szl (by simp; omega)) ?_
      have wok : PV.okL ((List.range mk.length).map (wantAt mk)) = true ∧ PV.depL ((List.range mk.length).map (wantAt mk)) ≤ 10 := by
        have gen : ∀ l : List Nat, PV.okL (l.map (wantAt mk)) = true ∧ PV.depL (l.map (wantAt mk)) ≤ 10 := by
          intro l
          induction l with
          | nil => exact ⟨rfl, Nat.zero_le _⟩
          | cons i l ih =>
            have h1 : (wantAt mk i).ok = true ∧ (wantAt mk i).dep ≤ 10 := by
              unfold wantAt
              split
              · exact ⟨rfl, Nat.le_of_ble_eq_true rfl⟩
              · exact ⟨rfl, Nat.le_of_ble_eq_true rfl⟩
            rw [List.map_cons]
            exact ⟨by rw [PV.okL, h1.1, ih.1]; rfl, by rw [PV.depL]; exact Nat.max_le.mpr ⟨h1.2, ih.2⟩⟩
        exact gen _
      refine c_neb false rm (show PV.okL _ = true by rw [PV.okL, wok.1]; rfl) (show PV.okL _ = true by rw [List.singleton_append, PV.okL, wok.1]; rfl) (show PV.depL _ + 1 ≤ 100 by
        have : PV.depL (PV.str "array" :: (List.range mk.length).map (wantAt mk)) ≤ 10 := by rw [PV.depL]; exact Nat.max_le.mpr ⟨by decide, wok.2⟩
        omega) (by show (!peq (.tup (PV.str "array" :: (List.range mk.length).map (wantAt mk))) (.tup (PV.str "array" :: (List.range mk.length).map (wantAt mk)))) = false; rw [peq_self]; rfl) ?_
      repeat walk_at "mine.step"
      first | (focus ((with_reducible refine' if_t ?_ ?_); exact rfl)) | (focus ((with_reducible refine' if_f ?_ ?_); exact rfl))
      repeat walk_at "mine.step"
      (focus ((with_reducible refine' e_callB (x := "len") (id := "len") G ?_ ?_ ?_ ?_ ?_ ?_ ?_ ?_ ?_ ?_); decide; exact rfl; decide; decide; rotate_left; exact rfl; exact rfl; exact rfl; exact rfl; exact rfl))
      repeat walk_at "mine.step"
      refine k_len_lst rfl (szl (by simp [rngI]; omega)) ?_
      repeat walk_at "mine.step"
      refine c_ine rm false (by simp [rngI]) ?_
      repeat walk_at "mine.step"
      first | (focus ((with_reducible refine' if_t ?_ ?_); exact rfl)) | (focus ((with_reducible refine' if_f ?_ ?_); exact rfl))
      repeat walk_at "mine.step"
      first | (focus ((with_reducible refine' if_t ?_ ?_); exact rfl)) | (focus ((with_reducible refine' if_f ?_ ?_); exact rfl))
      repeat walk_at "mine.step"
      exact ⟨((((((Sub.refl _).bnd rfl _).bnd rfl _).bnd rfl _).bnd rfl _).bnd rfl _).bnd rfl _, rfl⟩
  · rintro σ' H' ⟨hs, rfl⟩
    exact s_loc hs q
end
end Mine

open PySem PySem.W PyProof.Rows PySem.Calls
set_option Elab.async false
set_option maxRecDepth 100000
set_option maxHeartbeats 8000000
set_option linter.unusedVariables false
set_option linter.unusedSectionVars false
namespace Mine
section
variable {c : Cx} {σ : Loc} {H K : Store} {Q : PV → Store → Prop} {Qn : Loc → Store → Prop} {Qr : PV → Store → Prop} {mg mb : Str → Option Value} {k : Nat}
theorem s_consF {st : Stmt} {rest : List Stmt} (K : Store) (h : SO c (exec st c.env) σ H (fun σ' H' => Sub σ σ' ∧ Le K H') (fun _ _ => False)) (k : SO c (execs rest c.env) σ K Qn Qr) : SO c (execs (st :: rest) c.env) σ H Qn Qr :=
  s_consC (fun H' => Le K H') h fun H' le => SO.of_forget k le
theorem pv_rG (pre : List PV) (gs as : List Int) : (rG pre gs as).map RD.pv = gs.map (goneR pre) ++ as.map (addR pre) := by
  unfold rG; rw [List.map_append, List.map_map, List.map_map]; rfl
def tailσ (d : Addr) (rows : PV) : Loc := bnd (bnd (fun _ => none) "due" (.ref d)) "rows" rows
theorem endz {H K : Store} {σ' : Loc} {d : Addr} {p q : PV} (hr : σ' "rows" = some p) (hd : σ' "due" = some (.ref d)) (z : Fz H K p q) : ∀ x r, tailσ d q x = some r → ∃ p', σ' x = some p' ∧ Fz H K p' r := by
  intro x r e
  unfold tailσ bnd at e
  split at e
  · rename_i h; subst h; obtain rfl := Option.some.inj e; exact ⟨p, hr, z⟩
  · split at e
    · rename_i h; subst h; obtain rfl := Option.some.inj e; exact ⟨_, hd, .same _⟩
    · cases e
def onlyD (d : Addr) (m : Mi) : Store := upd (fun _ => none) d (.tdct (miD m))
theorem onlyD_fz {H : Store} {d : Addr} {m : Mi} (h : H d = some (.tdct (miD m))) : FzS H (onlyD d m) := .of_le fun a mo e => by
  unfold onlyD at e
  by_cases ha : a = d
  · subst ha; rw [upd_same] at e; rw [← e]; exact h
  · rw [upd_ne ha] at e; cases e
theorem onlyD_none {d r : Addr} {m : Mi} (h : r ≠ d) : onlyD d m r = none := by unfold onlyD; rw [upd_ne h]
theorem pvs_get {l : List Int} {r : Int} (h0 : 0 ≤ r) (h1 : r < (pvs l).length) : ∃ x, x ∈ l ∧ (pvs l)[r.toNat]? = some (.int x) := by
  rw [pvs_len] at h1
  have h2 : r.toNat < l.length := by omega
  exact ⟨l[r.toNat], List.getElem_mem h2, by unfold pvs; rw [List.getElem?_map, List.getElem?_eq_getElem h2]; rfl⟩
theorem Le.upd2 {H K : Store} (h : Le H K) (r : Addr) (x : MO) : Le (Mine.upd H r x) (Mine.upd K r x) := fun a mo e => by
  by_cases ha : a = r
  · subst ha; rw [upd_same] at e ⊢; exact e
  · rw [upd_ne ha] at e ⊢; exact h a mo e
theorem miD_put {m : Mi} {key : List Key} (h : key ∉ m.map (·.1)) (gs as : List Int) : kvPut (miD m) key (.tup [.lst (pvs gs), .lst (pvs as)]) = miD (m ++ [(key, (gs, as))]) := by
  rw [kvPut_new]
  · unfold miD; rw [List.map_append]; rfl
  · unfold miD; rw [List.map_map]; exact h
theorem law_mid {A : Around} {L a : Addr} {cd : Value} {pen : Addr} {n1 n2 : Nat} {g1 a1 g2 a2 : List Int} {m1 m2 : List (Option Int)} {mo : MO} {N : Int} (G : Gl thePr c.B mg mb) (hg : ∀ a, c.g.get? a = none) (rm : Rm (k + 6) A) (c1 : Chg n1 g1 a1 m1) (c2 : Chg n2 g2 a2 m2)
    (hpen : H pen = none) (okp : PenOK N mo) (hN : N ≤ 900)
    (tail : ∀ d rs rs' m m' K, Bk rs rs' m m' → K d = some (.tdct (miD m)) → SO (fcx c rc18 A L a cd) (execs (rc18.body.drop 8) (envOfC rc18.name rc18.scope L a cd)) (tailσ d (.lst (rs.map RD.pv))) K Qn Qr) :
    SO (fcx c rc18 A L a cd) (execs (rc18.body.drop 3) (envOfC rc18.name rc18.scope L a cd)) (lσ pen (chP n1 g1 a1 m1) (chP n2 g2 a2 m2)) (upd H pen mo) Qn Qr := by
  obtain ⟨gl1, al1, gb1, ab1, gn1, an1⟩ := c1.gl
  obtain ⟨gl2, al2, gb2, ab2, gn2, an2⟩ := c2.gl
  have ns1 := c1.size
  have ns2 := c2.size
  have ms1 := c1.len
  have ms2 := c2.len
  have hb : rc18.body.drop 3 = rc18.body.drop 3 := rfl
  conv at hb => rhs; whnf
  rw [hb]; clear hb
  refine s_cons (s_end (s_comp rm.1 hg (cl := [("outer", L + 1)]) ⟨rfl, by decide, rfl, by decide, rfl, by intro p hp; simp only [List.mem_singleton] at hp; subst hp; exact ⟨rfl, rfl, rfl⟩, rfl⟩ ?_))
  (focus ((with_reducible refine' e_callT (x := "range") (T := "range") G ?_ ?_ ?_ ?_ ?_ ?_ ?_ ?_ ?_ ?_); decide; exact rfl; decide; decide; rotate_left; exact rfl; exact rfl; exact rfl; exact rfl; exact rfl))
  repeat walk_at "mine.step"
  (focus ((refine' i_tup (k := 0) (j := 0) (by decide) (by decide) _ _ _); rotate_left; exact rfl; exact rfl))
  repeat walk_at "mine.step"
  refine k_range ?_
  refine ⟨rngL n1, .rng _ (by omega) (by omega), szl (by rw [rngL_len]; omega), fun i ys H₂ => H₂ = upd H pen mo ∧ ys = pvs ((rngI i).filter fun s => decide (s ∉ g1)), ⟨rfl, rfl⟩, ?_, ?_⟩
  · rintro C D i x ys H₂ hD hi ⟨rfl, rfl⟩
    obtain ⟨rfl, hi'⟩ := rngL_get hi
    refine tests_one ?_
    repeat walk_at "mine.step"
    (focus ((refine' i_tup (k := 1) (j := 1) (by decide) (by decide) _ _ _); rotate_left; exact rfl; exact rfl))
    refine c_nib (decide ((i : Int) ∉ g1)) rm rfl (pvs_ok _) rfl (Nat.le_trans (pvs_dep _) (by decide)) (by rw [show vw _ (.int (i : Int)) = .int i from rfl, pin_int]; simp) ?_
    repeat walk_at "mine.step"
    by_cases hr : (i : Int) ∈ g1
    · rw [decide_eq_false (by simpa using hr)]
      first | (focus ((with_reducible refine' if_t ?_ ?_); exact rfl)) | (focus ((with_reducible refine' if_f ?_ ?_); exact rfl))
      refine ⟨_, rfl, hD, rfl, ?_⟩
      rw [rngI_succ, List.filter_append]; simp [hr]
    · rw [decide_eq_true hr]
      first | (focus ((with_reducible refine' if_t ?_ ?_); exact rfl)) | (focus ((with_reducible refine' if_f ?_ ?_); exact rfl))
      repeat walk_at "mine.step"
      refine ⟨_, rfl, hD, rfl, ?_⟩
      rw [rngI_succ, List.filter_append]; simp [hr, pvs]
  rintro D ys H₂ hD ⟨rfl, rfl⟩
  rw [rngL_len]
  refine ⟨_, upd H pen mo, .of_le ((Le.refl _).upd hD _), fz_bnd' (.ref (upd_same _ _ _) hD (.refl _)), ?_⟩
  clear hD
  repeat walk_at "mine.step"
  (focus ((with_reducible refine' e_callF G mem_rows ok_rows hg rm ?_ ?_ ?_ ?_ ?_ ?_); rotate_left; exact rfl; exact rfl; exact rfl; decide; exact rfl))
  repeat walk_at "mine.step"
  refine ⟨szl (by simp), ?_⟩
  repeat walk_at "mine.step"
  refine ⟨rfl, fn_rows G hg gl1 al1 (by simp) (fun s h => by have := gb1 s h; omega) (fun s h => by have := ab1 s h; omega) ?_⟩
  repeat walk_at "mine.step"
  refine e_tdict0 fun d hd => ?_
  obtain ⟨hdp, hdH⟩ := upd_none hd
  refine s_consF (upd (upd H pen mo) d (.tdct (miD (ent kA g1 a1)))) ?_ ?_
  · repeat walk_at "mine.step"
    (focus ((refine' i_tup (k := 1) (j := 1) (by decide) (by decide) _ _ _); rotate_left; exact rfl; exact rfl))
    repeat walk_at "mine.step"
    (focus ((refine' i_tup (k := 2) (j := 2) (by decide) (by decide) _ _ _); rotate_left; exact rfl; exact rfl))
    refine b_lst (l := pvs g1) (m := pvs a1) rfl rfl (szl (by rw [pvs_len, pvs_len]; omega)) fun r hr => ?_
    obtain ⟨hrd, hr1⟩ := upd_none hr
    repeat walk_at "mine.step"
    refine ⟨szl (by simp), fun l hl => ?_⟩
    obtain ⟨hlr, hl1⟩ := upd_none hl
    obtain ⟨hld, hl2⟩ := upd_none hl1
    have e1 : vw (upd (upd (upd (upd H pen mo) d (.tdct [])) r (.lst (pvs g1 ++ pvs a1))) l (.lst [])) (.ref r) = .lst (pvs (g1 ++ a1)) := by
      rw [show pvs (g1 ++ a1) = pvs g1 ++ pvs a1 by simp [pvs]]
      exact vw_ref (by rw [upd_ne (Ne.symm hlr), upd_same])
    refine c_neb (decide (g1 ++ a1 ≠ [])) rm (by rw [e1]; exact pvs_ok _) (by rw [vw_upd]; rfl) (by rw [e1]; exact Nat.le_trans (Nat.succ_le_succ (pvs_dep _)) (by decide)) (by
      rw [e1, vw_upd]
      by_cases h : g1 ++ a1 = []
      · rw [h, show peq (.lst (pvs [])) (.lst []) = true from peq_self _]; rfl
      · rw [peq_ne (by intro q; injection q with q; exact h (by simpa [pvs] using q))]; simp [h]) ?_
    repeat walk_at "mine.step"
    by_cases h : g1 ++ a1 = []
    · rw [show decide (g1 ++ a1 ≠ []) = false by simp [h]]
      first | (focus ((with_reducible refine' if_t ?_ ?_); exact rfl)) | (focus ((with_reducible refine' if_f ?_ ?_); exact rfl))
      repeat walk_at "mine.step"
      refine ⟨Sub.refl _, ?_⟩
      rw [show miD (ent kA g1 a1) = [] by unfold ent; rw [if_pos h]; rfl]
      exact ((Le.refl _).upd hr _).upd hl _
    · rw [show decide (g1 ++ a1 ≠ []) = true by simp [h]]
      first | (focus ((with_reducible refine' if_t ?_ ?_); exact rfl)) | (focus ((with_reducible refine' if_f ?_ ?_); exact rfl))
      repeat walk_at "mine.step"
      (focus ((refine' i_tup (k := 1) (j := 1) (by decide) (by decide) _ _ _); rotate_left; exact rfl; exact rfl))
      repeat walk_at "mine.step"
      (focus ((refine' i_tup (k := 2) (j := 2) (by decide) (by decide) _ _ _); rotate_left; exact rfl; exact rfl))
      repeat walk_at "mine.step"
      refine ⟨szl (by simp), ?_⟩
      repeat walk_at "mine.step"
      refine ⟨szl (by simp), ?_⟩
      have rm1 : Rm 1 A := Rm.le rm (by omega)
      refine set_tdct (kvs := []) rm1 (by rw [upd_ne (Ne.symm hld), upd_ne (Ne.symm hrd), upd_same]) rfl (szl (by simp)) ?_
      repeat walk_at "mine.step"
      refine ⟨Sub.refl _, ?_⟩
      rw [show miD (ent kA g1 a1) = kvPut [] ([PV.str "A"].map kOf) (.tup [.lst (pvs g1), .lst (pvs a1)]) by unfold ent; rw [if_neg h]; rfl]
      rw [upd_comm hld, upd_comm hrd, upd_upd]
      exact ((Le.refl _).upd (by rw [upd_ne hrd]; exact hr1) _).upd (by rw [upd_ne hlr, upd_ne hld]; exact hl2) _
  refine s_cons (SO.mono (Qn := fun σ' H' => ∃ rs rs' m m', Bk rs rs' m m' ∧ Sub (tailσ d (.lst (rs.map RD.pv))) σ' ∧ H' d = some (.tdct (miD m))) (Qr := fun _ _ => False) (s_end ?_) (fun σ' H' ⟨rs, rs', m, m', B, hs, e⟩ => s_loc hs (tail d rs rs' m m' H' B e)) (fun _ _ h => h.elim))
  repeat walk_at "mine.step"
  refine ⟨szl (by simp), fun l0 hl0 => ?_⟩
  obtain ⟨hl0d, hl01⟩ := upd_none hl0
  generalize hst : ((rngI n1).filter fun s => decide (s ∉ g1)) = st
  have hstl : st.length ≤ 7 := by rw [← hst]; exact Nat.le_trans (List.length_filter_le _ _) (by rw [rngI_sub]; omega)
  have hstm : ∀ s ∈ st, s ∈ rngI n1 ∧ s ∉ g1 := by intro s h; rw [← hst] at h; simpa using h
  refine c_neb (decide (st ≠ [])) rm (pvs_ok _) (by rw [vw_upd]; rfl) (Nat.le_trans (Nat.succ_le_succ (pvs_dep st)) (by decide)) (by
    rw [vw_upd, show vw _ (.lst (pvs st)) = .lst (pvs st) from rfl]
    by_cases h : st = []
    · rw [h, show peq (.lst (pvs [])) (.lst []) = true from peq_self _]; rfl
    · rw [peq_ne (by intro q; injection q with q; exact h (by simpa [pvs] using q))]; simp [h]) ?_
  repeat walk_at "mine.step"
  by_cases hs0 : st = []
  · rw [show decide (st ≠ []) = false by simp [hs0]]
    first | (focus ((with_reducible refine' if_t ?_ ?_); exact rfl)) | (focus ((with_reducible refine' if_f ?_ ?_); exact rfl))
    repeat walk_at "mine.step"
    have ed : upd (upd (upd H pen mo) d (.tdct (miD (ent kA g1 a1)))) l0 (.lst []) d = some (.tdct (miD (ent kA g1 a1))) := by rw [upd_ne (Ne.symm hl0d), upd_same]
    exact ⟨tailσ d (.lst ((rG pA g1 a1).map RD.pv)), onlyD d _, onlyD_fz ed, endz (by rw [pv_rG]; rfl) rfl (.same _), _, _, _, _, bk0 gl1 al1, Sub.refl _, by unfold onlyD; rw [upd_same]⟩
  · rw [show decide (st ≠ []) = true by simp [hs0]]
    first | (focus ((with_reducible refine' if_t ?_ ?_); exact rfl)) | (focus ((with_reducible refine' if_f ?_ ?_); exact rfl))
    have hstp : 0 < st.length := List.length_pos_iff.mpr hs0
    refine SO.of_forget (H' := upd (upd H pen mo) d (.tdct (miD (ent kA g1 a1)))) ?_ ((Le.refl _).upd hl0 _)
    clear hl0 hl01 hl0d
    repeat walk_at "mine.step"
    (focus ((with_reducible refine' e_callF G mem_draw ok_draw hg rm ?_ ?_ ?_ ?_ ?_ ?_); rotate_left; exact rfl; exact rfl; exact rfl; decide; exact rfl))
    repeat walk_at "mine.step"
    (focus ((with_reducible refine' e_callB (x := "len") (id := "len") G ?_ ?_ ?_ ?_ ?_ ?_ ?_ ?_ ?_ ?_); decide; exact rfl; decide; decide; rotate_left; exact rfl; exact rfl; exact rfl; exact rfl; exact rfl))
    repeat walk_at "mine.step"
    refine k_len_lst rfl (szl (by rw [pvs_len]; omega)) ?_
    repeat walk_at "mine.step"
    refine ⟨rfl, fn_draw' G (mo := mo) (N := N) (by rw [upd_ne (Ne.symm hdp), upd_same]) okp (by omega) (by rw [pvs_len]; omega) (by rw [pvs_len]; omega) fun r mo1 r0 r1 ok1 => ?_⟩
    rw [upd_comm hdp, upd_upd]
    obtain ⟨hh, hhm, hhg⟩ := pvs_get r0 r1
    obtain ⟨hm1, hm2⟩ := hstm hh hhm
    obtain ⟨t, ht⟩ := stays_at c1 hm1 hm2
    obtain ⟨hn, rfl, mib⟩ := c1.mi' ht
    have mif := c1.mi ht
    obtain ⟨ok1', dep1'⟩ := optP_ok m1
    obtain ⟨ok2', dep2'⟩ := optP_ok m2
    have rm1 : Rm 1 A := Rm.le rm (by omega)
    refine i_lst (ds := pvs st) (p := .int hn) rfl r0 (by rw [pvs_len] at r1; omega) hhg ?_
    repeat walk_at "mine.step"
    refine ⟨szl (by simp), ?_⟩
    repeat walk_at "mine.step"
    (focus ((with_reducible refine' e_meth PySem.F.plainAttrs_list PySem.F.slot_list_index PySem.F.type_list_index ?_ ?_ ?_ ?_ ?_ ?_); rotate_left; exact rfl; exact rfl; exact rfl; exact rfl; exact rfl))
    repeat walk_at "mine.step"
    (focus ((refine' i_tup (k := 3) (j := 3) (by decide) (by decide) _ _ _); rotate_left; exact rfl; exact rfl))
    refine ⟨hasList (ds := m1.map optP) rfl, ?_⟩
    repeat walk_at "mine.step"
    (focus ((refine' i_tup (k := 1) (j := 1) (by decide) (by decide) _ _ _); rotate_left; exact rfl; exact rfl))
    repeat walk_at "mine.step"
    refine k_index (ds := m1.map optP) (j := t) (x := .int hn) rm1 rfl rfl ok1' (by omega) (szl (by simp; omega)) (optP_get ht) (fun i hi => optP_ne (first_index c1 ht i hi)) ?_
    repeat walk_at "mine.step"
    refine ⟨szl (by simp), ?_⟩
    repeat walk_at "mine.step"
    (focus ((with_reducible refine' e_callF G mem_rows ok_rows hg rm ?_ ?_ ?_ ?_ ?_ ?_); rotate_left; exact rfl; exact rfl; exact rfl; decide; exact rfl))
    repeat walk_at "mine.step"
    refine ⟨rfl, fn_rows G hg gl2 al2 (by simp) (fun s h => by have := gb2 s h; omega) (fun s h => by have := ab2 s h; omega) ?_⟩
    refine b_lst (l := g1.map (goneR pA) ++ a1.map (addR pA)) (m := g2.map (goneR (pH hn)) ++ a2.map (addR (pH hn))) rfl rfl (szl (by simp; omega)) fun r1 hr1 => ?_
    repeat walk_at "mine.step"
    refine ⟨pH hn, 2, rfl, rfl, szl (by simp [pH]), ?_⟩
    rw [show (pH hn).take (cut 2 (pH hn).length) = pK hn from rfl]
    repeat walk_at "mine.step"
    refine ⟨szl (by simp), ?_⟩
    refine b_tup (szl (by simp [pK])) ?_
    repeat walk_at "mine.step"
    refine ⟨szl (by simp), ?_⟩
    repeat walk_at "mine.step"
    refine ⟨szl (by simp), ?_⟩
    repeat walk_at "mine.step"
    refine ⟨szl (by simp), ?_⟩
    repeat walk_at "mine.step"
    refine ⟨pH hn, 2, rfl, rfl, szl (by simp [pH]), ?_⟩
    rw [show (pH hn).take (cut 2 (pH hn).length) = pK hn from rfl]
    repeat walk_at "mine.step"
    refine ⟨szl (by simp), ?_⟩
    refine b_tup (szl (by simp [pK])) ?_
    repeat walk_at "mine.step"
    refine ⟨szl (by simp), ?_⟩
    repeat walk_at "mine.step"
    refine ⟨szl (by simp), ?_⟩
    repeat walk_at "mine.step"
    refine ⟨szl (by simp), fun r2 hr2 => ?_⟩
    obtain ⟨h21, h2n⟩ := upd_none hr2
    refine b_lst (l := g1.map (goneR pA) ++ a1.map (addR pA) ++ (g2.map (goneR (pH hn)) ++ a2.map (addR (pH hn)))) (m := (rX hn).map RD.pv) (vw_ref (by rw [upd_ne (Ne.symm h21), upd_same])) (vw_ref (upd_same _ _ _)) (szl (by simp [rX]; omega)) fun r3 hr3 => ?_
    obtain ⟨h32, h3n⟩ := upd_none hr3
    obtain ⟨h31, h3m⟩ := upd_none h3n
    obtain ⟨h3d, h3k⟩ := upd_none h3m
    obtain ⟨h3p, h3H⟩ := upd_none h3k
    rw [show g1.map (goneR pA) ++ a1.map (addR pA) ++ (g2.map (goneR (pH hn)) ++ a2.map (addR (pH hn))) ++ (rX hn).map RD.pv = (rG pA g1 a1 ++ rG (pH hn) g2 a2 ++ rX hn).map RD.pv by rw [List.map_append, List.map_append, pv_rG, pv_rG]]
    have hR : ((rG pA g1 a1 ++ rG (pH hn) g2 a2 ++ rX hn).map RD.pv).length ≤ 500 := by rw [List.length_map]; simp [rG, rX]; omega
    generalize hRR : (rG pA g1 a1 ++ rG (pH hn) g2 a2 ++ rX hn).map RD.pv = RR at hR
    refine SO.of_forget (H' := upd (upd (upd H pen mo1) d (.tdct (miD (ent kA g1 a1)))) r3 (.lst RR)) ?_ (Le.upd2 (((Le.refl _).upd hr1 _).upd hr2 _) _ _)
    clear hr1 hr2 h21 h2n h32 h31 hr3 h3n h3m
    refine s_consF (upd (upd (upd H pen mo1) d (.tdct (miD (ent kA g1 a1 ++ ent (kH hn) g2 a2)))) r3 (.lst RR)) ?_ ?_
    · repeat walk_at "mine.step"
      (focus ((refine' i_tup (k := 1) (j := 1) (by decide) (by decide) _ _ _); rotate_left; exact rfl; exact rfl))
      repeat walk_at "mine.step"
      (focus ((refine' i_tup (k := 2) (j := 2) (by decide) (by decide) _ _ _); rotate_left; exact rfl; exact rfl))
      refine b_lst (l := pvs g2) (m := pvs a2) rfl rfl (szl (by rw [pvs_len, pvs_len]; omega)) fun r hr => ?_
      obtain ⟨hr3', hr0⟩ := upd_none hr
      obtain ⟨hrd, hr1⟩ := upd_none hr0
      repeat walk_at "mine.step"
      refine ⟨szl (by simp), fun l hl => ?_⟩
      obtain ⟨hlr, hl1⟩ := upd_none hl
      obtain ⟨hl3, hl0⟩ := upd_none hl1
      obtain ⟨hld, hl2⟩ := upd_none hl0
      have e1 : vw (upd (upd (upd (upd (upd H pen mo1) d (.tdct (miD (ent kA g1 a1)))) r3 (.lst RR)) r (.lst (pvs g2 ++ pvs a2))) l (.lst [])) (.ref r) = .lst (pvs (g2 ++ a2)) := by
        rw [show pvs (g2 ++ a2) = pvs g2 ++ pvs a2 by simp [pvs]]
        exact vw_ref (by rw [upd_ne (Ne.symm hlr), upd_same])
      refine c_neb (decide (g2 ++ a2 ≠ [])) rm (by rw [e1]; exact pvs_ok _) (by rw [vw_upd]; rfl) (by rw [e1]; exact Nat.le_trans (Nat.succ_le_succ (pvs_dep _)) (by decide)) (by
        rw [e1, vw_upd]
        by_cases h : g2 ++ a2 = []
        · rw [h, show peq (.lst (pvs [])) (.lst []) = true from peq_self _]; rfl
        · rw [peq_ne (by intro q; injection q with q; exact h (by simpa [pvs] using q))]; simp [h]) ?_
      repeat walk_at "mine.step"
      by_cases h : g2 ++ a2 = []
      · rw [show decide (g2 ++ a2 ≠ []) = false by simp [h]]
        first | (focus ((with_reducible refine' if_t ?_ ?_); exact rfl)) | (focus ((with_reducible refine' if_f ?_ ?_); exact rfl))
        repeat walk_at "mine.step"
        refine ⟨Sub.refl _, ?_⟩
        rw [show ent (kH hn) g2 a2 = [] by unfold ent; rw [if_pos h], List.append_nil]
        exact ((Le.refl _).upd hr _).upd hl _
      · rw [show decide (g2 ++ a2 ≠ []) = true by simp [h]]
        first | (focus ((with_reducible refine' if_t ?_ ?_); exact rfl)) | (focus ((with_reducible refine' if_f ?_ ?_); exact rfl))
        repeat walk_at "mine.step"
        (focus ((refine' i_tup (k := 1) (j := 1) (by decide) (by decide) _ _ _); rotate_left; exact rfl; exact rfl))
        repeat walk_at "mine.step"
        (focus ((refine' i_tup (k := 2) (j := 2) (by decide) (by decide) _ _ _); rotate_left; exact rfl; exact rfl))
        repeat walk_at "mine.step"
        refine ⟨szl (by simp), ?_⟩
        repeat walk_at "mine.step"
        refine set_tdct (kvs := miD (ent kA g1 a1)) rm1 (by rw [upd_ne (Ne.symm hld), upd_ne (Ne.symm hrd), upd_ne (Ne.symm h3d), upd_same]) rfl (szl (by unfold miD ent; split <;> simp)) ?_
        repeat walk_at "mine.step"
        refine ⟨Sub.refl _, ?_⟩
        rw [show kvPut (miD (ent kA g1 a1)) ([PV.str "A", PV.int hn, PV.str "B"].map kOf) (.tup [.lst (pvs g2), .lst (pvs a2)]) = miD (ent kA g1 a1 ++ ent (kH hn) g2 a2) by
          rw [show ent (kH hn) g2 a2 = [(kH hn, (g2, a2))] by unfold ent; rw [if_neg h]]
          exact miD_put (kH_new _ _ _) g2 a2]
        rw [upd_comm hld, upd_comm hrd, upd_comm h3d, upd_upd]
        refine ((Le.refl _).upd ?_ _).upd ?_ _
        · rw [upd_ne hr3', upd_ne hrd]; exact hr1
        · rw [upd_ne hlr, upd_ne hl3, upd_ne hld]; exact hl2
    have ed2 : ∀ {mo' : MO} {RR' : List PV}, upd (upd (upd H pen mo') d (.tdct (miD (ent kA g1 a1 ++ ent (kH hn) g2 a2)))) r3 (.lst RR') d = some (.tdct (miD (ent kA g1 a1 ++ ent (kH hn) g2 a2))) := by intro mo' RR'; rw [upd_ne (Ne.symm h3d), upd_same]
    generalize hst2 : ((rngI n2).filter fun s => decide (s ∉ g2)) = st2
    have hstl2 : st2.length ≤ 7 := by rw [← hst2]; exact Nat.le_trans (List.length_filter_le _ _) (by rw [rngI_sub]; omega)
    have hstm2 : ∀ s ∈ st2, s ∈ rngI n2 ∧ s ∉ g2 := by intro s h; rw [← hst2] at h; simpa using h
    refine s_cons (s_end (s_comp rm.1 hg (cl := [("inner", L + 2)]) ⟨rfl, by decide, rfl, by decide, rfl, by intro p hp; simp only [List.mem_singleton] at hp; subst hp; exact ⟨rfl, rfl, rfl⟩, rfl⟩ ?_))
    (focus ((with_reducible refine' e_callT (x := "range") (T := "range") G ?_ ?_ ?_ ?_ ?_ ?_ ?_ ?_ ?_ ?_); decide; exact rfl; decide; decide; rotate_left; exact rfl; exact rfl; exact rfl; exact rfl; exact rfl))
    repeat walk_at "mine.step"
    (focus ((refine' i_tup (k := 0) (j := 0) (by decide) (by decide) _ _ _); rotate_left; exact rfl; exact rfl))
    repeat walk_at "mine.step"
    refine k_range ?_
    refine ⟨rngL n2, .rng _ (by omega) (by omega), szl (by rw [rngL_len]; omega), fun i ys H₂ => H₂ = upd (upd (upd H pen mo1) d (.tdct (miD (ent kA g1 a1 ++ ent (kH hn) g2 a2)))) r3 (.lst RR) ∧ ys = pvs ((rngI i).filter fun s => decide (s ∉ g2)), ⟨rfl, rfl⟩, ?_, ?_⟩
    · rintro C D i x ys H₂ hD hi ⟨rfl, rfl⟩
      obtain ⟨rfl, hi'⟩ := rngL_get hi
      refine tests_one ?_
      repeat walk_at "mine.step"
      (focus ((refine' i_tup (k := 1) (j := 1) (by decide) (by decide) _ _ _); rotate_left; exact rfl; exact rfl))
      refine c_nib (decide ((i : Int) ∉ g2)) rm rfl (pvs_ok _) rfl (Nat.le_trans (pvs_dep _) (by decide)) (by rw [show vw _ (.int (i : Int)) = .int i from rfl, pin_int]; simp) ?_
      repeat walk_at "mine.step"
      by_cases hr : (i : Int) ∈ g2
      · rw [decide_eq_false (by simpa using hr)]
        first | (focus ((with_reducible refine' if_t ?_ ?_); exact rfl)) | (focus ((with_reducible refine' if_f ?_ ?_); exact rfl))
        refine ⟨_, rfl, hD, rfl, ?_⟩
        rw [rngI_succ, List.filter_append]; simp [hr]
      · rw [decide_eq_true hr]
        first | (focus ((with_reducible refine' if_t ?_ ?_); exact rfl)) | (focus ((with_reducible refine' if_f ?_ ?_); exact rfl))
        repeat walk_at "mine.step"
        refine ⟨_, rfl, hD, rfl, ?_⟩
        rw [rngI_succ, List.filter_append]; simp [hr, pvs]
    rintro D ys H₂ hD ⟨rfl, rfl⟩
    rw [rngL_len, hst2]
    refine ⟨_, upd (upd (upd H pen mo1) d (.tdct (miD (ent kA g1 a1 ++ ent (kH hn) g2 a2)))) r3 (.lst RR), .of_le ((Le.refl _).upd hD _), fz_bnd' (.ref (upd_same _ _ _) hD (.refl _)), ?_⟩
    clear hD
    repeat walk_at "mine.step"
    refine ⟨szl (by simp), fun l5 hl5 => ?_⟩
    obtain ⟨hl53, hl5n⟩ := upd_none hl5
    obtain ⟨hl5d, hl5k⟩ := upd_none hl5n
    refine c_neb (decide (st2 ≠ [])) rm (pvs_ok _) (by rw [vw_upd]; rfl) (Nat.le_trans (Nat.succ_le_succ (pvs_dep st2)) (by decide)) (by
      rw [vw_upd, show vw _ (.lst (pvs st2)) = .lst (pvs st2) from rfl]
      by_cases h : st2 = []
      · rw [h, show peq (.lst (pvs [])) (.lst []) = true from peq_self _]; rfl
      · rw [peq_ne (by intro q; injection q with q; exact h (by simpa [pvs] using q))]; simp [h]) ?_
    repeat walk_at "mine.step"
    by_cases hs2 : st2 = []
    · rw [show decide (st2 ≠ []) = false by simp [hs2]]
      first | (focus ((with_reducible refine' if_t ?_ ?_); exact rfl)) | (focus ((with_reducible refine' if_f ?_ ?_); exact rfl))
      repeat walk_at "mine.step"
      refine ⟨tailσ d (.lst RR), onlyD d (ent kA g1 a1 ++ ent (kH hn) g2 a2), onlyD_fz (by rw [upd_ne (Ne.symm hl5d)]; exact ed2), endz (p := .ref r3) rfl rfl (.ref (by rw [upd_ne (Ne.symm hl53), upd_same]) (onlyD_none h3d) (.refl _)), ?_⟩
      exact ⟨_, _, _, _, bk1 gl1 al1 gl2 al2 mif mib, by rw [hRR]; exact Sub.refl _, by unfold onlyD; rw [upd_same]⟩
    · rw [show decide (st2 ≠ []) = true by simp [hs2]]
      first | (focus ((with_reducible refine' if_t ?_ ?_); exact rfl)) | (focus ((with_reducible refine' if_f ?_ ?_); exact rfl))
      have hstp2 : 0 < st2.length := List.length_pos_iff.mpr hs2
      refine SO.of_forget (H' := upd (upd (upd H pen mo1) d (.tdct (miD (ent kA g1 a1 ++ ent (kH hn) g2 a2)))) r3 (.lst RR)) ?_ ((Le.refl _).upd hl5 _)
      clear hl5 hl5n hl5k hl53 hl5d
      repeat walk_at "mine.step"
      (focus ((with_reducible refine' e_callF G mem_draw ok_draw hg rm ?_ ?_ ?_ ?_ ?_ ?_); rotate_left; exact rfl; exact rfl; exact rfl; decide; exact rfl))
      repeat walk_at "mine.step"
      (focus ((with_reducible refine' e_callB (x := "len") (id := "len") G ?_ ?_ ?_ ?_ ?_ ?_ ?_ ?_ ?_ ?_); decide; exact rfl; decide; decide; rotate_left; exact rfl; exact rfl; exact rfl; exact rfl; exact rfl))
      repeat walk_at "mine.step"
      refine k_len_lst rfl (szl (by rw [pvs_len]; omega)) ?_
      repeat walk_at "mine.step"
      refine ⟨rfl, fn_draw' G (mo := mo1) (N := N + 1) (by rw [upd_ne (Ne.symm h3p), upd_ne (Ne.symm hdp), upd_same]) ok1 (by omega) (by rw [pvs_len]; omega) (by rw [pvs_len]; omega) fun r' mo2 r0' r1' ok2 => ?_⟩
      rw [upd_comm h3p, upd_comm hdp, upd_upd]
      obtain ⟨ss, hsm, hsg⟩ := pvs_get r0' r1'
      obtain ⟨hq1, hq2⟩ := hstm2 ss hsm
      obtain ⟨u, hu⟩ := stays_at c2 hq1 hq2
      obtain ⟨sn, rfl, nib⟩ := c2.mi' hu
      have nif := c2.mi hu
      refine i_lst (ds := pvs st2) (p := .int sn) rfl r0' (by rw [pvs_len] at r1'; omega) hsg ?_
      repeat walk_at "mine.step"
      (focus ((with_reducible refine' e_meth PySem.F.plainAttrs_list PySem.F.slot_list_append PySem.F.type_list_append ?_ ?_ ?_ ?_ ?_ ?_); rotate_left; exact rfl; exact rfl; exact rfl; exact rfl; exact rfl))
      repeat walk_at "mine.step"
      refine ⟨hasList (ds := RR) (vw_ref (upd_same _ _ _)), ?_⟩
      repeat walk_at "mine.step"
      refine ⟨szl (by simp), ?_⟩
      refine b_tup (szl (by simp)) ?_
      repeat walk_at "mine.step"
      refine ⟨szl (by simp), ?_⟩
      repeat walk_at "mine.step"
      refine ⟨szl (by simp), ?_⟩
      repeat walk_at "mine.step"
      refine ⟨szl (by simp), ?_⟩
      repeat walk_at "mine.step"
      refine k_append (upd_same _ _ _) (szl (by omega)) ⟨rfl, ?_⟩
      rw [upd_upd]
      repeat walk_at "mine.step"
      have np : NP (ent kA g1 a1 ++ ent (kH hn) g2 a2) ([PV.str "A", PV.int hn, PV.str "B"] ++ [PV.int sn, PV.str "Z"]) ([PV.str "A", PV.int t, PV.str "B"] ++ [PV.int u, PV.str "Z"]) := by
        have l1 := look2A g1 a1 g2 a2 hn
        exact NP_snoc (NP_snoc (NP_H l1 mif) (.int (ks := kH hn) (look2H _ _ _ _ _) nif)) (.str _ _ _)
      (focus ((with_reducible refine' e_callF G mem_npath ok_npath hg rm ?_ ?_ ?_ ?_ ?_ ?_); rotate_left; exact rfl; exact rfl; exact rfl; decide; exact rfl))
      repeat walk_at "mine.step"
      refine ⟨szl (by simp), ?_⟩
      refine b_tup (szl (by simp)) ?_
      repeat walk_at "mine.step"
      have msz : ∀ e ∈ ent kA g1 a1 ++ ent (kH hn) g2 a2, e.2.1.length ≤ 100 := fun e he => ((List.mem_append.mp he).elim (ent_sz gl1 al1 e) (ent_sz gl2 al2 e)).1
      refine ⟨rfl, fn_npath (m := ent kA g1 a1 ++ ent (kH hn) g2 a2) G hg ed2 np rfl ?_ msz (by simp) ?_⟩
      · intro p hp
        simp only [List.cons_append, List.nil_append, List.mem_cons, List.not_mem_nil, or_false] at hp
        rcases hp with rfl | rfl | rfl | rfl | rfl
        · exact .inr (.inl ⟨_, rfl⟩)
        · exact .inl rfl
        · exact .inr (.inl ⟨_, rfl⟩)
        · exact .inl rfl
        · exact .inr (.inl ⟨_, rfl⟩)
      repeat walk_at "mine.step"
      (focus ((with_reducible refine' e_meth PySem.F.plainAttrs_list PySem.F.slot_list_index PySem.F.type_list_index ?_ ?_ ?_ ?_ ?_ ?_); rotate_left; exact rfl; exact rfl; exact rfl; exact rfl; exact rfl))
      repeat walk_at "mine.step"
      (focus ((refine' i_tup (k := 3) (j := 3) (by decide) (by decide) _ _ _); rotate_left; exact rfl; exact rfl))
      refine ⟨hasList (ds := m2.map optP) rfl, ?_⟩
      repeat walk_at "mine.step"
      refine k_index (ds := m2.map optP) (j := u) (x := .int sn) rm1 rfl rfl ok2' (by omega) (szl (by simp; omega)) (optP_get hu) (fun i hi => optP_ne (first_index c2 hu i hi)) ?_
      repeat walk_at "mine.step"
      refine ⟨szl (by simp), ?_⟩
      refine b_tup (szl (by simp)) ?_
      refine c_neb false rm rfl rfl (Nat.le_of_ble_eq_true rfl) (by rw [show vw _ (.tup ([PV.str "A", PV.int t, PV.str "B"] ++ [PV.int u, PV.str "Z"])) = .tup ([PV.str "A", PV.int t, PV.str "B"] ++ [PV.int u, PV.str "Z"]) from rfl, peq_self]; rfl) ?_
      repeat walk_at "mine.step"
      first | (focus ((with_reducible refine' if_t ?_ ?_); exact rfl)) | (focus ((with_reducible refine' if_f ?_ ?_); exact rfl))
      repeat walk_at "mine.step"
      refine ⟨tailσ d (.lst (RR ++ (rT hn sn).map RD.pv)), onlyD d (ent kA g1 a1 ++ ent (kH hn) g2 a2), onlyD_fz ed2, endz (p := .ref r3) rfl rfl (.ref (upd_same _ _ _) (onlyD_none h3d) (.refl _)), ?_⟩
      exact ⟨_, _, _, _, bk2 gl1 al1 gl2 al2 mif mib nif nib, by rw [List.map_append (l₁ := rG pA g1 a1 ++ rG (pH hn) g2 a2 ++ rX hn), hRR]; exact Sub.refl _, by unfold onlyD; rw [upd_same]⟩
end
end Mine

open PySem PySem.W PyProof.Rows PySem.Calls
set_option Elab.async false
set_option maxRecDepth 100000
set_option maxHeartbeats 8000000
set_option linter.unusedVariables false
set_option linter.unusedSectionVars false
namespace Mine
section
variable {c : Cx} {σ : Loc} {H K : Store} {Q : PV → Store → Prop} {Qn : Loc → Store → Prop} {Qr : PV → Store → Prop} {mg mb : Str → Option Value} {k : Nat}
theorem fn_law {l : Addr} {vs : List Value} {ns : List Int} (G : Gl thePr c.B mg mb) (hg : ∀ a, c.g.get? a = none) (hl : c.B.IsList l vs.toArray) (hi : IntsAre vs ns) (sz : vs.length ≤ 1000) (hH : ∀ a, H a = none) :
    FnO c rc18 (k + 6) [.ref l] H (fun p _ => p = .bool true) := by
  intro A L a cd rm
  have hb : rc18.body = rc18.body := rfl
  conv at hb => rhs; whnf
  rw [hb]; clear hb
  repeat walk_at "mine.step"
  (focus ((with_reducible refine' e_callF G mem_pen ok_pen hg rm ?_ ?_ ?_ ?_ ?_ ?_); rotate_left; exact rfl; exact rfl; exact rfl; decide; exact rfl))
  repeat walk_at "mine.step"
  refine ⟨rfl, fn_pen (c := fcx c rc18 A L a cd) G hl hi sz fun pen mo hp ok => ?_⟩
  repeat walk_at "mine.step"
  (focus ((with_reducible refine' e_callF G mem_change ok_change hg rm ?_ ?_ ?_ ?_ ?_ ?_); rotate_left; exact rfl; exact rfl; exact rfl; decide; exact rfl))
  repeat walk_at "mine.step"
  refine ⟨rfl, fn_change G hg (upd_same _ _ _) ok (by decide) fun n1 g1 a1 m1 mo1 c1 ok1 => ?_⟩
  rw [upd_upd]
  repeat walk_at "mine.step"
  (focus ((with_reducible refine' e_callF G mem_change ok_change hg rm ?_ ?_ ?_ ?_ ?_ ?_); rotate_left; exact rfl; exact rfl; exact rfl; decide; exact rfl))
  repeat walk_at "mine.step"
  refine ⟨rfl, fn_change G hg (upd_same _ _ _) ok1 (by decide) fun n2 g2 a2 m2 mo2 c2 ok2 => ?_⟩
  rw [upd_upd]
  repeat walk_at "mine.step"
  refine ⟨szl (by simp), ?_⟩
  refine u_tup rm.1 (us_cons (u_name (us_cons (u_name (us_nil ?_))))) rfl rfl
  refine s_loc (σ' := lσ pen (chP n1 g1 a1 m1) (chP n2 g2 a2 m2)) ?_ ?_
  · intro x p e
    unfold lσ bnd at e
    unfold bnd
    by_cases h1 : x = "outer"
    · subst h1
      rw [if_pos rfl] at e
      rw [if_neg (by decide), if_pos rfl]; exact e
    · rw [if_neg h1] at e
      by_cases h2 : x = "inner"
      · rw [if_pos h2] at e ⊢; exact e
      · rw [if_neg h2] at e
        rw [if_neg h2, if_neg h1]
        by_cases h3 : x = "pen"
        · rw [if_pos h3] at e ⊢; exact e
        · rw [if_neg h3] at e; cases e
  have rm' : Rm (k + 6) A := rm
  exact law_look (c := c) G hg rm' c1 c2 (law_mid (c := c) G hg rm' c1 c2 (hH pen) (ok2.mono (by decide)) (Int.le_refl 900) fun d rs rs' m m' K B e =>
    SO.mono (law_tail (c := c) G hg rm' B e (fun _ => rfl)) (fun _ _ h => h.elim) fun _ _ h => h)
end
end Mine

open PySem PySem.W PyProof.Rows PySem.Calls
set_option Elab.async false
set_option maxRecDepth 100000
set_option maxHeartbeats 8000000
set_option linter.unusedVariables false
set_option linter.unusedSectionVars false
namespace Mine
/-- what the law's module holds behind its top: the defs alone -/
def defPr : Program := view thePr [0, 5, 6, 7, 8, 9, 10, 11, 12, 13, 14, 15, 16, 17, 19, 20, 21, 22, 23]
def loo : List Str := [Str.ofString "PaperError", Str.ofString "DraftFault"]
abbrev theRow : RowW := (OpenLaw.row PySem.Challenge.rw_og0149_01).toRowW
theorem topRuns : LeftO thePr defPr loo (fun s => xlAt defPr [] s && recOk (RowW.records theRow) s) Hook.none.obs Hook.none.val 2400 := fun w => by
  first
    | (unfold openEnds fencedOpening topFrom thePr
       rw [Fast.te10274390034422433532, Fast.te14364793385576792824, Fast.te1435165496053646825, Fast.te14289696077712309145, Fast.te14082659384304107361, Fast.te4187177175401517315, Fast.te8920871248978507458, Fast.te5923862056798008813]
       kernel_rfl)
    | kernel_rfl
theorem viewRecs : recsOf defPr = recsOf thePr := by kernel_rfl
abbrev freeNs : List Str := ["len", "range", "list", "isinstance", "abs", "int", "str", "tuple", "zip"]
theorem freeNames {loose : List Str} {mean : ExcName → Option Value} {mg mb : Str → Option Value} {h : Heap} (T : Top defPr loose mean mg mb h) (hl : freeNs.all (fun x => !loose.contains x) = true)
    (hc : freeNs.all (fun x => !startupNames.contains x && !((recsOf defPr).map (·.name)).contains x && !((litsOf defPr).map (·.1)).contains x && !((clssOf defPr loose).map (·.name)).contains x) = true) :
    ∀ x ∈ freeNs, mg x = none := fun x hx => by
  have h1 := List.all_eq_true.mp hl x hx
  have h2 := List.all_eq_true.mp hc x hx
  simp only [Bool.and_eq_true, Bool.not_eq_true', List.contains_eq_mem, decide_eq_false_iff_not] at h1 h2
  exact T.free x h2.1.1.1 h1 h2.1.1.2 h2.1.2 h2.2
end Mine

open PySem PySem.W PyProof.Rows PySem.Calls
set_option Elab.async false
set_option maxRecDepth 100000
set_option maxHeartbeats 8000000
set_option linter.unusedVariables false
set_option linter.unusedSectionVars false
namespace Mine
theorem end_law {prog : Program} {loose : List Str} {mean : ExcName → Option Value} {mg mb : Str → Option Value} {w : World} {s₁ : Shared} {fa l : Addr} {vs : List Value} {ns : List Int} {RR : Result → Shared → Prop}
    (T : Top defPr loose mean mg mb s₁.heap) (hfree : ∀ x ∈ freeNs, mg x = none)
    (hmg : mg "law" = some (.ref fa)) (hL : s₁.heap.IsList l vs.toArray) (hI : IntsAre vs ns) (hcond : ¬ ((63 : Int) < (ns.length : Int)))
    (fin : ∀ s' L m, Same s₁ s' → Fr s₁.heap L s'.heap m → RR (.ok (.ret (.bool true))) s') : codeAny (model prog w) callerA (.call (.ref fa) ⟨[.ref l], []⟩) RR s₁ := by
  have fn := T.fn
  rw [viewRecs] at fn
  obtain ⟨a', o', pm, cd, doc, hm, ho, hdat, hcd⟩ := fn rc18 mem_law
  have ea : a' = fa := by
    have hm' : mg "law" = some (.ref a') := hm
    rw [hmg] at hm'
    injection hm' with hm'
    injection hm' with hm'
    exact hm'.symm
  subst ea
  have G : Gl thePr s₁.heap mg mb := ⟨T.g, T.b, T.builtins, T.nolimit, hfree, fn⟩
  have hlen := hI.length
  refine enter_fn (k := 6) ok_law ⟨rfl, by decide, by decide⟩ T.nolimit ho hdat hcd (fn_law (k := 0) (c := topCx prog w callerA s₁.heap) G (fun a => e0_get a) hL hI (by omega) (fun _ => rfl)) ?_
  rintro v p H' s' L m e r rfl F
  cases r
  exact fin s' L m e F
end Mine

open PySem PySem.W PyProof.Rows
set_option Elab.async false
set_option maxRecDepth 100000
set_option maxHeartbeats 8000000
theorem PySem.Challenge.cw_og0149_01_holds : PySem.Challenge.rw_og0149_01.Holds := by
  w_on; o_law
  refine PySem.W.holds_open (q := Mine.defPr) (loose := Mine.loo) (XP := XL Mine.defPr []) (YP := Hook.none.says) Mine.topRuns Hook.none.of Hook.none.keeps (fun s e => xl_of s (Bool.and_eq_true_iff.mp e).1) XL.keeps rfl rfl rfl (fun s e => recFacts_of (Bool.and_eq_true_iff.mp e).2) rfl (by assumption) (by decide +kernel) ⟨rfl, rfl, rfl, rfl, rfl, by decide +kernel⟩ ?hw ?_
  (case hw => w_witness2)
  intro w s₀ s₁ mg mb G Y fa o pm cd doc dV kV ho hdo hcd hD hmg hg args vals as hpre hlay hrd hwl hlo
  refine Ground.open G ?_
  intro T B D TE TW
  wrow_args hpre hlay hrd hwl hlo
  all_goals (
    first | refine callC_kw (enter_call ?_) | refine enter_call ?_ | refine callC_kw (enter_callW ?_) | refine enter_callW ?_ | w_how)
  refine Mine.end_law T (Mine.freeNames T (by decide +kernel) (by decide +kernel)) hmg (by assumption) (by assumption) (by assumption) ?_
  intro s' L m e F
  obtain ⟨h', tk, rfl⟩ := e
  exact GoodW.toG (goodW_bool F hg (fun _ => rfl) (by wrow_post))
