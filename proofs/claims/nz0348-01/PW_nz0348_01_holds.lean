import PyProof.Rows.All
import Wide.All
import OpenK.AllK
import Wide.FinOn
import PySem.Challenge.RW_nz0348_01
set_option Elab.async false
set_option compiler.extract_closed false
section
open PySem PySem.Calls PyProof.Rows PySem.W
namespace Mine

/-! ## mini values, objects, states -/
inductive MA where
  | none | bool (b : Bool) | int (i : Int) | bytes (b : Array UInt8) | ref (k : Addr)
inductive MV where
  | a (x : MA) | tup (xs : List MA) | rng (lo hi st : Int)
inductive MO where
  | list (xs : List MV) | dict (es : List (Str × MV)) | inst (dx : Addr) (es : List (Str × MV)) | aux (k : Addr) | barr (b : Array UInt8) | froz (xs : List MV)
abbrev MV.none : MV := .a .none
abbrev MV.bool (b : Bool) : MV := .a (.bool b)
abbrev MV.int (i : Int) : MV := .a (.int i)
abbrev MV.bytes (b : Array UInt8) : MV := .a (.bytes b)
abbrev MV.ref (k : Addr) : MV := .a (.ref k)
abbrev MS := Addr → Option MO
def upd (σ : MS) (k : Addr) (o : MO) : MS := fun j => if j = k then some o else σ j
theorem upd_eq {σ : MS} {k : Addr} {o : MO} : upd σ k o k = some o := by simp [upd]
theorem upd_ne {σ : MS} {k j : Addr} {o : MO} (h : j ≠ k) : upd σ k o j = σ j := by simp [upd, h]

inductive F2 {α β : Type} (R : α → β → Prop) : List α → List β → Prop where
  | nil : F2 R [] []
  | cons {x y xs ys} : R x y → F2 R xs ys → F2 R (x :: xs) (y :: ys)
theorem F2.imp {α β : Type} {R S : α → β → Prop} (h : ∀ x y, R x y → S x y) : ∀ {xs ys}, F2 R xs ys → F2 S xs ys
  | _, _, .nil => .nil
  | _, _, .cons a b => .cons (h _ _ a) (b.imp h)
theorem F2.length {α β : Type} {R : α → β → Prop} : ∀ {xs ys}, F2 R xs ys → xs.length = ys.length
  | _, _, .nil => rfl
  | _, _, .cons _ b => by rw [List.length_cons, List.length_cons, b.length]
theorem F2.append {α β : Type} {R : α → β → Prop} : ∀ {xs ys zs ws}, F2 R xs ys → F2 R zs ws → F2 R (xs ++ zs) (ys ++ ws)
  | _, _, _, _, .nil, h => h
  | _, _, _, _, .cons a b, h => .cons a (b.append h)
theorem F2.get {α β : Type} {R : α → β → Prop} : ∀ {xs ys} {i : Nat} {y : β}, F2 R xs ys → ys[i]? = some y → ∃ x, xs[i]? = some x ∧ R x y
  | _, _, 0, _, .cons a _, h => by simp at h; subst h; exact ⟨_, rfl, a⟩
  | _, _, i + 1, _, .cons _ b, h => by simp at h; simpa using b.get h
theorem F2.noneAt {α β : Type} {R : α → β → Prop} {xs ys} {i : Nat} (f : F2 R xs ys) (h : ys[i]? = .none) : xs[i]? = .none := by
  rw [List.getElem?_eq_none_iff] at h ⊢; rw [f.length]; exact h
theorem F2.take {α β : Type} {R : α → β → Prop} : ∀ {xs ys} (n : Nat), F2 R xs ys → F2 R (xs.take n) (ys.take n)
  | _, _, 0, _ => by simpa using F2.nil
  | _, _, _ + 1, .nil => by simpa using F2.nil
  | _, _, n + 1, .cons a b => by simpa using F2.cons a (b.take n)
theorem F2.drop {α β : Type} {R : α → β → Prop} : ∀ {xs ys} (n : Nat), F2 R xs ys → F2 R (xs.drop n) (ys.drop n)
  | _, _, 0, h => by simpa using h
  | _, _, _ + 1, .nil => by simpa using F2.nil
  | _, _, n + 1, .cons _ b => by simpa using b.drop n
theorem F2.reverse {α β : Type} {R : α → β → Prop} : ∀ {xs ys}, F2 R xs ys → F2 R xs.reverse ys.reverse
  | _, _, .nil => by simpa using F2.nil
  | _, _, .cons a b => by simpa using b.reverse.append (.cons a .nil)
theorem F2.eraseIdx {α β : Type} {R : α → β → Prop} : ∀ {xs ys} (n : Nat), F2 R xs ys → F2 R (xs.eraseIdx n) (ys.eraseIdx n)
  | _, _, _, .nil => by simpa using F2.nil
  | _, _, 0, .cons _ b => by simpa using b
  | _, _, n + 1, .cons a b => by simpa using F2.cons a (b.eraseIdx n)
theorem F2.set {α β : Type} {R : α → β → Prop} : ∀ {xs ys} (n : Nat) {x : α} {y : β}, R x y → F2 R xs ys → F2 R (xs.set n x) (ys.set n y)
  | _, _, _, _, _, _, .nil => by simpa using F2.nil
  | _, _, 0, _, _, h, .cons _ b => by simpa using F2.cons h b
  | _, _, n + 1, _, _, h, .cons a b => by simpa using F2.cons a (b.set n h)

/-! ## association lists -/
def lk {α : Type} : List (Str × α) → Str → Option α
  | [], _ => none
  | (y, v) :: r, x => if x = y then some v else lk r x
def up {α : Type} : List (Str × α) → Str → α → List (Str × α)
  | [], x, v => [(x, v)]
  | (y, u) :: r, x, v => if x = y then (y, v) :: r else (y, u) :: up r x v
theorem lk_hit {α : Type} {r : List (Str × α)} {x : Str} {v : α} : lk ((x, v) :: r) x = some v := by simp [lk]
theorem lk_skip {α : Type} {r : List (Str × α)} {x y : Str} {u v : α} (h : decide (x = y) = false) (e : lk r x = some v) : lk ((y, u) :: r) x = some v := by
  simp only [decide_eq_false_iff_not] at h; simp [lk, h, e]
theorem up_hit {α : Type} {r : List (Str × α)} {x : Str} {u v : α} : up ((x, u) :: r) x v = (x, v) :: r := by simp [up]
theorem up_skip {α : Type} {r r' : List (Str × α)} {x y : Str} {u v : α} (h : decide (x = y) = false) (e : up r x v = r') : up ((y, u) :: r) x v = (y, u) :: r' := by
  simp only [decide_eq_false_iff_not] at h; simp [up, h, e]
theorem up_nil {α : Type} {x : Str} {v : α} : up [] x v = [(x, v)] := rfl
theorem lk_up {α : Type} {x y : Str} {v : α} : ∀ r : List (Str × α), lk (up r x v) y = if y = x then some v else lk r y
  | [] => by simp [up, lk]
  | (z, u) :: r => by
    by_cases hx : x = z
    · subst hx; by_cases hy : y = x <;> simp [up, lk, hy]
    · have ih := lk_up (x := x) (y := y) (v := v) r
      by_cases hy : y = z
      · subst hy; simp [up, lk, hx, show ¬ y = x from fun e => hx e.symm]
      · simp [up, lk, hx, hy, ih]

/-! ## the relation -/
def ARel : Value → MA → Prop
  | .none, .none => True
  | .bool b, .bool c => b = c
  | .int i _, .int j => i = j
  | .bytes b _, .bytes c => b = c
  | .ref x, .ref y => x = y
  | _, _ => False
abbrev tupObj (items : Array Value) (n : Nat) : Obj := { cls := .type "tuple", data := .seq items n }
abbrev listObj (items : Array Value) (n : Nat) : Obj := { cls := .type "list", data := .seq items n }
abbrev rngObj (lo hi st : Int) (t u v : Tok) : Obj := { cls := .type "range", data := .fields #[.int lo t, .int hi u, .int st v] }
def VRel (h : Heap) : Value → MV → Prop
  | v, .a x => ARel v x
  | .ref x, .tup xs => ∃ items n, h.get? x = some (tupObj items n) ∧ F2 ARel items.toList xs
  | .ref x, .rng lo hi st => ∃ t u v, h.get? x = some (rngObj lo hi st t u v)
  | _, _ => False
theorem ARel.int {v : Value} {i : Int} (h : ARel v (.int i)) : ∃ t, v = .int i t := by
  cases v <;> simp [ARel] at h; subst h; exact ⟨_, rfl⟩
theorem ARel.bool {v : Value} {b : Bool} (h : ARel v (.bool b)) : v = .bool b := by
  cases v <;> simp [ARel] at h; subst h; rfl
theorem ARel.isNone {v : Value} (h : ARel v .none) : v = .none := by
  cases v <;> simp [ARel] at h; rfl
theorem ARel.bytes {v : Value} {b : Array UInt8} (h : ARel v (.bytes b)) : ∃ t, v = .bytes b t := by
  cases v <;> simp [ARel] at h; subst h; exact ⟨_, rfl⟩
theorem ARel.ref {v : Value} {k : Addr} (h : ARel v (.ref k)) : v = .ref k := by
  cases v <;> simp [ARel] at h; subst h; rfl
theorem VRel.int {h : Heap} {v : Value} {i : Int} (x : VRel h v (.int i)) : ∃ t, v = .int i t := ARel.int (by cases v <;> exact x)
theorem VRel.bool {h : Heap} {v : Value} {b : Bool} (x : VRel h v (.bool b)) : v = .bool b := ARel.bool (by cases v <;> exact x)
theorem VRel.isNone {h : Heap} {v : Value} (x : VRel h v .none) : v = .none := ARel.isNone (by cases v <;> exact x)
theorem VRel.bytes {h : Heap} {v : Value} {b : Array UInt8} (x : VRel h v (.bytes b)) : ∃ t, v = .bytes b t := ARel.bytes (by cases v <;> exact x)
theorem VRel.ref {h : Heap} {v : Value} {k : Addr} (x : VRel h v (.ref k)) : v = .ref k := ARel.ref (by cases v <;> exact x)
theorem VRel.tup {h : Heap} {v : Value} {xs : List MA} (x : VRel h v (.tup xs)) : ∃ k items n, v = .ref k ∧ h.get? k = some (tupObj items n) ∧ F2 ARel items.toList xs := by
  cases v <;> simp only [VRel] at x
  obtain ⟨items, n, a, b⟩ := x; exact ⟨_, items, n, rfl, a, b⟩
theorem VRel.rng {h : Heap} {v : Value} {lo hi st : Int} (x : VRel h v (.rng lo hi st)) : ∃ k t u w, v = .ref k ∧ h.get? k = some (rngObj lo hi st t u w) := by
  cases v <;> simp only [VRel] at x
  obtain ⟨t, u, w, a⟩ := x; exact ⟨_, t, u, w, rfl, a⟩
theorem VRel.at {h : Heap} {v : Value} {x : MA} : VRel h v (.a x) ↔ ARel v x := by cases v <;> exact Iff.rfl

/-- tuples and ranges stay -/
def IsT (o : Obj) : Prop := (∃ i n, o = tupObj i n) ∨ ∃ lo hi st t u v, o = rngObj lo hi st t u v
theorem IsT.cls {o : Obj} (h : IsT o) : o.cls = .type "tuple" ∨ o.cls = .type "range" := by
  rcases h with ⟨_, _, rfl⟩ | ⟨_, _, _, _, _, _, rfl⟩
  · exact .inl rfl
  · exact .inr rfl
theorem notT_dict {o : Obj} {es n} (h : o.data = .dict es n) : ¬ IsT o := fun t => by
  rcases t with ⟨_, _, rfl⟩ | ⟨_, _, _, _, _, _, rfl⟩ <;> cases h
theorem notT_cell {o : Obj} {v} (h : o.data = .cell v) : ¬ IsT o := fun t => by
  rcases t with ⟨_, _, rfl⟩ | ⟨_, _, _, _, _, _, rfl⟩ <;> cases h
theorem notT_cls {o : Obj} (h1 : o.cls ≠ .type "tuple") (h2 : o.cls ≠ .type "range") : ¬ IsT o := fun t => t.cls.elim h1 h2
def TKeep (h h' : Heap) : Prop := ∀ b o, h.get? b = some o → IsT o → h'.get? b = some o
theorem VRel.keep {h h' : Heap} (k : TKeep h h') {v : Value} {m : MV} (x : VRel h v m) : VRel h' v m := by
  cases m with
  | a y => exact VRel.at.mpr (VRel.at.mp x)
  | tup xs => obtain ⟨a, items, n, rfl, e, f⟩ := x.tup; exact ⟨items, n, k _ _ e (.inl ⟨_, _, rfl⟩), f⟩
  | rng lo hi st => obtain ⟨a, t, u, w, rfl, e⟩ := x.rng; exact ⟨t, u, w, k _ _ e (.inr ⟨_, _, _, _, _, _, rfl⟩)⟩
theorem TKeep.of_keeps {h h' : Heap} (k : ∀ b o, h.get? b = some o → h'.get? b = some o) : TKeep h h' := fun b o e _ => k b o e

structure Cx where
  prog : Program
  w : World
  h₀ : Heap
  mg : Str → Option Value
  mb : Str → Option Value
  os : OsState
  K : Frag
  rd : Addr
abbrev Cx.M (c : Cx) : Model := model c.prog c.w

def ORel (c : Cx) (h : Heap) (k : Addr) : MO → Prop
  | .list xs => ∃ items n, h.get? k = some (listObj items n) ∧ F2 (VRel h) items.toList xs
  | .dict es => ∃ kvs, h.DictOf (strKind c.prog c.w) k kvs ∧ F2 (fun (p : Str × Value) (q : Str × MV) => p.1 = q.1 ∧ VRel h p.2 q.2) kvs es
  | .inst dx es => ∃ en n, h.get? k = some (instObj c.rd dx) ∧ h.get? dx = some (dictOf en n) ∧ F2 (fun (p : DictEntry) (q : Str × MV) => (∃ t, p.key = .str q.1 t) ∧ VRel h p.val q.2) en es
  | .aux _ => ∃ en n, h.get? k = some (dictOf en n)
  | .barr b => h.get? k = some { cls := .type "bytearray", data := .bytearray b 0 }
  | .froz xs => ∃ items, h.IsList k items ∧ F2 (VRel h) items.toList xs
theorem ORel.cls {c : Cx} {h : Heap} {k : Addr} {mo : MO} (x : ORel c h k mo) : ∃ o, h.get? k = some o ∧ ¬ IsT o := by
  cases mo with
  | list xs => obtain ⟨i, n, e, _⟩ := x; exact ⟨_, e, notT_cls (by show Value.type "list" ≠ _; decide) (by show Value.type "list" ≠ _; decide)⟩
  | dict es => obtain ⟨kvs, ⟨o, _, _, e, ex, hd, _⟩, _⟩ := x; exact ⟨o, e, notT_dict hd⟩
  | inst dx es => obtain ⟨_, _, e, _⟩ := x; exact ⟨_, e, notT_cls (fun q => (nomatch q)) (fun q => (nomatch q))⟩
  | aux q => obtain ⟨_, _, e⟩ := x; exact ⟨_, e, notT_dict rfl⟩
  | barr b => exact ⟨_, x, notT_cls (by show Value.type "bytearray" ≠ _; decide) (by show Value.type "bytearray" ≠ _; decide)⟩
  | froz xs => obtain ⟨i, ⟨o, e, hc, _⟩, _⟩ := x; exact ⟨o, e, notT_cls (by rw [hc]; decide) (by rw [hc]; decide)⟩
/-- an object's relation holds on where the object and the tuples stay -/
theorem ORel.keep {c : Cx} {h h' : Heap} {k : Addr} {mo : MO} (t : TKeep h h') (e : ∀ o, h.get? k = some o → h'.get? k = some o)
    (d : ∀ dx es, mo = .inst dx es → ∀ o, h.get? dx = some o → h'.get? dx = some o) (x : ORel c h k mo) : ORel c h' k mo := by
  cases mo with
  | list xs => obtain ⟨i, n, a, b⟩ := x; exact ⟨i, n, e _ a, b.imp fun _ _ => VRel.keep t⟩
  | dict es => obtain ⟨kvs, a, b⟩ := x; exact ⟨kvs, a.at e, b.imp fun _ _ y => ⟨y.1, y.2.keep t⟩⟩
  | inst dx es => obtain ⟨en, n, a, a', b⟩ := x; exact ⟨en, n, e _ a, d _ _ rfl _ a', b.imp fun _ _ y => ⟨y.1, y.2.keep t⟩⟩
  | aux q => obtain ⟨en, n, a⟩ := x; exact ⟨en, n, e _ a⟩
  | barr b => exact e _ x
  | froz xs => obtain ⟨i, ⟨o, a, r⟩, b⟩ := x; exact ⟨i, ⟨o, e _ a, r⟩, b.imp fun _ _ => VRel.keep t⟩

structure Rel (c : Cx) (σ : MS) (h : Heap) : Prop where
  base : ∀ b o, c.h₀.get? b = some o → h.get? b = some o
  obj : ∀ k mo, σ k = some mo → ORel c h k mo
  new : ∀ k mo, σ k = some mo → (∀ xs, mo ≠ .froz xs) → c.h₀.get? k = none
  own : ∀ k dx es, σ k = some (.inst dx es) → σ dx = some (.aux k)
theorem Rel.atk {c : Cx} {σ : MS} {h : Heap} (R : Rel c σ h) {k : Addr} {mo : MO} (e : σ k = some mo) : ∃ o, h.get? k = some o ∧ ¬ IsT o := (R.obj k mo e).cls
theorem Rel.notk {c : Cx} {σ : MS} {h : Heap} (R : Rel c σ h) {k : Addr} (e : h.get? k = none) : σ k = none := by
  cases q : σ k with
  | none => rfl
  | some mo => obtain ⟨o, a, _⟩ := R.atk q; rw [e] at a; cases a
theorem Rel.fresh {c : Cx} {σ : MS} {h : Heap} (R : Rel c σ h) : σ h.objs.size = .none := by
  cases q : σ h.objs.size with
  | none => rfl
  | some mo => obtain ⟨o, a, _⟩ := R.atk q; exact absurd (Heap.lt_size a) (Nat.lt_irrefl _)

/-- what a step of the program leaves alone: all that is no mini object and not in X -/
structure GoX (X : Addr → Prop) (σ σ' : MS) (h h' : Heap) : Prop where
  keep : ∀ b o, σ b = none → ¬ X b → h.get? b = some o → h'.get? b = some o
  new : ∀ b o, σ b = none → h.get? b = some o → σ' b = none
  dom : ∀ b, σ' b = none → σ b = none
abbrev Go := GoX fun _ => False
theorem GoX.refl {X : Addr → Prop} (σ : MS) (h : Heap) : GoX X σ σ h h := ⟨fun _ _ _ _ e => e, fun _ _ e _ => e, fun _ e => e⟩
theorem GoX.trans {X : Addr → Prop} {σ σ' σ'' : MS} {h h' h'' : Heap} (x : GoX X σ σ' h h') (y : GoX X σ' σ'' h' h'') (hX : ∀ b, X b → ∀ o, h.get? b = some o → σ b = none → ∃ o', h'.get? b = some o') : GoX X σ σ'' h h'' :=
  ⟨fun b o e n g => y.keep b o (x.new b o e g) n (x.keep b o e n g), fun b o e g => by
    by_cases n : X b
    · obtain ⟨o', g'⟩ := hX b n o g e; exact y.new b o' (x.new b o e g) g'
    · exact y.new b o (x.new b o e g) (x.keep b o e n g), fun b e => x.dom b (y.dom b e)⟩
theorem Go.trans {σ σ' σ'' : MS} {h h' h'' : Heap} (x : Go σ σ' h h') (y : Go σ' σ'' h' h'') : Go σ σ'' h h'' := GoX.trans x y fun _ f => f.elim
theorem GoX.mono {X Y : Addr → Prop} (hXY : ∀ b, X b → Y b) {σ σ' : MS} {h h' : Heap} (x : GoX X σ σ' h h') : GoX Y σ σ' h h' := ⟨fun b o e n g => x.keep b o e (fun q => n (hXY b q)) g, x.new, x.dom⟩
theorem GoX.tkeep {c : Cx} {X : Addr → Prop} {σ σ' : MS} {h h' : Heap} (R : Rel c σ h) (hX : ∀ b o, X b → h.get? b = some o → ¬ IsT o) (x : GoX X σ σ' h h') : TKeep h h' := fun b o e t => by
  refine x.keep b o ?_ (fun q => hX b o q e t) e
  cases q : σ b with
  | none => rfl
  | some mo => obtain ⟨o', a, n⟩ := R.atk q; rw [e] at a; cases a; exact (n t).elim
theorem Go.tkeep {c : Cx} {σ σ' : MS} {h h' : Heap} (R : Rel c σ h) (x : Go σ σ' h h') : TKeep h h' := GoX.tkeep R (fun _ _ f => f.elim) x
end Mine
end
section
open PySem PySem.Calls PyProof.Rows PySem.W
namespace Mine
variable {c : Cx} {n : Nat} {sc : Scope} {ρ : List (Str × MV)} {σ : MS} {A : Around} {env : Env} {s : Shared}

structure Gd (c : Cx) : Prop where
  g : c.h₀.Ns mainGlobals c.mg
  b : c.h₀.Ns builtinsNs c.mb
  nolimit : c.h₀.NoLimit
  X : c.K.In c.h₀

def Room (A : Around) (n : Nat) : Prop := A.handled = none ∧ A.depth + n < recursionLimit ∧ A.units + 8 * n + 8 < cLine
theorem Room.units (h : Room A n) : A.units < cLine := by have := h.2.2; omega
theorem Room.call (h : Room A (n + 1)) (env : Env) : Room (A.deeper env) n :=
  ⟨h.1, by have := h.2.1; show A.depth + 1 + n < _; omega, by have := h.2.2; show A.units + 3 + 8 * n + 8 < _; omega⟩
theorem Room.depth (h : Room A n) : A.depth < recursionLimit := by have := h.2.1; omega

structure EnvOk (sc : Scope) (env : Env) : Prop where
  scope : env.scope = sc
  kind : sc.kind = .function
  globals : env.globals = mainGlobals
  builtins : env.builtins = builtinsNs
theorem EnvOk.kf (h : EnvOk sc env) : env.scope.kind = .function := h.scope ▸ h.kind
theorem EnvOk.plain (h : EnvOk sc env) : (env.scope.kind == .class || (env.scope.kind == .module && env.locals != env.globals)) = false := by rw [h.kf]; rfl

abbrev FrX (env : Env) : Addr → Prop := fun b => b = env.locals ∨ ∃ x, env.cells.lookup x = some b

structure FrameOk (c : Cx) (env : Env) (ρ : List (Str × MV)) (σ : MS) (h : Heap) : Prop where
  ns : ∃ m, h.Ns env.locals m ∧ ∀ x v, lk ρ x = some v → env.kindOf x = some .local → ∃ u, m x = some u ∧ VRel h u v
  cell : ∀ x v, lk ρ x = some v → env.kindOf x = some .cell → ∃ a u, env.cells.lookup x = some a ∧ h.IsCell a (some u) ∧ VRel h u v
  kind : ∀ x v, lk ρ x = some v → (env.kindOf x = some .local ∨ env.kindOf x = some .cell) ∧ (x == ("__debug__" : Str)) = false
  loc : σ env.locals = none ∧ c.h₀.get? env.locals = none
  cells : ∀ x a, env.cells.lookup x = some a → (∃ u, h.IsCell a u) ∧ σ a = none ∧ c.h₀.get? a = none ∧ a ≠ env.locals
  inj : ∀ x y a, env.cells.lookup x = some a → env.cells.lookup y = some a → x = y
  has : ∀ x, env.kindOf x = some .cell → ∃ a, env.cells.lookup x = some a

theorem FrameOk.locAt {h : Heap} (f : FrameOk c env ρ σ h) : ∃ o, h.get? env.locals = some o := let ⟨_, ⟨o, _, _, e, _⟩, _⟩ := f.ns; ⟨o, e⟩
theorem FrameOk.notT {h : Heap} (f : FrameOk c env ρ σ h) : ∀ b o, FrX env b → h.get? b = some o → ¬ IsT o := fun b o hb e => by
  rcases hb with rfl | ⟨x, hx⟩
  · obtain ⟨_, ⟨o', _, _, e', hd, _⟩, _⟩ := f.ns; rw [e] at e'; cases e'; exact notT_dict hd
  · obtain ⟨⟨u, oc, e', hd⟩, _⟩ := f.cells x b hx; rw [e] at e'; cases e'; exact notT_cell hd
/-- the frame outlives what does not touch it -/
theorem FrameOk.go {σ' : MS} {h h' : Heap} (f : FrameOk c env ρ σ h) (R : Rel c σ h) (g : Go σ σ' h h') : FrameOk c env ρ σ' h' := by
  have t := Go.tkeep R g
  obtain ⟨m, hn, hm⟩ := f.ns
  obtain ⟨o, es, ep, ho, r⟩ := hn
  have ho' := g.keep _ _ f.loc.1 id ho
  have k : ∀ x a, env.cells.lookup x = some a → ∀ o, h.get? a = some o → h'.get? a = some o := fun x a e o ho => g.keep _ _ (f.cells x a e).2.1 id ho
  refine ⟨⟨m, ⟨o, es, ep, ho', r⟩, fun x v e q => ?_⟩, fun x v e q => ?_, f.kind, ⟨g.new _ _ f.loc.1 ho, f.loc.2⟩, fun x a e => ?_, f.inj, f.has⟩
  · obtain ⟨u, a, b⟩ := hm x v e q; exact ⟨u, a, b.keep t⟩
  · obtain ⟨a, u, e1, ⟨oc, e2, e3⟩, e4⟩ := f.cell x v e q; exact ⟨a, u, e1, ⟨oc, k x a e1 _ e2, e3⟩, e4.keep t⟩
  · obtain ⟨⟨u, oc, e1, e2⟩, e4, e5, e6⟩ := f.cells x a e
    exact ⟨⟨u, oc, k x a e _ e1, e2⟩, g.new _ _ e4 e1, e5, e6⟩

/-! ## the judgements -/
structure StepOk (c : Cx) (X : Addr → Prop) (σ σ' : MS) (s s' : Shared) : Prop where
  rel : Rel c σ' s'.heap
  go : GoX X σ σ' s.heap s'.heap
  gens : s'.gens = s.gens
  os : s'.os = s.os
abbrev NoX : Addr → Prop := fun _ => False
theorem StepOk.refl {X : Addr → Prop} (R : Rel c σ s.heap) : StepOk c X σ σ s s := ⟨R, GoX.refl _ _, rfl, rfl⟩
theorem StepOk.tok {X : Addr → Prop} {σ' : MS} {s' : Shared} (x : StepOk c X σ σ' s s') (t : Nat) : StepOk c X σ σ' s { s' with toks := t } := ⟨x.rel, x.go, x.gens, x.os⟩
theorem StepOk.trans {σ' σ'' : MS} {s' s'' : Shared} (x : StepOk c NoX σ σ' s s') (y : StepOk c NoX σ' σ'' s' s'') : StepOk c NoX σ σ'' s s'' :=
  ⟨y.rel, Go.trans x.go y.go, y.gens.trans x.gens, y.os.trans x.os⟩
abbrev Bot : Value → Shared → Prop := fun _ _ => False

def Post {α β : Type} (c : Cx) (X : Addr → Prop) (σ : MS) (s : Shared) (R : Heap → α → β → Prop) (Q : β → MS → Prop) : α → Shared → Prop :=
  fun v s' => ∃ u σ', R s'.heap v u ∧ StepOk c X σ σ' s s' ∧ Q u σ'

def BRel : Heap → Bool → Bool → Prop := fun _ b b' => b = b'
/-- an expression, in a frame -/
def WX {α β : Type} (c : Cx) (n : Nat) (sc : Scope) (ρ : List (Str × MV)) (σ : MS) (R : Heap → α → β → Prop) (t : Env → Sem α) (Q : β → MS → Prop) : Prop :=
  ∀ A env s, Room A n → EnvOk sc env → FrameOk c env ρ σ s.heap → Rel c σ s.heap → wpAny c.M A (t env) (Post c NoX σ s R Q) Bot s
def WE (c : Cx) (n : Nat) (sc : Scope) (ρ : List (Str × MV)) (σ : MS) (e : Expr) (Q : MV → MS → Prop) : Prop := WX c n sc ρ σ VRel (fun env => eval e env) Q
def WB (c : Cx) (n : Nat) (sc : Scope) (ρ : List (Str × MV)) (σ : MS) (e : Expr) (Q : Bool → MS → Prop) : Prop := WX c n sc ρ σ BRel (fun env => isTrue e env (eval e env)) Q
def WL (c : Cx) (n : Nat) (sc : Scope) (ρ : List (Str × MV)) (σ : MS) (pos : Pos) (es : List Expr) (Q : List MV → MS → Prop) : Prop :=
  WX c n sc ρ σ (fun h vs us => F2 (VRel h) vs us) (fun env => spliced (backTo pos (starEach es env))) Q
/-- an operation upon values at hand -/
def WO {α β : Type} (c : Cx) (n : Nat) (σ : MS) (xs : List MV) (R : Heap → α → β → Prop) (t : List Value → Sem α) (Q : β → MS → Prop) : Prop :=
  ∀ A s vs, Room A n → Rel c σ s.heap → F2 (VRel s.heap) vs xs → wpAny c.M A (t vs) (Post c NoX σ s R Q) Bot s
abbrev t1 {α : Type} (f : Value → Sem α) : List Value → Sem α := fun vs => match vs with | [a] => f a | _ => unsupported "t1"
abbrev t2 {α : Type} (f : Value → Value → Sem α) : List Value → Sem α := fun vs => match vs with | [a, b] => f a b | _ => unsupported "t2"
def W1 (c : Cx) (n : Nat) (σ : MS) (x : MV) (f : Value → Sem Value) (Q : MV → MS → Prop) : Prop := WO c n σ [x] VRel (t1 f) Q
def W2 (c : Cx) (n : Nat) (σ : MS) (x y : MV) (f : Value → Value → Sem Value) (Q : MV → MS → Prop) : Prop := WO c n σ [x, y] VRel (t2 f) Q
def WT (c : Cx) (n : Nat) (σ : MS) (x : MV) (Q : Bool → MS → Prop) : Prop := WO c n σ [x] BRel (t1 truthy) Q
/-- a call of the def that the globals hold at f -/
def WC (c : Cx) (n : Nat) (f : Str) (xs : List MV) (σ : MS) (Q : MV → MS → Prop) : Prop :=
  ∀ A s vs a, c.mg f = some (.ref a) → Room A n → Rel c σ s.heap → F2 (VRel s.heap) vs xs → wpAny c.M A (call (.ref a) vs) (Post c NoX σ s VRel Q) Bot s

inductive MF where
  | next | brk | cont | ret (v : MV)
def FRel (h : Heap) : Flow → MF → Prop
  | .next, .next => True
  | .brk, .brk => True
  | .cont, .cont => True
  | .ret v, .ret u => VRel h v u
  | _, _ => False
/-- what a statement leaves -/
def PostS (c : Cx) (env : Env) (σ : MS) (s : Shared) (Q : MF → List (Str × MV) → MS → Prop) : Flow → Shared → Prop :=
  fun f s' => ∃ f' ρ' σ', FRel s'.heap f f' ∧ FrameOk c env ρ' σ' s'.heap ∧ StepOk c (FrX env) σ σ' s s' ∧ Q f' ρ' σ'
def WS (c : Cx) (n : Nat) (sc : Scope) (ρ : List (Str × MV)) (σ : MS) (st : List Stmt) (Q : MF → List (Str × MV) → MS → Prop) : Prop :=
  ∀ A env s, Room A n → EnvOk sc env → FrameOk c env ρ σ s.heap → Rel c σ s.heap → wpAny c.M A (execs st env) (PostS c env σ s Q) Bot s
/-- a store into a target -/
def WA (c : Cx) (n : Nat) (sc : Scope) (ρ : List (Str × MV)) (σ : MS) (t : Expr) (x : MV) (Q : List (Str × MV) → MS → Prop) : Prop :=
  ∀ A env s v, Room A n → EnvOk sc env → FrameOk c env ρ σ s.heap → Rel c σ s.heap → VRel s.heap v x →
    wpAny c.M A (assign t env v) (fun _ s' => ∃ ρ' σ', FrameOk c env ρ' σ' s'.heap ∧ StepOk c (FrX env) σ σ' s s' ∧ Q ρ' σ') Bot s

/-! ## sequencing -/
theorem WX.use {α β : Type} {R : Heap → α → β → Prop} {t : Env → Sem α} {Q : β → MS → Prop} (w : WX c n sc ρ σ R t Q) {Q' : α → Shared → Prop}
    (hr : Room A n) (he : EnvOk sc env) (hf : FrameOk c env ρ σ s.heap) (hR : Rel c σ s.heap)
    (h : ∀ v s' u σ', R s'.heap v u → StepOk c NoX σ σ' s s' → FrameOk c env ρ σ' s'.heap → Q u σ' → Q' v s') : wpAny c.M A (t env) Q' Bot s :=
  wpAny_mono (w A env s hr he hf hR) (fun v s' ⟨u, σ', r, st, q⟩ => h v s' u σ' r st (hf.go hR st.go) q) fun _ _ x => x
theorem Post.seq {α β : Type} {R : Heap → α → β → Prop} {Q : β → MS → Prop} {σ' : MS} {s' : Shared} (st : StepOk c NoX σ σ' s s') {v : α} {s'' : Shared} (p : Post c NoX σ' s' R Q v s'') : Post c NoX σ s R Q v s'' :=
  let ⟨u, σ'', r, st', q⟩ := p; ⟨u, σ'', r, st.trans st', q⟩
theorem StepOk.transX {σ' σ'' : MS} {s' s'' : Shared} (_f : FrameOk c env ρ σ s.heap) (x : StepOk c (FrX env) σ σ' s s') (y : StepOk c (FrX env) σ' σ'' s' s'') (f' : FrameOk c env ρ' σ' s'.heap) : StepOk c (FrX env) σ σ'' s s'' :=
  ⟨y.rel, GoX.trans x.go y.go (fun b hb o e q => by
    rcases hb with rfl | ⟨x', hx⟩
    · exact f'.locAt
    · obtain ⟨⟨u, oc, e1, _⟩, _⟩ := f'.cells x' b hx; exact ⟨oc, e1⟩), y.gens.trans x.gens, y.os.trans x.os⟩
theorem StepOk.toX {σ' : MS} {s' : Shared} {X : Addr → Prop} (x : StepOk c NoX σ σ' s s') : StepOk c X σ σ' s s' := ⟨x.rel, x.go.mono fun _ f => f.elim, x.gens, x.os⟩
theorem PostS.seq {Q : MF → List (Str × MV) → MS → Prop} {σ' : MS} {s' : Shared} (_hf : FrameOk c env ρ σ s.heap) (st : StepOk c (FrX env) σ σ' s s') {ρ' : List (Str × MV)} (hf' : FrameOk c env ρ' σ' s'.heap) {f : Flow} {s'' : Shared}
    (p : PostS c env σ' s' Q f s'') : PostS c env σ s Q f s'' :=
  let ⟨f', ρ'', σ'', r, fo, st', q⟩ := p; ⟨f', ρ'', σ'', r, fo, st.transX _hf st' hf', q⟩

/-! ## names -/
theorem FrameOk.load {x : Str} {v : MV} {Q : Value → Shared → Prop} {E : Value → Shared → Prop} (he : EnvOk sc env) (f : FrameOk c env ρ σ s.heap) (e : lk ρ x = some v) (h : ∀ u, VRel s.heap u v → Q u s) : wpAny c.M A (loadName env x) Q E s := by
  obtain ⟨hk, hd⟩ := f.kind x v e
  rcases hk with hk | hk
  · obtain ⟨m, hn, hm⟩ := f.ns
    obtain ⟨u, a, b⟩ := hm x v e hk
    exact wpAny_loadName_local he.kf hk hn a (h u b)
  · obtain ⟨a, u, e1, e2, e3⟩ := f.cell x v e hk
    exact wpAny_loadName_cell he.kf hk e1 e2 (h u e3)

def okName (sc : Scope) (x : Str) : Bool := (sc.names.lookup x == some .local || sc.names.lookup x == some .cell) && !(x == ("__debug__" : Str))

theorem FrameOk.store {x : Str} {v : Value} {m : MV} {Q : Unit → Shared → Prop} {E : Value → Shared → Prop} (he : EnvOk sc env) (hk : okName sc x = true) (f : FrameOk c env ρ σ s.heap) (R : Rel c σ s.heap) (hv : VRel s.heap v m)
    (h : ∀ s', FrameOk c env (up ρ x m) σ s'.heap → StepOk c (FrX env) σ σ s s' → Q () s') : wpAny c.M A (storeName env x v) Q E s := by
  obtain ⟨hk1, hk2⟩ := Bool.and_eq_true_iff.mp hk
  have hkd : (x == ("__debug__" : Str)) = false := by simpa using hk2
  have kind : env.kindOf x = some .local ∨ env.kindOf x = some .cell := by
    unfold Env.kindOf; rw [he.scope]
    rcases Bool.or_eq_true_iff.mp hk1 with q | q
    · exact .inl (by simpa using q)
    · exact .inr (by simpa using q)
  -- what both ways share
  have fin : ∀ (a : Addr) (h' : Heap) (tk : Nat), FrX env a → Heap.SameBut a s.heap h' → TKeep s.heap h' →
      (∃ m', h'.Ns env.locals m' ∧ ∀ y w, lk (up ρ x m) y = some w → env.kindOf y = some .local → ∃ u, m' y = some u ∧ VRel h' u w) →
      (∀ y w, lk (up ρ x m) y = some w → env.kindOf y = some .cell → ∃ b u, env.cells.lookup y = some b ∧ h'.IsCell b (some u) ∧ VRel h' u w) →
      (∀ y b, env.cells.lookup y = some b → ∃ u, h'.IsCell b u) → Q () { s with heap := h', toks := tk } := by
    intro a h' tk hX hs tk' n1 n2 n4
    have hσ : σ a = none := by rcases hX with rfl | ⟨y, hy⟩; exact f.loc.1; exact (f.cells y a hy).2.1
    have h0 : c.h₀.get? a = none := by rcases hX with rfl | ⟨y, hy⟩; exact f.loc.2; exact (f.cells y a hy).2.2.1
    refine h _ ⟨n1, n2, fun y w e => ?_, f.loc, fun y b e => ⟨n4 y b e, (f.cells y b e).2⟩, f.inj, f.has⟩ ⟨⟨fun b o e => ?_, fun k mo e => ?_, R.new, R.own⟩, ⟨fun b o _ hb e => ?_, fun _ _ e _ => e, fun _ e => e⟩, rfl, rfl⟩
    · rw [lk_up] at e
      by_cases hy : y = x
      · subst hy; exact ⟨kind, hkd⟩
      · rw [if_neg hy] at e; exact f.kind y w e
    · refine (hs.2 b fun q => ?_).trans (R.base b o e)
      rw [q, h0] at e; cases e
    · have ka : k ≠ a := fun q => by rw [q, hσ] at e; cases e
      refine (R.obj k mo e).keep tk' (fun o ho => (hs.2 k ka).trans ho) fun dx es q o ho => (hs.2 dx fun q' => ?_).trans ho
      have := R.own k dx es (q ▸ e); rw [q', hσ] at this; cases this
    · exact (hs.2 b fun q => hb (q ▸ hX)).trans e
  have tkeep : ∀ {a : Addr} {h' : Heap}, Heap.SameBut a s.heap h' → FrX env a → TKeep s.heap h' := fun hs hX b o e t =>
    (hs.2 b fun q => by subst q; exact f.notT _ o hX e t).trans e
  rcases kind with hl | hl
  · obtain ⟨m', hn, hm⟩ := f.ns
    refine wpAny_storeName_local hl hn (fun h' hn' hs => ?_) he.plain
    have tk' : TKeep s.heap h' := tkeep hs (.inl rfl)
    refine fin env.locals h' _ (.inl rfl) hs tk' ⟨_, hn', fun y w e q => ?_⟩ (fun y w e q => ?_) (fun y b e => ?_)
    · rw [lk_up] at e
      by_cases hy : y = x
      · rw [if_pos hy] at e; cases e; exact ⟨v, by rw [if_pos hy], hv.keep tk'⟩
      · rw [if_neg hy] at e; obtain ⟨u, a, b⟩ := hm y w e q; exact ⟨u, by rw [if_neg hy]; exact a, b.keep tk'⟩
    · rw [lk_up] at e
      by_cases hy : y = x
      · subst hy; rw [hl] at q; cases q
      · rw [if_neg hy] at e
        obtain ⟨b, u, e1, e2, e3⟩ := f.cell y w e q
        exact ⟨b, u, e1, e2.sameBut hs (f.cells y b e1).2.2.2, e3.keep tk'⟩
    · obtain ⟨⟨u, hu⟩, h3⟩ := f.cells y b e
      exact ⟨u, hu.sameBut hs h3.2.2⟩
  · obtain ⟨a, ha⟩ := f.has x hl
    obtain ⟨⟨u₀, hu⟩, h3, h4, h5⟩ := f.cells x a ha
    refine wpAny_storeName_cell he.kf hl ha hu fun h' hc' hs => ?_
    have tk' : TKeep s.heap h' := tkeep hs (.inr ⟨x, ha⟩)
    obtain ⟨m', hn, hm⟩ := f.ns
    refine fin a h' s.toks (.inr ⟨x, ha⟩) hs tk' ⟨m', hn.sameBut hs (Ne.symm h5), fun y w e q => ?_⟩ (fun y w e q => ?_) (fun y b e => ?_)
    · rw [lk_up] at e
      by_cases hy : y = x
      · subst hy; rw [hl] at q; cases q
      · rw [if_neg hy] at e; obtain ⟨u, a, b⟩ := hm y w e q; exact ⟨u, a, b.keep tk'⟩
    · rw [lk_up] at e
      by_cases hy : y = x
      · subst hy; rw [if_pos rfl] at e; cases e; exact ⟨a, v, ha, hc', hv.keep tk'⟩
      · rw [if_neg hy] at e
        obtain ⟨b, u, e1, e2, e3⟩ := f.cell y w e q
        exact ⟨b, u, e1, e2.sameBut hs fun q' => hy (f.inj y x a (q' ▸ e1) ha), e3.keep tk'⟩
    · by_cases hb : b = a
      · subst hb; exact ⟨_, hc'⟩
      · obtain ⟨⟨u, hu⟩, _⟩ := f.cells y b e; exact ⟨u, hu.sameBut hs hb⟩
end Mine
end
section
open PySem PySem.Calls PyProof.Rows PySem.W
set_option linter.unusedVariables false
namespace Mine
variable {c : Cx} {n : Nat} {sc : Scope} {ρ : List (Str × MV)} {σ : MS} {A : Around} {env : Env} {s : Shared} {pos : Pos} {x : Str}

/-- an operation's judgement, used where its operands stand -/
theorem WO.use {α β : Type} {xs : List MV} {R : Heap → α → β → Prop} {t : List Value → Sem α} {Q : β → MS → Prop} (w : WO c n σ xs R t Q) {vs : List Value} {Q' : α → Shared → Prop}
    (hr : Room A n) (hR : Rel c σ s.heap) (hv : F2 (VRel s.heap) vs xs) (h : ∀ v s', Post c NoX σ s R Q v s' → Q' v s') : wpAny c.M A (t vs) Q' Bot s :=
  wpAny_mono (w A s vs hr hR hv) h fun _ _ x => x
theorem VRel.step {σ' : MS} {s' : Shared} {X : Addr → Prop} {v : Value} {m : MV} (r : VRel s.heap v m) (hR : Rel c σ s.heap) (st : StepOk c NoX σ σ' s s') : VRel s'.heap v m := r.keep (Go.tkeep hR st.go)
theorem F2.step {σ' : MS} {s' : Shared} {vs : List Value} {ms : List MV} (r : F2 (VRel s.heap) vs ms) (hR : Rel c σ s.heap) (st : StepOk c NoX σ σ' s s') : F2 (VRel s'.heap) vs ms := r.imp fun _ _ y => y.keep (Go.tkeep hR st.go)
theorem Post.here {α β : Type} {X : Addr → Prop} {R : Heap → α → β → Prop} {Q : β → MS → Prop} {v : α} {u : β} (hR : Rel c σ s.heap) (r : R s.heap v u) (q : Q u σ) : Post c X σ s R Q v s := ⟨u, σ, r, .refl hR, q⟩
theorem Post.tok {α β : Type} {X : Addr → Prop} {R : Heap → α → β → Prop} {Q : β → MS → Prop} {v : α} {u : β} {t : Nat} (hR : Rel c σ s.heap) (r : R s.heap v u) (q : Q u σ) : Post c X σ s R Q v { s with toks := t } := ⟨u, σ, r, (StepOk.refl hR).tok t, q⟩
/-- a new object that is no mini object -/
theorem Rel.push {h : Heap} (R : Rel c σ h) (o : Obj) : Rel c σ (h.push o) :=
  ⟨fun b o' e => Heap.get?_push_of_some _ (R.base b o' e), fun k mo e => (R.obj k mo e).keep (.of_keeps fun b o' e => Heap.get?_push_of_some _ e) (fun o' e => Heap.get?_push_of_some _ e) fun _ _ _ o' e => Heap.get?_push_of_some _ e, R.new, R.own⟩
theorem Go.push (σ : MS) (h : Heap) (o : Obj) {X : Addr → Prop} : GoX X σ σ h (h.push o) := ⟨fun b o' _ _ e => Heap.get?_push_of_some _ e, fun _ _ e _ => e, fun _ e => e⟩
theorem Rel.keeps {h h' : Heap} (R : Rel c σ h) (k : ∀ b o, h.get? b = some o → h'.get? b = some o) : Rel c σ h' :=
  ⟨fun b o e => k b o (R.base b o e), fun a mo e => (R.obj a mo e).keep (.of_keeps k) (fun o' e => k _ _ e) fun _ _ _ o' e => k _ _ e, R.new, R.own⟩
theorem StepOk.keeps {h' : Heap} {t : Nat} {X : Addr → Prop} (R : Rel c σ s.heap) (k : ∀ b o, s.heap.get? b = some o → h'.get? b = some o) : StepOk c X σ σ s { s with heap := h', toks := t } :=
  ⟨R.keeps k, ⟨fun b o _ _ e => k b o e, fun _ _ e _ => e, fun _ e => e⟩, rfl, rfl⟩
/-- a new mini object at an address that was free -/
theorem Rel.more {h h' : Heap} {k : Addr} {mo : MO} (R : Rel c σ h) (k0 : h.get? k = none) (kp : ∀ b o, h.get? b = some o → h'.get? b = some o) (o : ORel c h' k mo) (ni : ∀ dx es, mo ≠ .inst dx es) (hz : ∀ dx es, σ k ≠ some (.inst dx es) := by intro _ _ q; rw [R.notk k0] at q; cases q) : Rel c (upd σ k mo) h' := by
  have R' := R.keeps kp
  refine ⟨R'.base, fun j m e => ?_, fun j m e nf => ?_, fun j dx es e => ?_⟩
  · by_cases q : j = k
    · subst q; rw [upd_eq] at e; cases e; exact o
    · rw [upd_ne q] at e; exact R'.obj j m e
  · by_cases q : j = k
    · subst q
      cases z : c.h₀.get? j with
      | none => rfl
      | some o' => rw [R.base j o' z] at k0; cases k0
    · rw [upd_ne q] at e; exact R.new j m e nf
  · by_cases q : j = k
    · subst q; rw [upd_eq] at e; cases e; exact absurd rfl (ni _ _)
    · rw [upd_ne q] at e
      have w := R.own j dx es e
      have : dx ≠ k := fun z => by rw [z, R.notk k0] at w; cases w
      rw [upd_ne this]; exact w
theorem Go.more {X : Addr → Prop} {h h' : Heap} {k : Addr} {mo : MO} (k0 : h.get? k = none) (kp : ∀ b o, h.get? b = some o → h'.get? b = some o) : GoX X σ (upd σ k mo) h h' :=
  ⟨fun b o _ _ e => kp b o e, fun b o e g => by rw [upd_ne (fun q => by rw [q, k0] at g; cases g)]; exact e, fun b e => by
    by_cases q : b = k
    · subst q; rw [upd_eq] at e; cases e
    · rwa [upd_ne q] at e⟩
theorem StepOk.more {X : Addr → Prop} {h' : Heap} {t : Nat} {k : Addr} {mo : MO} (R : Rel c σ s.heap) (k0 : s.heap.get? k = none) (kp : ∀ b o, s.heap.get? b = some o → h'.get? b = some o) (o : ORel c h' k mo) (ni : ∀ dx es, mo ≠ .inst dx es) :
    StepOk c X σ (upd σ k mo) s { s with heap := h', toks := t } := ⟨R.more k0 kp o ni, Go.more k0 kp, rfl, rfl⟩
/-- a mini object turned -/
theorem Rel.turn {h h' : Heap} {k : Addr} {m₀ mo : MO} (R : Rel c σ h) (hk : σ k = some m₀) (e0 : Heap.ExtBut k h h') (o : ORel c h' k mo) (nf : ∀ xs, m₀ ≠ .froz xs) (ni : ∀ dx es, m₀ ≠ .inst dx es) (nn : ∀ dx es, mo ≠ .inst dx es) (na : ∀ q, m₀ ≠ .aux q) : Rel c (upd σ k mo) h' := by
  obtain ⟨o₀, g₀, nt⟩ := R.atk hk
  have h0 : c.h₀.get? k = none := R.new k m₀ hk nf
  have tk : TKeep h h' := fun b o' e t => e0 b o' (fun q => by subst q; rw [g₀] at e; cases e; exact nt t) e
  refine ⟨fun b o' e => e0 b o' (fun q => by rw [q, h0] at e; cases e) (R.base b o' e), fun j m e => ?_, fun j m e nf' => ?_, fun j dx es e => ?_⟩
  · by_cases q : j = k
    · subst q; rw [upd_eq] at e; cases e; exact o
    · rw [upd_ne q] at e
      refine (R.obj j m e).keep tk (fun o' g => e0 j o' q g) fun dx es z o' g => e0 dx o' (fun z' => ?_) g
      have := R.own j dx es (z ▸ e); rw [z', hk] at this; cases this; exact absurd rfl (na _)
  · by_cases q : j = k
    · subst q; exact h0
    · rw [upd_ne q] at e; exact R.new j m e nf'
  · by_cases q : j = k
    · subst q; rw [upd_eq] at e; cases e; exact absurd rfl (nn _ _)
    · rw [upd_ne q] at e
      have w := R.own j dx es e
      have : dx ≠ k := fun z => by rw [z, hk] at w; cases w; exact absurd rfl (na _)
      rw [upd_ne this]; exact w
theorem StepOk.turn {X : Addr → Prop} {h' : Heap} {t : Nat} {k : Addr} {m₀ mo : MO} (R : Rel c σ s.heap) (hk : σ k = some m₀) (e0 : Heap.ExtBut k s.heap h') (o : ORel c h' k mo) (nf : ∀ xs, m₀ ≠ .froz xs) (ni : ∀ dx es, m₀ ≠ .inst dx es) (nn : ∀ dx es, mo ≠ .inst dx es) (na : ∀ q, m₀ ≠ .aux q) :
    StepOk c X σ (upd σ k mo) s { s with heap := h', toks := t } :=
  ⟨R.turn hk e0 o nf ni nn na, ⟨fun b o' e _ g => e0 b o' (fun q => by rw [q, hk] at e; cases e) g, fun b o' e g => by rw [upd_ne (fun q => by rw [q, hk] at e; cases e)]; exact e, fun b e => by
    by_cases q : b = k
    · subst q; rw [upd_eq] at e; cases e
    · rwa [upd_ne q] at e⟩, rfl, rfl⟩

theorem vInt {h : Heap} {i : Int} {t : Tok} : VRel h (.int i t) (.int i) := VRel.at.mpr rfl
theorem vBool {h : Heap} {b : Bool} : VRel h (.bool b) (.bool b) := VRel.at.mpr rfl
theorem vNone {h : Heap} : VRel h .none .none := VRel.at.mpr trivial
theorem vBytes {h : Heap} {b : Array UInt8} {t : Tok} : VRel h (.bytes b t) (.bytes b) := VRel.at.mpr rfl
theorem vRef {h : Heap} {k : Addr} : VRel h (.ref k) (.ref k) := VRel.at.mpr rfl
theorem Post.bool {X : Addr → Prop} {Q : Bool → MS → Prop} {b : Bool} (hR : Rel c σ s.heap) (q : Q b σ) : Post c X σ s BRel Q b s := ⟨b, σ, rfl, .refl hR, q⟩
/-! ## names, constants -/
theorem WE_name {v : MV} {Q : MV → MS → Prop} (e : lk ρ x = some v) (h : Q v σ) : WE c n sc ρ σ (.Name x pos) Q := fun A env s hr he hf hR =>
  wpAny_Name (hf.load he e fun u r => Post.here hR r h) (hf.kind x v e).2
theorem WE_int {i : Int} {k : Nat} {Q : MV → MS → Prop} (h : Q (.int i) σ) : WE c n sc ρ σ (.Constant (.int i) k pos) Q := fun A env s hr he hf hR =>
  wpAny_Constant_int (Post.tok hR vInt h)
theorem WE_none {k : Nat} {Q : MV → MS → Prop} (h : Q .none σ) : WE c n sc ρ σ (.Constant .none k pos) Q := fun A env s hr he hf hR => wpAny_Constant_none (Post.here hR vNone h)
theorem WE_bool {b : Bool} {k : Nat} {Q : MV → MS → Prop} (h : Q (.bool b) σ) : WE c n sc ρ σ (.Constant (.bool b) k pos) Q := fun A env s hr he hf hR => wpAny_Constant_bool (Post.here hR vBool h)

/-! ## operators -/
theorem two {l r : Expr} {α β : Type} {R : Heap → α → β → Prop} {f : Value → Value → Sem α} {Q : β → MS → Prop} (h : WE c n sc ρ σ l fun a σ1 => WE c n sc ρ σ1 r fun b σ2 => WO c n σ2 [a, b] R (t2 f) Q)
    (hr : Room A n) (he : EnvOk sc env) (hf : FrameOk c env ρ σ s.heap) (hR : Rel c σ s.heap) :
    wpAny c.M A (eval l env) (fun a s₁ => wpAny c.M A (eval r env) (fun b s₂ => wpAny c.M A (f a b) (Post c NoX σ s R Q) Bot s₂) Bot s₁) Bot s :=
  h.use hr he hf hR fun a s₁ u σ1 r1 st1 hf1 h1 => h1.use hr he hf1 st1.rel fun b s₂ v σ2 r2 st2 hf2 h2 =>
    h2.use (vs := [a, b]) hr st2.rel (.cons (VRel.step (X := NoX) r1 st1.rel st2) (.cons r2 .nil)) fun w s₃ p => (p.seq st2).seq st1
theorem WE_binop {l r : Expr} {op : Operator} {Q : MV → MS → Prop} (h : WE c n sc ρ σ l fun a σ1 => WE c n sc ρ σ1 r fun b σ2 => W2 c n σ2 a b (binaryOp op) Q) : WE c n sc ρ σ (.BinOp l op r pos) Q := fun A env s hr he hf hR =>
  wpAny_BinOp (two h hr he hf hR)
theorem WE_cmp {l r : Expr} {op : CmpOp} {Q : MV → MS → Prop} (hm : behindInMarks op r = false) (h : WE c n sc ρ σ l fun a σ1 => WE c n sc ρ σ1 r fun b σ2 => W2 c n σ2 a b (compareOp op) Q) : WE c n sc ρ σ (.Compare l [op] [r] pos) Q := fun A env s hr he hf hR =>
  wpAny_Compare1 (two h hr he hf hR) hm
theorem WT_bool {b : Bool} {Q : Bool → MS → Prop} (h : Q b σ) : WT c n σ (.bool b) Q := fun A s vs hr hR hv => by
  cases hv with
  | cons r t => cases t; obtain rfl := r.bool; exact wpAny_truthy_bool (Post.bool hR h)
theorem WB_cmp {l r : Expr} {op : CmpOp} {Q : Bool → MS → Prop} (hm : behindInMarks op r = false) (h : WE c n sc ρ σ l fun a σ1 => WE c n sc ρ σ1 r fun b σ2 => W2 c n σ2 a b (compareOp op) fun v σ3 => WT c n σ3 v Q) : WB c n sc ρ σ (.Compare l [op] [r] pos) Q := fun A env s hr he hf hR => by
  refine wpAny_isTrue_Compare1 ?_ hm
  refine h.use hr he hf hR fun a s₁ u σ1 r1 st1 hf1 h1 => h1.use hr he hf1 st1.rel fun b s₂ v σ2 r2 st2 hf2 h2 =>
    WO.use h2 (vs := [a, b]) hr st2.rel (.cons (VRel.step (X := NoX) r1 st1.rel st2) (.cons r2 .nil)) fun w s₃ p => ?_
  obtain ⟨z, σ3, r3, st3, h3⟩ := p
  exact WO.use h3 (vs := [w]) hr st3.rel (.cons r3 .nil) fun w s₄ p => ((p.seq st3).seq st2).seq st1
/-- a chain of two comparisons; the middle is an expression without effect -/
theorem WE_cmp2 {l r₁ r₂ : Expr} {op₁ op₂ : CmpOp} {Q : MV → MS → Prop} (hm : lastMarks [op₁, op₂] [r₁, r₂] = false)
    (h : WE c n sc ρ σ l fun a σ1 => WE c n sc ρ σ1 r₁ fun b σ2 => W2 c n σ2 a b (compareOp op₁) fun v σ3 => WT c n σ3 v fun t σ4 => (t = true → WE c n sc ρ σ4 r₂ fun d σ5 => W2 c n σ5 b d (compareOp op₂) Q) ∧ (t = false → Q v σ4)) :
    WE c n sc ρ σ (.Compare l [op₁, op₂] [r₁, r₂] pos) Q := fun A env s hr he hf hR => by
  refine Compare_chain ?_ hm
  refine h.use hr he hf hR fun a s₁ u σ1 q1 st1 hf1 h1 => chain_link (h1.use hr he hf1 st1.rel fun b s₂ v σ2 q2 st2 hf2 h2 =>
    WO.use h2 (vs := [a, b]) hr st2.rel (.cons (VRel.step (X := NoX) q1 st1.rel st2) (.cons q2 .nil)) fun w s₃ p => ?_)
  obtain ⟨z, σ3, q3, st3, h3⟩ := p
  refine WO.use h3 (vs := [w]) hr st3.rel (.cons q3 .nil) fun t s₄ p => ?_
  obtain ⟨t', σ4, rfl, st4, h4t, h4f⟩ := p
  cases t with
  | false => exact (((Post.here (X := NoX) st4.rel (VRel.step (X := NoX) q3 st3.rel st4) (h4f rfl)).seq st4 |>.seq st3).seq st2).seq st1
  | true =>
    have hf4 := (hf2.go st2.rel st3.go).go st3.rel st4.go
    refine chain_last ((h4t rfl).use hr he hf4 st4.rel fun d s₅ y σ5 q5 st5 hf5 h5 => ?_)
    have qb := VRel.step (X := NoX) (VRel.step (X := NoX) (VRel.step (X := NoX) q2 st2.rel st3) st3.rel st4) st4.rel st5
    exact WO.use h5 (vs := [b, d]) hr st5.rel (.cons qb (.cons q5 .nil)) fun w s₆ p => ((((p.seq st5).seq st4).seq st3).seq st2).seq st1
theorem test_last {pos : Pos} {M : Model} {E : Value → Shared → Prop} {a : Value} {op : CmpOp} {r : Sem Value} {Q : Bool → Shared → Prop}
    (h : wpAny M A r (fun b s₁ => wpAny M A (compareOp op a b) (fun v s₂ => wpAny M A (truthy v) Q E s₂) E s₁) E s) : wpAny M A (testChain pos a [op] [r]) Q E s := by
  show wpAny M A (do
    let rv ← holding [a] r
    standAt pos
    let c ← operate [a, rv] (compareOp op a rv)
    holding [c] (truthy c)) Q E s
  exact wpAny_bind (wpAny_holding (wpAny_mono h (fun b s₁ h₁ => wpAny_bind (wpAny_standAt (wpAny_bind (wpAny_operate' (wpAny_mono h₁ (fun v s₂ h₂ => wpAny_holding h₂) fun _ _ x => x))))) fun _ _ x => x))
theorem test_link {pos : Pos} {M : Model} {E : Value → Shared → Prop} {a : Value} {op op' : CmpOp} {ops : List CmpOp} {r r' : Sem Value} {rs : List (Sem Value)} {Q : Bool → Shared → Prop}
    (h : wpAny M A r (fun b s₁ => wpAny M A (compareOp op a b) (fun c s₂ => wpAny M A (truthy c)
      (fun t s₃ => if t then wpAny M A (testChain pos b (op' :: ops) (r' :: rs)) Q E s₃ else Q false s₃) E s₂) E s₁) E s) :
    wpAny M A (testChain pos a (op :: op' :: ops) (r :: r' :: rs)) Q E s := by
  show wpAny M A (do
    let rv ← holding [a] r
    standAt pos
    let c ← holding [a, rv] (compareOp op a rv)
    release [a, rv] [c]
    if ← holding [c, rv] (truthy c) then testChain pos rv (op' :: ops) (r' :: rs) else pure false) Q E s
  refine wpAny_bind (wpAny_holding (wpAny_mono h (fun b s₁ h₁ => wpAny_bind (wpAny_standAt (wpAny_bind (wpAny_holding (wpAny_mono h₁ (fun c s₂ h₂ =>
    wpAny_bind (wpAny_release' (wpAny_bind (wpAny_holding (wpAny_mono h₂ (fun t s₃ h₃ => ?_) fun _ _ x => x))))) fun _ _ x => x))))) fun _ _ x => x))
  cases t with
  | false => exact wpAny_pure h₃
  | true => exact h₃
theorem WB_cmp2 {l r₁ r₂ : Expr} {op₁ op₂ : CmpOp} {Q : Bool → MS → Prop} (hm : lastMarks [op₁, op₂] [r₁, r₂] = false)
    (h : WE c n sc ρ σ l fun a σ1 => WE c n sc ρ σ1 r₁ fun b σ2 => W2 c n σ2 a b (compareOp op₁) fun v σ3 => WT c n σ3 v fun t σ4 => (t = true → WE c n sc ρ σ4 r₂ fun d σ5 => W2 c n σ5 b d (compareOp op₂) fun w σ6 => WT c n σ6 w Q) ∧ (t = false → Q false σ4)) :
    WB c n sc ρ σ (.Compare l [op₁, op₂] [r₁, r₂] pos) Q := fun A env s hr he hf hR => by
  refine isTrue_chain ?_ hm
  refine h.use hr he hf hR fun a s₁ u σ1 q1 st1 hf1 h1 => test_link (h1.use hr he hf1 st1.rel fun b s₂ v σ2 q2 st2 hf2 h2 =>
    WO.use h2 (vs := [a, b]) hr st2.rel (.cons (VRel.step (X := NoX) q1 st1.rel st2) (.cons q2 .nil)) fun w s₃ p => ?_)
  obtain ⟨z, σ3, q3, st3, h3⟩ := p
  refine WO.use h3 (vs := [w]) hr st3.rel (.cons q3 .nil) fun t s₄ p => ?_
  obtain ⟨t', σ4, rfl, st4, h4t, h4f⟩ := p
  cases t with
  | false => exact (((Post.bool (X := NoX) st4.rel (h4f rfl)).seq st4 |>.seq st3).seq st2).seq st1
  | true =>
    have hf4 := (hf2.go st2.rel st3.go).go st3.rel st4.go
    refine test_last ((h4t rfl).use hr he hf4 st4.rel fun d s₅ y σ5 q5 st5 hf5 h5 => ?_)
    have qb := VRel.step (X := NoX) (VRel.step (X := NoX) (VRel.step (X := NoX) q2 st2.rel st3) st3.rel st4) st4.rel st5
    refine WO.use h5 (vs := [b, d]) hr st5.rel (.cons qb (.cons q5 .nil)) fun w s₆ p => ?_
    obtain ⟨z6, σ6, q6, st6, h6⟩ := p
    exact WO.use h6 (vs := [w]) hr st6.rel (.cons q6 .nil) fun w s₇ p => (((((p.seq st6).seq st5).seq st4).seq st3).seq st2).seq st1
theorem WB_not {e : Expr} {Q : Bool → MS → Prop} (h : WB c n sc ρ σ e fun b σ' => Q (!b) σ') : WB c n sc ρ σ (.UnaryOp .Not e pos) Q := fun A env s hr he hf hR =>
  wpAny_isTrue_Not (h.use hr he hf hR fun b s₁ u σ1 r1 st1 hf1 h1 => ⟨!u, σ1, congrArg (fun z => !z) (show b = u from r1), st1, h1⟩)
theorem WB_value {e : Expr} {Q : Bool → MS → Prop} (hv : ∀ env : Env, ∀ whole, isTrue e env whole = (do let v ← whole; standAt e.pos; holding [v] (truthy v))) (h : WE c n sc ρ σ e fun v σ' => WT c n σ' v Q) : WB c n sc ρ σ e Q := fun A env s hr he hf hR =>
  wpAny_isTrue_value (h.use hr he hf hR fun a s₁ u σ1 r1 st1 hf1 h1 => WO.use h1 (vs := [a]) hr st1.rel (.cons r1 .nil) fun w s₂ p => p.seq st1) (hv env _)
theorem WB_and {x y : Expr} {Q : Bool → MS → Prop} (h : WB c n sc ρ σ x fun b σ1 => (b = true → WB c n sc ρ σ1 y Q) ∧ (b = false → Q false σ1)) : WB c n sc ρ σ (.BoolOp .And [x, y] pos) Q := fun A env s hr he hf hR => by
  refine wpAny_isTrue_BoolOp (wpAny_allTrue_And_cons (h.use hr he hf hR fun b s₁ u σ1 r1 st1 hf1 h1 => ?_))
  subst r1
  cases b with
  | false => exact (Post.bool (X := NoX) st1.rel (h1.2 rfl)).seq st1
  | true => 
    refine wpAny_allTrue_And_cons ((h1.1 rfl).use hr he hf1 st1.rel fun b s₂ u σ2 r2 st2 hf2 h2 => ?_)
    subst r2
    cases b with
    | false => exact ((Post.bool (X := NoX) st2.rel h2).seq st2).seq st1
    | true => exact wpAny_allTrue_And_nil (((Post.bool (X := NoX) st2.rel h2).seq st2).seq st1)
theorem WB_or {x y : Expr} {Q : Bool → MS → Prop} (h : WB c n sc ρ σ x fun b σ1 => (b = false → WB c n sc ρ σ1 y Q) ∧ (b = true → Q true σ1)) : WB c n sc ρ σ (.BoolOp .Or [x, y] pos) Q := fun A env s hr he hf hR => by
  refine wpAny_isTrue_BoolOp (wpAny_allTrue_Or_cons (h.use hr he hf hR fun b s₁ u σ1 r1 st1 hf1 h1 => ?_))
  subst r1
  cases b with
  | true => exact (Post.bool (X := NoX) st1.rel (h1.2 rfl)).seq st1
  | false => 
    refine wpAny_allTrue_Or_cons ((h1.1 rfl).use hr he hf1 st1.rel fun b s₂ u σ2 r2 st2 hf2 h2 => ?_)
    subst r2
    cases b with
    | true => exact ((Post.bool (X := NoX) st2.rel h2).seq st2).seq st1
    | false => exact wpAny_allTrue_Or_nil (((Post.bool (X := NoX) st2.rel h2).seq st2).seq st1)
theorem WB_or3 {x y z : Expr} {Q : Bool → MS → Prop} (h : WB c n sc ρ σ x fun b σ1 => (b = false → WB c n sc ρ σ1 y fun b σ2 => (b = false → WB c n sc ρ σ2 z Q) ∧ (b = true → Q true σ2)) ∧ (b = true → Q true σ1)) : WB c n sc ρ σ (.BoolOp .Or [x, y, z] pos) Q := fun A env s hr he hf hR => by
  refine wpAny_isTrue_BoolOp (wpAny_allTrue_Or_cons (h.use hr he hf hR fun b s₁ u σ1 r1 st1 hf1 h1 => ?_))
  subst r1
  cases b with
  | true => exact (Post.bool (X := NoX) st1.rel (h1.2 rfl)).seq st1
  | false => 
    refine wpAny_allTrue_Or_cons ((h1.1 rfl).use hr he hf1 st1.rel fun b s₂ u σ2 r2 st2 hf2 h2 => ?_)
    subst r2
    cases b with
    | true => exact ((Post.bool (X := NoX) st2.rel (h2.2 rfl)).seq st2).seq st1
    | false =>
      refine wpAny_allTrue_Or_cons ((h2.1 rfl).use hr he hf2 st2.rel fun b s₃ u σ3 r3 st3 hf3 h3 => ?_)
      subst r3
      cases b with
      | true => exact (((Post.bool (X := NoX) st3.rel h3).seq st3).seq st2).seq st1
      | false => exact wpAny_allTrue_Or_nil ((((Post.bool (X := NoX) st3.rel h3).seq st3).seq st2).seq st1)
theorem WE_and {x y : Expr} {Q : MV → MS → Prop} (h : WE c n sc ρ σ x fun v σ1 => WT c n σ1 v fun b σ2 => (b = true → WE c n sc ρ σ2 y Q) ∧ (b = false → Q v σ2)) : WE c n sc ρ σ (.BoolOp .And [x, y] pos) Q := fun A env s hr he hf hR => by
  refine wpAny_And2 (h.use hr he hf hR fun a s₁ u σ1 r1 st1 hf1 h1 => WO.use h1 (vs := [a]) hr st1.rel (.cons r1 .nil) fun b s₂ p => ?_)
  obtain ⟨z, σ2, rfl, st2, h2⟩ := p
  cases b with
  | false => exact ((Post.here (X := NoX) st2.rel (VRel.step (X := NoX) r1 st1.rel st2) (h2.2 rfl)).seq st2).seq st1
  | true => exact (h2.1 rfl).use hr he (hf1.go st1.rel st2.go) st2.rel fun d s₃ y σ3 q3 st3 hf3 h3 => ((Post.here (X := NoX) st3.rel q3 h3).seq st3 |>.seq st2).seq st1
theorem WE_ifexp {t a b : Expr} {Q : MV → MS → Prop} (h : WB c n sc ρ σ t fun v σ1 => (v = true → WE c n sc ρ σ1 a Q) ∧ (v = false → WE c n sc ρ σ1 b Q)) : WE c n sc ρ σ (.IfExp t a b pos) Q := fun A env s hr he hf hR => by
  refine wpAny_IfExp (h.use hr he hf hR fun v s₁ u σ1 r1 st1 hf1 h1 => ?_)
  subst r1
  cases v with
  | true => exact (h1.1 rfl).use hr he hf1 st1.rel fun d s₃ y σ3 q3 st3 hf3 h3 => (Post.here (X := NoX) st3.rel q3 h3).seq st3 |>.seq st1
  | false => exact (h1.2 rfl).use hr he hf1 st1.rel fun d s₃ y σ3 q3 st3 hf3 h3 => (Post.here (X := NoX) st3.rel q3 h3).seq st3 |>.seq st1
end Mine
end
section
open PySem PySem.Calls PyProof.Rows PySem.W
set_option linter.unusedVariables false
namespace Mine
variable {c : Cx} {n : Nat} {sc : Scope} {ρ : List (Str × MV)} {σ : MS} {A : Around} {env : Env} {s : Shared} {pos : Pos} {x : Str}

/-! ## lists of expressions, displays -/
theorem WL_nil {Q : List MV → MS → Prop} (h : Q [] σ) : WL c n sc ρ σ pos [] Q := fun A env s hr he hf hR => wpAny_items_nil (Post.here hR .nil h)
theorem WL_cons {e : Expr} {rest : List Expr} {Q : List MV → MS → Prop} (hs : ∀ env : Env, starEach (e :: rest) env = (false, eval e env) :: starEach rest env)
    (h : WE c n sc ρ σ e fun v σ1 => WL c n sc ρ σ1 pos rest fun vs σ2 => Q (v :: vs) σ2) : WL c n sc ρ σ pos (e :: rest) Q := fun A env s hr he hf hR =>
  wpAny_items_cons (h.use hr he hf hR fun v s₁ u σ1 r1 st1 hf1 h1 => h1.use hr he hf1 st1.rel fun vs s₂ us σ2 r2 st2 hf2 h2 =>
    ((Post.here (X := NoX) st2.rel (.cons (VRel.step (X := NoX) r1 st1.rel st2) r2) h2).seq st2).seq st1) (hs env)
theorem F2.atoms {h : Heap} : ∀ {vs : List Value} {xs : List MA}, F2 (VRel h) vs (xs.map .a) → F2 ARel vs xs
  | [], [], _ => .nil
  | _ :: _, _ :: _, .cons a b => .cons (VRel.at.mp a) b.atoms
theorem F2.ofAtoms {h : Heap} : ∀ {vs : List Value} {xs : List MA}, F2 ARel vs xs → F2 (VRel h) vs (xs.map .a)
  | _, _, .nil => .nil
  | _, _, .cons a b => .cons (VRel.at.mpr a) b.ofAtoms
theorem WE_tuple {es : List Expr} {k : Nat} {Q : MV → MS → Prop} (h : WL c n sc ρ σ pos es fun us σ1 => ∃ xs : List MA, us = xs.map .a ∧ xs.length ≤ 100 ∧ Q (.tup xs) σ1) : WE c n sc ρ σ (.Tuple es k pos) Q := fun A env s hr he hf hR => by
  refine wpAny_Tuple (h.use hr he hf hR fun vs s₁ us σ1 r1 st1 hf1 h1 => ?_)
  obtain ⟨xs, rfl, hl, hq⟩ := h1
  have ln : vs.length = xs.length := by rw [r1.length, List.length_map]
  refine ⟨by rw [sizeLine_eq]; omega, Post.seq st1 ⟨_, σ1, ?_, StepOk.keeps st1.rel fun b o e => Heap.get?_push_of_some _ e, hq⟩⟩
  exact ⟨_, _, Heap.get?_push_size _ rfl, r1.atoms⟩
theorem WE_list {es : List Expr} {Q : MV → MS → Prop} (h : WL c n sc ρ σ pos es fun us σ1 => us.length ≤ 100 ∧ ∀ k, σ1 k = none → Q (.ref k) (upd σ1 k (.list us))) : WE c n sc ρ σ (.List es pos) Q := fun A env s hr he hf hR => by
  refine wpAny_List (h.use hr he hf hR fun vs s₁ us σ1 r1 st1 hf1 h1 => ?_)
  have k0 : s₁.heap.get? s₁.heap.objs.size = none := by
    cases q : s₁.heap.get? s₁.heap.objs.size with
    | none => rfl
    | some o => exact absurd (Heap.lt_size q) (Nat.lt_irrefl _)
  refine ⟨by rw [sizeLine_eq, r1.length]; have := h1.1; omega, Post.seq st1 ⟨_, _, vRef, StepOk.more st1.rel k0 (fun b o e => Heap.get?_push_of_some _ e) ?_ (by intro _ _ q; cases q), h1.2 _ st1.rel.fresh⟩⟩
  exact ⟨_, _, Heap.get?_push_size _ rfl, r1.imp fun _ _ y => y.keep (.of_keeps fun b o e => Heap.get?_push_of_some _ e)⟩

/-! ## globals -/
def okGlob (sc : Scope) (x : Str) : Bool := sc.names.lookup x == some .globalImplicit && !(x == ("__debug__" : Str))
theorem okGlob.kind (he : EnvOk sc env) (h : okGlob sc x = true) : env.kindOf x = some .globalImplicit ∧ (x == ("__debug__" : Str)) = false := by
  obtain ⟨a, b⟩ := Bool.and_eq_true_iff.mp h
  exact ⟨by unfold Env.kindOf; rw [he.scope]; simpa using a, by simpa using b⟩
theorem load_glob {v : Value} {Q E : Value → Shared → Prop} (G : Gd c) (he : EnvOk sc env) (hR : Rel c σ s.heap) (hx : okGlob sc x = true) (hv : c.mg x = some v) (h : Q v s) : wpAny c.M A (eval (.Name x pos) env) Q E s :=
  Name_function_global he.kf (okGlob.kind he hx).1 (loadGlobal_global (mg := c.mg) (by rw [he.globals]; exact G.g.keeps hR.base) hv h) (okGlob.kind he hx).2
theorem load_built {v : Value} {Q E : Value → Shared → Prop} (G : Gd c) (he : EnvOk sc env) (hR : Rel c σ s.heap) (hx : okGlob sc x = true) (hn : c.mg x = none) (hv : c.mb x = some v) (h : Q v s) : wpAny c.M A (eval (.Name x pos) env) Q E s :=
  Name_function_global he.kf (okGlob.kind he hx).1 (loadGlobal_builtin (mg := c.mg) (mb := c.mb) (by rw [he.globals]; exact G.g.keeps hR.base) hn (by rw [he.builtins]; exact G.b.keeps hR.base) hv h) (okGlob.kind he hx).2
theorem WE_globInt {i : Int} {t : Tok} {Q : MV → MS → Prop} (G : Gd c) (hx : okGlob sc x = true) (hv : c.mg x = some (.int i t)) (h : Q (.int i) σ) : WE c n sc ρ σ (.Name x pos) Q := fun A env s hr he hf hR =>
  load_glob G he hR hx hv (Post.here hR vInt h)

/-! ## calls of the text's own defs -/
def FnAt (c : Cx) (f : Str) (params : Arguments) (body : List Stmt) (scope : Scope) : Prop :=
  ∃ a o pm code doc, c.mg f = some (.ref a) ∧ c.h₀.get? a = some o ∧ o.data = .func (docDef f params body scope pm code doc) ∧ c.h₀.CodeRec code f
theorem WE_call {f : Str} {fp : Pos} {e : Expr} {rest : List Expr} {params : Arguments} {body : List Stmt} {scope : Scope} {Q : MV → MS → Prop} (G : Gd c) (hx : okGlob sc f = true) (F : FnAt c f params body scope)
    (hs : ∀ env : Env, starEach (e :: rest) env = (false, eval e env) :: starEach rest env) (h : WL c n sc ρ σ pos (e :: rest) fun us σ1 => WC c n f us σ1 Q) : WE c n sc ρ σ (.Call (.Name f fp) (e :: rest) [] pos) Q := fun A env s hr he hf hR => by
  obtain ⟨a, o, pm, code, doc, hv, ho, hd, _⟩ := F
  refine wpAny_Call_Name_kw (load_glob G he hR hx hv ?_)
  refine callWith_function (o := o) (fd := docDef f params body scope pm code doc) ?_
  rw [hs]
  refine evalArgs_plain ?_
  have key : wpAny c.M A (spliced (backTo pos (starEach (e :: rest) env))) (fun vs s' => (s'.heap.get? a = some o ∧ o.data = .func (docDef f params body scope pm code doc)) ∧ wpAny c.M A (call (.ref a) ([] ++ vs) []) (Post c NoX σ s VRel Q) Bot s') Bot s :=
    WX.use h hr he hf hR fun vs s₁ us σ1 r1 st1 hf1 h1 => ⟨⟨st1.rel.base _ _ ho, hd⟩, wpAny_mono (h1 A s₁ vs a hv hr st1.rel r1) (fun v s' p => p.seq st1) fun _ _ x => x⟩
  rw [hs] at key
  exact key

theorem bindL_keep {kindOf : Str → Option NameKind} : ∀ {binds : List (Str × Value)} {m : Str → Option Value} {y : Str}, y ∉ binds.map (·.1) → bindL kindOf binds m y = m y
  | [], _, _, _ => rfl
  | (z, v) :: r, m, y, h => by
    simp only [List.map_cons, List.mem_cons, not_or] at h
    unfold bindL
    rw [bindL_keep h.2]
    split
    · show (if y = z then some v else m y) = m y; rw [if_neg h.1]
    · rfl
theorem bindC_keep {kindOf : Str → Option NameKind} : ∀ {binds : List (Str × Value)} {m : Str → Option Value} {y : Str}, y ∉ binds.map (·.1) → bindC kindOf binds m y = m y
  | [], _, _, _ => rfl
  | (z, v) :: r, m, y, h => by
    simp only [List.map_cons, List.mem_cons, not_or] at h
    unfold bindC
    rw [bindC_keep h.2]
    split
    · rfl
    · show (if y = z then some v else m y) = m y; rw [if_neg h.1]
theorem map_fst_zip {α : Type} : ∀ (ns : List Str) (vs : List α), vs.length = ns.length → (ns.zip vs).map (·.1) = ns
  | [], [], _ => rfl
  | a :: r, v :: w, h => by simp only [List.zip_cons_cons, List.map_cons]; rw [map_fst_zip r w (by simpa using h)]
theorem bind_get {h : Heap} {kindOf : Str → Option NameKind} {y : Str} {w : MV} : ∀ {ns : List Str} {vs : List Value} {us : List MV} {m : Str → Option Value}, ns.Nodup → F2 (VRel h) vs us → vs.length = ns.length → lk (ns.zip us) y = some w →
    (kindOf y = some .local → ∃ v, bindL kindOf (ns.zip vs) m y = some v ∧ VRel h v w) ∧ (kindOf y ≠ some .local → ∃ v, bindC kindOf (ns.zip vs) m y = some v ∧ VRel h v w)
  | [], [], _, m, _, _, _, e => by simp [lk] at e
  | z :: r, v :: vs, u :: us, m, hn, .cons a b, hl, e => by
    have hl' : vs.length = r.length := by simpa using hl
    obtain ⟨hz, hr⟩ := List.nodup_cons.mp hn
    rw [List.zip_cons_cons] at e
    unfold lk at e
    by_cases q : y = z
    · subst q
      rw [if_pos rfl] at e; cases e
      have hz' : y ∉ (r.zip vs).map (·.1) := by rw [map_fst_zip r vs hl']; exact hz
      refine ⟨fun hk => ⟨v, ?_, a⟩, fun hk => ⟨v, ?_, a⟩⟩
      · rw [List.zip_cons_cons]; unfold bindL; rw [bindL_keep hz', if_pos hk]; show (if y = y then some v else m y) = _; rw [if_pos rfl]
      · rw [List.zip_cons_cons]; unfold bindC; rw [bindC_keep hz', if_neg hk]; show (if y = y then some v else m y) = _; rw [if_pos rfl]
    · rw [if_neg q] at e
      refine ⟨fun hk => ?_, fun hk => ?_⟩
      · rw [List.zip_cons_cons]; unfold bindL; exact (bind_get (m := _) hr b hl' e).1 hk
      · rw [List.zip_cons_cons]; unfold bindC; exact (bind_get (m := _) hr b hl' e).2 hk

theorem call_kinds {scope : Scope} {ns : List Str} {vs : List Value} {n₀ : Nat} (hk : (ns.all (okName scope)) = true) (hvl : vs.length = ns.length) : ∀ y ∈ ns.zip vs, scope.names.lookup y.1 = some .local ∨ (scope.names.lookup y.1 = some .cell ∧ ((cellsFrom n₀ scope.names []).lookup y.1).isSome = true) := fun y hy => by
  have hy' : y.1 ∈ ns := by rw [← map_fst_zip ns vs hvl]; exact List.mem_map_of_mem hy
  have := List.all_eq_true.mp hk y.1 hy'
  rcases Bool.or_eq_true_iff.mp (Bool.and_eq_true_iff.mp this).1 with q | q
  · exact .inl (beq_iff_eq.mp q)
  · have q' : scope.names.lookup y.1 = some .cell := beq_iff_eq.mp q
    exact .inr ⟨q', cellsFrom_some _ _ _ (.inl q')⟩
theorem call_frame {fd : FuncData} {ns : List Str} {us : List MV} {vs : List Value} {a : Addr} {s₁ : Shared} (hgl : fd.globals = mainGlobals) (hbu : fd.builtins = builtinsNs) (hR : Rel c σ s.heap) (hv : F2 (VRel s.heap) vs us) (hvl : vs.length = ns.length) (hn : ns.Nodup) (hk : (ns.all (okName fd.scope)) = true) (hkf : fd.scope.kind = .function)
    (I : InCallC s (callEnvC fd s.heap.objs.size a).locals (bindL (callEnvC fd s.heap.objs.size a).kindOf (ns.zip vs) fun _ => none) (callEnvC fd s.heap.objs.size a).cells
        (bindC (callEnvC fd s.heap.objs.size a).kindOf (ns.zip vs) fun _ => none) s₁) :
    FrameOk c (callEnvC fd s.heap.objs.size a) (ns.zip us) σ s₁.heap ∧ Rel c σ s₁.heap ∧ EnvOk fd.scope (callEnvC fd s.heap.objs.size a) ∧
      ∀ σ' s', StepOk c (FrX (callEnvC fd s.heap.objs.size a)) σ σ' s₁ s' → StepOk c NoX σ σ' s s' := by
  have fresh : ∀ b, s.heap.objs.size ≤ b → s.heap.get? b = none := fun b hb => by
    cases q : s.heap.get? b with
    | none => rfl
    | some o => exact absurd (Heap.lt_size q) (Nat.not_lt.mpr hb)
  have key := I.toInCall.keep
  have R₁ : Rel c σ s₁.heap := hR.keeps key
  have hv₁ : F2 (VRel s₁.heap) vs us := hv.imp fun _ _ y => y.keep (.of_keeps key)
  have he : EnvOk fd.scope (callEnvC fd s.heap.objs.size a) := ⟨rfl, hkf, hgl, hbu⟩
  have hL : c.h₀.get? s.heap.objs.size = none := by
    cases q : c.h₀.get? s.heap.objs.size with
    | none => rfl
    | some o => have := fresh _ (Nat.le_refl _); rw [hR.base _ _ q] at this; cases this
  have hcell : ∀ y b, (callEnvC fd s.heap.objs.size a).cells.lookup y = some b → s.heap.objs.size < b := fun y b e => I.above y b (mem_of_lookup e)
  refine ⟨?_, R₁, he, fun σ' s' st => ?_⟩
  · refine ⟨⟨_, I.toInCall.ns, fun y w e q => (bind_get hn hv₁ hvl e).1 q⟩, fun y w e q => ?_, fun y w e => ?_, ⟨hR.fresh, hL⟩, fun y b e => ⟨⟨_, I.cell y b e⟩, ?_, ?_, Nat.ne_of_gt (hcell y b e)⟩, fun y z b e e' => name_of_addr I.apart (mem_of_lookup e) (mem_of_lookup e'), fun y e => ?_⟩
    · have : ((cellsFrom (s.heap.objs.size + 1) fd.scope.names []).lookup y).isSome = true := cellsFrom_some _ _ _ (.inl q)
      obtain ⟨b, hb'⟩ := Option.isSome_iff_exists.mp this
      obtain ⟨v, e1, e2⟩ := (bind_get (kindOf := (callEnvC fd s.heap.objs.size a).kindOf) (m := fun _ => none) hn hv₁ hvl e).2 (fun z => by rw [q] at z; cases z)
      exact ⟨b, v, hb', e1 ▸ I.cell y b hb', e2⟩
    · have hy : y ∈ ns := by
        have : ∀ {ns : List Str} {us : List MV}, lk (ns.zip us) y = some w → y ∈ ns := by
          intro ns
          induction ns with
          | nil => intro us e; simp [lk] at e
          | cons z r ih =>
            intro us e
            cases us with
            | nil => simp [lk] at e
            | cons u us =>
              rw [List.zip_cons_cons] at e; unfold lk at e
              by_cases q : y = z
              · subst q; exact .head _
              · rw [if_neg q] at e; exact .tail _ (ih e)
        exact this e
      have := List.all_eq_true.mp hk y hy
      obtain ⟨p, q⟩ := Bool.and_eq_true_iff.mp this
      refine ⟨?_, by simpa using q⟩
      rcases Bool.or_eq_true_iff.mp p with q | q
      · exact .inl (beq_iff_eq.mp q)
      · exact .inr (beq_iff_eq.mp q)
    · exact hR.notk (fresh b (Nat.le_of_lt (hcell y b e)))
    · cases q : c.h₀.get? b with
      | none => rfl
      | some o => have := fresh b (Nat.le_of_lt (hcell y b e)); rw [hR.base _ _ q] at this; cases this
    · have : ((cellsFrom (s.heap.objs.size + 1) fd.scope.names []).lookup y).isSome = true := cellsFrom_some _ _ _ (.inl e)
      exact Option.isSome_iff_exists.mp this
  · obtain ⟨h₁, tk₁, es, _⟩ := I.done
    refine ⟨st.rel, ⟨fun b o e _ g => st.go.keep b o e (fun hX => ?_) (key b o g), fun b o e g => st.go.new b o e (key b o g), st.go.dom⟩, st.gens.trans (by rw [es]), st.os.trans (by rw [es])⟩
    rcases hX with hb | ⟨y, hy⟩
    · have hb' : b = s.heap.objs.size := hb
      rw [hb'] at g; exact absurd (Heap.lt_size g) (Nat.lt_irrefl _)
    · exact absurd (Heap.lt_size g) (Nat.not_lt.mpr (Nat.le_of_lt (hcell y b hy)))
/-- a def's call is its body -/
theorem WC_def {f : Str} {params : Arguments} {body : List Stmt} {scope : Scope} {ns : List Str} {us : List MV} {Q : MV → MS → Prop} (G : Gd c) (F : FnAt c f params body scope)
    (hb : ∀ pm code doc vs, vs.length = ns.length → bindArgs (docDef f params body scope pm code doc) ⟨vs, []⟩ = pure (ns.zip vs))
    (hn : ns.Nodup) (hk : (ns.all (okName scope)) = true) (hl : us.length = ns.length)
    (h : WS c n scope (ns.zip us) σ body fun fl _ σ' => match fl with | .ret v => Q v σ' | .next => Q .none σ' | _ => False)
    (hco : scope.isCoroutine = false) (hgen : scope.isGenerator = false) (hkf : scope.kind = .function) : WC c (n + 1) f us σ Q := fun A s vs a ha hr hR hv => by
  obtain ⟨a', o, pm, code, doc, hv', ho, hd, hcd⟩ := F
  rw [ha] at hv'; cases hv'
  have hvl : vs.length = ns.length := hv.length.trans hl
  refine wpAny_call (codeAny_call_cells hr.depth (hR.base _ _ ho) hd (G.nolimit.keeps hR.base) (hcd.keeps hR.base) rfl (hb pm code doc vs hvl) rfl (fun y hy => call_kinds hk hvl y hy) (fun s₁ I => ?_) hco hgen hkf)
  obtain ⟨hf, R₁, he, out⟩ := call_frame (c := c) (fd := docDef f params body scope pm code doc) rfl rfl hR hv hvl hn hk hkf I
  refine wpAny_mono (h _ _ s₁ (hr.call _) he hf R₁) (fun fl s' p => ?_) fun _ _ e => e.elim
  obtain ⟨f', ρ', σ', r, _, st, q⟩ := p
  have out := out σ' s' st
  cases f' with
  | next => cases fl <;> first | exact r.elim | exact ⟨_, σ', vNone, out, q⟩
  | ret v => cases fl <;> first | exact r.elim | exact ⟨_, σ', r, out, q⟩
  | brk => exact q.elim
  | cont => exact q.elim
theorem len0 {P : List Value → Prop} (h : P []) (vs : List Value) (e : vs.length = 0) : P vs := by rw [List.eq_nil_of_length_eq_zero e]; exact h
theorem lenS {P : List Value → Prop} {n : Nat} (h : ∀ a, ∀ vs : List Value, vs.length = n → P (a :: vs)) (vs : List Value) (e : vs.length = n + 1) : P vs := by
  cases vs with
  | nil => exact absurd e.symm (Nat.succ_ne_zero n)
  | cons a r => exact h a r (Nat.succ.inj e)
theorem len1 {P : List Value → Prop} (h : ∀ a, P [a]) : ∀ vs : List Value, vs.length = 1 → P vs := lenS fun a => len0 (h a)
theorem len2 {P : List Value → Prop} (h : ∀ a b, P [a, b]) : ∀ vs : List Value, vs.length = 2 → P vs := lenS fun a => lenS fun b => len0 (h a b)
theorem len3 {P : List Value → Prop} (h : ∀ a b d, P [a, b, d]) : ∀ vs : List Value, vs.length = 3 → P vs := lenS fun a => lenS fun b => lenS fun d => len0 (h a b d)
end Mine
end
section
open PySem PySem.Calls PyProof.Rows PySem.W
set_option linter.unusedVariables false
namespace Mine
variable {c : Cx} {n : Nat} {sc : Scope} {ρ : List (Str × MV)} {σ : MS} {A : Around} {env : Env} {s : Shared} {pos : Pos} {x : Str}

/-- the frame outlives what touches neither it nor the rest but X -/
theorem FrameOk.goX {X : Addr → Prop} {σ' : MS} {h h' : Heap} (f : FrameOk c env ρ σ h) (t : TKeep h h') (hX : ∀ b, FrX env b → ¬ X b) (g : GoX X σ σ' h h') : FrameOk c env ρ σ' h' := by
  obtain ⟨m, hn, hm⟩ := f.ns
  obtain ⟨o, es, ep, ho, r⟩ := hn
  have ho' := g.keep _ _ f.loc.1 (hX _ (.inl rfl)) ho
  have k : ∀ x a, env.cells.lookup x = some a → ∀ o, h.get? a = some o → h'.get? a = some o := fun x a e o ho => g.keep _ _ (f.cells x a e).2.1 (hX _ (.inr ⟨x, e⟩)) ho
  refine ⟨⟨m, ⟨o, es, ep, ho', r⟩, fun x v e q => ?_⟩, fun x v e q => ?_, f.kind, ⟨g.new _ _ f.loc.1 ho, f.loc.2⟩, fun x a e => ?_, f.inj, f.has⟩
  · obtain ⟨u, a, b⟩ := hm x v e q; exact ⟨u, a, b.keep t⟩
  · obtain ⟨a, u, e1, ⟨oc, e2, e3⟩, e4⟩ := f.cell x v e q; exact ⟨a, u, e1, ⟨oc, k x a e1 _ e2, e3⟩, e4.keep t⟩
  · obtain ⟨⟨u, oc, e1, e2⟩, e4, e5, e6⟩ := f.cells x a e
    exact ⟨⟨u, oc, k x a e _ e1, e2⟩, g.new _ _ e4 e1, e5, e6⟩
/-- an object that is no mini object, no base object, no tuple: turned -/
theorem Rel.ext {h h' : Heap} {a : Addr} (R : Rel c σ h) (e0 : Heap.ExtBut a h h') (ha : σ a = none) (h0 : c.h₀.get? a = none) (tk : TKeep h h') : Rel c σ h' := by
  refine ⟨fun b o e => e0 b o (fun q => by rw [q, h0] at e; cases e) (R.base b o e), fun k mo e => ?_, R.new, R.own⟩
  refine (R.obj k mo e).keep tk (fun o g => e0 k o (fun q => by rw [q, ha] at e; cases e) g) fun dx es q o g => e0 dx o (fun z => ?_) g
  have := R.own k dx es (q ▸ e); rw [z, ha] at this; cases this

/-! ## iterators -/
def Items (σ : MS) : MV → List MV → Prop
  | .a (.ref k), xs => σ k = some (.list xs) ∨ σ k = some (.froz xs)
  | .tup ys, xs => xs = ys.map .a
  | .a (.bytes b), xs => xs = b.toList.map fun z => .int z.toNat
  | .rng lo hi st, xs => Builtin.Range.small lo hi st = true ∧ xs = (List.range (Builtin.Range.rangeSize lo hi st).toNat).map fun i => .int (lo + (i : Nat) * st)
  | _, _ => False
def ItAt (h : Heap) (a : Addr) (u : MV) (i : Nat) : Prop := match u with
  | .a (.ref k) => h.IsListIter a k i
  | .tup ys => ∃ t items m, h.get? t = some (tupObj items m) ∧ F2 ARel items.toList ys ∧ h.IsTupleIter a t i
  | .a (.bytes b) => ∃ t, KBw.IsBytesIter h a b t i
  | .rng lo hi st => IsRangeIter h a (lo + (i : Nat) * st) ((Builtin.Range.rangeSize lo hi st) - (i : Nat)) st
  | _ => False
def iterNames : List String := ["list_iterator", "tuple_iterator", "bytes_iterator", "range_iterator"]
theorem ItAt.obj {h : Heap} {a : Addr} {u : MV} {i : Nat} (x : ItAt h a u i) : ∃ o T fs, h.get? a = some o ∧ o.cls = .type T ∧ T ∈ iterNames ∧ o.data = .fields fs := by
  unfold ItAt at x
  split at x
  · obtain ⟨o, e, hc, hd⟩ := x; exact ⟨o, _, _, e, hc, by simp [iterNames], hd⟩
  · obtain ⟨_, _, _, _, _, o, e, hc, hd⟩ := x; exact ⟨o, _, _, e, hc, by simp [iterNames], hd⟩
  · obtain ⟨t, o, e, hc, hd⟩ := x; exact ⟨o, _, _, e, hc, by simp [iterNames], hd⟩
  · exact ⟨_, _, _, x, rfl, by simp [iterNames], rfl⟩
  · exact x.elim
theorem ItAt.notT {h : Heap} {a : Addr} {u : MV} {i : Nat} (x : ItAt h a u i) : ∀ o, h.get? a = some o → ¬ IsT o := fun o e => by
  obtain ⟨o', T, fs, e', hc, hT, _⟩ := x.obj
  rw [e] at e'; cases e'
  refine notT_cls (fun q => ?_) (fun q => ?_) <;> (rw [q] at hc; cases hc; revert hT; decide)
theorem ItAt.keep {h h' : Heap} {a : Addr} {u : MV} {i : Nat} (x : ItAt h a u i) (t : TKeep h h') (k : ∀ o, h.get? a = some o → h'.get? a = some o) : ItAt h' a u i := by
  unfold ItAt at x ⊢
  split at x
  · obtain ⟨o, e, r⟩ := x; exact ⟨o, k _ e, r⟩
  · obtain ⟨q, items, m, e1, e2, o, e, r⟩ := x; exact ⟨q, items, m, t _ _ e1 (.inl ⟨_, _, rfl⟩), e2, o, k _ e, r⟩
  · obtain ⟨q, o, e, r⟩ := x; exact ⟨q, o, k _ e, r⟩
  · exact k _ x
  · exact x.elim
theorem rangeSize_nonneg (a b c : Int) : 0 ≤ Builtin.Range.rangeSize a b c := by
  unfold Builtin.Range.rangeSize
  split <;> split <;> first | omega | (have := Int.ediv_nonneg (a := b - a - 1) (b := c) (by omega) (by omega); omega) | (have := Int.ediv_nonneg (a := a - b - 1) (b := -c) (by omega) (by omega); omega)
theorem listAt {h : Heap} {k : Addr} {xs : List MV} (R : Rel c σ h) (e : σ k = some (.list xs) ∨ σ k = some (.froz xs)) : ∃ items, h.IsList k items ∧ F2 (VRel h) items.toList xs := by
  rcases e with e | e
  · obtain ⟨items, m, e', f⟩ := R.obj _ _ e; exact ⟨items, IsL.isList e', f⟩
  · exact R.obj _ _ e
theorem it_start {v : Value} {u : MV} {xs : List MV} {Q : Value → Shared → Prop} {E : Value → Shared → Prop} (R : Rel c σ s.heap) (hv : VRel s.heap v u) (hI : Items σ u xs)
    (h : ∀ h', ItAt h' s.heap.objs.size u 0 → (∀ b o, s.heap.get? b = some o → h'.get? b = some o) → Q (.ref s.heap.objs.size) { s with heap := h' }) : wpAny c.M A (pyIter v) Q E s := by
  unfold Items at hI
  split at hI
  · obtain rfl := hv.ref
    obtain ⟨items, hl, _⟩ := listAt R hI
    exact wpAny_pyIter_list hl (h _ ⟨_, Heap.get?_push_size _ rfl, rfl, rfl⟩ fun b o e => Heap.get?_push_of_some _ e)
  · obtain ⟨t, items, m, rfl, e1, e2⟩ := hv.tup
    exact wpAny_pyIter_tuple ⟨_, e1, rfl, _, rfl⟩ (h _ ⟨t, items, m, Heap.get?_push_of_some _ e1, e2, _, Heap.get?_push_size _ rfl, rfl, rfl⟩ fun b o e => Heap.get?_push_of_some _ e)
  · obtain ⟨t, rfl⟩ := hv.bytes
    exact KBw.pyIter_bytes (h _ ⟨t, _, Heap.get?_push_size _ rfl, rfl, rfl⟩ fun b o e => Heap.get?_push_of_some _ e)
  · rename_i xs lo hi st
    obtain ⟨k, t, u', w, rfl, e⟩ := hv.rng
    refine wpAny_pyIter_range e hI.1 (h _ ?_ fun b o e => Heap.get?_push_of_some _ e)
    show IsRangeIter _ _ _ _ _
    simpa using Heap.get?_push_size s.heap (o := { cls := .type "range_iterator", data := .fields #[rawInt lo, rawInt (Builtin.Range.rangeSize lo hi st), rawInt st] }) rfl
  · exact hI.elim
theorem it_item {a : Addr} {u : MV} {xs : List MV} {i : Nat} {y : MV} {Q : Option Value → Shared → Prop} {E : Value → Shared → Prop} (R : Rel c σ s.heap) (hI : Items σ u xs) (ha : σ a = none) (hit : ItAt s.heap a u i) (hy : xs[i]? = some y)
    (h : ∀ v h' tk, VRel h' v y → ItAt h' a u (i + 1) → Heap.ExtBut a s.heap h' → Q (some v) { s with heap := h', toks := tk }) : wpAny c.M A (pyNext (.ref a)) Q E s := by
  have tke : ∀ h', Heap.SameBut a s.heap h' → TKeep s.heap h' := fun h' hs b o e t => (hs.2 b fun q => by subst q; exact hit.notT o e t).trans e
  unfold Items at hI
  split at hI
  · obtain ⟨items, hl, f⟩ := listAt R hI
    obtain ⟨v, e1, e2⟩ := f.get hy
    exact wpAny_pyNext_list_item hit hl (by simpa using e1) fun h' hit' hs => h v h' s.toks (e2.keep (tke _ hs)) hit' hs.extBut
  · subst hI
    obtain ⟨t, items, m, e1, e2, hit'⟩ := id hit
    obtain ⟨v, e3, e4⟩ := e2.ofAtoms (h := s.heap) |>.get hy
    exact wpAny_pyNext_tuple_item hit' ⟨_, e1, rfl, _, rfl⟩ (by simpa using e3) fun h' hit2 hs => h v h' s.toks (e4.keep (tke _ hs)) ⟨t, items, m, tke _ hs _ _ e1 (.inl ⟨_, _, rfl⟩), e2, hit2⟩ hs.extBut
  · subst hI
    obtain ⟨t, hit'⟩ := id hit
    rw [List.getElem?_map] at hy
    obtain ⟨z, e1, rfl⟩ := Option.map_eq_some_iff.mp hy
    exact KBw.next_item hit' (by simpa using e1) fun h' hit2 hs => h _ h' _ vInt ⟨t, hit2⟩ hs.extBut
  · rename_i xs lo hi st
    obtain ⟨_, rfl⟩ := hI
    have hp := rangeSize_nonneg lo hi st
    rw [List.getElem?_map] at hy
    obtain ⟨z, e1, rfl⟩ := Option.map_eq_some_iff.mp hy
    obtain ⟨e2, e3⟩ := List.getElem?_eq_some_iff.mp e1
    rw [List.getElem_range] at e3; subst e3
    have e4 : i < (Builtin.Range.rangeSize lo hi st).toNat := by simpa using e2
    refine wpAny_pyNext_range_item hit (by omega) fun h' hit2 hs => h _ h' _ vInt ?_ hs.extBut
    show IsRangeIter _ _ _ _ _
    have q1 : lo + ((i + 1 : Nat) : Int) * st = lo + (i : Int) * st + st := by push_cast; rw [Int.add_mul, Int.one_mul, Int.add_assoc]
    have q2 : Builtin.Range.rangeSize lo hi st - ((i + 1 : Nat) : Int) = Builtin.Range.rangeSize lo hi st - (i : Int) - 1 := by push_cast; omega
    rw [q1, q2]; exact hit2
  · exact hI.elim
theorem it_end {a : Addr} {u : MV} {xs : List MV} {i : Nat} {Q : Option Value → Shared → Prop} {E : Value → Shared → Prop} (hh : A.handled = none) (R : Rel c σ s.heap) (hI : Items σ u xs) (hit : ItAt s.heap a u i) (hy : xs[i]? = none)
    (h : ∀ h', Heap.ExtBut a s.heap h' → Q none { s with heap := h' }) : wpAny c.M A (pyNext (.ref a)) Q E s := by
  unfold Items at hI
  split at hI
  · obtain ⟨items, hl, f⟩ := listAt R hI
    exact wpAny_pyNext_list_end hh hit hl (by simpa using f.noneAt hy) h
  · subst hI
    obtain ⟨t, items, m, e1, e2, hit'⟩ := id hit
    have := (e2.ofAtoms (h := s.heap)).noneAt hy
    exact wpAny_pyNext_tuple_end hh hit' ⟨_, e1, rfl, _, rfl⟩ (by simpa using this) h
  · subst hI
    obtain ⟨t, hit'⟩ := id hit
    rw [List.getElem?_map, Option.map_eq_none_iff] at hy
    exact KBw.next_end hh hit' (by simpa using hy) h
  · rename_i xs lo hi st
    obtain ⟨_, rfl⟩ := hI
    have hp := rangeSize_nonneg lo hi st
    rw [List.getElem?_map, Option.map_eq_none_iff, List.getElem?_eq_none_iff, List.length_range] at hy
    exact wpAny_pyNext_range_end hh hit (by omega) h
  · exact hI.elim
theorem letOwned {a : Addr} {u : MV} {i : Nat} {target : Expr} {v : Value} {Q : Unit → Shared → Prop} {E : Value → Shared → Prop} (hit : ItAt s.heap a u i) (h : Q () s) : wpAny c.M A (letOwnedTupleGo target (.ref a) v) Q E s := by
  obtain ⟨o, T, fs, e, hc, hT, hd⟩ := hit.obj
  have key : wpAny c.M A (do
      let (.ref r, .ref b) := (Value.ref a, v) | return
      let o ← load r
      match o.cls, o.data with
      | .type n, .fields vs =>
        if ["enumerate", "zip", "dict_itemiterator", "dict_reverseitemiterator", "odict_iterator", "itertools.zip_longest", "itertools.pairwise"].contains n && vs[0]? == some (rawInt b) then
          rule "for.unpacks-the-owned-tuple"
          updateField r 0 .none
      | _, _ => pure ()) Q E s := by
    cases v <;> try exact wpAny_pure h
    refine wpAny_bind (wpAny_load e ?_)
    rw [hc, hd]
    have : (["enumerate", "zip", "dict_itemiterator", "dict_reverseitemiterator", "odict_iterator", "itertools.zip_longest", "itertools.pairwise"].contains T) = false := by
      revert hT; unfold iterNames; intro hT
      simp only [List.mem_cons, List.not_mem_nil, or_false] at hT
      rcases hT with rfl | rfl | rfl | rfl <;> decide
    dsimp only
    rw [this]
    exact wpAny_pure h
  cases target <;> first | exact wpAny_pure h | exact key
end Mine
end
section
open PySem PySem.Calls PyProof.Rows PySem.W
set_option linter.unusedVariables false
namespace Mine
variable {c : Cx} {n : Nat} {sc : Scope} {ρ : List (Str × MV)} {σ : MS} {A : Around} {env : Env} {s : Shared} {pos : Pos} {x : Str}

/-! ## statements -/
def W1S (c : Cx) (n : Nat) (sc : Scope) (ρ : List (Str × MV)) (σ : MS) (st : Stmt) (Q : MF → List (Str × MV) → MS → Prop) : Prop :=
  ∀ A env s, Room A n → EnvOk sc env → FrameOk c env ρ σ s.heap → Rel c σ s.heap → wpAny c.M A (exec st env) (PostS c env σ s Q) Bot s
def seqQ (c : Cx) (n : Nat) (sc : Scope) (rest : List Stmt) (Q : MF → List (Str × MV) → MS → Prop) : MF → List (Str × MV) → MS → Prop
  | .next, ρ, σ => WS c n sc ρ σ rest Q
  | f, ρ, σ => Q f ρ σ
theorem WS_nil {Q : MF → List (Str × MV) → MS → Prop} (h : Q .next ρ σ) : WS c n sc ρ σ [] Q := fun A env s hr he hf hR => wpAny_execs_nil ⟨.next, ρ, σ, trivial, hf, .refl hR, h⟩
theorem WS_cons {st : Stmt} {rest : List Stmt} {Q : MF → List (Str × MV) → MS → Prop} (h : W1S c n sc ρ σ st (seqQ c n sc rest Q)) : WS c n sc ρ σ (st :: rest) Q := fun A env s hr he hf hR => by
  refine wpAny_execs_cons (wpAny_mono (h A env s hr he hf hR) (fun f s₁ p => ?_) fun _ _ e => e)
  obtain ⟨f', ρ', σ', r, hf', st', q⟩ := p
  cases f' with
  | next => cases f <;> first | exact r.elim | exact wpAny_mono (q A env s₁ hr he hf' st'.rel) (fun f s' p => p.seq hf st' hf') fun _ _ e => e
  | brk => cases f <;> first | exact r.elim | exact ⟨.brk, ρ', σ', r, hf', st', q⟩
  | cont => cases f <;> first | exact r.elim | exact ⟨.cont, ρ', σ', r, hf', st', q⟩
  | ret v => cases f <;> first | exact r.elim | exact ⟨.ret v, ρ', σ', r, hf', st', q⟩
theorem WS_mono {st : List Stmt} {Q Q' : MF → List (Str × MV) → MS → Prop} (h : WS c n sc ρ σ st Q) (hq : ∀ f ρ' σ', Q f ρ' σ' → Q' f ρ' σ') : WS c n sc ρ σ st Q' := fun A env s hr he hf hR =>
  wpAny_mono (h A env s hr he hf hR) (fun f s' ⟨f', ρ', σ', r, hf', st', q⟩ => ⟨f', ρ', σ', r, hf', st', hq _ _ _ q⟩) fun _ _ e => e
theorem WE_mono {e : Expr} {Q Q' : MV → MS → Prop} (h : WE c n sc ρ σ e Q) (hq : ∀ v σ', Q v σ' → Q' v σ') : WE c n sc ρ σ e Q' := fun A env s hr he hf hR =>
  wpAny_mono (h A env s hr he hf hR) (fun f s' ⟨u, σ', r, st', q⟩ => ⟨u, σ', r, st', hq _ _ q⟩) fun _ _ e => e
theorem WC_mono {f : Str} {us : List MV} {Q Q' : MV → MS → Prop} (h : WC c n f us σ Q) (hq : ∀ v σ', Q v σ' → Q' v σ') : WC c n f us σ Q' := fun A s vs a ha hr hR hv =>
  wpAny_mono (h A s vs a ha hr hR hv) (fun f s' ⟨u, σ', r, st', q⟩ => ⟨u, σ', r, st', hq _ _ q⟩) fun _ _ e => e
theorem PostS.of {Q : MF → List (Str × MV) → MS → Prop} {σ' : MS} {s' : Shared} (hf : FrameOk c env ρ σ s.heap) (st : StepOk c NoX σ σ' s s') (hf' : FrameOk c env ρ σ' s'.heap) {f : Flow} {s'' : Shared} (p : PostS c env σ' s' Q f s'') : PostS c env σ s Q f s'' := p.seq hf st.toX hf'

theorem S_return {e : Expr} {Q : MF → List (Str × MV) → MS → Prop} (h : WE c n sc ρ σ e fun v σ1 => Q (.ret v) ρ σ1) : W1S c n sc ρ σ (.Return (some e) pos) Q := fun A env s hr he hf hR =>
  wpAny_Return_some (h.use hr he hf hR fun v s₁ u σ1 r1 st1 hf1 h1 => ⟨.ret u, ρ, σ1, r1, hf1, st1.toX, h1⟩)
theorem S_if {t : Expr} {a b : List Stmt} {Q : MF → List (Str × MV) → MS → Prop} (h : WB c n sc ρ σ t fun v σ1 => (v = true → WS c n sc ρ σ1 a Q) ∧ (v = false → WS c n sc ρ σ1 b Q)) : W1S c n sc ρ σ (.If t a b pos) Q := fun A env s hr he hf hR => by
  refine wpAny_If (h.use hr he hf hR fun v s₁ u σ1 r1 st1 hf1 h1 => ?_)
  obtain rfl : v = u := r1
  cases v with
  | true => exact wpAny_mono (h1.1 rfl A env s₁ hr he hf1 st1.rel) (fun f s' p => p.of hf st1 hf1) fun _ _ e => e
  | false => exact wpAny_mono (h1.2 rfl A env s₁ hr he hf1 st1.rel) (fun f s' p => p.of hf st1 hf1) fun _ _ e => e
theorem S_break {Q : MF → List (Str × MV) → MS → Prop} (h : Q .brk ρ σ) : W1S c n sc ρ σ (.Break pos) Q := fun A env s hr he hf hR => wpAny_Break ⟨.brk, ρ, σ, trivial, hf, .refl hR, h⟩
/-- an expression whose value is None, for its effect -/
theorem S_expr {e : Expr} {Q : MF → List (Str × MV) → MS → Prop} (hs : ∀ env : Env, swapsWith e none pos.line env = pure false) (h : WE c n sc ρ σ e fun v σ1 => v = .none ∧ Q .next ρ σ1) : W1S c n sc ρ σ (.Expr e pos) Q := fun A env s hr he hf hR => by
  refine wpAny_Expr (h.use hr he hf hR fun v s₁ u σ1 r1 st1 hf1 h1 => ?_) (by show (env.scope.kind == .module && _) = false; rw [he.kf]; rfl) (hs env)
  obtain ⟨rfl, q⟩ := h1
  obtain rfl := r1.isNone
  exact ⟨.next, ρ, σ1, trivial, hf1, st1.toX, q⟩

/-! ## targets -/
theorem A_name {v : MV} {Q : List (Str × MV) → MS → Prop} (hk : okName sc x = true) (h : ∃ ρ', up ρ x v = ρ' ∧ Q ρ' σ) : WA c n sc ρ σ (.Name x pos) v Q := fun A env s u hr he hf hR hv => by
  obtain ⟨ρ', rfl, q⟩ := h
  exact wpAny_assign_Name (hf.store he hk hR hv fun s' hf' st' => ⟨_, σ, hf', st', q⟩)
def WAs (c : Cx) (n : Nat) (sc : Scope) (ρ : List (Str × MV)) (σ : MS) (ts : List Expr) (xs : List MV) (Q : List (Str × MV) → MS → Prop) : Prop :=
  ∀ A env s vs, Room A n → EnvOk sc env → FrameOk c env ρ σ s.heap → Rel c σ s.heap → F2 (VRel s.heap) vs xs →
    wpAny c.M A (assignInOrder ((assignEach ts env).map (·.2)) vs) (fun _ s' => ∃ ρ' σ', FrameOk c env ρ' σ' s'.heap ∧ StepOk c (FrX env) σ σ' s s' ∧ Q ρ' σ') Bot s
theorem As_nil {Q : List (Str × MV) → MS → Prop} (h : Q ρ σ) : WAs c n sc ρ σ [] [] Q := fun A env s vs hr he hf hR hv => by
  cases hv; exact wpAny_pure ⟨ρ, σ, hf, .refl hR, h⟩
theorem StepOk.tkeepX {σ' : MS} {s' : Shared} (hf : FrameOk c env ρ σ s.heap) (hR : Rel c σ s.heap) (st : StepOk c (FrX env) σ σ' s s') : TKeep s.heap s'.heap := GoX.tkeep hR (fun b o hb e => hf.notT b o hb e) st.go
theorem As_cons {t : Expr} {ts : List Expr} {v : MV} {vs : List MV} {Q : List (Str × MV) → MS → Prop} (hs : ∀ env : Env, assignEach (t :: ts) env = (false, assign t env) :: assignEach ts env)
    (h : WA c n sc ρ σ t v fun ρ' σ' => WAs c n sc ρ' σ' ts vs Q) : WAs c n sc ρ σ (t :: ts) (v :: vs) Q := fun A env s ws hr he hf hR hv => by
  cases hv with
  | cons a b =>
    rename_i w ws
    rw [hs]
    show wpAny _ _ (do holding _ (assign t env w); assignInOrder ((assignEach ts env).map (·.2)) ws) _ _ _
    refine wpAny_bind (wpAny_holding (wpAny_mono (h A env s w hr he hf hR a) (fun _ s₁ p => ?_) fun _ _ e => e))
    obtain ⟨ρ', σ', hf', st', q⟩ := p
    refine wpAny_mono (q A env s₁ ws hr he hf' st'.rel (b.imp fun _ _ y => y.keep (st'.tkeepX hf hR))) (fun _ s₂ p => ?_) fun _ _ e => e
    obtain ⟨ρ'', σ'', hf'', st'', q'⟩ := p
    exact ⟨ρ'', σ'', hf'', st'.transX hf st'' hf', q'⟩
theorem A_tuple {ts : List Expr} {k : Nat} {xs : List MA} {Q : List (Str × MV) → MS → Prop} (hn : ts.length = xs.length) (hs : ∀ env : Env, (assignEach ts env).findIdx? (·.1) = none ∧ (assignEach ts env).length = ts.length)
    (h : WAs c n sc ρ σ ts (xs.map .a) Q) : WA c n sc ρ σ (.Tuple ts k pos) (.tup xs) Q := fun A env s u hr he hf hR hv => by
  obtain ⟨t, items, m, rfl, e1, e2⟩ := hv.tup
  refine wpAny_assign_Tuple hr.1 ⟨_, e1, rfl, _, rfl⟩ (by rw [(hs env).2, hn, ← e2.length, Array.length_toList]) (hs env).1 fun h' he' => ?_
  have kp : ∀ b o, s.heap.get? b = some o → h'.get? b = some o := fun b o e => he' b o (Nat.ne_of_lt (Heap.lt_size e)) e
  have st : StepOk c NoX σ σ s { s with heap := h' } := StepOk.keeps (t := s.toks) hR kp
  have hf' := hf.go hR st.go
  refine wpAny_mono (h A env _ items.toList hr he hf' st.rel e2.ofAtoms) (fun _ s₂ p => ?_) fun _ _ e => e
  obtain ⟨ρ'', σ'', hf'', st'', q'⟩ := p
  exact ⟨ρ'', σ'', hf'', st.toX.transX hf st'' hf', q'⟩
/-- one target, no swap of stores -/
theorem S_assign {t e : Expr} {Q : MF → List (Str × MV) → MS → Prop} (hs : ∀ env : Env, env.scope = sc → swapsWithSole [t] e pos.line env = pure false) (hw : ∀ env : Env, env.scope = sc → swappedStores [t] e env = pure none)
    (ht : ∀ env : Env, (assignEach [t] env).map (·.2) = [assign t env]) (h : WE c n sc ρ σ e fun v σ1 => WA c n sc ρ σ1 t v fun ρ' σ' => Q .next ρ' σ') : W1S c n sc ρ σ (.Assign [t] e pos) Q := fun A env s hr he hf hR => by
  refine wpAny_Assign_stores (h.use hr he hf hR fun v s₁ u σ1 r1 st1 hf1 h1 => ?_) (hs env he.scope) (hw env he.scope)
  rw [ht]
  refine wpAny_mono (h1 A env s₁ v hr he hf1 st1.rel r1) (fun _ s₂ p => ?_) fun _ _ e => e
  obtain ⟨ρ', σ', hf', st', q⟩ := p
  exact ⟨.next, ρ', σ', trivial, hf', st1.toX.transX hf st' hf1, q⟩
/-- two names from a tuple display: CPython stores the second one first -/
theorem S_swap2 {x y : Str} {t e : Expr} {Q : MF → List (Str × MV) → MS → Prop} (hs : ∀ env : Env, env.scope = sc → swapsWithSole [t] e pos.line env = pure false) (hw : ∀ env : Env, env.scope = sc → swappedStores [t] e env = pure (some [x, y]))
    (hx : okName sc x = true) (hy : okName sc y = true) (h : WE c n sc ρ σ e fun v σ1 => ∃ a b ρ1 ρ2, v = .tup [a, b] ∧ up ρ y (.a b) = ρ1 ∧ up ρ1 x (.a a) = ρ2 ∧ Q .next ρ2 σ1) : W1S c n sc ρ σ (.Assign [t] e pos) Q := fun A env s hr he hf hR => by
  rw [exec_Assign_arm]
  refine wpAny_bind (wpAny_standAt ?_)
  rw [hs env he.scope]
  refine wpAny_bind (wpAny_pure ?_)
  rw [if_neg (by decide)]
  refine wpAny_bind (h.use hr he hf hR fun v s₁ u σ1 r1 st1 hf1 h1 => ?_)
  rw [hw env he.scope]
  refine wpAny_bind (wpAny_pure ?_)
  obtain ⟨a, b, ρ1, ρ2, rfl, e1, e2, q⟩ := h1
  obtain ⟨tt, items, m, rfl, g1, g2⟩ := r1.tup
  have hz : items.size = 2 := by have := g2.length; simpa using this
  refine wpAny_bind (wpAny_rule (wpAny_bind ?_))
  show wpAny _ _ (unpackItems (.ref tt) 2 none) _ _ _
  rw [← hz]
  refine wpAny_unpackItems_tuple hr.1 ⟨_, g1, rfl, _, rfl⟩ fun h' he' => ?_
  have kp : ∀ b o, s₁.heap.get? b = some o → h'.get? b = some o := fun b o e => he' b o (Nat.ne_of_lt (Heap.lt_size e)) e
  have st : StepOk c NoX σ1 σ1 s₁ { s₁ with heap := h' } := StepOk.keeps (t := s₁.toks) st1.rel kp
  have hf' := hf1.go st1.rel st.go
  revert g2
  generalize items.toList = its
  intro g2
  cases g2 with
  | cons ga gb =>
    cases gb with
    | cons gb gc =>
      cases gc
      rename_i va vb
      show wpAny _ _ (assignInOrder [fun v => bindName env y v, fun v => bindName env x v] [vb, va] >>= _) _ _ _
      subst e1; subst e2
      refine wpAny_bind (wpAny_bind (wpAny_holding (wpAny_bindName (hf'.store he hy st.rel (m := .a b) (VRel.at.mpr gb) fun s2 hf2 st2 => ?_))))
      refine wpAny_bind (wpAny_holding (wpAny_bindName (hf2.store he hx st2.rel (m := .a a) (VRel.at.mpr ga) fun s3 hf3 st3 => ?_)))
      exact wpAny_pure (wpAny_pure ⟨.next, _, σ1, trivial, hf3, (st1.toX.transX hf st.toX hf1).transX hf (st2.transX hf' st3 hf2) hf', q⟩)
theorem S_aug {e : Expr} {op : Operator} {npos : Pos} {old : MV} {Q : MF → List (Str × MV) → MS → Prop} (hk : okName sc x = true) (ho : lk ρ x = some old)
    (h : WE c n sc ρ σ e fun v σ1 => W2 c n σ1 old v (inplaceOp op) fun r σ2 => ∃ ρ', up ρ x r = ρ' ∧ Q .next ρ' σ2) : W1S c n sc ρ σ (.AugAssign (.Name x npos) op e pos) Q := fun A env s hr he hf hR => by
  refine wpAny_AugAssign_Name (hf.load he ho fun old' r0 => h.use hr he hf hR fun v s₁ u σ1 r1 st1 hf1 h1 => ?_)
  refine WO.use h1 (vs := [old', v]) hr st1.rel (.cons (VRel.step (X := NoX) r0 hR st1) (.cons r1 .nil)) fun w s₂ p => ?_
  obtain ⟨z, σ2, r2, st2, ρ', rfl, q⟩ := p
  have hf2 := hf1.go st1.rel st2.go
  exact hf2.store he hk st2.rel r2 fun s₃ hf3 st3 => ⟨.next, _, σ2, trivial, hf3, ((st1.trans st2).toX).transX hf st3 hf2, q⟩

/-! ## for -/
theorem S_for {t it : Expr} {body : List Stmt} {Q : MF → List (Str × MV) → MS → Prop} (hfold : ∀ env : Env, ∀ x, foldedSetIterable it env x = pure x)
    (h : WE c n sc ρ σ it fun u σ1 => ∃ (xs : List MV) (Inv : Nat → List (Str × MV) → MS → Prop), Inv 0 ρ σ1 ∧ (∀ i ρ' σ', Inv i ρ' σ' → Items σ' u xs) ∧
      (∀ i y ρ' σ', xs[i]? = some y → Inv i ρ' σ' → WA c n sc ρ' σ' t y fun ρ2 σ2 => WS c n sc ρ2 σ2 body fun f ρ3 σ3 => match f with
        | .next => Inv (i + 1) ρ3 σ3 | .cont => Inv (i + 1) ρ3 σ3 | .brk => Q .next ρ3 σ3 | .ret v => Q (.ret v) ρ3 σ3) ∧
      (∀ ρ' σ', Inv xs.length ρ' σ' → Q .next ρ' σ')) : W1S c n sc ρ σ (.For t it body [] pos) Q := fun A env s hr he hf hR => by
  refine wpAny_For (h.use hr he hf hR fun v s₁ u σ1 r1 st1 hf1 h1 => ?_) (hfold env)
  obtain ⟨xs, Inv, h0, hI, hturn, hend⟩ := h1
  refine it_start st1.rel r1 (hI 0 _ _ h0) fun h' hit kp => ?_
  have k0 : ∀ a, a = s₁.heap.objs.size → s₁.heap.get? a = none := fun a e => by
    subst e
    cases q : s₁.heap.get? s₁.heap.objs.size with
    | none => rfl
    | some o => exact absurd (Heap.lt_size q) (Nat.lt_irrefl _)
  generalize hIa : s₁.heap.objs.size = a at hit
  have ka := k0 a hIa.symm
  have aFr : ¬ FrX env a := fun q => by
    rcases q with q | ⟨y, q⟩
    · obtain ⟨o, e⟩ := hf1.locAt; rw [← q, ka] at e; cases e
    · obtain ⟨⟨_, o, e, _⟩, _⟩ := hf1.cells y a q; rw [ka] at e; cases e
  have a0 : c.h₀.get? a = none := by
    cases q : c.h₀.get? a with
    | none => rfl
    | some o => rw [st1.rel.base _ _ q] at ka; cases ka
  have stb : StepOk c NoX σ1 σ1 s₁ { s₁ with heap := h' } := StepOk.keeps (t := s₁.toks) st1.rel kp
  refine codeAny_forLoop_any (fun k s' => ∃ i ρ' σ', k = xs.length - i ∧ i ≤ xs.length ∧ FrameOk c env ρ' σ' s'.heap ∧ StepOk c (FrX env) σ1 σ' s₁ s' ∧ ItAt s'.heap a u i ∧ σ' a = none ∧ Inv i ρ' σ') ?_ xs.length
    ⟨0, ρ, σ1, rfl, Nat.zero_le _, hf1.go st1.rel stb.go, stb.toX, hit, st1.rel.notk ka, h0⟩
  rintro k s' ⟨i, ρ', σ', rfl, hi, hf', st', hit', ha', hInv⟩
  have hnoted : ∀ {P : Value → Shared → Prop} (e : Value) (s : Shared), Bot e s → P e s := fun _ _ f => f.elim
  have ext : ∀ {h2 : Heap} {tk : Nat}, Heap.ExtBut a s'.heap h2 → TKeep s'.heap h2 ∧ Rel c σ' h2 ∧ FrameOk c env ρ' σ' h2 ∧ StepOk c (FrX env) σ1 σ' s₁ { s' with heap := h2, toks := tk } := fun {h2 tk} e => by
    have tk2 : TKeep s'.heap h2 := fun b o g t => e b o (fun q => by subst q; exact hit'.notT o g t) g
    have R2 := st'.rel.ext e ha' a0 tk2
    refine ⟨tk2, R2, hf'.goX (X := fun b => b = a) tk2 (fun b hb q => aFr (q ▸ hb)) ⟨fun b o _ hb g => e b o hb g, fun _ _ g _ => g, fun _ g => g⟩, R2, ⟨fun b o g hb g' => e b o (fun q => by rw [q, ka] at g'; cases g') (st'.go.keep b o g hb g'), st'.go.new, st'.go.dom⟩, st'.gens, st'.os⟩
  by_cases hlt : i < xs.length
  · have hy : xs[i]? = some xs[i] := by simp [hlt]
    refine wpAny_mono (it_item (E := Bot) st'.rel (hI i _ _ hInv) ha' hit' hy fun v h2 tk rv hit2 e => ?_) (fun _ _ x => x) fun _ _ f => f.elim
    obtain ⟨tk2, R2, hf2, st2⟩ := ext (tk := tk) e
    refine letOwned hit2 ?_
    refine wpAny_mono (hturn i _ _ _ hy hInv A env _ v hr he hf2 R2 rv) (fun _ s₃ p => ?_) fun _ _ f => f.elim
    obtain ⟨ρ3, σ3, hf3, st3, hb⟩ := p
    have ha3 : σ3 a = none := by obtain ⟨o, _, _, g, _⟩ := hit2.obj; exact st3.go.new a o ha' g
    have hit3 : ItAt s₃.heap a u (i + 1) := hit2.keep (GoX.tkeep R2 (fun b o hb e => hf2.notT b o hb e) st3.go) fun o g => st3.go.keep a o ha' aFr g
    refine wpAny_mono (hb A env s₃ hr he hf3 st3.rel) (fun f s₄ p => ?_) fun _ _ f => f.elim
    obtain ⟨f', ρ4, σ4, rf, hf4, st4, q⟩ := p
    have st24 := (st2.transX hf1 st3 hf2).transX hf1 st4 hf3
    have st04 : StepOk c (FrX env) σ σ4 s s₄ := st1.toX.transX hf st24 hf1
    have nxt : Inv (i + 1) ρ4 σ4 → ∃ m, m < xs.length - i ∧ ∃ i ρ' σ', m = xs.length - i ∧ i ≤ xs.length ∧ FrameOk c env ρ' σ' s₄.heap ∧ StepOk c (FrX env) σ1 σ' s₁ s₄ ∧ ItAt s₄.heap a u i ∧ σ' a = none ∧ Inv i ρ' σ' := fun q =>
      ⟨xs.length - (i + 1), by omega, i + 1, ρ4, σ4, rfl, hlt, hf4, st24, hit3.keep (st4.tkeepX hf3 st3.rel) fun o g => st4.go.keep a o ha3 aFr g, (by obtain ⟨o, _, _, g, _⟩ := hit3.obj; exact st4.go.new a o ha3 g), q⟩
    cases f' with
    | next => cases f <;> first | exact rf.elim | exact nxt q
    | cont => cases f <;> first | exact rf.elim | exact nxt q
    | brk => cases f <;> first | exact rf.elim | exact ⟨.next, ρ4, σ4, trivial, hf4, st04, q⟩
    | ret v => cases f <;> first | exact rf.elim | exact ⟨.ret v, ρ4, σ4, rf, hf4, st04, q⟩
  · have hi' : i = xs.length := by omega
    subst hi'
    refine wpAny_mono (it_end (E := Bot) hr.1 st'.rel (hI _ _ _ hInv) hit' (by simp) fun h2 e => ?_) (fun _ _ x => x) fun _ _ f => f.elim
    obtain ⟨tk2, R2, hf2, st2⟩ := ext (tk := s'.toks) e
    exact wpAny_execs_nil ⟨.next, ρ', σ', trivial, hf2, st1.toX.transX hf st2 hf1, hend _ _ hInv⟩
end Mine
end
section
open PySem PySem.Calls PyProof.Rows PySem.W PySem.SeqAt
set_option linter.unusedVariables false
namespace Mine
variable {c : Cx} {n : Nat} {sc : Scope} {ρ : List (Str × MV)} {σ : MS} {A : Around} {env : Env} {s : Shared} {pos : Pos} {x : Str}

/-! ## operations upon ints -/
theorem W2_ints {i j : Int} {f : Value → Value → Sem Value} {Q : MV → MS → Prop}
    (h : ∀ A s t u, Room A n → Rel c σ s.heap → wpAny c.M A (f (.int i t) (.int j u)) (Post c NoX σ s VRel Q) Bot s) : W2 c n σ (.int i) (.int j) f Q := fun A s vs hr hR hv => by
  cases hv with
  | cons a b =>
    cases b with
    | cons b d => cases d; obtain ⟨t, rfl⟩ := a.int; obtain ⟨u, rfl⟩ := b.int; exact h A s t u hr hR
theorem o_add {i j : Int} {Q : MV → MS → Prop} (h : Q (.int (i + j)) σ) : W2 c n σ (.int i) (.int j) (binaryOp .Add) Q := W2_ints fun A s t u hr hR => add_int (Post.tok hR vInt h)
theorem o_iadd {i j : Int} {Q : MV → MS → Prop} (h : Q (.int (i + j)) σ) : W2 c n σ (.int i) (.int j) (inplaceOp .Add) Q := W2_ints fun A s t u hr hR => iadd_int (Post.tok hR vInt h)
theorem o_sub {i j : Int} {Q : MV → MS → Prop} (h : Q (.int (i - j)) σ) : W2 c n σ (.int i) (.int j) (binaryOp .Sub) Q := W2_ints fun A s t u hr hR => sub_int (Post.tok hR vInt h)
theorem o_mul {i j : Int} {Q : MV → MS → Prop} (hm : IntMulOk i j) (h : Q (.int (i * j)) σ) : W2 c n σ (.int i) (.int j) (binaryOp .Mult) Q := W2_ints fun A s t u hr hR => PyProof.Rows.mul_int (Post.tok hR vInt h) hm
theorem o_mod {i j : Int} {Q : MV → MS → Prop} (hj : 0 < j) (h : Q (.int (i % j)) σ) : W2 c n σ (.int i) (.int j) (binaryOp .Mod) Q := W2_ints fun A s t u hr hR =>
  PyProof.Rows.mod_int (by omega) (Post.tok hR vInt (by rw [Int.fmod_eq_emod_of_nonneg _ (by omega)]; exact h))
theorem o_div {i j : Int} {Q : MV → MS → Prop} (hj : 0 < j) (hj2 : j < 1073741824) (h : Q (.int (i / j)) σ) : W2 c n σ (.int i) (.int j) (binaryOp .FloorDiv) Q := W2_ints fun A s t u hr hR =>
  PyProof.Rows.floordiv_int (by omega) (Post.tok hR vInt (by rw [Int.fdiv_eq_ediv_of_nonneg _ (by omega)]; exact h)) (.inl (PyProof.noPylong_small (by omega)))
theorem o_shl {i j : Int} {Q : MV → MS → Prop} (hj : 0 ≤ j) (hj2 : j ≤ 1000000) (hi : i.natAbs < 2 ^ 64) (h : Q (.int (i * 2 ^ j.toNat)) σ) : W2 c n σ (.int i) (.int j) (binaryOp .LShift) Q := W2_ints fun A s t u hr hR =>
  PyProof.Rows.lshift_int_small hj hj2 hi (Post.tok hR vInt h)
theorem o_shr {i j : Int} {Q : MV → MS → Prop} (hj : 0 ≤ j) (h : Q (.int (i / 2 ^ j.toNat)) σ) : W2 c n σ (.int i) (.int j) (binaryOp .RShift) Q := W2_ints fun A s t u hr hR =>
  PyProof.Rows.rshift_int hj (Post.tok hR vInt (by rw [Int.fdiv_eq_ediv_of_nonneg _ (Int.le_of_lt (Int.pow_pos (by decide)))]; exact h))
theorem o_or {i j : Int} {Q : MV → MS → Prop} (h : Q (.int (Builtin.bitOr i j)) σ) : W2 c n σ (.int i) (.int j) (binaryOp .BitOr) Q := W2_ints fun A s t u hr hR => PyProof.Rows.or_int (Post.tok hR vInt h)
theorem o_and {i j : Int} {Q : MV → MS → Prop} (h : Q (.int (Builtin.bitAnd i j)) σ) : W2 c n σ (.int i) (.int j) (binaryOp .BitAnd) Q := W2_ints fun A s t u hr hR => PyProof.Rows.and_int (Post.tok hR vInt h)
theorem o_pow {i j : Int} {Q : MV → MS → Prop} (hj : 0 ≤ j) (hj2 : j ≤ 1000000) (hi : i.natAbs < 2 ^ 64) (h : Q (.int (i ^ j.toNat)) σ) : W2 c n σ (.int i) (.int j) (binaryOp .Pow) Q := W2_ints fun A s t u hr hR =>
  PyProof.Rows.pow_int_small hj hj2 hi (Post.tok hR vInt h)
theorem o_lt {i j : Int} {Q : MV → MS → Prop} (h : Q (.bool (decide (i < j))) σ) : W2 c n σ (.int i) (.int j) (compareOp .Lt) Q := W2_ints fun A s t u hr hR => lt_int (Post.here hR vBool h)
theorem o_gt {i j : Int} {Q : MV → MS → Prop} (h : Q (.bool (decide (i > j))) σ) : W2 c n σ (.int i) (.int j) (compareOp .Gt) Q := W2_ints fun A s t u hr hR => gt_int (Post.here hR vBool h)
theorem o_le {i j : Int} {Q : MV → MS → Prop} (h : Q (.bool (decide (i ≤ j))) σ) : W2 c n σ (.int i) (.int j) (compareOp .LtE) Q := W2_ints fun A s t u hr hR => PyProof.Rows.le_int (Post.here hR vBool h)
theorem o_ge {i j : Int} {Q : MV → MS → Prop} (h : Q (.bool (decide (i ≥ j))) σ) : W2 c n σ (.int i) (.int j) (compareOp .GtE) Q := W2_ints fun A s t u hr hR => PyProof.Rows.ge_int (Post.here hR vBool h)
theorem o_eq {i j : Int} {Q : MV → MS → Prop} (h : Q (.bool (i == j)) σ) : W2 c n σ (.int i) (.int j) (compareOp .Eq) Q := W2_ints fun A s t u hr hR => eq_int (Post.here hR vBool h)
theorem o_ne {i j : Int} {Q : MV → MS → Prop} (h : Q (.bool (i != j)) σ) : W2 c n σ (.int i) (.int j) (compareOp .NotEq) Q := W2_ints fun A s t u hr hR => ne_int (Post.here hR vBool h)
theorem WE_neg {e : Expr} {Q : MV → MS → Prop} (h : WE c n sc ρ σ e fun v σ1 => ∃ i, v = .int i ∧ Q (.int (-i)) σ1) : WE c n sc ρ σ (.UnaryOp .USub e pos) Q := fun A env s hr he hf hR => by
  refine wpAny_UnaryOp (h.use hr he hf hR fun v s₁ u σ1 r1 st1 hf1 h1 => ?_)
  obtain ⟨i, rfl, q⟩ := h1
  obtain ⟨t, rfl⟩ := r1.int
  exact PyProof.Rows.neg_int ((Post.tok (X := NoX) st1.rel vInt q).seq st1)
def isNone : MV → Bool
  | .a .none => true
  | _ => false
theorem o_is {v : MV} {Q : MV → MS → Prop} (h : Q (.bool (isNone v)) σ) : W2 c n σ v .none (compareOp .Is) Q := fun A s vs hr hR hv => by
  cases hv with
  | cons a b =>
    cases b with
    | cons b d =>
      cases d
      obtain rfl := b.isNone
      rename_i w
      refine is_none (Post.here hR ?_ h)
      have : (w == Value.none) = isNone v := by
        cases v with
        | a y =>
          cases y with
          | none => obtain rfl := a.isNone; rfl
          | bool b => obtain rfl := a.bool; rfl
          | int i => obtain ⟨t, rfl⟩ := a.int; rfl
          | bytes b => obtain ⟨t, rfl⟩ := a.bytes; rfl
          | ref k => obtain rfl := a.ref; rfl
        | tup xs => obtain ⟨k, _, _, rfl, _⟩ := a.tup; rfl
        | rng lo hi st => obtain ⟨k, _, _, _, rfl, _⟩ := a.rng; rfl
      rw [this]; exact vBool

/-! ## lists -/
theorem F2.ints {h : Heap} : ∀ {vs : List Value} {ns : List Int}, F2 (VRel h) vs (ns.map MV.int) → IntsAre vs ns
  | [], [], _ => .nil
  | _ :: _, _ :: _, .cons a b => by obtain ⟨t, rfl⟩ := a.int; exact .cons _ t b.ints
/-- a list that a mini state holds (frozen or not) -/
def LAt (σ : MS) (k : Addr) (xs : List MV) : Prop := σ k = some (.list xs) ∨ σ k = some (.froz xs)
theorem LAt.of {k : Addr} {xs : List MV} (h : σ k = some (.list xs)) : LAt σ k xs := .inl h
theorem W2_intRef {i : Int} {k : Addr} {f : Value → Value → Sem Value} {Q : MV → MS → Prop}
    (h : ∀ A s t, Room A n → Rel c σ s.heap → wpAny c.M A (f (.int i t) (.ref k)) (Post c NoX σ s VRel Q) Bot s) : W2 c n σ (.int i) (.ref k) f Q := fun A s vs hr hR hv => by
  cases hv with
  | cons a b =>
    cases b with
    | cons b d => cases d; obtain ⟨t, rfl⟩ := a.int; obtain rfl := b.ref; exact h A s t hr hR
theorem W2_refs {k j : Addr} {f : Value → Value → Sem Value} {Q : MV → MS → Prop}
    (h : ∀ A s, Room A n → Rel c σ s.heap → wpAny c.M A (f (.ref k) (.ref j)) (Post c NoX σ s VRel Q) Bot s) : W2 c n σ (.ref k) (.ref j) f Q := fun A s vs hr hR hv => by
  cases hv with
  | cons a b =>
    cases b with
    | cons b d => cases d; obtain rfl := a.ref; obtain rfl := b.ref; exact h A s hr hR
theorem o_in {i : Int} {k : Addr} {ns : List Int} {Q : MV → MS → Prop} (hl : LAt σ k (ns.map MV.int)) (h : Q (.bool (decide (i ∈ ns))) σ) : W2 c n σ (.int i) (.ref k) (compareOp .In) Q := W2_intRef fun A s t hr hR => by
  obtain ⟨items, l, f⟩ := listAt hR hl
  refine in_list_ints (vs := items.toList) (by simpa using l) f.ints (Post.here hR ?_ h)
  have : ns.any (· == i) = decide (i ∈ ns) := by rw [Bool.eq_iff_iff]; simp
  rw [this]; exact vBool
theorem o_notin {i : Int} {k : Addr} {ns : List Int} {Q : MV → MS → Prop} (hl : LAt σ k (ns.map MV.int)) (h : Q (.bool (!decide (i ∈ ns))) σ) : W2 c n σ (.int i) (.ref k) (compareOp .NotIn) Q := W2_intRef fun A s t hr hR => by
  obtain ⟨items, l, f⟩ := listAt hR hl
  refine notin_list_ints (vs := items.toList) (by simpa using l) f.ints (Post.here hR ?_ h)
  have : ns.any (· == i) = decide (i ∈ ns) := by rw [Bool.eq_iff_iff]; simp
  rw [this]; exact vBool
theorem F2.intsA : ∀ {vs : List Value} {ns : List Int}, F2 ARel vs (ns.map MA.int) → IntsAre vs ns
  | [], [], _ => .nil
  | _ :: _, _ :: _, .cons a b => by obtain ⟨t, rfl⟩ := a.int; exact .cons _ t b.intsA
theorem o_notinT {i : Int} {ns : List Int} {Q : MV → MS → Prop} (h : Q (.bool (!decide (i ∈ ns))) σ) : W2 c n σ (.int i) (.tup (ns.map MA.int)) (compareOp .NotIn) Q := fun A s vs hr hR hv => by
  cases hv with
  | cons a b =>
    cases b with
    | cons b d =>
      cases d; obtain ⟨t, rfl⟩ := a.int
      obtain ⟨k, items, m, rfl, e, f⟩ := b.tup
      refine notIn_tupleAt (isInt i) ⟨_, e, rfl, _, rfl⟩ (fun y hy => (eq_isInt i t f.intsA y (by simpa using hy)).at _ _) (Post.here hR ?_ h)
      have : items.any (isInt i) = decide (i ∈ ns) := by rw [← Array.any_toList, any_isInt i f.intsA, Bool.eq_iff_iff]; simp
      rw [this]; exact vBool
theorem all_eq_ints : ∀ {vs us : List Value} {ns ms : List Int}, IntsAre vs ns → IntsAre us ms → vs.length = us.length → ((List.range vs.length).all fun j => ns[j]? == ms[j]?) = decide (ns = ms) := by
  intro vs us ns ms a b e
  have e1 := a.length
  have e2 := b.length
  rw [Bool.eq_iff_iff, List.all_eq_true, decide_eq_true_iff]
  constructor
  · intro h
    apply List.ext_getElem?
    intro i
    by_cases hi : i < vs.length
    · simpa using h i (List.mem_range.mpr hi)
    · rw [List.getElem?_eq_none (by omega), List.getElem?_eq_none (by omega)]
  · rintro rfl j _; simp
theorem intsAt : ∀ {vs : List Value} {ns : List Int}, IntsAre vs ns → ∀ j (h : j < vs.length), ∃ i t, vs[j] = .int i t ∧ ns[j]? = some i
  | _, _, .cons i t r, 0, _ => ⟨i, t, rfl, rfl⟩
  | _, _, .cons i t r, j + 1, h => by simpa using intsAt r j (by simpa using h)
theorem o_eqL {k j : Addr} {ns ms : List Int} {Q : MV → MS → Prop} (hk : LAt σ k (ns.map MV.int)) (hj : LAt σ j (ms.map MV.int)) (h : Q (.bool (decide (ns = ms))) σ) : W2 c n σ (.ref k) (.ref j) (compareOp .Eq) Q := W2_refs fun A s hr hR => by
  obtain ⟨items, l, f⟩ := listAt hR hk
  obtain ⟨items', l', f'⟩ := listAt hR hj
  have a := f.ints
  have b := f'.ints
  by_cases hz : items.size = items'.size
  · refine RcAt.lists (e := fun q => ns[q]? == ms[q]?) l l' hz hr.units (fun q h1 h2 => ?_) _ _ _ _ (Post.here hR ?_ h)
    · obtain ⟨i1, t1, e1, g1⟩ := intsAt a q (by simpa using h1)
      obtain ⟨i2, t2, e2, g2⟩ := intsAt b q (by simpa using h2)
      rw [Array.getElem_toList] at e1 e2
      rw [e1, e2, g1, g2]
      have := EqAt.int_int (A := A.in1) (s := s) i1 t1 i2 t2
      have q : (some i1 == some i2) = (i1 == i2) := rfl
      rw [q]; exact this
    · have := all_eq_ints a b (by simpa using hz)
      rw [Array.length_toList] at this
      rw [this]; exact vBool
  · refine RcAt.lists_lengths l l' (by simpa using hz) hr.units _ _ _ _ (Post.here hR ?_ h)
    have : ns ≠ ms := fun q => hz (by have := a.length; have := b.length; simp only [Array.length_toList] at *; subst q; omega)
    rw [decide_eq_false this]; exact vBool
theorem o_neL {k j : Addr} {ns ms : List Int} {Q : MV → MS → Prop} (hk : LAt σ k (ns.map MV.int)) (hj : LAt σ j (ms.map MV.int)) (h : Q (.bool (!decide (ns = ms))) σ) : W2 c n σ (.ref k) (.ref j) (compareOp .NotEq) Q := W2_refs fun A s hr hR => by
  obtain ⟨items, l, f⟩ := listAt hR hk
  obtain ⟨items', l', f'⟩ := listAt hR hj
  have a := f.ints
  have b := f'.ints
  by_cases hz : items.size = items'.size
  · refine RcNeAt.lists (e := fun q => ns[q]? == ms[q]?) l l' hz hr.units (fun q h1 h2 => ?_) _ _ _ _ (Post.here hR ?_ h)
    · obtain ⟨i1, t1, e1, g1⟩ := intsAt a q (by simpa using h1)
      obtain ⟨i2, t2, e2, g2⟩ := intsAt b q (by simpa using h2)
      rw [Array.getElem_toList] at e1 e2
      rw [e1, e2, g1, g2]
      have := EqAt.int_int (A := A.in1) (s := s) i1 t1 i2 t2
      have q : (some i1 == some i2) = (i1 == i2) := rfl
      rw [q]; exact this
    · have := all_eq_ints a b (by simpa using hz)
      rw [Array.length_toList] at this
      rw [this]; exact vBool
  · refine RcNeAt.lists_lengths l l' (by simpa using hz) hr.units _ _ _ _ (Post.here hR ?_ h)
    have : ns ≠ ms := fun q => hz (by have := a.length; have := b.length; simp only [Array.length_toList] at *; subst q; omega)
    rw [decide_eq_false this]; exact vBool
theorem o_eqNil {k j : Addr} {xs : List MV} {Q : MV → MS → Prop} (hk : LAt σ k xs) (hj : LAt σ j []) (h : Q (.bool xs.isEmpty) σ) : W2 c n σ (.ref k) (.ref j) (compareOp .Eq) Q := W2_refs fun A s hr hR => by
  obtain ⟨items, l, f⟩ := listAt hR hk
  obtain ⟨items', l', f'⟩ := listAt hR hj
  have e1 := f.length
  have e2 := f'.length
  simp only [Array.length_toList, List.length_nil] at e1 e2
  by_cases hz : items.size = items'.size
  · refine RcAt.lists (e := fun _ => true) l l' hz hr.units (fun q h1 h2 => absurd h2 (by omega)) _ _ _ _ (Post.here hR ?_ h)
    have : xs = [] := List.eq_nil_of_length_eq_zero (by omega)
    subst this
    have : items.size = 0 := by omega
    rw [this]; exact vBool
  · refine RcAt.lists_lengths l l' (by simpa using hz) hr.units _ _ _ _ (Post.here hR ?_ h)
    have : xs.isEmpty = false := by cases xs with | nil => rw [List.length_nil] at e1; omega | cons => rfl
    rw [this]; exact vBool
theorem o_neNil {k j : Addr} {xs : List MV} {Q : MV → MS → Prop} (hk : LAt σ k xs) (hj : LAt σ j []) (h : Q (.bool (!xs.isEmpty)) σ) : W2 c n σ (.ref k) (.ref j) (compareOp .NotEq) Q := W2_refs fun A s hr hR => by
  obtain ⟨items, l, f⟩ := listAt hR hk
  obtain ⟨items', l', f'⟩ := listAt hR hj
  have e1 := f.length
  have e2 := f'.length
  simp only [Array.length_toList, List.length_nil] at e1 e2
  by_cases hz : items.size = items'.size
  · refine RcNeAt.lists (e := fun _ => true) l l' hz hr.units (fun q h1 h2 => absurd h2 (by omega)) _ _ _ _ (Post.here hR ?_ h)
    have : xs = [] := List.eq_nil_of_length_eq_zero (by omega)
    subst this
    have : items.size = 0 := by omega
    rw [this]; exact vBool
  · refine RcNeAt.lists_lengths l l' (by simpa using hz) hr.units _ _ _ _ (Post.here hR ?_ h)
    have : xs.isEmpty = false := by cases xs with | nil => rw [List.length_nil] at e1; omega | cons => rfl
    rw [this]; exact vBool
theorem size0 (h : Heap) : h.get? h.objs.size = none := by
  cases q : h.get? h.objs.size with
  | none => rfl
  | some o => exact absurd (Heap.lt_size q) (Nat.lt_irrefl _)
/-- a new list object -/
theorem Post.newList {X : Addr → Prop} {items : Array Value} {m : Nat} {xs : List MV} {Q : MV → MS → Prop} {t : Nat} (hR : Rel c σ s.heap) (f : F2 (VRel s.heap) items.toList xs) (h : ∀ k, σ k = none → Q (.ref k) (upd σ k (.list xs))) :
    Post c X σ s VRel Q (.ref s.heap.objs.size) { s with heap := s.heap.push { cls := .type "list", data := .seq items m }, toks := t } :=
  ⟨.ref s.heap.objs.size, upd σ s.heap.objs.size (.list xs), vRef, StepOk.more hR (size0 _) (fun b o e => Heap.get?_push_of_some _ e) ⟨items, m, Heap.get?_push_size _ rfl, f.imp fun _ _ y => y.keep (.of_keeps fun b o e => Heap.get?_push_of_some _ e)⟩ (by intro _ _ q; cases q), h _ hR.fresh⟩
theorem Rel.listIs {h : Heap} {k : Addr} {xs : List MV} (hR : Rel c σ h) (hk : σ k = some (.list xs)) : ∃ items m, IsL h k items m ∧ F2 (VRel h) items.toList xs := hR.obj _ _ hk
theorem o_addL {k j : Addr} {xs ys : List MV} {Q : MV → MS → Prop} (hk : σ k = some (.list xs)) (hj : σ j = some (.list ys)) (hz : xs.length + ys.length ≤ 100000) (h : ∀ q, σ q = none → Q (.ref q) (upd σ q (.list (xs ++ ys)))) : W2 c n σ (.ref k) (.ref j) (binaryOp .Add) Q := W2_refs fun A s hr hR => by
  obtain ⟨items, m, l, f⟩ := hR.listIs hk
  obtain ⟨items', m', l', f'⟩ := hR.listIs hj
  have e1 := f.length
  have e2 := f'.length
  rw [Array.length_toList] at e1 e2
  exact P.add_list l l' (Post.newList hR (by rw [Array.toList_append]; exact f.append f') h) (by rw [sizeLine_eq]; omega)
end Mine
end
section
open PySem PySem.Calls PyProof.Rows PySem.W PySem.SeqAt
set_option linter.unusedVariables false
namespace Mine
variable {c : Cx} {n : Nat} {sc : Scope} {ρ : List (Str × MV)} {σ : MS} {A : Around} {env : Env} {s : Shared} {pos : Pos} {x : Str}

/-! ## bytes, lists times a number -/
theorem o_addB {a b : Array UInt8} {Q : MV → MS → Prop} (hz : a.size + b.size ≤ 100000) (h : Q (.bytes (a ++ b)) σ) : W2 c n σ (.bytes a) (.bytes b) (binaryOp .Add) Q := fun A s vs hr hR hv => by
  cases hv with
  | cons p q =>
    cases q with
    | cons q d => cases d; obtain ⟨t, rfl⟩ := p.bytes; obtain ⟨u, rfl⟩ := q.bytes; exact KBy.add_bytes (by omega) fun t' k => Post.tok hR vBytes h
def rep {α : Type} : Nat → List α → List α
  | 0, _ => []
  | n + 1, xs => rep n xs ++ xs
theorem foldl_rep {α : Type} (xs : Array α) : ∀ (n : Nat) (acc : Array α), (List.foldl (fun x1 x2 => x1 ++ x2) acc (List.replicate n xs)).toList = acc.toList ++ rep n xs.toList
  | 0, acc => by simp [rep]
  | n + 1, acc => by
    rw [List.replicate_succ, List.foldl_cons, foldl_rep xs n, Array.toList_append, List.append_assoc]
    congr 1
    have : ∀ n, xs.toList ++ rep n xs.toList = rep n xs.toList ++ xs.toList := by
      intro n
      induction n with
      | zero => simp [rep]
      | succ n ih => rw [rep, ← List.append_assoc, ih]
    rw [rep, this]
theorem F2.rep {α β : Type} {R : α → β → Prop} {xs ys} (h : F2 R xs ys) : ∀ n, F2 R (rep n xs) (rep n ys)
  | 0 => .nil
  | n + 1 => (F2.rep h n).append h
theorem o_mulL {k : Addr} {xs : List MV} {i : Int} {Q : MV → MS → Prop} (hk : σ k = some (.list xs)) (h0 : 0 ≤ i) (h1 : i ≤ 100) (hz : xs.length ≤ 100) (h : ∀ q, σ q = none → Q (.ref q) (upd σ q (.list (rep i.toNat xs)))) : W2 c n σ (.ref k) (.int i) (binaryOp .Mult) Q := fun A s vs hr hR hv => by
  cases hv with
  | cons p q =>
    cases q with
    | cons q d =>
      cases d; obtain rfl := p.ref; obtain ⟨u, rfl⟩ := q.int
      obtain ⟨items, m, l, f⟩ := hR.listIs hk
      have e1 := f.length
      rw [Array.length_toList] at e1
      have hm : items.size * i.toNat ≤ 100 * 100 := Nat.mul_le_mul (by omega) (by omega)
      have key : Post c NoX σ s VRel Q (.ref s.heap.objs.size) { s with heap := s.heap.push { cls := Value.type "list", data := Data.seq (List.foldl (fun x1 x2 => x1 ++ x2) #[] (List.replicate (if items.isEmpty = true then 0 else i.toNat) items)) }, toks := s.toks } := by
        refine Post.newList hR ?_ h
        rw [foldl_rep]
        by_cases hE : items.isEmpty = true
        · rw [if_pos hE]
          have : items = #[] := by simpa using hE
          subst this
          have : xs = [] := List.eq_nil_of_length_eq_zero (by simpa using e1.symm)
          subst this
          have : ∀ n, rep n ([] : List MV) = [] := by intro n; induction n with | zero => rfl | succ n ih => rw [rep, ih]; rfl
          rw [this]; exact .nil
        · rw [if_neg hE]; exact F2.rep f _
      exact wpAny_binaryOp_repeat_ref (T := "list") (U := "int") (by decide) ⟨_, l, rfl⟩ (fun s' => typeIs_int s' i u) noFill_list_mul F.fills_int_mul F.slot_int_rmul repeat_list F.slot_int_index.lookup
        (call_meets F.slot_int_rmul (typeIs_int s i u) F.entry_int_rmul (F.args_int_rmul_2 _ _) (int___rmul___int_list i u k items m)
          ⟨l, rfl, ⟨_, l, rfl⟩, call_meets F.slot_list_mul ⟨_, l, rfl⟩ F.entry_list_mul (F.args_list_mul_2 _ _)
            (AutoListH.list___mul___list_int_3 k items m i u (by simp [Builtin.List.listFitsIndex]; omega) (by omega) (by simp [Builtin.List.listTooLong, sizeLine]; omega))
            ⟨l, key⟩⟩)

/-! ## subscripts -/
/-- o[i], the values at hand -/
def WG (c : Cx) (n : Nat) (σ : MS) (o i : MV) (Q : MV → MS → Prop) : Prop :=
  ∀ A s a b, Room A n → Rel c σ s.heap → VRel s.heap a o → VRel s.heap b i → ∃ T id, s.TypeIs a T ∧ typeLookup (.type T) "__getitem__" = pure (some (.builtin id)) ∧ wpAny c.M A (getItem a b) (Post c NoX σ s VRel Q) Bot s
theorem WE_sub {value slice : Expr} {Q : MV → MS → Prop} (hs : ∀ o i, subscripted slice false o i = operate [o, i] (getItem o i)) (h : WE c n sc ρ σ value fun o σ1 => WE c n sc ρ σ1 slice fun i σ2 => WG c n σ2 o i Q) : WE c n sc ρ σ (.Subscript value slice pos) Q := fun A env s hr he hf hR => by
  refine Subscript_ (h.use hr he hf hR fun a s₁ u σ1 r1 st1 hf1 h1 => h1.use hr he hf1 st1.rel fun b s₂ v σ2 r2 st2 hf2 h2 => ?_)
  obtain ⟨T, id, hT, hl, hg⟩ := h2 A s₂ a b hr st2.rel (VRel.step (X := NoX) r1 st1.rel st2) r2
  exact tail_any hT hl (wpAny_mono hg (fun w s₃ p => (p.seq st2).seq st1) fun _ _ x => x) (hs a b)
theorem g_list {k : Addr} {xs : List MV} {i : Int} {y : MV} {Q : MV → MS → Prop} (hk : LAt σ k xs) (h0 : 0 ≤ i) (h1 : i < 100000) (hy : xs[i.toNat]? = some y) (h : Q y σ) : WG c n σ (.ref k) (.int i) Q := fun A s a b hr hR ha hb => by
  obtain rfl := ha.ref; obtain ⟨t, rfl⟩ := hb.int
  obtain ⟨items, l, f⟩ := listAt hR hk
  obtain ⟨v, e1, e2⟩ := f.get hy
  exact ⟨"list", _, l.typeIs, slot_list_getitem.lookup, wpAny_getItem_list l h0 (by omega) (by simpa using e1) (Post.here hR e2 h)⟩
theorem g_listLast {k : Addr} {xs : List MV} {y : MV} {Q : MV → MS → Prop} (hk : LAt σ k (xs ++ [y])) (hz : xs.length ≤ 100000) (h : Q y σ) : WG c n σ (.ref k) (.int (-1)) Q := fun A s a b hr hR ha hb => by
  obtain rfl := ha.ref; obtain ⟨t, rfl⟩ := hb.int
  obtain ⟨items, l, f⟩ := listAt hR hk
  have e := f.length
  rw [Array.length_toList, List.length_append, List.length_singleton] at e
  obtain ⟨v, e1, e2⟩ := f.get (i := xs.length) (y := y) (by simp)
  refine ⟨"list", _, l.typeIs, slot_list_getitem.lookup, wpAny_getItem_list_neg l (by omega) (by omega) (by omega) (x := v) ?_ (Post.here hR e2 h)⟩
  have : ((-1 : Int) + (items.size : Int)).toNat = xs.length := by omega
  rw [this]; simpa using e1
theorem g_tup {xs : List MA} {i : Int} {y : MA} {Q : MV → MS → Prop} (h0 : 0 ≤ i) (h1 : i < 100000) (hy : xs[i.toNat]? = some y) (h : Q (.a y) σ) : WG c n σ (.tup xs) (.int i) Q := fun A s a b hr hR ha hb => by
  obtain ⟨k, items, m, rfl, e, f⟩ := ha.tup; obtain ⟨t, rfl⟩ := hb.int
  obtain ⟨v, e1, e2⟩ := f.get hy
  obtain ⟨hlt, _⟩ := List.getElem?_eq_some_iff.mp e1
  have hsz : items.toList.length = items.size := Array.length_toList
  have hlt2 : i.toNat < items.size := by rw [← hsz]; exact hlt
  refine ⟨"tuple", _, ⟨_, e, rfl⟩, slot_tuple_getitem.lookup, PyProof.Rows.getItem_tuple (t := k) (items := items) (j := i.toNat) ⟨_, e, rfl, _, rfl⟩ (by omega) (by omega) ?_ (by simpa using e1) (Post.here hR (VRel.at.mpr e2) h)⟩
  unfold seqIndex?
  have hlt3 : i < (items.size : Int) := by omega
  simp [show ¬ i < 0 by omega, h0, hlt3]
theorem g_bytes {b : Array UInt8} {i : Int} {Q : MV → MS → Prop} (h0 : 0 ≤ i) (h1 : i < b.size) (hz : b.size ≤ 100000) (h : Q (.int (b.toList.getD i.toNat 0).toNat) σ) : WG c n σ (.bytes b) (.int i) Q := fun A s a b' hr hR ha hb => by
  obtain ⟨t, rfl⟩ := ha.bytes; obtain ⟨u, rfl⟩ := hb.int
  refine ⟨"bytes", _, typeIs_bytes _ _ _, FB.slot_bytes_getitem.lookup, ?_⟩
  have := getItem_bytes (prog := c.prog) (w := c.w) (A := A) (E := Bot) (s := s) (t := t) (u := u) (l := b.toList) (i := i) (Q := Post c NoX σ s VRel Q) (by simp; omega) h0 (by simpa using h1) (Post.tok hR vInt h)
  simpa using this

/-! ## dicts by written str keys -/
theorem F2.lookup {h : Heap} {y : Str} {v : MV} : ∀ {kvs : List (Str × Value)} {es : List (Str × MV)}, F2 (fun (p : Str × Value) (q : Str × MV) => p.1 = q.1 ∧ VRel h p.2 q.2) kvs es → lk es y = some v → ∃ u, valueAt kvs y = some u ∧ VRel h u v
  | _, _, .nil, e => by simp [lk] at e
  | (k, w) :: kvs, (k', w') :: es, .cons ⟨a, b⟩ f, e => by
    obtain rfl : k = k' := a
    unfold lk at e
    by_cases q : y = k
    · subst q; rw [if_pos rfl] at e; cases e; exact ⟨w, by simp [valueAt], b⟩
    · rw [if_neg q] at e
      obtain ⟨u, e1, e2⟩ := f.lookup e
      refine ⟨u, ?_, e2⟩
      simp only [valueAt, List.find?_cons] at e1 ⊢
      rw [decide_eq_false (show ¬ (k, w).1 = y from fun z => q z.symm)]
      exact e1
theorem F2.stored {h : Heap} {y : Str} {u : Value} {v : MV} (hv : VRel h u v) : ∀ {kvs : List (Str × Value)} {es : List (Str × MV)}, F2 (fun (p : Str × Value) (q : Str × MV) => p.1 = q.1 ∧ VRel h p.2 q.2) kvs es → (kvs.map (·.1)).Nodup →
    F2 (fun (p : Str × Value) (q : Str × MV) => p.1 = q.1 ∧ VRel h p.2 q.2) (stored kvs y u) (up es y v)
  | _, _, .nil, _ => by simpa [PySem.stored, up] using F2.cons ⟨rfl, hv⟩ .nil
  | (k, w) :: kvs, (k', w') :: es, .cons ⟨a, b⟩ f, hn => by
    obtain rfl : k = k' := a
    obtain ⟨hk, hn'⟩ := List.nodup_cons.mp hn
    unfold up
    by_cases q : y = k
    · subst q
      rw [if_pos rfl]
      have : PySem.stored ((y, w) :: kvs) y u = (y, u) :: kvs := by
        unfold PySem.stored
        rw [if_pos (by simp)]
        simp only [List.map_cons, if_true]
        congr 1
        exact map_store_of_not_mem kvs y u hk
      rw [this]; exact .cons ⟨rfl, hv⟩ f
    · rw [if_neg q]
      have : PySem.stored ((k, w) :: kvs) y u = (k, w) :: PySem.stored kvs y u := by
        unfold PySem.stored
        have e : ((k, w) :: kvs).any (fun kv => decide (kv.1 = y)) = kvs.any (fun kv => decide (kv.1 = y)) := by
          simp only [List.any_cons]; rw [decide_eq_false (show ¬ (k, w).1 = y from fun z => q z.symm), Bool.false_or]
        rw [e]
        split
        · simp only [List.map_cons]; rw [if_neg (fun z => q z.symm)]
        · rfl
      rw [this]; exact .cons ⟨rfl, b⟩ (f.stored hv hn')
theorem WE_key {value : Expr} {key : Str} {kk : Nat} {kp : Pos} {Q : MV → MS → Prop} (h : WE c n sc ρ σ value fun o σ1 => ∃ k es v, o = .ref k ∧ σ1 k = some (.dict es) ∧ lk es key = some v ∧ Q v σ1) : WE c n sc ρ σ (.Subscript value (.Constant (.str key) kk kp) pos) Q := fun A env s hr he hf hR => by
  refine Subscript_ (h.use hr he hf hR fun a s₁ u σ1 r1 st1 hf1 h1 => Calls.Constant_str ?_)
  obtain ⟨k, es, v, rfl, hk, hv, q⟩ := h1
  obtain rfl := r1.ref
  obtain ⟨kvs, hd, f⟩ := st1.rel.obj _ _ hk
  obtain ⟨w, e1, e2⟩ := f.lookup hv
  refine tail_any (T := "dict") (s := { s₁ with toks := s₁.toks + 1 }) (Heap.DictOf.typeIs (s := { s₁ with toks := s₁.toks + 1 }) hd) slot_dict_getitem.lookup ?_ (by with_unfolding_all rfl) (ops := [.ref k, .str key s₁.toks])
  exact wpAny_getItem_of (s := { s₁ with toks := s₁.toks + 1 }) (strKind_is c.prog c.w key _) hd.mapOf e1 ((Post.tok (X := NoX) st1.rel e2 q).seq st1)
/-- d[key] = v, the dict turned -/
theorem Rel.dictSet {h h' : Heap} {k : Addr} {es : List (Str × MV)} {kvs : List (Str × Value)} {key : Str} {u : Value} {v : MV} (R : Rel c σ h) (hk : σ k = some (.dict es)) (f : F2 (fun (p : Str × Value) (q : Str × MV) => p.1 = q.1 ∧ VRel h p.2 q.2) kvs es)
    (hn : (kvs.map (·.1)).Nodup) (hs : Heap.ExtBut k h h') (hd : h'.DictOf (PySem.strKind c.prog c.w) k (PySem.stored kvs key u)) (hv : VRel h u v) : ORel c h' k (.dict (up es key v)) := by
  obtain ⟨o₀, g₀, nt⟩ := R.atk hk
  have tk : TKeep h h' := fun b o' e t => hs b o' (fun q => by subst q; rw [g₀] at e; cases e; exact nt t) e
  exact ⟨_, hd, (F2.stored hv f hn).imp fun _ _ y => ⟨y.1, y.2.keep tk⟩⟩
theorem A_key {value : Expr} {key : Str} {kk : Nat} {kp : Pos} {v : MV} {Q : List (Str × MV) → MS → Prop} (h : WE c n sc ρ σ value fun o σ1 => ∃ k es es', o = .ref k ∧ σ1 k = some (.dict es) ∧ es.length ≤ 1000 ∧ up es key v = es' ∧ Q ρ (upd σ1 k (.dict es'))) :
    WA c n sc ρ σ (.Subscript value (.Constant (.str key) kk kp) pos) v Q := fun A env s u hr he hf hR hv => by
  rw [assign_Subscript]
  refine wpAny_bind (wpAny_holding (h.use hr he hf hR fun a s₁ w σ1 r1 st1 hf1 h1 => wpAny_bind (wpAny_holding (Calls.Constant_str (wpAny_bind (wpAny_standAt ?_))))))
  obtain ⟨k, es, es', rfl, hk, hz, rfl, q⟩ := h1
  obtain rfl := r1.ref
  obtain ⟨kvs, hd, f⟩ := st1.rel.obj _ _ hk
  have hn : (kvs.map (·.1)).Nodup := by obtain ⟨_, _, _, _, _, _, _, _, hn⟩ := hd; exact hn
  refine wpAny_bind (wpAny_holding ?_)
  refine wpAny_setItem_pairs (s := { s₁ with toks := s₁.toks + 1 }) (strKind_is c.prog c.w key _) hd (fun h' hd' hs => wpAny_release' ?_) (by rw [f.length, sizeLine_eq]; omega)
  have tR := st1.rel.dictSet hk f hn hs.extBut hd' (VRel.step (X := NoX) hv hR st1)
  have st2 : StepOk c NoX σ1 (upd σ1 k (.dict (up es key v))) s₁ { s₁ with heap := h', toks := s₁.toks + 1 + 1 } :=
    StepOk.turn st1.rel hk hs.extBut tR (by intro _ q; cases q) (by intro _ _ q; cases q) (by intro _ _ q; cases q) (by intro _ q; cases q)
  exact ⟨ρ, _, hf1.go st1.rel st2.go, (st1.trans st2).toX, q⟩
/-- l[i] = v -/
theorem A_idx {value slice : Expr} {v : MV} {Q : List (Str × MV) → MS → Prop} (h : WE c n sc ρ σ value fun o σ1 => WE c n sc ρ σ1 slice fun i σ2 => ∃ k xs j, o = .ref k ∧ i = .int j ∧ σ2 k = some (.list xs) ∧ 0 ≤ j ∧ j < xs.length ∧ xs.length ≤ 100000 ∧ Q ρ (upd σ2 k (.list (xs.set j.toNat v)))) :
    WA c n sc ρ σ (.Subscript value slice pos) v Q := fun A env s u hr he hf hR hv => by
  rw [assign_Subscript]
  refine wpAny_bind (wpAny_holding (h.use hr he hf hR fun a s₁ w σ1 r1 st1 hf1 h1 => wpAny_bind (wpAny_holding (h1.use hr he hf1 st1.rel fun b s₂ w2 σ2 r2 st2 hf2 h2 => wpAny_bind (wpAny_standAt ?_)))))
  obtain ⟨k, xs, j, rfl, rfl, hk, h0, h1', hz, q⟩ := h2
  obtain rfl := r1.ref
  obtain ⟨t, rfl⟩ := r2.int
  obtain ⟨items, m, l, f⟩ := st2.rel.listIs hk
  have e := f.length
  rw [Array.length_toList] at e
  refine wpAny_bind (wpAny_holding (ki_setAt l h0 (by omega) (by omega) (wpAny_release' ?_)))
  have hs : Heap.SameBut k s₂.heap (s₂.heap.update k (Obj.mapSeq fun x => x.setIfInBounds j.toNat u)) := Heap.SameBut.update ..
  obtain ⟨o₀, g₀, nt⟩ := st2.rel.atk hk
  have tk : TKeep s₂.heap (s₂.heap.update k (Obj.mapSeq fun x => x.setIfInBounds j.toNat u)) := fun b o' e t => hs.extBut b o' (fun q => by subst q; rw [g₀] at e; cases e; exact nt t) e
  have hv2 : VRel s₂.heap u v := VRel.step (X := NoX) (VRel.step (X := NoX) hv hR st1) st1.rel st2
  have st3 : StepOk c NoX σ2 (upd σ2 k (.list (xs.set j.toNat v))) s₂ { s₂ with heap := s₂.heap.update k (Obj.mapSeq fun x => x.setIfInBounds j.toNat u) } :=
    StepOk.turn (t := s₂.toks) st2.rel hk hs.extBut ⟨items.setIfInBounds j.toNat u, _, (IsL.update l _), by
      rw [Array.toList_setIfInBounds]; exact (F2.set j.toNat hv2 f).imp fun _ _ y => y.keep tk⟩ (by intro _ q; cases q) (by intro _ _ q; cases q) (by intro _ _ q; cases q) (by intro _ q; cases q)
  exact ⟨ρ, _, hf2.go st2.rel st3.go, ((st1.trans st2).trans st3).toX, q⟩
end Mine
end
section
open PySem PySem.Calls PyProof.Rows PySem.W PySem.SeqAt
set_option linter.unusedVariables false
namespace Mine
variable {c : Cx} {n : Nat} {sc : Scope} {ρ : List (Str × MV)} {σ : MS} {A : Around} {env : Env} {s : Shared} {pos : Pos} {x : Str}

/-! ## slices -/
def WP (c : Cx) (n : Nat) (sc : Scope) (ρ : List (Str × MV)) (σ : MS) (e : Option Expr) (Q : Option Int → MS → Prop) : Prop := WX c n sc ρ σ (fun _ v k => IsPart v k) (fun env => evalPart e env) Q
theorem WP_none {Q : Option Int → MS → Prop} (h : Q none σ) : WP c n sc ρ σ none Q := fun A env s hr he hf hR => by
  show wpAny _ _ (evalPart none env) _ _ _
  rw [evalPart_none]; exact wpAny_pure (Post.here hR .none h)
theorem WP_some {e : Expr} {Q : Option Int → MS → Prop} (h : WE c n sc ρ σ e fun v σ1 => ∃ i, v = .int i ∧ Q (some i) σ1) : WP c n sc ρ σ (some e) Q := fun A env s hr he hf hR => by
  show wpAny _ _ (evalPart (some e) env) _ _ _
  rw [evalPart_some]
  refine h.use hr he hf hR fun v s₁ u σ1 r1 st1 hf1 h1 => ?_
  obtain ⟨i, rfl, q⟩ := h1
  obtain ⟨t, rfl⟩ := r1.int
  exact (Post.here (X := NoX) st1.rel (.int i t) q).seq st1
theorem StepOk.push {X : Addr → Prop} (R : Rel c σ s.heap) (o : Obj) : StepOk c X σ σ s { s with heap := s.heap.push o } := StepOk.keeps (t := s.toks) R fun b o' e => Heap.get?_push_of_some _ e
/-- a list's slice: what is picked is named by the program's own ints -/
theorem WE_sliceL {value : Expr} {lo hi st : Option Expr} {sp : Pos} {Q : MV → MS → Prop} (hs : ∀ o i, ∃ ops, subscripted (.Slice lo hi st sp) false o i = operate ops (getItem o i))
    (h : WE c n sc ρ σ value fun o σ1 => WP c n sc ρ σ1 lo fun a σ2 => WP c n sc ρ σ2 hi fun b σ3 => WP c n sc ρ σ3 st fun d σ4 => ∃ k xs ys, o = .ref k ∧ LAt σ4 k xs ∧ xs.length ≤ 100000 ∧ d ≠ some 0 ∧
      (∀ h' (items : Array Value), F2 (VRel h') items.toList xs → F2 (VRel h') (slicePick items a b d).toList ys) ∧ ∀ q, σ4 q = none → Q (.ref q) (upd σ4 q (.list ys))) :
    WE c n sc ρ σ (.Subscript value (.Slice lo hi st sp) pos) Q := fun A env s hr he hf hR => by
  refine Subscript_ (h.use hr he hf hR fun o s₁ u σ1 r1 st1 hf1 h1 => wpAny_Slice (h1.use hr he hf1 st1.rel fun va s₂ a σ2 r2 st2 hf2 h2 => h2.use hr he hf2 st2.rel fun vb s₃ b σ3 r3 st3 hf3 h3 => h3.use hr he hf3 st3.rel fun vd s₄ d σ4 r4 st4 hf4 h4 => ?_))
  obtain ⟨k, xs, ys, rfl, hk, hz, hd, hp, q⟩ := h4
  obtain rfl := r1.ref
  obtain ⟨ops, hs⟩ := hs (.ref k) (.ref s₄.heap.objs.size)
  have st5 : StepOk c NoX σ4 σ4 s₄ { s₄ with heap := s₄.heap.push { cls := .type "slice", data := .fields #[va, vb, vd] } } := StepOk.push st4.rel _
  obtain ⟨items, l, f⟩ := listAt st5.rel hk
  have e := f.length
  rw [Array.length_toList] at e
  refine tail_any (T := "list") l.typeIs slot_list_getitem.lookup ?_ hs
  refine wpAny_getItem_list_slice l (Heap.IsSliceOf.new _ _ _ _) r2 r3 r4 hd ?_ (by rw [sizeLine_eq]; omega)
  exact ((((Post.newList (t := s₄.toks) (X := NoX) st5.rel (hp _ items f) q).seq st5).seq st4).seq st3).seq st2 |>.seq st1
theorem WE_sliceB {value : Expr} {lo hi : Option Expr} {sp : Pos} {Q : MV → MS → Prop} (hs : ∀ o i, ∃ ops, subscripted (.Slice lo hi none sp) false o i = operate ops (getItem o i))
    (h : WE c n sc ρ σ value fun o σ1 => WP c n sc ρ σ1 lo fun a σ2 => WP c n sc ρ σ2 hi fun b σ3 => ∃ d, o = .bytes d ∧ d.size ≤ 100000 ∧ Q (.bytes (KBy.picked d a b)) σ3) :
    WE c n sc ρ σ (.Subscript value (.Slice lo hi none sp) pos) Q := fun A env s hr he hf hR => by
  refine Subscript_ (h.use hr he hf hR fun o s₁ u σ1 r1 st1 hf1 h1 => wpAny_Slice (h1.use hr he hf1 st1.rel fun va s₂ a σ2 r2 st2 hf2 h2 => h2.use hr he hf2 st2.rel fun vb s₃ b σ3 r3 st3 hf3 h3 => ?_))
  show wpAny _ _ (evalPart none env) _ _ _
  rw [evalPart_none]
  refine wpAny_pure ?_
  obtain ⟨d, rfl, hz, q⟩ := h3
  obtain ⟨t, rfl⟩ := r1.bytes
  obtain ⟨ops, hs⟩ := hs (.bytes d t) (.ref s₃.heap.objs.size)
  have st4 : StepOk c NoX σ3 σ3 s₃ { s₃ with heap := s₃.heap.push { cls := .type "slice", data := .fields #[va, vb, .none] } } := StepOk.push st3.rel _
  refine tail_any (T := "bytes") (typeIs_bytes _ _ _) FB.slot_bytes_getitem.lookup ?_ hs
  refine getItem_meets (typeIs_bytes _ _ _) (by decide) FB.slot_bytes_getitem FB.entry_bytes_getitem (FB.args_bytes_getitem_2 _ _) (KBc.meets_slice2 d t _ r2 r3) ⟨Heap.IsSliceOf.new _ _ _ _, ?_, fun t' k => ?_⟩
  · exact Nat.le_trans (KBc.size_picked_le d a b) (by rw [sizeLine_eq]; omega)
  · exact ((((Post.tok (X := NoX) st4.rel vBytes q).seq st4).seq st3).seq st2).seq st1
theorem pick_from {h : Heap} {items : Array Value} {xs : List MV} (f : F2 (VRel h) items.toList xs) (a : Nat) : F2 (VRel h) (slicePick items (some (a : Int)) none none).toList (xs.drop a) := by
  rw [slicePick_from']; exact f.drop a
theorem pick_upto {h : Heap} {items : Array Value} {xs : List MV} (f : F2 (VRel h) items.toList xs) (b : Nat) : F2 (VRel h) (slicePick items none (some (b : Int)) none).toList (xs.take b) := by
  rw [slicePick_upto']; exact f.take b
theorem pick_rev {h : Heap} {items : Array Value} {xs : List MV} (f : F2 (VRel h) items.toList xs) : F2 (VRel h) (slicePick items none none (some (-1))).toList xs.reverse := by
  rw [krv_pick]; exact f.reverse

/-! ## methods of lists and tuples -/
theorem methodForm {o : Expr} {name : Str} {apos : Pos} {e : Expr} {T id : String} {Q : Value → Shared → Prop} {E : Value → Shared → Prop}
    (hbase : attributeBase o name env (eval o env) = eval o env) (hs : starEach [e] env = [(false, eval e env)]) (hline : (apos.endLine == pos.line) = true)
    (pa : PlainAttrs T) (slot : Slot T name id) (hty : typeOf (.builtin id) = pure (.type "method_descriptor"))
    (h : wpAny c.M A (eval o env) (fun ov s₁ => s₁.TypeIs ov T ∧ (∀ a, ov = .ref a → ∃ ob, s₁.heap.get? a = some ob ∧ ob.dict = none) ∧
      wpAny c.M A (callWith pos (.builtin id) [ov] [(false, eval e env)] []) Q E s₁) E s) :
    wpAny c.M A (eval (.Call (.Attribute o name apos) [e] [] pos) env) Q E s := by
  have hb : backTo pos (starEach [e] env) = [(false, eval e env)] := by rw [hs]; rfl
  refine wpAny_Call_method hbase ?_ hline pa slot hty (by rw [hb]; exact h)
  rw [hb]; rfl
theorem WE_append {o e : Expr} {apos : Pos} {Q : MV → MS → Prop} (hbase : ∀ env : Env, attributeBase o "append" env (eval o env) = eval o env) (hs : ∀ env : Env, starEach [e] env = [(false, eval e env)]) (hline : (apos.endLine == pos.line) = true)
    (h : WE c n sc ρ σ o fun ov σ1 => ∃ k, ov = .ref k ∧ (∃ ys, σ1 k = some (.list ys)) ∧ WE c n sc ρ σ1 e fun v σ2 => ∃ xs, σ2 k = some (.list xs) ∧ xs.length ≤ 100000 ∧ Q .none (upd σ2 k (.list (xs ++ [v])))) :
    WE c n sc ρ σ (.Call (.Attribute o "append" apos) [e] [] pos) Q := fun A env s hr he hf hR => by
  refine methodForm (hbase env) (hs env) hline F.plainAttrs_list F.slot_list_append F.type_list_append (h.use hr he hf hR fun ov s₁ u σ1 r1 st1 hf1 h1 => ?_)
  obtain ⟨k, rfl, ⟨ys, hy⟩, h2⟩ := h1
  obtain rfl := r1.ref
  obtain ⟨items0, m0, l0, f0⟩ := st1.rel.listIs hy
  refine ⟨⟨_, l0, rfl⟩, fun a e => by cases e; exact ⟨_, l0, rfl⟩, P.append_list (h2.use hr he hf1 st1.rel fun v s₂ w σ2 r2 st2 hf2 h3 => ?_)⟩
  obtain ⟨xs, hk, hz, q⟩ := h3
  obtain ⟨items, m, l, f⟩ := st2.rel.listIs hk
  have e := f.length
  rw [Array.length_toList] at e
  refine ⟨items, m, by rw [sizeLine_eq]; omega, l, ?_⟩
  have hs : Heap.SameBut k s₂.heap (s₂.heap.update k (Obj.mapSeq fun xs => xs.push v)) := Heap.SameBut.update ..
  obtain ⟨o₀, g₀, nt⟩ := st2.rel.atk hk
  have tk : TKeep s₂.heap (s₂.heap.update k (Obj.mapSeq fun xs => xs.push v)) := fun b o' e t => hs.extBut b o' (fun q => by subst q; rw [g₀] at e; cases e; exact nt t) e
  have st3 : StepOk c NoX σ2 (upd σ2 k (.list (xs ++ [w]))) s₂ { s₂ with heap := s₂.heap.update k (Obj.mapSeq fun xs => xs.push v) } :=
    StepOk.turn (t := s₂.toks) st2.rel hk hs.extBut ⟨_, _, (IsL.update l _), by
      rw [Array.toList_push]; exact (f.append (.cons r2 .nil)).imp fun _ _ y => y.keep tk⟩ (by intro _ q; cases q) (by intro _ _ q; cases q) (by intro _ _ q; cases q) (by intro _ q; cases q)
  exact ⟨.none, _, vNone, (st1.trans st2).trans st3, q⟩
theorem WE_pop {o e : Expr} {apos : Pos} {Q : MV → MS → Prop} (hbase : ∀ env : Env, attributeBase o "pop" env (eval o env) = eval o env) (hs : ∀ env : Env, starEach [e] env = [(false, eval e env)]) (hline : (apos.endLine == pos.line) = true)
    (h : WE c n sc ρ σ o fun ov σ1 => ∃ k, ov = .ref k ∧ (∃ ys, σ1 k = some (.list ys)) ∧ WE c n sc ρ σ1 e fun v σ2 => ∃ xs i y, v = .int i ∧ σ2 k = some (.list xs) ∧ xs.length ≤ 100000 ∧ 0 ≤ i ∧ xs[i.toNat]? = some y ∧ Q y (upd σ2 k (.list (xs.eraseIdx i.toNat)))) :
    WE c n sc ρ σ (.Call (.Attribute o "pop" apos) [e] [] pos) Q := fun A env s hr he hf hR => by
  refine methodForm (hbase env) (hs env) hline F.plainAttrs_list F.slot_list_pop F.type_list_pop (h.use hr he hf hR fun ov s₁ u σ1 r1 st1 hf1 h1 => ?_)
  obtain ⟨k, rfl, ⟨ys, hy⟩, h2⟩ := h1
  obtain rfl := r1.ref
  obtain ⟨items0, m0, l0, f0⟩ := st1.rel.listIs hy
  refine ⟨⟨_, l0, rfl⟩, fun a e => by cases e; exact ⟨_, l0, rfl⟩, P.pop_at_list (h2.use hr he hf1 st1.rel fun v s₂ w σ2 r2 st2 hf2 h3 => ?_)⟩
  obtain ⟨xs, i, y, rfl, hk, hz, hi, hy', q⟩ := h3
  obtain ⟨t, rfl⟩ := r2.int
  obtain ⟨items, m, l, f⟩ := st2.rel.listIs hk
  have e := f.length
  rw [Array.length_toList] at e
  obtain ⟨z, e1, e2⟩ := f.get hy'
  have hlt : i.toNat < xs.length := (List.getElem?_eq_some_iff.mp hy').1
  have hlt2 : i < (items.size : Int) := by omega
  refine ⟨items, m, i, t, i.toNat, z, by rw [sizeLine_eq]; omega, rfl, l, by simp [Builtin.List.listFitsIndex]; omega, by unfold seqIndex?; simp [show ¬ i < 0 by omega, hi, hlt2], by simpa using e1, ?_⟩
  have hs : Heap.SameBut k s₂.heap (s₂.heap.update k (Obj.mapSeq fun xs => xs.eraseIdxIfInBounds i.toNat)) := Heap.SameBut.update ..
  obtain ⟨o₀, g₀, nt⟩ := st2.rel.atk hk
  have tk : TKeep s₂.heap (s₂.heap.update k (Obj.mapSeq fun xs => xs.eraseIdxIfInBounds i.toNat)) := fun b o' e t => hs.extBut b o' (fun q => by subst q; rw [g₀] at e; cases e; exact nt t) e
  have st3 : StepOk c NoX σ2 (upd σ2 k (.list (xs.eraseIdx i.toNat))) s₂ { s₂ with heap := s₂.heap.update k (Obj.mapSeq fun xs => xs.eraseIdxIfInBounds i.toNat) } :=
    StepOk.turn (t := s₂.toks) st2.rel hk hs.extBut ⟨_, _, (IsL.update l _), by
      have : (items.eraseIdxIfInBounds i.toNat).toList = items.toList.eraseIdx i.toNat := by simp
      rw [this]; exact (f.eraseIdx _).imp fun _ _ y => y.keep tk⟩ (by intro _ q; cases q) (by intro _ _ q; cases q) (by intro _ _ q; cases q) (by intro _ q; cases q)
  exact ⟨y, _, e2.keep tk, (st1.trans st2).trans st3, q⟩

/-! ## built-ins -/
def Bt (c : Cx) (b : Str) (v : Value) : Prop := c.mg b = none ∧ c.mb b = some v
def WBt (c : Cx) (n : Nat) (σ : MS) (us : List MV) (v : Value) (Q : MV → MS → Prop) : Prop := WO c n σ us VRel (fun vs => call v vs) Q
theorem WE_built {b : Str} {bp : Pos} {id : String} {e : Expr} {rest : List Expr} {Q : MV → MS → Prop} (G : Gd c) (hx : okGlob sc b = true) (B : Bt c b (.builtin id))
    (hs : ∀ env : Env, starEach (e :: rest) env = (false, eval e env) :: starEach rest env ∧ (starEach rest env).any (·.1) = false) (h : WL c n sc ρ σ pos (e :: rest) fun us σ1 => WBt c n σ1 us (.builtin id) Q) : WE c n sc ρ σ (.Call (.Name b bp) (e :: rest) [] pos) Q := fun A env s hr he hf hR => by
  refine wpAny_Call_Name_kw (load_built G he hR hx B.1 B.2 ?_)
  have ha : (backTo pos (starEach rest env)).any (·.1) = false := by
    have h0 := (hs env).2
    unfold backTo; rw [List.any_map]; exact h0
  have key : wpAny c.M A (spliced (backTo pos (starEach (e :: rest) env))) (fun vs s' => wpAny c.M A (call (.builtin id) ([] ++ vs) []) (Post c NoX σ s VRel Q) Bot s') Bot s :=
    WX.use h hr he hf hR fun vs s₁ us σ1 r1 st1 hf1 h1 => wpAny_mono (h1 A s₁ vs hr st1.rel r1) (fun v s' p => p.seq st1) fun _ _ x => x
  rw [(hs env).1] at key ⊢
  refine callWith_builtin ?_ (evalArgs_plain key)
  show ((false || (backTo pos (starEach rest env)).any (·.1))) = false
  rw [ha]; rfl
theorem WE_type {b : Str} {bp : Pos} {T : String} {e : Expr} {rest : List Expr} {Q : MV → MS → Prop} (G : Gd c) (hx : okGlob sc b = true) (B : Bt c b (.type T))
    (hs : ∀ env : Env, starEach (e :: rest) env = (false, eval e env) :: starEach rest env ∧ (starEach rest env).any (·.1) = false) (h : WL c n sc ρ σ pos (e :: rest) fun us σ1 => WBt c n σ1 us (.type T) Q) : WE c n sc ρ σ (.Call (.Name b bp) (e :: rest) [] pos) Q := fun A env s hr he hf hR => by
  refine wpAny_Call_Name_kw (load_built G he hR hx B.1 B.2 ?_)
  have ha : (backTo pos (starEach rest env)).any (·.1) = false := by
    have h0 := (hs env).2
    unfold backTo; rw [List.any_map]; exact h0
  have key : wpAny c.M A (spliced (backTo pos (starEach (e :: rest) env))) (fun vs s' => wpAny c.M A (call (.type T) ([] ++ vs) []) (Post c NoX σ s VRel Q) Bot s') Bot s :=
    WX.use h hr he hf hR fun vs s₁ us σ1 r1 st1 hf1 h1 => wpAny_mono (h1 A s₁ vs hr st1.rel r1) (fun v s' p => p.seq st1) fun _ _ x => x
  rw [(hs env).1] at key ⊢
  refine callWith_excType ?_ (evalArgs_plain key)
  show ((false || (backTo pos (starEach rest env)).any (·.1))) = false
  rw [ha]; rfl
theorem WBt1 {u : MV} {v : Value} {Q : MV → MS → Prop} (h : ∀ A s a, Room A n → Rel c σ s.heap → VRel s.heap a u → wpAny c.M A (call v [a]) (Post c NoX σ s VRel Q) Bot s) : WBt c n σ [u] v Q := fun A s vs hr hR hv => by
  cases hv with
  | cons a b => cases b; exact h A s _ hr hR a
theorem WBt2 {u w : MV} {v : Value} {Q : MV → MS → Prop} (h : ∀ A s a b, Room A n → Rel c σ s.heap → VRel s.heap a u → VRel s.heap b w → wpAny c.M A (call v [a, b]) (Post c NoX σ s VRel Q) Bot s) : WBt c n σ [u, w] v Q := fun A s vs hr hR hv => by
  cases hv with
  | cons a b => cases b with | cons b d => cases d; exact h A s _ _ hr hR a b
theorem WBt3 {u w z : MV} {v : Value} {Q : MV → MS → Prop} (h : ∀ A s a b d, Room A n → Rel c σ s.heap → VRel s.heap a u → VRel s.heap b w → VRel s.heap d z → wpAny c.M A (call v [a, b, d]) (Post c NoX σ s VRel Q) Bot s) : WBt c n σ [u, w, z] v Q := fun A s vs hr hR hv => by
  cases hv with
  | cons a b => cases b with | cons b d => cases d with | cons d e => cases e; exact h A s _ _ _ hr hR a b d
theorem b_lenL {k : Addr} {xs : List MV} {Q : MV → MS → Prop} (hk : LAt σ k xs) (hz : xs.length ≤ 100000) (h : Q (.int xs.length) σ) : WBt c n σ [.ref k] (.builtin "len") Q := WBt1 fun A s a hr hR ha => by
  obtain rfl := ha.ref
  obtain ⟨items, l, f⟩ := listAt hR hk
  have e := f.length
  rw [Array.length_toList] at e
  exact call_len_list l (by omega) (Post.tok hR (by rw [e]; exact vInt) h)
theorem b_lenB {b : Array UInt8} {Q : MV → MS → Prop} (hz : b.size ≤ 100000) (h : Q (.int b.size) σ) : WBt c n σ [.bytes b] (.builtin "len") Q := WBt1 fun A s a hr hR ha => by
  obtain ⟨t, rfl⟩ := ha.bytes
  exact len_bytes (by omega) (Post.tok hR vInt h)
theorem Post.keeps {α β : Type} {X : Addr → Prop} {R : Heap → α → β → Prop} {Q : β → MS → Prop} {v : α} {u : β} {h' : Heap} {t : Nat} (hR : Rel c σ s.heap) (kp : ∀ b o, s.heap.get? b = some o → h'.get? b = some o) (r : R h' v u) (q : Q u σ) : Post c X σ s R Q v { s with heap := h', toks := t } :=
  ⟨u, σ, r, StepOk.keeps hR kp, q⟩
theorem b_max {i j : Int} {Q : MV → MS → Prop} (h : Q (.int (max i j)) σ) : WBt c n σ [.int i, .int j] (.builtin "max") Q := WBt2 fun A s a b hr hR ha hb => by
  obtain ⟨t, rfl⟩ := ha.int; obtain ⟨u, rfl⟩ := hb.int
  refine max_two_ints hr.1 fun h' tk kp => Post.keeps hR kp ?_ h
  split
  · rw [show max i j = j by omega]; exact vInt
  · rw [show max i j = i by omega]; exact vInt
theorem b_min {i j : Int} {Q : MV → MS → Prop} (h : Q (.int (min i j)) σ) : WBt c n σ [.int i, .int j] (.builtin "min") Q := WBt2 fun A s a b hr hR ha hb => by
  obtain ⟨t, rfl⟩ := ha.int; obtain ⟨u, rfl⟩ := hb.int
  refine min_two_ints hr.1 fun h' tk kp => Post.keeps hR kp ?_ h
  split
  · rw [show min i j = j by omega]; exact vInt
  · rw [show min i j = i by omega]; exact vInt
theorem b_abs {i : Int} {Q : MV → MS → Prop} (h : Q (.int (i.natAbs : Int)) σ) : WBt c n σ [.int i] (.builtin "abs") Q := WBt1 fun A s a hr hR ha => by
  obtain ⟨t, rfl⟩ := ha.int
  refine call_abs_int fun u tk => Post.tok hR ?_ h
  rw [show (if i < 0 then -i else i) = (i.natAbs : Int) by split <;> omega]; exact vInt
/-- the toks that IntsAre forgets -/
theorem intItems_of : ∀ {vs : List Value} {ns : List Int}, IntsAre vs ns → ∃ xs : Array (Int × Tok), intItems xs = vs.toArray ∧ xs.toList.map (·.1) = ns
  | _, _, .nil => ⟨#[], by simp [intItems], rfl⟩
  | _, _, .cons i t r => by
    obtain ⟨xs, e1, e2⟩ := intItems_of r
    refine ⟨((i, t) :: xs.toList).toArray, ?_, by simp [e2]⟩
    have := congrArg Array.toList e1
    simp only [intItems, Array.toList_map] at this
    simp [intItems, this]
theorem preSum_take (ns : List Int) (val : Nat → Int) (hv : ∀ i, i < ns.length → val i = ns.getD i 0) : ∀ k, k ≤ ns.length → preSum val k = (ns.take k).sum
  | 0, _ => by simp [preSum]
  | k + 1, h => by
    rw [preSum, preSum_take ns val hv k (by omega), hv k (by omega), List.take_add_one, List.sum_append]
    congr 1
    rw [List.getD_eq_getElem?_getD, List.getElem?_eq_getElem (by omega)]; simp
theorem numAt_eq {xs : Array (Int × Tok)} {ns : List Int} (e : xs.toList.map (·.1) = ns) (i : Nat) : numAt xs i = ns.getD i 0 := by
  subst e
  unfold numAt
  rw [List.getD_eq_getElem?_getD, List.getElem?_map, Array.getElem?_toList]
theorem b_sum {k : Addr} {ns : List Int} {Q : MV → MS → Prop} (hk : LAt σ k (ns.map MV.int)) (h : Q (.int ns.sum) σ) : WBt c n σ [.ref k] (.builtin "sum") Q := WBt1 fun A s a hr hR ha => by
  obtain rfl := ha.ref
  obtain ⟨items, l, f⟩ := listAt hR hk
  obtain ⟨xs, e1, e2⟩ := intItems_of f.ints
  rw [show items.toList.toArray = items by simp] at e1
  refine sum_intListG hr.1 (xs := xs) (by rw [e1]; exact l) fun h' tk t' kp => Post.keeps hR kp ?_ h
  have hl : xs.size = ns.length := by rw [← e2]; simp
  rw [preSum_take ns (numAt xs) (fun i _ => numAt_eq e2 i) xs.size (by omega), hl, List.take_length]; exact vInt
theorem F2.boolAt {h : Heap} {vs : List Value} {bs : List Bool} (f : F2 (VRel h) vs (bs.map MV.bool)) {i : Nat} {v : Value} (e : vs[i]? = some v) : ∃ b, bs[i]? = some b ∧ v = .bool b := by
  have hl := f.length
  rw [List.length_map] at hl
  obtain ⟨hi, _⟩ := List.getElem?_eq_some_iff.mp e
  have : (bs.map MV.bool)[i]? = some (MV.bool (bs[i]'(by omega))) := by simp [show i < bs.length by omega]
  obtain ⟨w, e1, e2⟩ := f.get this
  rw [e] at e1; cases e1
  exact ⟨bs[i]'(by omega), by simp [show i < bs.length by omega], e2.bool⟩
theorem b_any {k : Addr} {bs : List Bool} {Q : MV → MS → Prop} (hk : LAt σ k (bs.map MV.bool)) (h : Q (.bool (bs.any id)) σ) : WBt c n σ [.ref k] (.builtin "any") Q := WBt1 fun A s a hr hR ha => by
  obtain rfl := ha.ref
  obtain ⟨items, l, f⟩ := listAt hR hk
  have hlt : k < s.heap.objs.size := by obtain ⟨_, e, _⟩ := l; exact Heap.lt_size e
  refine call_any_walk (wpAny_pyIter_list l ?_)
  refine ⟨s.heap.objs.size, [s.heap.objs.size, k], [s.heap.objs.size], items.size, _, _, fun i => (bs[i]?).getD true, rfl, Walks.list (A := A.in1) hr.1 _ k (Nat.ne_of_lt hlt) items,
    ⟨⟨_, Heap.get?_push_size _ rfl, rfl, rfl⟩, l.push _⟩, fun i v s' Q' E' hP hQ => ?_, fun h' tk hk => ?_⟩
  · obtain ⟨b, e, rfl⟩ := f.boolAt (i := i) (v := v) (by simpa using hP)
    simp only [e, Option.getD_some] at hQ
    exact wpAny_truthy_bool hQ
  · have kp : ∀ b o, s.heap.get? b = some o → h'.get? b = some o := fun b o e => hk b o (fun q => by simp at q; subst q; exact absurd (Heap.lt_size e) (Nat.lt_irrefl _)) (Heap.get?_push_of_some _ e)
    refine Post.keeps hR kp ?_ h
    have hl := f.length
    rw [List.length_map, Array.length_toList] at hl
    have : ((List.range items.size).any fun i => (bs[i]?).getD true) = bs.any id := by
      rw [hl, Bool.eq_iff_iff, List.any_eq_true, List.any_eq_true]
      constructor
      · rintro ⟨i, hi, hb⟩
        have hi' : i < bs.length := List.mem_range.mp hi
        rw [List.getElem?_eq_getElem hi'] at hb
        exact ⟨bs[i], List.getElem_mem hi', by simpa using hb⟩
      · rintro ⟨b, hb, hb'⟩
        obtain ⟨i, hi, rfl⟩ := List.getElem_of_mem hb
        exact ⟨i, List.mem_range.mpr hi, by rw [List.getElem?_eq_getElem hi]; simpa using hb'⟩
    rw [this]; exact vBool
theorem vRng {h : Heap} {k : Addr} {lo hi st : Int} {t u v : Tok} (e : h.get? k = some (rngObj lo hi st t u v)) : VRel h (.ref k) (.rng lo hi st) := ⟨_, _, _, e⟩
theorem b_range1 {j : Int} {Q : MV → MS → Prop} (h : Q (.rng 0 j 1) σ) : WBt c n σ [.int j] (.type "range") Q := WBt1 fun A s a hr hR ha => by
  obtain ⟨t, rfl⟩ := ha.int
  exact call_range_1 (Post.keeps (u := .rng 0 j 1) hR (fun b o e => Heap.get?_push_of_some _ e) (vRng (Heap.get?_push_size _ rfl)) h)
theorem b_range2 {i j : Int} {Q : MV → MS → Prop} (h : Q (.rng i j 1) σ) : WBt c n σ [.int i, .int j] (.type "range") Q := WBt2 fun A s a b hr hR ha hb => by
  obtain ⟨t, rfl⟩ := ha.int; obtain ⟨u, rfl⟩ := hb.int
  exact call_range_2 (Post.keeps (u := .rng i j 1) hR (fun b o e => Heap.get?_push_of_some _ e) (vRng (Heap.get?_push_size _ rfl)) h)
theorem b_range3 {i j k : Int} {Q : MV → MS → Prop} (hk : k ≠ 0) (hk2 : k.natAbs < 1073741824) (h : Q (.rng i j k) σ) : WBt c n σ [.int i, .int j, .int k] (.type "range") Q := WBt3 fun A s a b d hr hR ha hb hd => by
  obtain ⟨t, rfl⟩ := ha.int; obtain ⟨u, rfl⟩ := hb.int; obtain ⟨v, rfl⟩ := hd.int
  exact call_range_3 hk (Post.keeps (u := .rng i j k) hR (fun b o e => Heap.get?_push_of_some _ e) (vRng (Heap.get?_push_size _ rfl)) h) (.inl (PyProof.noPylong_small hk2))
theorem b_list {k : Addr} {xs : List MV} {Q : MV → MS → Prop} (hk : σ k = some (.list xs)) (hz : xs.length ≤ 100000) (h : ∀ q, σ q = none → Q (.ref q) (upd σ q (.list xs))) : WBt c n σ [.ref k] (.type "list") Q := WBt1 fun A s a hr hR ha => by
  obtain rfl := ha.ref
  obtain ⟨items, m, l, f⟩ := hR.listIs hk
  have e := f.length
  rw [Array.length_toList] at e
  refine call_list_seq k (.inl rfl) l rfl rfl (fun h' c' kp g => ?_) (by rw [sizeLine_eq]; omega)
  exact ⟨.ref s.heap.objs.size, upd σ s.heap.objs.size (.list xs), vRef, StepOk.more (t := s.toks) hR (size0 _) kp ⟨items, c', g, f.imp fun _ _ y => y.keep (.of_keeps kp)⟩ (by intro _ _ q; cases q), h _ hR.fresh⟩
end Mine
end
section
open PySem PySem.Calls PyProof.Rows PySem.W PySem.SeqAt
set_option linter.unusedVariables false
namespace Mine
variable {c : Cx} {n : Nat} {sc : Scope} {ρ : List (Str × MV)} {σ : MS} {A : Around} {env : Env} {s : Shared} {pos : Pos} {x : Str}

/-! ## stores into a comprehension's own names -/
abbrev LocX (env : Env) : Addr → Prop := fun b => b = env.locals
def okLocal (sc : Scope) (x : Str) : Bool := sc.names.lookup x == some .local && !(x == ("__debug__" : Str))
theorem FrameOk.storeL {x : Str} {v : Value} {m : MV} {Q : Unit → Shared → Prop} {E : Value → Shared → Prop} (he : EnvOk sc env) (hk : okLocal sc x = true) (f : FrameOk c env ρ σ s.heap) (R : Rel c σ s.heap) (hv : VRel s.heap v m)
    (h : ∀ s', FrameOk c env (up ρ x m) σ s'.heap → StepOk c (LocX env) σ σ s s' → Q () s') : wpAny c.M A (storeName env x v) Q E s := by
  obtain ⟨hk1, hk2⟩ := Bool.and_eq_true_iff.mp hk
  have hkd : (x == ("__debug__" : Str)) = false := by simpa using hk2
  have hl : env.kindOf x = some .local := by unfold Env.kindOf; rw [he.scope]; simpa using hk1
  obtain ⟨m', hn, hm⟩ := f.ns
  refine wpAny_storeName_local hl hn (fun h' hn' hs => ?_) he.plain
  have tk' : TKeep s.heap h' := fun b o e t => (hs.2 b fun q => by subst q; exact f.notT _ o (.inl rfl) e t).trans e
  refine h _ ⟨⟨_, hn', fun y w e q => ?_⟩, fun y w e q => ?_, fun y w e => ?_, f.loc, fun y b e => ?_, f.inj, f.has⟩ ⟨⟨fun b o e => ?_, fun k mo e => ?_, R.new, R.own⟩, ⟨fun b o _ hb e => (hs.2 b hb).trans e, fun _ _ e _ => e, fun _ e => e⟩, rfl, rfl⟩
  · rw [lk_up] at e
    by_cases hy : y = x
    · rw [if_pos hy] at e; cases e; exact ⟨v, by rw [if_pos hy], hv.keep tk'⟩
    · rw [if_neg hy] at e; obtain ⟨u, a, b⟩ := hm y w e q; exact ⟨u, by rw [if_neg hy]; exact a, b.keep tk'⟩
  · rw [lk_up] at e
    by_cases hy : y = x
    · subst hy; rw [hl] at q; cases q
    · rw [if_neg hy] at e
      obtain ⟨b, u, e1, e2, e3⟩ := f.cell y w e q
      exact ⟨b, u, e1, e2.sameBut hs (f.cells y b e1).2.2.2, e3.keep tk'⟩
  · rw [lk_up] at e
    by_cases hy : y = x
    · subst hy; exact ⟨.inl hl, hkd⟩
    · rw [if_neg hy] at e; exact f.kind y w e
  · obtain ⟨⟨u, hu⟩, h3⟩ := f.cells y b e
    exact ⟨⟨u, hu.sameBut hs h3.2.2⟩, h3⟩
  · refine (hs.2 b fun q => ?_).trans (R.base b o e)
    rw [q, f.loc.2] at e; cases e
  · have ka : k ≠ env.locals := fun q => by rw [q, f.loc.1] at e; cases e
    refine (R.obj k mo e).keep tk' (fun o ho => (hs.2 k ka).trans ho) fun dx es q o ho => (hs.2 dx fun q' => ?_).trans ho
    have := R.own k dx es (q ▸ e); rw [q', f.loc.1] at this; cases this
def WAL (c : Cx) (n : Nat) (sc : Scope) (ρ : List (Str × MV)) (σ : MS) (t : Expr) (x : MV) (Q : List (Str × MV) → MS → Prop) : Prop :=
  ∀ A env s v, Room A n → EnvOk sc env → FrameOk c env ρ σ s.heap → Rel c σ s.heap → VRel s.heap v x →
    wpAny c.M A (assign t env v) (fun _ s' => ∃ ρ' σ', FrameOk c env ρ' σ' s'.heap ∧ StepOk c (LocX env) σ σ' s s' ∧ Q ρ' σ') Bot s
def WALs (c : Cx) (n : Nat) (sc : Scope) (ρ : List (Str × MV)) (σ : MS) (ts : List Expr) (xs : List MV) (Q : List (Str × MV) → MS → Prop) : Prop :=
  ∀ A env s vs, Room A n → EnvOk sc env → FrameOk c env ρ σ s.heap → Rel c σ s.heap → F2 (VRel s.heap) vs xs →
    wpAny c.M A (assignInOrder ((assignEach ts env).map (·.2)) vs) (fun _ s' => ∃ ρ' σ', FrameOk c env ρ' σ' s'.heap ∧ StepOk c (LocX env) σ σ' s s' ∧ Q ρ' σ') Bot s
theorem StepOk.transL {σ' σ'' : MS} {s' s'' : Shared} (x : StepOk c (LocX env) σ σ' s s') (y : StepOk c (LocX env) σ' σ'' s' s'') {ρ' : List (Str × MV)} (f' : FrameOk c env ρ' σ' s'.heap) : StepOk c (LocX env) σ σ'' s s'' :=
  ⟨y.rel, GoX.trans x.go y.go (fun b hb o e q => by subst hb; exact f'.locAt), y.gens.trans x.gens, y.os.trans x.os⟩
theorem StepOk.tkeepL {σ' : MS} {s' : Shared} (hf : FrameOk c env ρ σ s.heap) (hR : Rel c σ s.heap) (st : StepOk c (LocX env) σ σ' s s') : TKeep s.heap s'.heap := GoX.tkeep hR (fun b o hb e => hf.notT b o (.inl hb) e) st.go
theorem L_name {v : MV} {Q : List (Str × MV) → MS → Prop} (hk : okLocal sc x = true) (h : ∃ ρ', up ρ x v = ρ' ∧ Q ρ' σ) : WAL c n sc ρ σ (.Name x pos) v Q := fun A env s u hr he hf hR hv => by
  obtain ⟨ρ', rfl, q⟩ := h
  exact wpAny_assign_Name (hf.storeL he hk hR hv fun s' hf' st' => ⟨_, σ, hf', st', q⟩)
theorem Ls_nil {Q : List (Str × MV) → MS → Prop} (h : Q ρ σ) : WALs c n sc ρ σ [] [] Q := fun A env s vs hr he hf hR hv => by
  cases hv; exact wpAny_pure ⟨ρ, σ, hf, .refl hR, h⟩
theorem Ls_cons {t : Expr} {ts : List Expr} {v : MV} {vs : List MV} {Q : List (Str × MV) → MS → Prop} (hs : ∀ env : Env, assignEach (t :: ts) env = (false, assign t env) :: assignEach ts env)
    (h : WAL c n sc ρ σ t v fun ρ' σ' => WALs c n sc ρ' σ' ts vs Q) : WALs c n sc ρ σ (t :: ts) (v :: vs) Q := fun A env s ws hr he hf hR hv => by
  cases hv with
  | cons a b =>
    rename_i w ws
    rw [hs]
    show wpAny _ _ (do holding _ (assign t env w); assignInOrder ((assignEach ts env).map (·.2)) ws) _ _ _
    refine wpAny_bind (wpAny_holding (wpAny_mono (h A env s w hr he hf hR a) (fun _ s₁ p => ?_) fun _ _ e => e))
    obtain ⟨ρ', σ', hf', st', q⟩ := p
    refine wpAny_mono (q A env s₁ ws hr he hf' st'.rel (b.imp fun _ _ y => y.keep (st'.tkeepL hf hR))) (fun _ s₂ p => ?_) fun _ _ e => e
    obtain ⟨ρ'', σ'', hf'', st'', q'⟩ := p
    exact ⟨ρ'', σ'', hf'', st'.transL st'' hf', q'⟩
theorem L_tuple {ts : List Expr} {k : Nat} {xs : List MA} {Q : List (Str × MV) → MS → Prop} (hn : ts.length = xs.length) (hs : ∀ env : Env, (assignEach ts env).findIdx? (·.1) = none ∧ (assignEach ts env).length = ts.length)
    (h : WALs c n sc ρ σ ts (xs.map .a) Q) : WAL c n sc ρ σ (.Tuple ts k pos) (.tup xs) Q := fun A env s u hr he hf hR hv => by
  obtain ⟨t, items, m, rfl, e1, e2⟩ := hv.tup
  refine wpAny_assign_Tuple hr.1 ⟨_, e1, rfl, _, rfl⟩ (by rw [(hs env).2, hn, ← e2.length, Array.length_toList]) (hs env).1 fun h' he' => ?_
  have kp : ∀ b o, s.heap.get? b = some o → h'.get? b = some o := fun b o e => he' b o (Nat.ne_of_lt (Heap.lt_size e)) e
  have st : StepOk c NoX σ σ s { s with heap := h' } := StepOk.keeps (t := s.toks) hR kp
  have hf' := hf.go hR st.go
  refine wpAny_mono (h A env _ items.toList hr he hf' st.rel e2.ofAtoms) (fun _ s₂ p => ?_) fun _ _ e => e
  obtain ⟨ρ'', σ'', hf'', st'', q'⟩ := p
  exact ⟨ρ'', σ'', hf'', (st.toX (X := LocX env)).transL st'' hf', q'⟩

/-! ## frames of comprehensions -/
def Ext (ρ ρ' : List (Str × MV)) : Prop := ∀ x v, lk ρ x = some v → lk ρ' x = some v
theorem Ext.refl (ρ : List (Str × MV)) : Ext ρ ρ := fun _ _ e => e
theorem Ext.trans {ρ ρ' ρ'' : List (Str × MV)} (a : Ext ρ ρ') (b : Ext ρ' ρ'') : Ext ρ ρ'' := fun x v e => b x v (a x v e)
theorem Ext.up {x : Str} {v : MV} (h : lk ρ x = none) : Ext ρ (up ρ x v) := fun y w e => by
  rw [lk_up]; by_cases q : y = x
  · subst q; rw [h] at e; cases e
  · rw [if_neg q]; exact e
theorem FrameOk.weaken {ρ' : List (Str × MV)} {h : Heap} (f : FrameOk c env ρ' σ h) (e : Ext ρ ρ') : FrameOk c env ρ σ h :=
  ⟨let ⟨m, hn, hm⟩ := f.ns; ⟨m, hn, fun x v q => hm x v (e x v q)⟩, fun x v q => f.cell x v (e x v q), fun x v q => f.kind x v (e x v q), f.loc, f.cells, f.inj, f.has⟩
theorem F2.mono {α β : Type} {R S : α → β → Prop} {xs ys} (f : F2 R xs ys) (h : ∀ x y, R x y → S x y) : F2 S xs ys := f.imp h
def relabelS (scope sc : Scope) : Scope :=
  { scope with names := scope.names.map fun (n, k) => if (k == .free && sc.kind == .function && sc.names.lookup n == some .cell) then (n, .cell) else (n, k) }
theorem relabel_eq {scope : Scope} (he : EnvOk sc env) : relabel scope env = relabelS scope sc := by
  unfold relabel relabelS Env.kindOf; rw [he.scope]
def freeOf (scope : Scope) : List Str := (scope.names.filter fun p => p.2 == .free).map (·.1)
/-- what is asked of a comprehension's scope, by computation -/
def compOk (scope sc : Scope) (fn : List Str) : Bool :=
  scope.kind == .function && (scope.names.all fun p => p.2 != .cell) && (scope.names.all fun p => p.2 != .local || scope.names.lookup p.1 == some .local) && freeOf scope == fn &&
  (fn.all fun y => sc.names.lookup y == some .cell && (relabelS scope sc).names.lookup y == some .cell && !(y == ("__debug__" : Str)))
def closOf (env : Env) : List (Str × NameKind) → List (Str × Addr) → List (Str × Addr)
  | [], acc => acc
  | (y, k) :: r, acc => if k == .free then (match env.cells.lookup y with | some a => closOf env r ((y, a) :: acc) | none => []) else closOf env r acc
theorem closureFor_eq {scope : Scope} (h : ∀ y, (y, NameKind.free) ∈ scope.names → ∃ a, env.cells.lookup y = some a) : closureFor scope env = pure (closOf env scope.names []) := by
  simp only [closureFor]
  have key : ∀ (l : List (Str × NameKind)) (acc : List (Str × Addr)), (∀ y, (y, NameKind.free) ∈ l → ∃ a, env.cells.lookup y = some a) →
      (forIn l acc fun x r => match x with
        | (name, kind) => if (kind == NameKind.free) = true then do let a ← cellOf env name; pure (ForInStep.yield ((name, a) :: r)) else pure (ForInStep.yield r)) = (pure (closOf env l acc) : Sem _) := by
    intro l
    induction l with
    | nil => intro acc _; rfl
    | cons p r ih =>
      intro acc hp
      obtain ⟨y, k⟩ := p
      rw [List.forIn_cons]
      unfold closOf
      by_cases hk : (k == NameKind.free) = true
      · have : k = .free := by simpa using hk
        subst this
        obtain ⟨a, ha⟩ := hp y (.head _)
        simp only [beq_self_eq_true, if_true, cellOf, ha]
        exact ih _ fun z hz => hp z (.tail _ hz)
      · simp only [hk, if_false]
        exact ih _ fun z hz => hp z (.tail _ hz)
  have := key scope.names [] h
  exact (congrArg (fun t => t >>= pure) this).trans (by rfl) |> fun e => by simpa using e
theorem closOf_mem : ∀ (l : List (Str × NameKind)) (acc : List (Str × Addr)) (y : Str) (a : Addr), (y, a) ∈ closOf env l acc → (y, a) ∈ acc ∨ (env.cells.lookup y = some a ∧ (y, NameKind.free) ∈ l)
  | [], acc, y, a, h => .inl h
  | (z, k) :: r, acc, y, a, h => by
    unfold closOf at h
    split at h
    · rename_i hk
      have : k = .free := by simpa using hk
      subst this
      split at h
      · rename_i b hb
        rcases closOf_mem r _ y a h with q | ⟨q, m⟩
        · rcases List.mem_cons.mp q with q | q
          · cases q; exact .inr ⟨hb, .head _⟩
          · exact .inl q
        · exact .inr ⟨q, .tail _ m⟩
      · cases h
    · rcases closOf_mem r _ y a h with q | ⟨q, m⟩
      · exact .inl q
      · exact .inr ⟨q, .tail _ m⟩
theorem closOf_has : ∀ (l : List (Str × NameKind)) (acc : List (Str × Addr)), (∀ y, (y, NameKind.free) ∈ l → ∃ a, env.cells.lookup y = some a) → (∀ p ∈ acc, p ∈ closOf env l acc) ∧ ∀ y, (y, NameKind.free) ∈ l → ∃ a, (y, a) ∈ closOf env l acc
  | [], acc, _ => ⟨fun _ h => h, fun _ h => nomatch h⟩
  | (z, k) :: r, acc, hp => by
    unfold closOf
    by_cases hk : (k == NameKind.free) = true
    · have : k = .free := by simpa using hk
      subst this
      obtain ⟨a, ha⟩ := hp z (.head _)
      simp only [beq_self_eq_true, if_true, ha]
      obtain ⟨h1, h2⟩ := closOf_has r ((z, a) :: acc) fun y hy => hp y (.tail _ hy)
      refine ⟨fun p hp => h1 p (.tail _ hp), fun y hy => ?_⟩
      rcases List.mem_cons.mp hy with q | q
      · cases q; exact ⟨a, h1 _ (.head _)⟩
      · exact h2 y q
    · simp only [hk]
      obtain ⟨h1, h2⟩ := closOf_has r acc fun y hy => hp y (.tail _ hy)
      refine ⟨h1, fun y hy => ?_⟩
      rcases List.mem_cons.mp hy with q | q
      · cases q; exact absurd rfl hk
      · exact h2 y q
inductive LkAll (ρ : List (Str × MV)) : List Str → List MV → Prop
  | nil : LkAll ρ [] []
  | cons {x v xs vs} : lk ρ x = some v → LkAll ρ xs vs → LkAll ρ (x :: xs) (v :: vs)
theorem LkAll.lk : ∀ {fn : List Str} {vs : List MV} {x : Str} {v : MV}, LkAll ρ fn vs → lk (fn.zip vs) x = some v → lk ρ x = some v ∧ x ∈ fn
  | _, _, x, v, .nil, e => by simp [Mine.lk] at e
  | y :: fn, w :: vs, x, v, .cons a b, e => by
    rw [List.zip_cons_cons] at e
    unfold Mine.lk at e
    by_cases q : x = y
    · subst q; rw [if_pos rfl] at e; cases e; exact ⟨a, .head _⟩
    · rw [if_neg q] at e; obtain ⟨e1, e2⟩ := b.lk e; exact ⟨e1, .tail _ e2⟩
theorem lookup_of_mem {α : Type} {y : Str} : ∀ {l : List (Str × α)} {a : α}, (y, a) ∈ l → ∃ b, l.lookup y = some b
  | (z, v) :: r, a, h => by
    rw [List.lookup_cons]
    cases q : y == z with
    | true => exact ⟨v, rfl⟩
    | false =>
      rcases List.mem_cons.mp h with e | e
      · cases e; simp at q
      · exact lookup_of_mem e
/-- the frame of a comprehension, as it opens -/
theorem FrameOk.comp {scope : Scope} {fn : List Str} {vs : List MV} {C : Addr} {h : Heap} (he : EnvOk sc env) (f : FrameOk c env ρ σ h) (ok : compOk scope sc fn = true) (hl : LkAll ρ fn vs) (hn : h.Ns C fun _ => none) (hC : σ C = none ∧ c.h₀.get? C = none)
    (hne : ∀ y a, env.cells.lookup y = some a → a ≠ C) : FrameOk c (compEnvC scope (closOf env scope.names []) C env) (fn.zip vs) σ h ∧ EnvOk (relabelS scope sc) (compEnvC scope (closOf env scope.names []) C env) := by
  unfold compOk at ok
  simp only [Bool.and_eq_true] at ok
  obtain ⟨⟨⟨⟨o1, o2⟩, o3⟩, o4⟩, o5⟩ := ok
  have hk : scope.kind = .function := by simpa using o1
  have hfn : freeOf scope = fn := by simpa using o4
  have hfree : ∀ y, (y, NameKind.free) ∈ scope.names → y ∈ fn := fun y hy => by
    rw [← hfn]; exact List.mem_map.mpr ⟨(y, .free), List.mem_filter.mpr ⟨hy, rfl⟩, rfl⟩
  have hcell : ∀ y ∈ fn, env.kindOf y = some .cell ∧ (relabelS scope sc).names.lookup y = some .cell ∧ (y == ("__debug__" : Str)) = false := fun y hy => by
    have := List.all_eq_true.mp o5 y hy
    simp only [Bool.and_eq_true] at this
    obtain ⟨⟨a, b⟩, d⟩ := this
    exact ⟨by unfold Env.kindOf; rw [he.scope]; simpa using a, by simpa using b, by simpa using d⟩
  have hhas : ∀ y, (y, NameKind.free) ∈ scope.names → ∃ a, env.cells.lookup y = some a := fun y hy => f.has y (hcell y (hfree y hy)).1
  have hcl : ∀ y a, (closOf env scope.names []).lookup y = some a → env.cells.lookup y = some a := fun y a e => by
    rcases closOf_mem _ _ y a (mem_of_lookup e) with q | q
    · cases q
    · exact q.1
  have hkind : ∀ y, (compEnvC scope (closOf env scope.names []) C env).kindOf y = (relabelS scope sc).names.lookup y := fun y => by
    show (relabel scope env).names.lookup y = _; rw [relabel_eq he]
  refine ⟨⟨⟨_, hn, fun y w e q => ?_⟩, fun y w e q => ?_, fun y w e => ?_, hC, fun y a e => ?_, fun y z a e e' => f.inj y z a (hcl y a e) (hcl z a e'), fun y e => ?_⟩, ⟨relabel_eq he, hk, he.globals, he.builtins⟩⟩
  · obtain ⟨_, hy⟩ := hl.lk e
    rw [hkind, (hcell y hy).2.1] at q; cases q
  · obtain ⟨e1, hy⟩ := hl.lk e
    obtain ⟨a, u, e2, e3, e4⟩ := f.cell y w e1 (hcell y hy).1
    have hfr : (y, NameKind.free) ∈ scope.names := by
      rw [← hfn] at hy
      obtain ⟨p, hp, rfl⟩ := List.mem_map.mp hy
      obtain ⟨p1, p2⟩ := List.mem_filter.mp hp
      obtain ⟨z, k⟩ := p
      have : k = .free := by simpa using p2
      subst this; exact p1
    obtain ⟨b, hb⟩ := (closOf_has scope.names [] hhas).2 y hfr
    obtain ⟨b', hb'⟩ := lookup_of_mem hb
    have : b' = a := by have := hcl y b' hb'; rw [e2] at this; cases this; rfl
    subst this
    exact ⟨b', u, hb', e3, e4⟩
  · obtain ⟨_, hy⟩ := hl.lk e
    exact ⟨.inr ((hkind y).trans (hcell y hy).2.1), (hcell y hy).2.2⟩
  · obtain ⟨a1, a2, a3, a4⟩ := f.cells y a (hcl y a e)
    exact ⟨a1, a2, a3, hne y a (hcl y a e)⟩
  · rw [hkind] at e
    have : ∃ k, (y, k) ∈ scope.names ∧ (k = .cell ∨ k = .free) := by
      have := mem_of_lookup e
      unfold relabelS at this
      obtain ⟨p, hp, hq⟩ := List.mem_map.mp this
      obtain ⟨z, k⟩ := p
      dsimp only at hq
      split at hq
      · rename_i hc
        cases hq
        have : k = .free := by
          simp only [Bool.and_eq_true] at hc; simpa using hc.1.1
        exact ⟨k, hp, .inr this⟩
      · cases hq; exact ⟨.cell, hp, .inl rfl⟩
    obtain ⟨k, hk1, hk2⟩ := this
    rcases hk2 with rfl | rfl
    · have := List.all_eq_true.mp o2 _ hk1; simp at this
    · obtain ⟨b, hb⟩ := (closOf_has scope.names [] hhas).2 y hk1
      exact lookup_of_mem hb
end Mine
end
section
open PySem PySem.Calls PyProof.Rows PySem.W PySem.SeqAt
set_option linter.unusedVariables false
namespace Mine
variable {c : Cx} {n : Nat} {sc : Scope} {ρ : List (Str × MV)} {σ : MS} {A : Around} {env : Env} {s : Shared} {pos : Pos} {x : Str}

theorem StepOk.join {X : Addr → Prop} {σ' σ'' : MS} {s' s'' : Shared} (x : StepOk c NoX σ σ' s s') (y : StepOk c X σ' σ'' s' s'') (hX : ∀ b, X b → s.heap.get? b = none) : StepOk c NoX σ σ'' s s'' :=
  ⟨y.rel, ⟨fun b o e _ g => y.go.keep b o (x.go.new b o e g) (fun q => by rw [hX b q] at g; cases g) (x.go.keep b o e id g), fun b o e g => y.go.new b o (x.go.new b o e g) (x.go.keep b o e id g), fun b e => x.go.dom b (y.go.dom b e)⟩, y.gens.trans x.gens, y.os.trans x.os⟩
/-- what is free now was free then -/
theorem StepOk.back {σ' : MS} {s' : Shared} (x : StepOk c NoX σ σ' s s') {b : Addr} (h : s'.heap.get? b = none) : s.heap.get? b = none := by
  cases q : s.heap.get? b with
  | none => rfl
  | some o =>
    have e1 := x.go.dom b (x.rel.notk h)
    have := x.go.keep b o e1 id q
    rw [h] at this; cases this

/-- the tests of a comprehension -/
def WI (c : Cx) (n : Nat) (sc : Scope) (ρ : List (Str × MV)) (σ : MS) (ifs : List Expr) (Q : Bool → MS → Prop) : Prop :=
  WX c n sc ρ σ BRel (fun env => forIn ifs true fun t r => if r = true then do let ok ← isTrue t env (eval t env); pure (ForInStep.yield ok) else pure (ForInStep.yield r)) Q
theorem WI_nil {Q : Bool → MS → Prop} (h : Q true σ) : WI c n sc ρ σ [] Q := fun A env s hr he hf hR => wpAny_tests_nil (Post.bool hR h)
theorem WI_one {t : Expr} {Q : Bool → MS → Prop} (h : WB c n sc ρ σ t Q) : WI c n sc ρ σ [t] Q := fun A env s hr he hf hR => wpAny_tests_one (h A env s hr he hf hR)

/-- one turn of a comprehension whose clause at this depth is the last -/
abbrev lastTurn (e elt target iter : Expr) (ifs : List Expr) (d : Nat) (it acc : Value) (env : Env) : Sem Fin := do
  standAt iter.pos
  match ← pyNext it with
  | none => pure (.done .next)
  | some v =>
    letOwnedTupleGo target it v
    assign target env v
    let mut ok := true
    for c in ifs do
      if ok then ok ← isTrue c env (eval c env)
    if ok then
      (do let _ ← call (.builtin "list.append") [acc, ← eval elt env])
    again (.compLoop e d it acc env)
/-- the state between two turns -/
structure LoopSt (c : Cx) (cenv : Env) (ρc : List (Str × MV)) (σ₀ : MS) (s₀ : Shared) (D : Addr) (ac : List MV) (σ' : MS) (s' : Shared) : Prop where
  frame : FrameOk c cenv ρc σ' s'.heap
  step : StepOk c NoX σ₀ σ' s₀ s'
  acc : ∃ items k, IsL s'.heap D items k ∧ F2 (VRel s'.heap) items.toList ac
  D0 : σ' D = none
theorem LoopSt.weaken {cenv : Env} {ρ ρ' : List (Str × MV)} {σ₀ σ' : MS} {s₀ s' : Shared} {D : Addr} {ac : List MV} (L : LoopSt c cenv ρ' σ₀ s₀ D ac σ' s') (e : Ext ρ ρ') : LoopSt c cenv ρ σ₀ s₀ D ac σ' s' := ⟨L.frame.weaken e, L.step, L.acc, L.D0⟩
/-- a step within the comprehension's frame keeps it all -/
theorem LoopSt.next {cenv : Env} {ρc ρ' : List (Str × MV)} {σ₀ σ' σ'' : MS} {s₀ s' s'' : Shared} {D : Addr} {ac : List MV} (L : LoopSt c cenv ρc σ₀ s₀ D ac σ' s') (hC : s₀.heap.get? cenv.locals = none) (hDC : D ≠ cenv.locals) (st : StepOk c (LocX cenv) σ' σ'' s' s'') (f : FrameOk c cenv ρ' σ'' s''.heap) : LoopSt c cenv ρ' σ₀ s₀ D ac σ'' s'' := by
  obtain ⟨items, k, l, g⟩ := L.acc
  exact ⟨f, L.step.join st fun b hb => hb ▸ hC, ⟨items, k, st.go.keep D _ L.D0 hDC l, g.imp fun _ _ y => y.keep (st.tkeepL L.frame L.step.rel)⟩, st.go.new D _ L.D0 l⟩
theorem LoopSt.ext {cenv : Env} {ρc : List (Str × MV)} {σ₀ σ' : MS} {s₀ s' : Shared} {D a : Addr} {ac : List MV} {h2 : Heap} {tk : Nat} (L : LoopSt c cenv ρc σ₀ s₀ D ac σ' s') (ha : s₀.heap.get? a = none) (ha' : σ' a = none) (h0 : c.h₀.get? a = none) (hDa : D ≠ a) (hFr : ¬ FrX cenv a) (nt : ∀ o, s'.heap.get? a = some o → ¬ IsT o)
    (e : Heap.ExtBut a s'.heap h2) : LoopSt c cenv ρc σ₀ s₀ D ac σ' { s' with heap := h2, toks := tk } := by
  have tk2 : TKeep s'.heap h2 := fun b o g t => e b o (fun q => by subst q; exact nt o g t) g
  obtain ⟨items, k, l, g⟩ := L.acc
  have R2 := L.step.rel.ext e ha' h0 tk2
  have st : StepOk c (fun b => b = a) σ' σ' s' { s' with heap := h2, toks := tk } := ⟨R2, ⟨fun b o _ hb g => e b o hb g, fun _ _ g _ => g, fun _ g => g⟩, rfl, rfl⟩
  exact ⟨L.frame.goX (X := fun b => b = a) tk2 (fun b hb (q : b = a) => hFr (q ▸ hb)) st.go, L.step.join st fun b hb => hb ▸ ha, ⟨items, k, e D _ hDa l, g.imp fun _ _ y => y.keep tk2⟩, L.D0⟩
/-- the accumulator grows -/
theorem LoopSt.grow {cenv : Env} {ρc : List (Str × MV)} {σ₀ σ' : MS} {s₀ s' : Shared} {D : Addr} {ac : List MV} {v : Value} {w : MV} {Q : Value → Shared → Prop} {E : Value → Shared → Prop} (L : LoopSt c cenv ρc σ₀ s₀ D ac σ' s') (hD : s₀.heap.get? D = none) (h0 : c.h₀.get? D = none) (hFr : ¬ FrX cenv D) (hv : VRel s'.heap v w) (hz : ac.length ≤ 100000)
    (h : ∀ s'', LoopSt c cenv ρc σ₀ s₀ D (ac ++ [w]) σ' s'' → StepOk c (fun b => b = D) σ' σ' s' s'' → Q .none s'') : wpAny c.M A (call (.builtin "list.append") [.ref D, v]) Q E s' := by
  obtain ⟨items, k, l, g⟩ := L.acc
  have e := g.length
  rw [Array.length_toList] at e
  refine call_meets F.slot_list_append ⟨_, l, rfl⟩ F.entry_list_append (F.args_list_append_2 _ _) (list_append D items k v (by rw [sizeLine_eq]; omega)) ⟨l, ?_⟩
  have hs : Heap.SameBut D s'.heap (s'.heap.update D (Obj.mapSeq fun x => x.push v)) := Heap.SameBut.update ..
  have tk2 : TKeep s'.heap (s'.heap.update D (Obj.mapSeq fun x => x.push v)) := fun b o g t => hs.extBut b o (fun q => by subst q; rw [l] at g; cases g; exact notT_cls (by show Value.type "list" ≠ _; decide) (by show Value.type "list" ≠ _; decide) t) g
  have R2 := L.step.rel.ext hs.extBut L.D0 h0 tk2
  have st : StepOk c (fun b => b = D) σ' σ' s' { s' with heap := s'.heap.update D (Obj.mapSeq fun x => x.push v), toks := s'.toks } := ⟨R2, ⟨fun b o _ hb g => hs.extBut b o hb g, fun _ _ g _ => g, fun _ g => g⟩, rfl, rfl⟩
  refine h _ ⟨L.frame.goX (X := fun b => b = D) tk2 (fun b hb (q : b = D) => hFr (q ▸ hb)) st.go, L.step.join st fun b hb => hb ▸ hD, ⟨_, _, IsL.update l _, by rw [Array.toList_push]; exact (g.append (.cons hv .nil)).imp fun _ _ y => y.keep tk2⟩, L.D0⟩ st

/-- a loop of a comprehension over the items of u, its clause the last one -/
theorem comp_loop {e elt target iter : Expr} {ifs : List Expr} {d : Nat} {cenv : Env} {ρc : List (Str × MV)} {σ₀ σ₁ : MS} {s₀ s₁ : Shared} {D a : Addr} {u : MV} {xs ac₀ : List MV} (Inv : Nat → List MV → MS → Prop)
    (hq : (Code.compLoop e d (.ref a) (.ref D) cenv).quiet = true) (hu : A.under (Code.compLoop e d (.ref a) (.ref D) cenv) = A)
    (hden : c.M.den (Code.compLoop e d (.ref a) (.ref D) cenv) = ((lastTurn e elt target iter ifs d (.ref a) (.ref D) cenv).onRaise fun x => do noteFrame x cenv; theTreesLotGoes x))
    (hr : Room A n) (he : EnvOk sc cenv) (ha : s₀.heap.get? a = none) (hD : s₀.heap.get? D = none) (hC : s₀.heap.get? cenv.locals = none) (hDa : D ≠ a) (hDC : D ≠ cenv.locals) (haF : ¬ FrX cenv a) (hDF : ¬ FrX cenv D) (ha0 : c.h₀.get? a = none) (hD0 : c.h₀.get? D = none)
    (hI : ∀ i ac σ', Inv i ac σ' → Items σ' u xs ∧ ac.length ≤ 100000)
    (turn : ∀ i y ac σ', xs[i]? = some y → Inv i ac σ' → WAL c n sc ρc σ' target y fun ρ2 σ2 => Ext ρc ρ2 ∧ WI c n sc ρ2 σ2 ifs fun ok σ3 => (ok = true → WE c n sc ρ2 σ3 elt fun w σ4 => Inv (i + 1) (ac ++ [w]) σ4) ∧ (ok = false → Inv (i + 1) ac σ3))
    (L : LoopSt c cenv ρc σ₀ s₀ D ac₀ σ₁ s₁) (hit : ItAt s₁.heap a u 0) (ha' : σ₁ a = none) (h0 : Inv 0 ac₀ σ₁) :
    codeAny c.M A (.compLoop e d (.ref a) (.ref D) cenv) (fun r s' => r = .ok .next ∧ ∃ ac σ', LoopSt c cenv ρc σ₀ s₀ D ac σ' s' ∧ Inv xs.length ac σ') s₁ := by
  refine codeAny_loop hq (fun k s' => ∃ i ac σ', k = xs.length - i ∧ i ≤ xs.length ∧ LoopSt c cenv ρc σ₀ s₀ D ac σ' s' ∧ ItAt s'.heap a u i ∧ σ' a = none ∧ Inv i ac σ') ?_ xs.length ⟨0, ac₀, σ₁, rfl, Nat.zero_le _, L, hit, ha', h0⟩
  rintro k s' ⟨i, ac, σ', rfl, hi, L', hit', ha2, hInv⟩
  rw [hu, hden]
  refine wpAny_noted ?_
  unfold lastTurn
  refine wpAny_bind (wpAny_standAt (wpAny_bind ?_))
  by_cases hlt : i < xs.length
  · have hy : xs[i]? = some xs[i] := by simp [hlt]
    refine wpAny_mono (it_item (E := Bot) L'.step.rel (hI i _ _ hInv).1 ha2 hit' hy fun v h2 tk rv hit2 ex => ?_) (fun _ _ x => x) fun _ _ f => f.elim
    have L2 := L'.ext (tk := tk) ha ha2 ha0 hDa haF hit'.notT ex
    refine wpAny_bind (letOwned hit2 ?_)
    refine wpAny_bind (wpAny_mono (turn i _ _ _ hy hInv A cenv _ v hr he L2.frame L2.step.rel rv) (fun _ s₃ p => ?_) fun _ _ f => f.elim)
    obtain ⟨ρ3, σ3, hf3, st3, hExt, hti⟩ := p
    have L3 := L2.next hC hDC st3 hf3
    have aC : ¬ LocX cenv a := fun q => haF (.inl q)
    have ha3 : σ3 a = none := by obtain ⟨o, _, _, g, _⟩ := hit2.obj; exact st3.go.new a o ha2 g
    have hit3 : ItAt s₃.heap a u (i + 1) := hit2.keep (st3.tkeepL L2.frame L2.step.rel) fun o g => st3.go.keep a o ha2 aC g
    refine wpAny_bind (wpAny_mono (hti A cenv s₃ hr he hf3 st3.rel) (fun ok s₄ p => ?_) fun _ _ f => f.elim)
    obtain ⟨ok', σ4, hok, st4, hT, hFa⟩ := p
    have hok' : ok = ok' := hok
    subst hok'
    have L4 : LoopSt c cenv ρ3 σ₀ s₀ D ac σ4 s₄ := L3.next hC hDC st4.toX (hf3.go st3.rel st4.go)
    have ha4 : σ4 a = none := by obtain ⟨o, _, _, g, _⟩ := hit3.obj; exact st4.go.new a o ha3 g
    have hit4 : ItAt s₄.heap a u (i + 1) := hit3.keep (Go.tkeep st3.rel st4.go) fun o g => st4.go.keep a o ha3 id g
    cases ok with
    | false => exact wpAny_pure ⟨rfl, xs.length - (i + 1), by omega, i + 1, ac, σ4, rfl, hlt, L4.weaken hExt, hit4, ha4, hFa rfl⟩
    | true =>
      refine wpAny_bind (wpAny_bind (wpAny_mono (hT rfl A cenv s₄ hr he L4.frame st4.rel) (fun w s₅ p => ?_) fun _ _ f => f.elim))
      obtain ⟨w', σ5, rw5, st5, hI5⟩ := p
      have L5 : LoopSt c cenv ρ3 σ₀ s₀ D ac σ5 s₅ := L4.next hC hDC st5.toX (L4.frame.go st4.rel st5.go)
      have ha5 : σ5 a = none := by obtain ⟨o, _, _, g, _⟩ := hit4.obj; exact st5.go.new a o ha4 g
      have hit5 : ItAt s₅.heap a u (i + 1) := hit4.keep (Go.tkeep st4.rel st5.go) fun o g => st5.go.keep a o ha4 id g
      refine wpAny_bind (L5.grow hD hD0 hDF rw5 (hI i _ _ hInv).2 fun s₆ L6 st6 => ?_)
      have hit6 : ItAt s₆.heap a u (i + 1) := hit5.keep (GoX.tkeep L5.step.rel (fun b o hb g => by subst hb; obtain ⟨_, _, l, _⟩ := L5.acc; rw [l] at g; cases g; exact notT_cls (by show Value.type "list" ≠ _; decide) (by show Value.type "list" ≠ _; decide)) st6.go) fun o g => st6.go.keep a o ha5 (Ne.symm hDa) g
      exact wpAny_pure (wpAny_pure ⟨rfl, xs.length - (i + 1), by omega, i + 1, ac ++ [w'], σ5, rfl, hlt, L6.weaken hExt, hit6, ha5, hI5⟩)
  · have hi' : i = xs.length := by omega
    subst hi'
    refine wpAny_mono (it_end (E := Bot) hr.1 L'.step.rel (hI _ _ _ hInv).1 hit' (by simp) fun h2 ex => ?_) (fun _ _ x => x) fun _ _ f => f.elim
    exact wpAny_pure ⟨rfl, ac, σ', L'.ext (tk := s'.toks) ha ha2 ha0 hDa haF hit'.notT ex, hInv⟩

/-- an object that stood beside becomes a mini object -/
theorem Rel.adopt {h : Heap} {k : Addr} {mo : MO} (R : Rel c σ h) (hk : σ k = none) (h0 : c.h₀.get? k = none) (o : ORel c h k mo) (ni : ∀ dx es, mo ≠ .inst dx es) : Rel c (upd σ k mo) h := by
  refine ⟨R.base, fun j m e => ?_, fun j m e nf => ?_, fun j dx es e => ?_⟩
  · by_cases q : j = k
    · subst q; rw [upd_eq] at e; cases e; exact o
    · rw [upd_ne q] at e; exact R.obj j m e
  · by_cases q : j = k
    · subst q; exact h0
    · rw [upd_ne q] at e; exact R.new j m e nf
  · by_cases q : j = k
    · subst q; rw [upd_eq] at e; cases e; exact absurd rfl (ni _ _)
    · rw [upd_ne q] at e
      have w := R.own j dx es e
      have : dx ≠ k := fun z => by rw [z, hk] at w; cases w
      rw [upd_ne this]; exact w
theorem StepOk.adopt {σ' : MS} {s' : Shared} {k : Addr} {mo : MO} (x : StepOk c NoX σ σ' s s') (hk : σ' k = none) (hs : s.heap.get? k = none) (h0 : c.h₀.get? k = none) (o : ORel c s'.heap k mo) (ni : ∀ dx es, mo ≠ .inst dx es) : StepOk c NoX σ (upd σ' k mo) s s' :=
  ⟨x.rel.adopt hk h0 o ni, ⟨x.go.keep, fun b o e g => by rw [upd_ne (fun q => by rw [q, hs] at g; cases g)]; exact x.go.new b o e g, fun b e => by
    by_cases q : b = k
    · subst q; rw [upd_eq] at e; cases e
    · rw [upd_ne q] at e; exact x.go.dom b e⟩, x.gens, x.os⟩
end Mine
end
section
open PySem PySem.Calls PyProof.Rows PySem.W PySem.SeqAt
set_option linter.unusedVariables false
namespace Mine
variable {c : Cx} {n : Nat} {sc : Scope} {ρ : List (Str × MV)} {σ : MS} {A : Around} {env : Env} {s : Shared} {pos : Pos} {x : Str}

theorem it_self {a : Addr} {u : MV} {i : Nat} {Q : Value → Shared → Prop} {E : Value → Shared → Prop} (hit : ItAt s.heap a u i) (h : Q (.ref a) s) : wpAny c.M A (pyIter (.ref a)) Q E s := by
  unfold ItAt at hit
  split at hit
  · exact wpAny_pyIter_listiter hit h
  · obtain ⟨_, _, _, _, _, hit⟩ := hit; exact wpAny_pyIter_tupleiter hit h
  · obtain ⟨_, hit⟩ := hit; exact KBw.pyIter_self hit h
  · exact wpAny_pyIter_rangeiter hit h
  · exact hit.elim

def K2 (X : Addr → Prop) (σ : MS) (s : Shared) (σ' : MS) (s' : Shared) : Prop := ∀ b o, ¬ X b → σ b = none → s.heap.get? b = some o → σ' b = none ∧ s'.heap.get? b = some o
theorem K2.refl {X : Addr → Prop} : K2 X σ s σ s := fun _ _ _ a b => ⟨a, b⟩
theorem K2.trans {X : Addr → Prop} {σ' σ'' : MS} {s' s'' : Shared} (x : K2 X σ s σ' s') (y : K2 X σ' s' σ'' s'') : K2 X σ s σ'' s'' := fun b o nX a g => let ⟨a', g'⟩ := x b o nX a g; y b o nX a' g'
theorem K2.of {X : Addr → Prop} {σ' : MS} {s' : Shared} (st : StepOk c X σ σ' s s') : K2 X σ s σ' s' := fun b o nX a g => ⟨st.go.new b o a g, st.go.keep b o a nX g⟩
theorem K2.mono {X Y : Addr → Prop} {σ' : MS} {s' : Shared} (x : K2 X σ s σ' s') (h : ∀ b, X b → Y b) : K2 Y σ s σ' s' := fun b o nY a g => x b o (fun q => nY (h b q)) a g
theorem K2.ext {a : Addr} {h2 : Heap} {tk : Nat} {X : Addr → Prop} (e : Heap.ExtBut a s.heap h2) (hX : X a) : K2 X σ s σ { s with heap := h2, toks := tk } := fun b o nX q g => ⟨q, e b o (fun z => nX (z ▸ hX)) g⟩

/-- one turn of a clause of a comprehension -/
abbrev clauseTurn (e target iter : Expr) (ifs : List Expr) (d : Nat) (it acc : Value) (env : Env) (emit : Sem Unit) : Sem Fin := do
  standAt iter.pos
  match ← pyNext it with
  | none => pure (.done .next)
  | some v =>
    letOwnedTupleGo target it v
    assign target env v
    let mut ok := true
    for c in ifs do
      if ok then ok ← isTrue c env (eval c env)
    if ok then emit
    again (.compLoop e d it acc env)
structure LoopCx (c : Cx) (cenv : Env) (s₀ : Shared) (D : Addr) : Prop where
  hD : s₀.heap.get? D = none
  hC : s₀.heap.get? cenv.locals = none
  hDC : D ≠ cenv.locals
  hDF : ¬ FrX cenv D
  hD0 : c.h₀.get? D = none
abbrev DC (cenv : Env) (D : Addr) : Addr → Prop := fun b => b = D ∨ b = cenv.locals
abbrev DCa (cenv : Env) (D a : Addr) : Addr → Prop := fun b => b = D ∨ b = cenv.locals ∨ b = a
/-- what a turn adds, the tests passed -/
def EM (c : Cx) (n : Nat) (sc : Scope) (cenv : Env) (D : Addr) (σ₀ : MS) (s₀ : Shared) (emit : Sem Unit) (ρ : List (Str × MV)) (σ : MS) (ac : List MV) (Q : List MV → MS → Prop) : Prop :=
  ∀ A s', Room A n → LoopSt c cenv ρ σ₀ s₀ D ac σ s' → wpAny c.M A emit (fun _ s'' => ∃ ac' σ', LoopSt c cenv ρ σ₀ s₀ D ac' σ' s'' ∧ K2 (DC cenv D) σ s' σ' s'' ∧ Q ac' σ') Bot s'
theorem K2.tkeep {cenv : Env} {σ₀ σ' σ'' : MS} {s₀ s' s'' : Shared} {D : Addr} {ac : List MV} (L : LoopSt c cenv ρ σ₀ s₀ D ac σ' s') (k : K2 (DC cenv D) σ' s' σ'' s'') : TKeep s'.heap s''.heap := fun b o g t => by
  refine (k b o (fun q => ?_) ?_ g).2
  · rcases q with rfl | rfl
    · obtain ⟨_, _, l, _⟩ := L.acc; rw [l] at g; cases g
      exact notT_cls (by show Value.type "list" ≠ _; decide) (by show Value.type "list" ≠ _; decide) t
    · exact L.frame.notT _ o (.inl rfl) g t
  · cases q : σ' b with
    | none => rfl
    | some mo => obtain ⟨o', a, n⟩ := L.step.rel.atk q; rw [g] at a; cases a; exact (n t).elim
theorem clause_loop {e target iter : Expr} {ifs : List Expr} {d : Nat} {cenv : Env} {emit : Sem Unit} {ρc : List (Str × MV)} {σ₀ σ₁ : MS} {s₀ s₁ : Shared} {D a : Addr} {u : MV} {xs ac₀ : List MV} (Inv : Nat → List MV → MS → Prop)
    (hq : (Code.compLoop e d (.ref a) (.ref D) cenv).quiet = true) (hu : A.under (Code.compLoop e d (.ref a) (.ref D) cenv) = A)
    (hden : c.M.den (Code.compLoop e d (.ref a) (.ref D) cenv) = ((clauseTurn e target iter ifs d (.ref a) (.ref D) cenv emit).onRaise fun x => do noteFrame x cenv; theTreesLotGoes x))
    (hr : Room A n) (he : EnvOk sc cenv) (X : LoopCx c cenv s₀ D) (ha : s₀.heap.get? a = none) (hDa : D ≠ a) (haF : ¬ FrX cenv a) (ha0 : c.h₀.get? a = none)
    (hI : ∀ i ac σ', Inv i ac σ' → Items σ' u xs)
    (turn : ∀ i y ac σ', xs[i]? = some y → Inv i ac σ' → WAL c n sc ρc σ' target y fun ρ2 σ2 => Ext ρc ρ2 ∧ WI c n sc ρ2 σ2 ifs fun ok σ3 => (ok = true → EM c n sc cenv D σ₀ s₀ emit ρ2 σ3 ac fun ac' σ4 => Inv (i + 1) ac' σ4) ∧ (ok = false → Inv (i + 1) ac σ3))
    (L : LoopSt c cenv ρc σ₀ s₀ D ac₀ σ₁ s₁) (hit : ItAt s₁.heap a u 0) (ha' : σ₁ a = none) (h0 : Inv 0 ac₀ σ₁) :
    codeAny c.M A (.compLoop e d (.ref a) (.ref D) cenv) (fun r s' => r = .ok .next ∧ ∃ ac σ', LoopSt c cenv ρc σ₀ s₀ D ac σ' s' ∧ K2 (DCa cenv D a) σ₁ s₁ σ' s' ∧ Inv xs.length ac σ') s₁ := by
  refine codeAny_loop hq (fun k s' => ∃ i ac σ', k = xs.length - i ∧ i ≤ xs.length ∧ LoopSt c cenv ρc σ₀ s₀ D ac σ' s' ∧ ItAt s'.heap a u i ∧ σ' a = none ∧ K2 (DCa cenv D a) σ₁ s₁ σ' s' ∧ Inv i ac σ') ?_ xs.length ⟨0, ac₀, σ₁, rfl, Nat.zero_le _, L, hit, ha', .refl, h0⟩
  rintro k s' ⟨i, ac, σ', rfl, hi, L', hit', ha2, hK, hInv⟩
  rw [hu, hden]
  refine wpAny_noted ?_
  unfold clauseTurn
  refine wpAny_bind (wpAny_standAt (wpAny_bind ?_))
  by_cases hlt : i < xs.length
  · have hy : xs[i]? = some xs[i] := by simp [hlt]
    refine wpAny_mono (it_item (E := Bot) L'.step.rel (hI i _ _ hInv) ha2 hit' hy fun v h2 tk rv hit2 ex => ?_) (fun _ _ x => x) fun _ _ f => f.elim
    have L2 := L'.ext (tk := tk) ha ha2 ha0 hDa haF hit'.notT ex
    have K2' := hK.trans (K2.ext (tk := tk) ex (.inr (.inr rfl)))
    refine wpAny_bind (letOwned hit2 ?_)
    refine wpAny_bind (wpAny_mono (turn i _ _ _ hy hInv A cenv _ v hr he L2.frame L2.step.rel rv) (fun _ s₃ p => ?_) fun _ _ f => f.elim)
    obtain ⟨ρ3, σ3, hf3, st3, hExt, hti⟩ := p
    have L3 := L2.next X.hC X.hDC st3 hf3
    have K3 := K2'.trans ((K2.of st3).mono fun b q => .inr (.inl q))
    have aC : ¬ LocX cenv a := fun q => haF (.inl q)
    have ha3 : σ3 a = none := by obtain ⟨o, _, _, g, _⟩ := hit2.obj; exact st3.go.new a o ha2 g
    have hit3 : ItAt s₃.heap a u (i + 1) := hit2.keep (st3.tkeepL L2.frame L2.step.rel) fun o g => st3.go.keep a o ha2 aC g
    refine wpAny_bind (wpAny_mono (hti A cenv s₃ hr he hf3 st3.rel) (fun ok s₄ p => ?_) fun _ _ f => f.elim)
    obtain ⟨ok', σ4, hok, st4, hT, hFa⟩ := p
    have hok' : ok = ok' := hok
    subst hok'
    have L4 : LoopSt c cenv ρ3 σ₀ s₀ D ac σ4 s₄ := L3.next X.hC X.hDC st4.toX (hf3.go st3.rel st4.go)
    have K4 := K3.trans ((K2.of st4).mono fun b q => q.elim)
    have ha4 : σ4 a = none := by obtain ⟨o, _, _, g, _⟩ := hit3.obj; exact st4.go.new a o ha3 g
    have hit4 : ItAt s₄.heap a u (i + 1) := hit3.keep (Go.tkeep st3.rel st4.go) fun o g => st4.go.keep a o ha3 id g
    cases ok with
    | false => exact wpAny_pure ⟨rfl, xs.length - (i + 1), by omega, i + 1, ac, σ4, rfl, hlt, L4.weaken hExt, hit4, ha4, K4, hFa rfl⟩
    | true =>
      refine wpAny_bind (wpAny_mono (hT rfl A s₄ hr L4) (fun _ s₅ p => ?_) fun _ _ f => f.elim)
      obtain ⟨ac5, σ5, L5, k5, hI5⟩ := p
      have aDC : ¬ DC cenv D a := fun q => q.elim (fun z => hDa z.symm) fun z => aC z
      obtain ⟨o, _, _, g, _⟩ := hit4.obj
      have ha5 := (k5 a o aDC ha4 g).1
      have hit5 : ItAt s₅.heap a u (i + 1) := hit4.keep (k5.tkeep L4) fun o g => (k5 a o aDC ha4 g).2
      exact wpAny_pure ⟨rfl, xs.length - (i + 1), by omega, i + 1, ac5, σ5, rfl, hlt, L5.weaken hExt, hit5, ha5, K4.trans (k5.mono fun b q => q.elim .inl fun z => .inr (.inl z)), hI5⟩
  · have hi' : i = xs.length := by omega
    subst hi'
    refine wpAny_mono (it_end (E := Bot) hr.1 L'.step.rel (hI _ _ _ hInv) hit' (by simp) fun h2 ex => ?_) (fun _ _ x => x) fun _ _ f => f.elim
    exact wpAny_pure ⟨rfl, ac, σ', L'.ext (tk := s'.toks) ha ha2 ha0 hDa haF hit'.notT ex, hK.trans (K2.ext (tk := s'.toks) ex (.inr (.inr rfl))), hInv⟩
/-- the last clause's emission -/
theorem EM_last {elt : Expr} {cenv : Env} {D : Addr} {σ₀ : MS} {s₀ : Shared} {ac : List MV} {Q : List MV → MS → Prop} (he : EnvOk sc cenv) (X : LoopCx c cenv s₀ D) (hz : ac.length ≤ 100000)
    (h : WE c n sc ρ σ elt fun w σ1 => Q (ac ++ [w]) σ1) : EM c n sc cenv D σ₀ s₀ (do let _ ← call (.builtin "list.append") [.ref D, ← eval elt cenv]) ρ σ ac Q := fun A s' hr L => by
  refine wpAny_bind (wpAny_mono (h A cenv s' hr he L.frame L.step.rel) (fun w s₅ p => ?_) fun _ _ f => f.elim)
  obtain ⟨w', σ5, rw5, st5, hI5⟩ := p
  have L5 : LoopSt c cenv ρ σ₀ s₀ D ac σ5 s₅ := L.next X.hC X.hDC st5.toX (L.frame.go L.step.rel st5.go)
  refine wpAny_bind (L5.grow X.hD X.hD0 X.hDF rw5 hz fun s₆ L6 st6 => ?_)
  exact wpAny_pure ⟨_, σ5, L6, ((K2.of st5).mono fun b q => q.elim).trans ((K2.of st6).mono fun b q => .inl q), hI5⟩
end Mine
end
section
open PySem PySem.Calls PyProof.Rows PySem.W PySem.SeqAt
set_option linter.unusedVariables false
namespace Mine
variable {c : Cx} {n : Nat} {sc : Scope} {ρ : List (Str × MV)} {σ : MS} {A : Around} {env : Env} {s : Shared} {pos : Pos} {x : Str}

theorem codeAny_compStart_list1 {R : Result → Shared → Prop} {elt : Expr} {g₀ : Comprehension} {target iter ifs rest scope pos it acc env} {prog : Program} {w : World}
    (h0 : codeAny (model prog w) A (.compLoop (.ListComp elt (g₀ :: ⟨target, iter, ifs, 0⟩ :: rest) scope pos) 1 it acc env) R s)
    (h : wpAny (model prog w) A (pyIter it) (fun it' s' => codeAny (model prog w) A (.compLoop (.ListComp elt (g₀ :: ⟨target, iter, ifs, 0⟩ :: rest) scope pos) 1 it' acc env) R s')
      (notedBy (model prog w) A env fun x s' => R (.error x) s') s) :
    codeAny (model prog w) A (.compStart (.ListComp elt (g₀ :: ⟨target, iter, ifs, 0⟩ :: rest) scope pos) 1 it acc env) R s := by
  refine codeAny_of_tree ?_
  show wpAny _ _ ((compStart (.ListComp elt (g₀ :: ⟨target, iter, ifs, 0⟩ :: rest) scope pos) 1 it acc env).onRaise (fun x => do noteFrame x env; standAt theWindowsPlace)) _ _ s
  refine wpAny_notedAt ?_
  unfold compStart
  show wpAny _ _ (ask >>= _) _ _ s
  refine wpAny_bind (wpAny_askSetting (wpAny_ite ?_))
  split
  · first
      | exact wpAny_bind (wpAny_pure (wpAny_pure (And.intro rfl h0)))
      | exact wpAny_pure (And.intro rfl h0)
  · first
      | exact wpAny_bind (wpAny_rule (wpAny_bind (wpAny_standAt (wpAny_bind (wpAny_mono h (fun it' s' h' => wpAny_pure (And.intro rfl h')) fun _ _ x => x)))))
      | (refine wpAny_bind (wpAny_rule ?_); show wpAny _ _ (standAt iter.pos >>= _) _ _ s; exact wpAny_bind (wpAny_standAt (wpAny_bind (wpAny_mono h (fun it' s' h' => wpAny_pure (And.intro rfl h')) fun _ _ x => x))))

/-- what a comprehension's run leaves -/
def OutC (c : Cx) (σ : MS) (s : Shared) (Q : List MV → MS → Prop) (acc : Value) (C : Addr) (r : Result) (s' : Shared) : Prop :=
  r = .ok .next ∧ ∃ D ac σ', acc = .ref D ∧ s.heap.get? D = none ∧ s.heap.get? C = none ∧ D ≠ C ∧ StepOk c NoX σ σ' s s' ∧ (∃ items k, IsL s'.heap D items k ∧ F2 (VRel s'.heap) items.toList ac) ∧ σ' D = none ∧ σ' C = none ∧ (∃ m, s'.heap.Ns C m) ∧ Q ac σ'
/-- the clauses of a comprehension, over the value u of the first one's iterable -/
def WCo (c : Cx) (n : Nat) (sc : Scope) (ρ : List (Str × MV)) (σ : MS) (e : Expr) (scope : Scope) (u : MV) (Q : List MV → MS → Prop) : Prop :=
  ∀ A env s v, Room A n → EnvOk sc env → FrameOk c env ρ σ s.heap → Rel c σ s.heap → VRel s.heap v u →
    wpAny c.M A (pyIter v) (fun it s₂ => wpAny c.M A (newList []) (fun acc s₃ => wpAny c.M A (newFunctionEnv scope env.globals (closOf env scope.names []) [] env.qual none .none (some env)) (fun cenv s₄ =>
      codeAny c.M A (.compStart e 0 it acc { cenv with scope := relabel scope env }) (OutC c σ s Q acc cenv.locals) s₄) Bot s₃) Bot s₂) Bot s

theorem compOk.no_cell {scope : Scope} {fn : List Str} (ok : compOk scope sc fn = true) : ∀ y ∈ scope.names, y.2 ≠ .cell := fun y hy q => by
  unfold compOk at ok
  simp only [Bool.and_eq_true] at ok
  have := List.all_eq_true.mp ok.1.1.1.2 y hy
  rw [q] at this; simp at this
theorem compOk.kind {scope : Scope} {fn : List Str} (ok : compOk scope sc fn = true) : scope.kind = .function := by
  unfold compOk at ok
  simp only [Bool.and_eq_true] at ok
  simpa using ok.1.1.1.1
theorem compOk.locals {scope : Scope} {fn : List Str} (ok : compOk scope sc fn = true) : ∀ x ∈ scope.names, x.2 = .local → scope.names.lookup x.1 = some .local := fun y hy q => by
  unfold compOk at ok
  simp only [Bool.and_eq_true] at ok
  have := List.all_eq_true.mp ok.1.1.2 y hy
  rw [q] at this; simpa using this
theorem compOk.clos {scope : Scope} {fn : List Str} {h : Heap} (ok : compOk scope sc fn = true) (he : EnvOk sc env) (f : FrameOk c env ρ σ h) : closureFor scope env = pure (closOf env scope.names []) := by
  unfold compOk at ok
  simp only [Bool.and_eq_true] at ok
  obtain ⟨⟨⟨⟨o1, o2⟩, o3⟩, o4⟩, o5⟩ := ok
  have hfn : freeOf scope = fn := by simpa using o4
  refine closureFor_eq fun y hy => f.has y ?_
  have hy' : y ∈ fn := by rw [← hfn]; exact List.mem_map.mpr ⟨(y, .free), List.mem_filter.mpr ⟨hy, rfl⟩, rfl⟩
  have := List.all_eq_true.mp o5 y hy'
  simp only [Bool.and_eq_true] at this
  unfold Env.kindOf; rw [he.scope]; simpa using this.1.1

/-- the run up to the first loop -/
theorem WCo_start {elt target iter : Expr} {ifs : List Expr} {rest : List Comprehension} {scope : Scope} {cpos : Pos} {fn : List Str} {vs : List MV} {u : MV} {xs : List MV} {Q : List MV → MS → Prop} (ok : compOk scope sc fn = true) (hl : LkAll ρ fn vs) (hI : Items σ u xs)
    (h : ∀ A cenv s₀ s₁ D a, Room A n → EnvOk (relabelS scope sc) cenv → LoopCx c cenv s₀ D → s₀.heap.get? a = none → D ≠ a → ¬ FrX cenv a → c.h₀.get? a = none → LoopSt c cenv (fn.zip vs) σ s₀ D [] σ s₁ → ItAt s₁.heap a u 0 → σ a = none →
      codeAny c.M A (.compLoop (.ListComp elt (⟨target, iter, ifs, 0⟩ :: rest) scope cpos) 0 (.ref a) (.ref D) cenv) (fun r s' => r = .ok .next ∧ ∃ ac σ', LoopSt c cenv (fn.zip vs) σ s₀ D ac σ' s' ∧ Q ac σ') s₁) :
    WCo c n sc ρ σ (.ListComp elt (⟨target, iter, ifs, 0⟩ :: rest) scope cpos) scope u Q := fun A env s v hr he hf hR hv => by
  refine it_start hR hv hI fun h' hit kp => ?_
  have nn : ∀ {h : Heap} b, h.objs.size ≤ b → h.get? b = none := fun {h} b hb => by
    cases q : h.get? b with
    | none => rfl
    | some o => exact absurd (Heap.lt_size q) (Nat.not_lt.mpr hb)
  have nb : ∀ b, s.heap.get? b = none → c.h₀.get? b = none := fun b e => by
    cases q : c.h₀.get? b with
    | none => rfl
    | some o => rw [hR.base _ _ q] at e; cases e
  have back : ∀ b, h'.get? b = none → s.heap.get? b = none := fun b e => by
    cases q : s.heap.get? b with
    | none => rfl
    | some o => rw [kp _ _ q] at e; cases e
  generalize hIa : s.heap.objs.size = a at hit
  have ka : s.heap.get? a = none := nn a (by omega)
  have alt : a < h'.objs.size := by obtain ⟨o, _, _, g, _⟩ := hit.obj; exact Heap.lt_size g
  refine wpAny_newObj_type (wpAny_newFunctionEnv (compOk.no_cell ok) (by intro y hy; simp at hy) (fun h₁ hns₁ hsb₁ => ?_) (compOk.kind ok))
  dsimp only at hns₁ hsb₁ ⊢
  generalize hH2 : h'.push { cls := .type "list", dict := none, data := .seq ([] : List Value).toArray } = H2 at hns₁ hsb₁ ⊢
  have hC : H2.objs.size = h'.objs.size + 1 := by rw [← hH2, Heap.size_push]
  generalize hDe : h'.objs.size = D at hC alt ⊢
  generalize hCe : H2.objs.size = C at hC hns₁ hsb₁ ⊢
  have kD : s.heap.get? D = none := back D (nn D (by omega))
  have kC : s.heap.get? C = none := back C (nn C (by omega))
  have old : ∀ b o, h'.get? b = some o → h₁.get? b = some o := fun b o e => hsb₁.extBut b o (Nat.ne_of_lt (Nat.lt_of_lt_of_le (Heap.lt_size e) (show h'.objs.size ≤ C by omega))) (Heap.get?_push_of_some _ (hH2 ▸ Heap.get?_push_of_some _ e))
  have kp₁ : ∀ b o, s.heap.get? b = some o → h₁.get? b = some o := fun b o e => old b o (kp b o e)
  have hacc : h₁.get? D = some (listObj #[] 0) := hsb₁.extBut _ _ (Nat.ne_of_lt (by omega)) (Heap.get?_push_of_some _ (hH2 ▸ hDe ▸ Heap.get?_push_size _ rfl))
  have st₁ : StepOk c NoX σ σ s { s with heap := h₁, toks := s.toks + ([] : List (Str × Value)).length } := StepOk.keeps hR kp₁
  have hf₁ := hf.go hR st₁.go
  have hcell : ∀ y b, env.cells.lookup y = some b → b ≠ C := fun y b e q => by
    obtain ⟨⟨_, o, g, _⟩, _⟩ := hf.cells y b e; rw [q, kC] at g; cases g
  obtain ⟨cf, ce⟩ := FrameOk.comp (c := c) (C := C) he hf₁ ok hl hns₁ ⟨hR.notk kC, nb C kC⟩ hcell
  have frS : ∀ b, FrX (compEnvC scope (closOf env scope.names []) C env) b → b = C ∨ ∃ o, s.heap.get? b = some o := fun b hb => by
    rcases hb with hb | ⟨y, hy⟩
    · exact .inl hb
    · rcases closOf_mem _ _ y b (mem_of_lookup hy) with q | q
      · cases q
      · obtain ⟨⟨_, o, g, _⟩, _⟩ := hf.cells y b q.1; exact .inr ⟨o, g⟩
  have X : LoopCx c (compEnvC scope (closOf env scope.names []) C env) s D := ⟨kD, kC, (Nat.ne_of_lt (by show D < C; omega)), (fun q => by
    rcases frS _ q with q | ⟨o, g⟩
    · exact Nat.ne_of_lt (show D < C by omega) q
    · rw [kD] at g; cases g), nb D kD⟩
  have aF : ¬ FrX (compEnvC scope (closOf env scope.names []) C env) a := fun q => by
    rcases frS _ q with q | ⟨o, g⟩
    · exact Nat.ne_of_lt (show a < C by omega) q
    · rw [ka] at g; cases g
  have tk : TKeep h' h₁ := .of_keeps old
  have key := h A _ s _ D a hr ce X ka (Nat.ne_of_gt (by omega)) aF (nb a ka) (⟨cf, st₁, ⟨#[], 0, hacc, .nil⟩, hR.notk kD⟩ : LoopSt c (compEnvC scope (closOf env scope.names []) C env) (fn.zip vs) σ s D [] σ { s with heap := h₁, toks := s.toks + ([] : List (Str × Value)).length })
    (hit.keep tk fun o g => old a o g) (hR.notk ka)
  have key2 : codeAny c.M A (.compLoop (.ListComp elt (⟨target, iter, ifs, 0⟩ :: rest) scope cpos) 0 (.ref a) (.ref D) (compEnvC scope (closOf env scope.names []) C env)) (OutC c σ s Q (.ref D) C) { s with heap := h₁, toks := s.toks + ([] : List (Str × Value)).length } := by
    refine codeAny_mono key fun r s' p => ?_
    obtain ⟨rfl, ac, σ', L, q⟩ := p
    obtain ⟨m, hm, _⟩ := L.frame.ns
    exact ⟨rfl, D, ac, σ', rfl, kD, kC, X.hDC, L.step, L.acc, L.D0, L.frame.loc.1, ⟨m, hm⟩, q⟩
  exact codeAny_compStart_list key2 (it_self (hit.keep tk fun o g => old a o g) key2)

/-- one clause -/
theorem WCo_1 {elt target iter : Expr} {ifs : List Expr} {scope : Scope} {cpos : Pos} {u : MV} {Q : List MV → MS → Prop} (fn : List Str) (vs : List MV) (xs : List MV) (Inv : Nat → List MV → MS → Prop) (ok : compOk scope sc fn = true) (hl : LkAll ρ fn vs)
    (h0 : Inv 0 [] σ) (hI : ∀ i ac σ', Inv i ac σ' → Items σ' u xs ∧ ac.length ≤ 100000)
    (turn : ∀ i y ac σ', xs[i]? = some y → Inv i ac σ' → WAL c n (relabelS scope sc) (fn.zip vs) σ' target y fun ρ2 σ2 => Ext (fn.zip vs) ρ2 ∧ WI c n (relabelS scope sc) ρ2 σ2 ifs fun ok σ3 =>
      (ok = true → WE c n (relabelS scope sc) ρ2 σ3 elt fun w σ4 => Inv (i + 1) (ac ++ [w]) σ4) ∧ (ok = false → Inv (i + 1) ac σ3))
    (fin : ∀ ac σ', Inv xs.length ac σ' → Q ac σ') : WCo c n sc ρ σ (.ListComp elt [⟨target, iter, ifs, 0⟩] scope cpos) scope u Q :=
  WCo_start ok hl (hI 0 _ _ h0).1 fun A cenv s₀ s₁ D a hr he X ha hDa aF ha0 L hit ha' =>
    codeAny_mono (clause_loop (emit := do let _ ← call (.builtin "list.append") [.ref D, ← eval elt cenv]) Inv rfl rfl rfl hr he X ha hDa aF ha0 (fun i ac σ' q => (hI i ac σ' q).1)
      (fun i y ac σ' hy q A env s v a1 a2 a3 a4 a5 => wpAny_mono (turn i y ac σ' hy q A env s v a1 a2 a3 a4 a5) (fun _ s' p => by
        obtain ⟨ρ', σ2, f', st', hE, w⟩ := p
        refine ⟨ρ', σ2, f', st', hE, ?_⟩
        exact fun A env s a1 a2 a3 a4 => wpAny_mono (w A env s a1 a2 a3 a4) (fun ok s2 p => by
          obtain ⟨ok', σ3, e, st3, hT, hF⟩ := p
          exact ⟨ok', σ3, e, st3, fun q1 => EM_last he X (hI i _ _ q).2 (hT q1), hF⟩) fun _ _ z => z) fun _ _ z => z) L hit ha' h0)
      fun r s' p => by
        obtain ⟨e, ac, σ', L', _, q⟩ := p
        exact ⟨e, ac, σ', L', fin _ _ q⟩
end Mine
end
section
open PySem PySem.Calls PyProof.Rows PySem.W PySem.SeqAt
set_option linter.unusedVariables false
namespace Mine
variable {c : Cx} {n : Nat} {sc : Scope} {ρ : List (Str × MV)} {σ : MS} {A : Around} {env : Env} {s : Shared} {pos : Pos} {x : Str}

theorem StepOk.joinX {X Y : Addr → Prop} {σ' σ'' : MS} {s' s'' : Shared} (x : StepOk c Y σ σ' s s') (y : StepOk c X σ' σ'' s' s'') (hX : ∀ b, X b → s.heap.get? b = none) (hY : ∀ b, Y b → ∃ o', s'.heap.get? b = some o') : StepOk c Y σ σ'' s s'' :=
  ⟨y.rel, ⟨fun b o e nY g => y.go.keep b o (x.go.new b o e g) (fun q => by rw [hX b q] at g; cases g) (x.go.keep b o e nY g), fun b o e g => by
    by_cases q : Y b
    · obtain ⟨o', g'⟩ := hY b q; exact y.go.new b o' (x.go.new b o e g) g'
    · exact y.go.new b o (x.go.new b o e g) (x.go.keep b o e q g), fun b e => x.go.dom b (y.go.dom b e)⟩, y.gens.trans x.gens, y.os.trans x.os⟩
/-- the comprehension's names let go -/
theorem StepOk.letGo {σ' : MS} {C : Addr} {h' : Heap} {m : Str → Option Value} (R : Rel c σ' s.heap) (hC : σ' C = none) (h0 : c.h₀.get? C = none) (hn : s.heap.Ns C m) (hs : Heap.SameBut C s.heap h') : StepOk c (fun b => b = C) σ' σ' s { s with heap := h' } ∧ TKeep s.heap h' := by
  have tk : TKeep s.heap h' := fun b o e t => (hs.2 b fun q => by
    subst q
    obtain ⟨o', _, _, e', hd, _⟩ := hn
    rw [e] at e'; cases e'; exact notT_dict hd t).trans e
  exact ⟨⟨R.ext hs.extBut hC h0 tk, ⟨fun b o _ hb g => hs.extBut b o hb g, fun _ _ g _ => g, fun _ g => g⟩, rfl, rfl⟩, tk⟩
theorem Rel.freeBase {h : Heap} {b : Addr} (R : Rel c σ h) (e : h.get? b = none) : c.h₀.get? b = none := by
  cases q : c.h₀.get? b with
  | none => rfl
  | some o => rw [R.base _ _ q] at e; cases e
theorem WE_comp {elt target iter : Expr} {ifs : List Expr} {rest : List Comprehension} {scope : Scope} {fn : List Str} {Q : MV → MS → Prop} (ok : compOk scope sc fn = true) (hs : ∀ env : Env, ∀ x, foldedSetIterable iter env x = pure x)
    (h : WE c n sc ρ σ iter fun u σ1 => WCo c n sc ρ σ1 (.ListComp elt (⟨target, iter, ifs, 0⟩ :: rest) scope pos) scope u fun ac σ2 => ∀ k, σ2 k = none → Q (.ref k) (upd σ2 k (.list ac))) :
    WE c n sc ρ σ (.ListComp elt (⟨target, iter, ifs, 0⟩ :: rest) scope pos) Q := fun A env s hr he hf hR => by
  show wpAny c.M A (eval (.ListComp elt (⟨target, iter, ifs, 0⟩ :: rest) scope pos) env) _ _ _
  rw [eval_ListComp]
  refine wpAny_comprehension_free (use := none) rfl (hs env) (compOk.clos ok he hf) (compOk.kind ok) (compOk.locals ok) (h.use hr he hf hR fun v s₁ u σ1 r1 st1 hf1 h1 => ?_)
  refine wpAny_mono (h1 A env s₁ v hr he hf1 st1.rel r1) (fun it s₂ p => wpAny_mono p (fun acc s₃ p => wpAny_mono p (fun cenv s₄ p => codeAny_mono p fun r s' p => ?_) fun _ _ e => e) fun _ _ e => e) fun _ _ e => e
  obtain ⟨rfl, D, ac, σ', rfl, kD, kC, hDC, st, ⟨items, k, l, f⟩, D0, C0, ⟨m, hm⟩, q⟩ := p
  refine ⟨m, hm, fun h' hs' => ?_⟩
  obtain ⟨st2, tk⟩ := StepOk.letGo st.rel C0 (st1.rel.freeBase kC) hm hs'
  have st3 := st.join st2 fun b hb => hb ▸ kC
  have st4 := st3.adopt (k := D) (mo := .list ac) D0 kD (st1.rel.freeBase kD) ⟨items, k, hs'.extBut _ _ hDC l, f.imp fun _ _ y => y.keep tk⟩ (by intro _ _ q; cases q)
  exact ⟨.ref D, _, vRef, st1.trans st4, q D D0⟩
/-- x = [..], the name's old value not read in between -/
theorem S_assignComp {elt target iter : Expr} {ifs : List Expr} {rest : List Comprehension} {scope : Scope} {cpos tpos : Pos} {fn : List Str} {Q : MF → List (Str × MV) → MS → Prop} (ok : compOk scope sc fn = true) (hs : ∀ env : Env, ∀ x, foldedSetIterable iter env x = pure x)
    (hsw : ∀ env : Env, env.scope = sc → swapsWith (.ListComp elt (⟨target, iter, ifs, 0⟩ :: rest) scope cpos) (some (.Name x tpos)) pos.line env = pure true) (hk : okName sc x = true)
    (h : WE c n sc ρ σ iter fun u σ1 => WCo c n sc ρ σ1 (.ListComp elt (⟨target, iter, ifs, 0⟩ :: rest) scope cpos) scope u fun ac σ2 => ∀ k, σ2 k = none → ∃ ρ', up ρ x (.ref k) = ρ' ∧ Q .next ρ' (upd σ2 k (.list ac))) :
    W1S c n sc ρ σ (.Assign [.Name x tpos] (.ListComp elt (⟨target, iter, ifs, 0⟩ :: rest) scope cpos) pos) Q := fun A env s hr he hf hR => by
  rw [exec_Assign_Name_used _ _ _ _ (hsw env he.scope)]
  refine wpAny_bind (wpAny_standAt (wpAny_bind ?_))
  show wpAny _ A (do let _ ← comprehension (.ListComp elt (⟨target, iter, ifs, 0⟩ :: rest) scope cpos) scope env _ (newList []) false (eval iter env) (some (assign (.Name x tpos) env))) _ _ s
  refine wpAny_bind (wpAny_mono (wpAny_comprehension_free (use := some (assign (.Name x tpos) env)) (Q := fun _ s' => PostS c env σ s Q .next s') rfl (hs env) (compOk.clos ok he hf) (compOk.kind ok) (compOk.locals ok) (h.use hr he hf hR fun v s₁ u σ1 r1 st1 hf1 h1 => ?_)) (fun _ s' hq => wpAny_pure (wpAny_pure hq)) fun _ _ e => e)
  refine wpAny_mono (h1 A env s₁ v hr he hf1 st1.rel r1) (fun it s₂ p => wpAny_mono p (fun acc s₃ p => wpAny_mono p (fun cenv s₄ p => codeAny_mono p fun r s' p => ?_) fun _ _ e => e) fun _ _ e => e) fun _ _ e => e
  obtain ⟨rfl, D, ac, σ', rfl, kD, kC, hDC, st, ⟨items, k, l, f⟩, D0, C0, ⟨m, hm⟩, q⟩ := p
  have st4 := st.adopt (k := D) (mo := .list ac) D0 kD (st1.rel.freeBase kD) ⟨items, k, l, f⟩ (by intro _ _ q; cases q)
  have hf4 := hf1.go st1.rel st4.go
  obtain ⟨ρ', e', q⟩ := q D D0
  subst e'
  show wpAny _ _ (assign (.Name x tpos) env (.ref D)) _ _ _
  refine wpAny_assign_Name (hf4.store he hk st4.rel (m := .ref D) vRef fun s5 hf5 st5 => ?_)
  have kF : ∀ b, FrX env b → b ≠ cenv.locals := fun b hb q => by
    rcases hb with rfl | ⟨y, hy⟩
    · obtain ⟨o, e⟩ := hf1.locAt; rw [q, kC] at e; cases e
    · obtain ⟨⟨_, o, e, _⟩, _⟩ := hf1.cells y b hy; rw [q, kC] at e; cases e
  have CneD : cenv.locals ≠ D := fun z => hDC z.symm
  have C4 : (upd σ' D (.list ac)) cenv.locals = none := by rw [upd_ne CneD]; exact C0
  have hm5 : s5.heap.Ns cenv.locals m := by
    obtain ⟨o, es, ep, e, r⟩ := hm
    exact ⟨o, es, ep, st5.go.keep _ _ C4 (fun q => kF _ q rfl) e, r⟩
  refine ⟨m, hm5, fun h' hs' => ?_⟩
  obtain ⟨st6, tk⟩ := StepOk.letGo st5.rel C4 (st1.rel.freeBase kC) hm5 hs'
  have st14 : StepOk c (FrX env) σ1 (upd σ' D (.list ac)) s₁ s5 := st4.toX.transX hf1 st5 hf4
  have st16 := st14.joinX st6 (fun b hb => hb ▸ kC) fun b hb => by
    rcases hb with rfl | ⟨y, hy⟩
    · exact hf5.locAt
    · obtain ⟨⟨_, o, e, _⟩, _⟩ := hf5.cells y b hy; exact ⟨o, e⟩
  have hf6 : FrameOk c env (up ρ x (.ref D)) (upd σ' D (.list ac)) h' := hf5.goX (X := fun b => b = cenv.locals) tk (fun b hb q => kF b hb q) st6.go
  exact ⟨.next, _, _, trivial, hf6, st1.toX.transX hf st16 hf1, q⟩
/-- an emission that is a clause of its own -/
theorem EM_inner {elt target₀ iter₀ target iter : Expr} {ifs₀ ifs : List Expr} {scope : Scope} {cpos : Pos} {cenv : Env} {D : Addr} {σ₀ : MS} {s₀ : Shared} {ac : List MV} {Q : List MV → MS → Prop} (he : EnvOk sc cenv) (X : LoopCx c cenv s₀ D) (hs : ∀ env : Env, ∀ x, foldedSetIterable iter env x = pure x)
    (h : WE c n sc ρ σ iter fun u σ1 => ∃ (xs : List MV) (Inv : Nat → List MV → MS → Prop), Inv 0 ac σ1 ∧ (∀ i ac σ', Inv i ac σ' → Items σ' u xs ∧ ac.length ≤ 100000) ∧
      (∀ i y ac σ', xs[i]? = some y → Inv i ac σ' → WAL c n sc ρ σ' target y fun ρ2 σ2 => Ext ρ ρ2 ∧ WI c n sc ρ2 σ2 ifs fun ok σ3 => (ok = true → WE c n sc ρ2 σ3 elt fun w σ4 => Inv (i + 1) (ac ++ [w]) σ4) ∧ (ok = false → Inv (i + 1) ac σ3)) ∧
      (∀ ac σ', Inv xs.length ac σ' → Q ac σ')) :
    EM c n sc cenv D σ₀ s₀ (do
      let x ← eval iter cenv
      standAt iter.pos
      let x ← foldedSetIterable iter cenv x
      let _ ← runOwn (.compStart (.ListComp elt [⟨target₀, iter₀, ifs₀, 0⟩, ⟨target, iter, ifs, 0⟩] scope cpos) 1 (← holding [x] (pyIter x)) (.ref D) cenv) cenv) ρ σ ac Q := fun A s' hr L => by
  refine wpAny_bind (wpAny_mono (h A cenv s' hr he L.frame L.step.rel) (fun v s₁ p => ?_) fun _ _ f => f.elim)
  obtain ⟨u, σ1, r1, st1, xs, Inv, h0, hI, turn, fin⟩ := p
  have L1 : LoopSt c cenv ρ σ₀ s₀ D ac σ1 s₁ := L.next X.hC X.hDC st1.toX (L.frame.go L.step.rel st1.go)
  refine wpAny_bind (wpAny_standAt (wpAny_bind (wpAny_of_eq (hs cenv v) (wpAny_bind (wpAny_holding ?_)))))
  refine it_start st1.rel r1 (hI 0 _ _ h0).1 fun h' hit kp => ?_
  have k0 : ∀ a, a = s₁.heap.objs.size → s₁.heap.get? a = none := fun a e => by subst e; exact size0 _
  generalize hIa : s₁.heap.objs.size = a at hit
  have ka := k0 a hIa.symm
  have ka0 : s₀.heap.get? a = none := L1.step.back ka
  have st2 : StepOk c NoX σ1 σ1 s₁ { s₁ with heap := h' } := StepOk.keeps (t := s₁.toks) st1.rel kp
  have L2 : LoopSt c cenv ρ σ₀ s₀ D ac σ1 { s₁ with heap := h' } := L1.next X.hC X.hDC st2.toX (L1.frame.go st1.rel st2.go)
  have hDa : D ≠ a := fun q => by obtain ⟨_, _, l, _⟩ := L1.acc; rw [q] at l; exact absurd (ka.symm.trans l) (by intro z; cases z)
  have aF : ¬ FrX cenv a := fun q => by
    rcases q with q | ⟨y, q⟩
    · obtain ⟨o, e⟩ := L1.frame.locAt; rw [← q, ka] at e; cases e
    · obtain ⟨⟨_, o, e, _⟩, _⟩ := L1.frame.cells y a q; rw [ka] at e; cases e
  have key := clause_loop (c := c) (e := .ListComp elt [⟨target₀, iter₀, ifs₀, 0⟩, ⟨target, iter, ifs, 0⟩] scope cpos) (d := 1) (A := A.mark none) (emit := do let _ ← call (.builtin "list.append") [.ref D, ← eval elt cenv]) Inv rfl rfl rfl hr he X ka0 hDa aF (st1.rel.freeBase ka) (fun i ac σ' q => (hI i ac σ' q).1)
      (fun i y ac σ' hy q A env s v a1 a2 a3 a4 a5 => wpAny_mono (turn i y ac σ' hy q A env s v a1 a2 a3 a4 a5) (fun _ s' p => by
        obtain ⟨ρ', σ2, f', st', hE, w⟩ := p
        refine ⟨ρ', σ2, f', st', hE, ?_⟩
        exact fun A env s a1 a2 a3 a4 => wpAny_mono (w A env s a1 a2 a3 a4) (fun ok s2 p => by
          obtain ⟨ok', σ3, e, st3, hT, hF⟩ := p
          exact ⟨ok', σ3, e, st3, fun q1 => EM_last he X (hI i _ _ q).2 (hT q1), hF⟩) fun _ _ z => z) fun _ _ z => z) L2 hit (st1.rel.notk ka) h0
  refine wpAny_bind (wpAny_runOwn ?_)
  have kk : K2 (DC cenv D) σ s' σ1 { s₁ with heap := h' } := ((K2.of st1).mono fun b q => q.elim).trans ((K2.of st2).mono fun b q => q.elim)
  have nD : ∀ b o, s'.heap.get? b = some o → σ b = none → b ≠ a := fun b o g q z => by
    have := st1.go.keep b o q id g; rw [z, ka] at this; cases this
  have key2 : codeAny c.M (A.mark none) (.compLoop (.ListComp elt [⟨target₀, iter₀, ifs₀, 0⟩, ⟨target, iter, ifs, 0⟩] scope cpos) 1 (.ref a) (.ref D) cenv) (fun r s'' => match r with | .ok f => wpAny c.M A (pure ()) (fun _ s'' => ∃ ac' σ', LoopSt c cenv ρ σ₀ s₀ D ac' σ' s'' ∧ K2 (DC cenv D) σ s' σ' s'' ∧ Q ac' σ') Bot s'' | .error e => cameBackBy c.M A cenv Bot e s'') { s₁ with heap := h' } := by
    refine codeAny_mono key fun r s'' p => ?_
    obtain ⟨rfl, ac2, σ2, L3, k3, q⟩ := p
    refine wpAny_pure ⟨ac2, σ2, L3, fun b o nX qb g => ?_, fin _ _ q⟩
    obtain ⟨e1, e2⟩ := kk b o nX qb g
    exact k3 b o (fun z => by rcases z with z | z | z; exact nX (.inl z); exact nX (.inr z); exact nD b o g qb z) e1 e2
  exact codeAny_compStart_list1 key2 (it_self hit key2)
theorem turn2 (elt target iter target₂ iter₂ : Expr) (ifs ifs₂ : List Expr) (scope : Scope) (cpos : Pos) (it acc : Value) (cenv : Env) :
    compTurn (.ListComp elt [⟨target, iter, ifs, 0⟩, ⟨target₂, iter₂, ifs₂, 0⟩] scope cpos) 0 it acc cenv = clauseTurn (.ListComp elt [⟨target, iter, ifs, 0⟩, ⟨target₂, iter₂, ifs₂, 0⟩] scope cpos) target iter ifs 0 it acc cenv (do
      let x ← eval iter₂ cenv
      standAt iter₂.pos
      let x ← foldedSetIterable iter₂ cenv x
      let _ ← runOwn (.compStart (.ListComp elt [⟨target, iter, ifs, 0⟩, ⟨target₂, iter₂, ifs₂, 0⟩] scope cpos) 1 (← holding [x] (pyIter x)) acc cenv) cenv) := by
  unfold clauseTurn
  simp only [bind_assoc]
  rfl
/-- two clauses -/
theorem WCo_2 {elt target iter target₂ iter₂ : Expr} {ifs ifs₂ : List Expr} {scope : Scope} {cpos : Pos} {u : MV} {Q : List MV → MS → Prop} (fn : List Str) (vs : List MV) (xs : List MV) (Inv : Nat → List MV → MS → Prop) (ok : compOk scope sc fn = true) (hl : LkAll ρ fn vs)
    (hs : ∀ env : Env, ∀ x, foldedSetIterable iter₂ env x = pure x)
    (h0 : Inv 0 [] σ) (hI : ∀ i ac σ', Inv i ac σ' → Items σ' u xs)
    (turn : ∀ i y ac σ', xs[i]? = some y → Inv i ac σ' → WAL c n (relabelS scope sc) (fn.zip vs) σ' target y fun ρ2 σ2 => Ext (fn.zip vs) ρ2 ∧ WI c n (relabelS scope sc) ρ2 σ2 ifs fun ok σ3 =>
      (ok = true → WE c n (relabelS scope sc) ρ2 σ3 iter₂ fun u2 σ4 => ∃ (xs2 : List MV) (Inv2 : Nat → List MV → MS → Prop), Inv2 0 ac σ4 ∧ (∀ i ac σ', Inv2 i ac σ' → Items σ' u2 xs2 ∧ ac.length ≤ 100000) ∧
        (∀ i y ac σ', xs2[i]? = some y → Inv2 i ac σ' → WAL c n (relabelS scope sc) ρ2 σ' target₂ y fun ρ3 σ5 => Ext ρ2 ρ3 ∧ WI c n (relabelS scope sc) ρ3 σ5 ifs₂ fun ok σ6 => (ok = true → WE c n (relabelS scope sc) ρ3 σ6 elt fun w σ7 => Inv2 (i + 1) (ac ++ [w]) σ7) ∧ (ok = false → Inv2 (i + 1) ac σ6)) ∧
        (∀ ac σ', Inv2 xs2.length ac σ' → Inv (i + 1) ac σ')) ∧ (ok = false → Inv (i + 1) ac σ3))
    (fin : ∀ ac σ', Inv xs.length ac σ' → Q ac σ') : WCo c n sc ρ σ (.ListComp elt [⟨target, iter, ifs, 0⟩, ⟨target₂, iter₂, ifs₂, 0⟩] scope cpos) scope u Q :=
  WCo_start ok hl (hI 0 _ _ h0) fun A cenv s₀ s₁ D a hr he X ha hDa aF ha0 L hit ha' =>
    codeAny_mono (clause_loop (target := target) (iter := iter) (ifs := ifs) (emit := do
      let x ← eval iter₂ cenv
      standAt iter₂.pos
      let x ← foldedSetIterable iter₂ cenv x
      let _ ← runOwn (.compStart (.ListComp elt [⟨target, iter, ifs, 0⟩, ⟨target₂, iter₂, ifs₂, 0⟩] scope cpos) 1 (← holding [x] (pyIter x)) (.ref D) cenv) cenv) Inv rfl rfl (congrArg (fun t => Sem.onRaise t _) (turn2 elt target iter target₂ iter₂ ifs ifs₂ scope cpos (.ref a) (.ref D) cenv)) hr he X ha hDa aF ha0 (fun i ac σ' q => hI i ac σ' q)
      (fun i y ac σ' hy q A env s v a1 a2 a3 a4 a5 => wpAny_mono (turn i y ac σ' hy q A env s v a1 a2 a3 a4 a5) (fun _ s' p => by
        obtain ⟨ρ', σ2, f', st', hE, w⟩ := p
        refine ⟨ρ', σ2, f', st', hE, ?_⟩
        exact fun A env s a1 a2 a3 a4 => wpAny_mono (w A env s a1 a2 a3 a4) (fun ok s2 p => by
          obtain ⟨ok', σ3, e, st3, hT, hF⟩ := p
          exact ⟨ok', σ3, e, st3, fun q1 => EM_inner he X hs (hT q1), hF⟩) fun _ _ z => z) fun _ _ z => z) L hit ha' h0)
      fun r s' p => by
        obtain ⟨e, ac, σ', L', _, q⟩ := p
        exact ⟨e, ac, σ', L', fin _ _ q⟩
end Mine
end
section
open PySem PySem.Calls PyProof.Rows PySem.W PySem.SeqAt
set_option linter.unusedVariables false
namespace Mine
variable {c : Cx} {n : Nat} {sc : Scope} {ρ : List (Str × MV)} {σ : MS} {A : Around} {env : Env} {s : Shared} {pos : Pos} {x : Str}

/-! ## runs under a stack on which no built-in holds a bytearray -/
def badIds : List String := Builtin.Bytes.decodersThatHold ++ ["bytearray.__contains__", "bytearray.__mod__", "bytearray.__rmod__", "_struct.pack_into.held", "bytearray.find.held"]
def okC : Code → Bool
  | .builtin id _ => !badIds.contains id
  | _ => true
def CBel (Γ : Ctx) : Prop := ∀ e ∈ Γ.below, okC e.1 = true
def CIn (Γ : Ctx) : Prop := okC Γ.code = true ∧ CBel Γ
def wpC {α : Type} (M : Model) (A : Around) (t : Sem α) (Q : α → Shared → Prop) (s : Shared) : Prop :=
  ∀ Γ p, Γ.In A → CIn Γ → Sem.wp M Γ t (fun a _ s' => Q a s') (fun _ _ _ => False) p s
def codeC (M : Model) (A : Around) (k : Code) (R : Result → Shared → Prop) (s : Shared) : Prop :=
  ∀ Γ p, Γ.code = k → Γ.Below A → CBel Γ → wpCode M Γ R p s
section
variable {α β : Type} {M : Model} {k : Code} {R : Result → Shared → Prop}
theorem wpC.of {t : Sem α} {Q : α → Shared → Prop} (h : wpAny M A t Q Bot s) : wpC M A t Q s := fun Γ p hΓ _ => h Γ p hΓ
theorem wpC_mono {t : Sem α} {Q Q' : α → Shared → Prop} (h : wpC M A t Q s) (hq : ∀ a s', Q a s' → Q' a s') : wpC M A t Q' s := fun Γ p hΓ hC =>
  Sem.wp_mono M Γ t (fun a _ s' q => hq a s' q) (fun _ _ _ q => q) p s (h Γ p hΓ hC)
theorem wpC_bind {m : Sem α} {f : α → Sem β} {Q : β → Shared → Prop} (h : wpC M A m (fun a s' => wpC M A (f a) Q s') s) : wpC M A (m >>= f) Q s := fun Γ p hΓ hC => by
  rw [Sem.wp_bind']
  exact Sem.wp_mono M Γ m (fun a p' s' h' => h' Γ p' hΓ hC) (fun _ _ _ q => q) p s (h Γ p hΓ hC)
theorem wpC_pure {a : α} {Q : α → Shared → Prop} (h : Q a s) : wpC M A (pure a) Q s := fun _ _ _ _ => h
theorem wpC_standAt {pos : Pos} {Q : Unit → Shared → Prop} (h : Q () s) : wpC M A (standAt pos) Q s := .of (wpAny_standAt h)
theorem wpC_rule {tag : String} {Q : Unit → Shared → Prop} (h : Q () s) : wpC M A (rule tag) Q s := .of (wpAny_rule h)
theorem wpC_holding {vs : List Value} {m : Sem α} {Q : α → Shared → Prop} (h : wpC M A m Q s) : wpC M A (holding vs m) Q s := fun Γ p hΓ hC => by
  rw [Sem.wp_holding]; exact h Γ p hΓ hC
theorem wpC_operate {vs : List Value} {m : Sem Value} {Q : Value → Shared → Prop} (h : wpC M A m Q s) : wpC M A (operate vs m) Q s := fun Γ p hΓ hC => by
  rw [Sem.wp_operate]; exact h Γ p hΓ hC
theorem wpC_of_eq {m : Sem α} {a : α} {Q : α → Shared → Prop} (e : m = pure a) (h : Q a s) : wpC M A m Q s := by subst e; exact wpC_pure h
theorem wpC_onRaise {m : Sem α} {f : Value → Sem Unit} {Q : α → Shared → Prop} (h : wpC M A m Q s) : wpC M A (m.onRaise f) Q s := fun Γ p hΓ hC => by
  rw [Sem.wp_onRaise]
  exact Sem.wp_mono M Γ m (fun _ _ _ h' => h') (fun _ _ _ h' => h'.elim) p s (h Γ p hΓ hC)
theorem CIn.enter {Γ : Ctx} (h : CIn Γ) (k : Code) (x : Option Value) (p : Pos) : CBel (Γ.enter k x p) := fun e he => by
  rcases List.mem_cons.mp he with rfl | he
  · exact h.1
  · exact h.2 e he
theorem wpC_run {Q : Flow → Shared → Prop} (h : codeC M A k (fun r s' => match r with | .ok f => Q f s' | .error _ => False) s) : wpC M A (run k) Q s := fun Γ p hΓ hC => by
  rw [Sem.wp_run]
  refine wpCode_mono (fun r s' hr => ?_) (h (Γ.enter k none p) p rfl (hΓ.enter k none p (by intro q; cases q)) (hC.enter k none p))
  cases r with
  | ok f => exact hr
  | error e => exact hr
theorem wpC_runOwn {Q : Flow → Shared → Prop} (h : codeC M A k (fun r s' => match r with | .ok f => Q f s' | .error _ => False) s) : wpC M A (runOwn k env) Q s := by
  unfold runOwn; exact wpC_onRaise (wpC_run h)
theorem wpC_runValue {Q : Value → Shared → Prop} (h : codeC M A k (fun r s' => match r with | .ok (.ret v) => Q v s' | _ => False) s) : wpC M A (runValue k) Q s := fun Γ p hΓ hC => by
  rw [Sem.wp_runValue]
  refine wpCode_mono (fun r s' hr => ?_) (h (Γ.enter k none p) p rfl (hΓ.enter k none p (by intro q; cases q)) (hC.enter k none p))
  cases r with
  | ok f => cases f <;> exact hr
  | error e => exact hr.elim
theorem wpC_call {f : Value} {args : List Value} {Q : Value → Shared → Prop} (h : codeC M A (.call f ⟨args, []⟩) (fun r s' => match r with | .ok (.ret v) => Q v s' | _ => False) s) : wpC M A (call f args) Q s := wpC_runValue h
theorem codeC_mono {R' : Result → Shared → Prop} (h : codeC M A k R s) (hr : ∀ r s', R r s' → R' r s') : codeC M A k R' s := fun Γ p a b d => wpCode_mono hr (h Γ p a b d)
theorem codeC_of_tree (ok : okC k = true) (h : wpC M (A.under k) (M.den k) (fun fin s' => match fin with | .done f => R (.ok f) s' | .again k' => k'.quiet = true ∧ codeC M A k' R s') s) : codeC M A k R s := fun Γ p hk hΓ hB => by
  rw [wpCode_iff_wp, hk]
  refine Sem.wp_mono M Γ _ (fun fin p' s' h' => ?_) (fun _ _ _ h' => h'.elim) p s (h Γ p (hk ▸ hΓ.in) ⟨hk ▸ ok, hB⟩)
  cases fin with
  | done f => exact h'
  | again c' => exact ⟨h'.1, h'.2 (Γ.goto c') p' rfl (hΓ.goto c') hB⟩
theorem codeC_loop (ok : okC k = true) (hq : k.quiet = true) (I : Nat → Shared → Prop)
    (turn : ∀ n s, I n s → wpC M (A.under k) (M.den k) (fun fin s' => match fin with | .done f => R (.ok f) s' | .again k' => (k' = k ∧ ∃ m, m < n ∧ I m s') ∨ (k'.quiet = true ∧ codeC M A k' R s')) s)
    (n : Nat) (h : I n s) : codeC M A k R s := by
  induction n using Nat.strongRecOn generalizing s with
  | ind n ih =>
    refine codeC_of_tree ok (wpC_mono (turn n s h) fun fin s' hf => ?_)
    cases fin with
    | done f => exact hf
    | again k' =>
      rcases hf with ⟨rfl, m, hm, hI⟩ | hf
      · exact ⟨hq, ih m hm hI⟩
      · exact hf
end
section
variable {prog : Program} {w : World} {R : Result → Shared → Prop}
/-- a def's call, up to its body -/
theorem codeC_call_cells {a : Addr} {o : Obj} {fd : FuncData} {body : List Stmt} {vals : List Value} {binds : List (Str × Value)}
    (hroom : A.depth < recursionLimit) (ho : s.heap.get? a = some o) (hdata : o.data = .func fd) (hlim : s.heap.NoLimit) (hcd : s.heap.CodeRec fd.code fd.qualname)
    (hbody : fd.body = .stmts body) (hbind : bindArgs fd ⟨vals, []⟩ = pure binds) (hclo : fd.closure = [])
    (hkind : ∀ x ∈ binds, fd.scope.names.lookup x.1 = some .local ∨ (fd.scope.names.lookup x.1 = some .cell ∧ ((cellsFrom (s.heap.objs.size + 1) fd.scope.names []).lookup x.1).isSome = true))
    (h : ∀ s₁, InCallC s (callEnvC fd s.heap.objs.size a).locals (bindL (callEnvC fd s.heap.objs.size a).kindOf binds fun _ => none) (callEnvC fd s.heap.objs.size a).cells
        (bindC (callEnvC fd s.heap.objs.size a).kindOf binds fun _ => none) s₁ →
      wpC (model prog w) (A.deeper (callEnvC fd s.heap.objs.size a)) (execs body (callEnvC fd s.heap.objs.size a)) (fun f s' => R (.ok (.ret (match f with | .ret v => v | _ => .none))) s') s₁)
    (hco : fd.scope.isCoroutine = false) (hgen : fd.scope.isGenerator = false) (hk : fd.scope.kind = .function) :
    codeC (model prog w) A (.call (.ref a) ⟨vals, []⟩) R s := by
  refine codeC_of_tree rfl ?_
  show wpC _ A.in1 (callAny (.ref a) _) _ _
  have key : wpAny (model prog w) A.in1 (callAny (.ref a) ⟨vals, []⟩) (fun fin s₁ => fin = .again (.func body (callEnvC fd s.heap.objs.size a)) ∧ InCallC s (callEnvC fd s.heap.objs.size a).locals (bindL (callEnvC fd s.heap.objs.size a).kindOf binds fun _ => none) (callEnvC fd s.heap.objs.size a).cells
        (bindC (callEnvC fd s.heap.objs.size a).kindOf binds fun _ => none) s₁) Bot s := by
    simp only [callAny]
    refine wpAny_bind (wpAny_load ho ?_)
    obtain ⟨b, ob, vs, tq, hb, hob, hdb, hq⟩ := hcd
    simp only [hdata, callFunction, hco, hgen, hbody, hb]
    refine wpAny_bind (m := field (.ref b) 1) (wpAny_field hob hdb hq (wpAny_bind (wpAny_pure ?_)))
    rw [hbind, hclo]
    refine wpAny_bind (wpAny_pure (wpAny_bind (wpAny_newFunctionEnv_cells hk hkind fun env he s' x => ?_)))
    have hl : s'.heap.NoLimit := hlim.keeps x.toInCall.keep
    refine wpAny_bind (wpAny_enterFrame hl hroom ?_)
    subst he
    refine wpAny_pure ⟨?_, ?_⟩
    · unfold callEnvC; rw [hb]
    · unfold callEnvC; rw [hb]; exact x
  refine wpC_mono (.of key) fun fin s₁ p => ?_
  obtain ⟨rfl, x⟩ := p
  refine ⟨rfl, codeC_of_tree rfl ?_⟩
  show wpC _ (A.deeper _) (do point; match ← (execs body _).onRaise (leaving _) with | .ret v => ret v | _ => ret .none) _ _
  refine wpC_bind (.of (wpAny_point (wpC_bind (wpC_onRaise (wpC_mono (h s₁ x) fun f s' h' => ?_)))))
  cases f <;> exact wpC_pure h'
end
end Mine
end
section
open PySem PySem.Calls PyProof.Rows PySem.W PySem.SeqAt
set_option linter.unusedVariables false
namespace Mine
variable {c : Cx} {n : Nat} {sc : Scope} {ρ : List (Str × MV)} {σ : MS} {A : Around} {env : Env} {s : Shared} {pos : Pos} {x : Str}

theorem wpC_keep {α : Type} {M : Model} {vs : List Value} {m : Sem α} {Q : α → Shared → Prop} (h : wpC M A m Q s) : wpC M A (Sem.keep vs m) Q s := fun Γ p hΓ hC => by
  rw [Sem.wp_keep]; exact h Γ p hΓ hC
/-! ## the judgements, for such stacks -/
def CX {α β : Type} (c : Cx) (n : Nat) (sc : Scope) (ρ : List (Str × MV)) (σ : MS) (R : Heap → α → β → Prop) (t : Env → Sem α) (Q : β → MS → Prop) : Prop :=
  ∀ A env s, Room A n → EnvOk sc env → FrameOk c env ρ σ s.heap → Rel c σ s.heap → wpC c.M A (t env) (Post c NoX σ s R Q) s
def CE (c : Cx) (n : Nat) (sc : Scope) (ρ : List (Str × MV)) (σ : MS) (e : Expr) (Q : MV → MS → Prop) : Prop := CX c n sc ρ σ VRel (fun env => eval e env) Q
def CT (c : Cx) (n : Nat) (sc : Scope) (ρ : List (Str × MV)) (σ : MS) (e : Expr) (Q : Bool → MS → Prop) : Prop := CX c n sc ρ σ BRel (fun env => isTrue e env (eval e env)) Q
def CL (c : Cx) (n : Nat) (sc : Scope) (ρ : List (Str × MV)) (σ : MS) (pos : Pos) (es : List Expr) (Q : List MV → MS → Prop) : Prop :=
  CX c n sc ρ σ (fun h vs us => F2 (VRel h) vs us) (fun env => spliced (backTo pos (starEach es env))) Q
def CC (c : Cx) (n : Nat) (f : Str) (xs : List MV) (σ : MS) (Q : MV → MS → Prop) : Prop :=
  ∀ A s vs a, c.mg f = some (.ref a) → Room A n → Rel c σ s.heap → F2 (VRel s.heap) vs xs → wpC c.M A (call (.ref a) vs) (Post c NoX σ s VRel Q) s
def CS (c : Cx) (n : Nat) (sc : Scope) (ρ : List (Str × MV)) (σ : MS) (st : List Stmt) (Q : MF → List (Str × MV) → MS → Prop) : Prop :=
  ∀ A env s, Room A n → EnvOk sc env → FrameOk c env ρ σ s.heap → Rel c σ s.heap → wpC c.M A (execs st env) (PostS c env σ s Q) s
def C1S (c : Cx) (n : Nat) (sc : Scope) (ρ : List (Str × MV)) (σ : MS) (st : Stmt) (Q : MF → List (Str × MV) → MS → Prop) : Prop :=
  ∀ A env s, Room A n → EnvOk sc env → FrameOk c env ρ σ s.heap → Rel c σ s.heap → wpC c.M A (exec st env) (PostS c env σ s Q) s
theorem CX.of {α β : Type} {R : Heap → α → β → Prop} {t : Env → Sem α} {Q : β → MS → Prop} (w : WX c n sc ρ σ R t Q) : CX c n sc ρ σ R t Q := fun A env s a b d e => .of (w A env s a b d e)
theorem CE.of {e : Expr} {Q : MV → MS → Prop} (w : WE c n sc ρ σ e Q) : CE c n sc ρ σ e Q := CX.of w
theorem CT.of {e : Expr} {Q : Bool → MS → Prop} (w : WB c n sc ρ σ e Q) : CT c n sc ρ σ e Q := CX.of w
theorem CL.of {es : List Expr} {Q : List MV → MS → Prop} (w : WL c n sc ρ σ pos es Q) : CL c n sc ρ σ pos es Q := CX.of w
theorem CS.of {st : List Stmt} {Q : MF → List (Str × MV) → MS → Prop} (w : WS c n sc ρ σ st Q) : CS c n sc ρ σ st Q := fun A env s a b d e => .of (w A env s a b d e)
theorem C1S.of {st : Stmt} {Q : MF → List (Str × MV) → MS → Prop} (w : W1S c n sc ρ σ st Q) : C1S c n sc ρ σ st Q := fun A env s a b d e => .of (w A env s a b d e)
theorem CC.of {f : Str} {xs : List MV} {Q : MV → MS → Prop} (w : WC c n f xs σ Q) : CC c n f xs σ Q := fun A s vs a h b d e => .of (w A s vs a h b d e)
theorem CX.use {α β : Type} {R : Heap → α → β → Prop} {t : Env → Sem α} {Q : β → MS → Prop} (w : CX c n sc ρ σ R t Q) {Q' : α → Shared → Prop}
    (hr : Room A n) (he : EnvOk sc env) (hf : FrameOk c env ρ σ s.heap) (hR : Rel c σ s.heap)
    (h : ∀ v s' u σ', R s'.heap v u → StepOk c NoX σ σ' s s' → FrameOk c env ρ σ' s'.heap → Q u σ' → Q' v s') : wpC c.M A (t env) Q' s :=
  wpC_mono (w A env s hr he hf hR) (fun v s' ⟨u, σ', r, st, q⟩ => h v s' u σ' r st (hf.go hR st.go) q)
theorem CC_mono {f : Str} {us : List MV} {Q Q' : MV → MS → Prop} (h : CC c n f us σ Q) (hq : ∀ v σ', Q v σ' → Q' v σ') : CC c n f us σ Q' := fun A s vs a ha hr hR hv =>
  wpC_mono (h A s vs a ha hr hR hv) (fun f s' ⟨u, σ', r, st', q⟩ => ⟨u, σ', r, st', hq _ _ q⟩)
theorem CE_mono {e : Expr} {Q Q' : MV → MS → Prop} (h : CE c n sc ρ σ e Q) (hq : ∀ v σ', Q v σ' → Q' v σ') : CE c n sc ρ σ e Q' := fun A env s hr he hf hR =>
  wpC_mono (h A env s hr he hf hR) (fun f s' ⟨u, σ', r, st', q⟩ => ⟨u, σ', r, st', hq _ _ q⟩)

theorem CL_nil {Q : List MV → MS → Prop} (h : Q [] σ) : CL c n sc ρ σ pos [] Q := .of (WL_nil h)
theorem CL_cons {e : Expr} {rest : List Expr} {Q : List MV → MS → Prop} (hs : ∀ env : Env, starEach (e :: rest) env = (false, eval e env) :: starEach rest env)
    (h : CE c n sc ρ σ e fun v σ1 => CL c n sc ρ σ1 pos rest fun vs σ2 => Q (v :: vs) σ2) : CL c n sc ρ σ pos (e :: rest) Q := fun A env s hr he hf hR => by
  show wpC _ _ (spliced (backTo pos (starEach (e :: rest) env))) _ _
  rw [hs]
  show wpC c.M A (do
    let v ← eval e env
    let here ← (pure [v] : Sem (List Value))
    return here ++ (← holding here (spliced (backTo pos (starEach rest env))))) _ s
  refine wpC_bind (h.use hr he hf hR fun v s₁ u σ1 r1 st1 hf1 h1 => wpC_bind (wpC_pure (wpC_bind (wpC_holding (h1.use hr he hf1 st1.rel fun vs s₂ us σ2 r2 st2 hf2 h2 => wpC_pure ?_)))))
  exact ((Post.here (X := NoX) st2.rel (.cons (VRel.step (X := NoX) r1 st1.rel st2) r2) h2).seq st2).seq st1
theorem CE_call {f : Str} {fp : Pos} {e : Expr} {rest : List Expr} {params : Arguments} {body : List Stmt} {scope : Scope} {Q : MV → MS → Prop} (G : Gd c) (hx : okGlob sc f = true) (F : FnAt c f params body scope)
    (hs : ∀ env : Env, starEach (e :: rest) env = (false, eval e env) :: starEach rest env) (h : CL c n sc ρ σ pos (e :: rest) fun us σ1 => CC c n f us σ1 Q) : CE c n sc ρ σ (.Call (.Name f fp) (e :: rest) [] pos) Q := fun A env s hr he hf hR => by
  obtain ⟨a, o, pm, code, doc, hv, ho, hd, _⟩ := F
  show wpC _ _ (eval (.Call (.Name f fp) (e :: rest) [] pos) env) _ _
  rw [arm_eval_Call_Name']
  refine wpC_bind (.of (load_glob G he hR hx hv ?_))
  show wpC c.M A (callWith pos (.ref a) [] (backTo pos (starEach (e :: rest) env)) []) _ _
  unfold callWith
  have key : wpC c.M A (spliced (backTo pos (starEach (e :: rest) env))) (fun vs s' => (s'.heap.get? a = some o ∧ o.data = .func (docDef f params body scope pm code doc)) ∧ wpC c.M A (call (.ref a) ([] ++ vs) []) (Post c NoX σ s VRel Q) s') s :=
    CX.use h hr he hf hR fun vs s₁ us σ1 r1 st1 hf1 h1 => ⟨⟨st1.rel.base _ _ ho, hd⟩, wpC_mono (h1 A s₁ vs a hv hr st1.rel r1) (fun v s' p => p.seq st1)⟩
  have args : wpC c.M A (evalArgs (.ref a) true (backTo pos (starEach (e :: rest) env)) []) (fun x s' => (s'.heap.get? a = some o ∧ o.data = .func (docDef f params body scope pm code doc)) ∧ wpC c.M A (call (.ref a) ([] ++ x.pos) x.kw) (Post c NoX σ s VRel Q) s') s := by
    rw [hs] at key ⊢
    unfold evalArgs
    show wpC c.M A (spliced ((false, eval e env) :: backTo pos (starEach rest env)) >>= _) _ s
    refine wpC_bind (wpC_mono key (fun vs s' h' => wpC_holding ?_))
    exact wpC_bind (wpC_pure (wpC_bind (wpC_pure (wpC_pure h'))))
  refine wpC_bind (wpC_holding (wpC_mono args (fun z s₁ h₁ => wpC_bind (wpC_standAt ?_))))
  obtain ⟨⟨g1, g2⟩, g3⟩ := h₁
  have tail : ∀ {t : Sem Value}, wpC c.M A t (Post c NoX σ s VRel Q) s₁ → wpC c.M A (t >>= fun r => holding [r] point >>= fun _ => pure r) (Post c NoX σ s VRel Q) s₁ :=
    fun ht => wpC_bind (wpC_mono ht (fun r s₂ hr => wpC_bind (wpC_holding (.of (wpAny_point (wpC_pure hr))))))
  have marked : ∀ m, wpC c.M A (callMarked m (.ref a) ([] ++ z.pos) z.kw) (Post c NoX σ s VRel Q) s₁ := fun m => by
    unfold callMarked; exact wpC_keep g3
  cases hs : (backTo pos (starEach (e :: rest) env)).any (·.1) <;> simp only [List.any_nil, Bool.or_false] <;>
    refine wpC_bind (m := keeperOf (.ref a)) ?_ <;> unfold keeperOf <;> refine wpC_bind (.of (wpAny_load g1 ?_)) <;> rw [g2] <;> refine wpC_pure ?_
  all_goals
    repeat' split
    all_goals first | exact tail g3 | exact tail (marked _) | exact tail (wpC_operate g3)
theorem CE_built {b : Str} {bp : Pos} {id : String} {e : Expr} {rest : List Expr} {Q : MV → MS → Prop} (G : Gd c) (hx : okGlob sc b = true) (B : Bt c b (.builtin id))
    (hs : ∀ env : Env, starEach (e :: rest) env = (false, eval e env) :: starEach rest env ∧ (starEach rest env).any (·.1) = false) (h : CL c n sc ρ σ pos (e :: rest) fun us σ1 => WBt c n σ1 us (.builtin id) Q) : CE c n sc ρ σ (.Call (.Name b bp) (e :: rest) [] pos) Q := fun A env s hr he hf hR => by
  show wpC _ _ (eval (.Call (.Name b bp) (e :: rest) [] pos) env) _ _
  rw [arm_eval_Call_Name']
  refine wpC_bind (.of (load_built G he hR hx B.1 B.2 ?_))
  show wpC c.M A (callWith pos (.builtin id) [] (backTo pos (starEach (e :: rest) env)) []) _ _
  have ha : (backTo pos (starEach (e :: rest) env)).any (·.1) = false := by
    unfold backTo; rw [List.any_map, (hs env).1, List.any_cons]; exact (hs env).2
  have key : wpC c.M A (spliced (backTo pos (starEach (e :: rest) env))) (fun vs s' => wpC c.M A (call (.builtin id) ([] ++ vs) []) (Post c NoX σ s VRel Q) s') s :=
    CX.use h hr he hf hR fun vs s₁ us σ1 r1 st1 hf1 h1 => wpC_mono (.of (h1 A s₁ vs hr st1.rel r1)) (fun v s' p => p.seq st1)
  have args : wpC c.M A (evalArgs (.builtin id) true (backTo pos (starEach (e :: rest) env)) []) (fun x s' => wpC c.M A (call (.builtin id) ([] ++ x.pos) x.kw) (Post c NoX σ s VRel Q) s') s := by
    rw [(hs env).1] at key ⊢
    unfold evalArgs
    show wpC c.M A (spliced ((false, eval e env) :: backTo pos (starEach rest env)) >>= _) _ s
    refine wpC_bind (wpC_mono key (fun vs s' h' => wpC_holding ?_))
    exact wpC_bind (wpC_pure (wpC_bind (wpC_pure (wpC_pure h'))))
  unfold callWith
  refine wpC_bind (wpC_holding (wpC_mono args (fun z s₁ h₁ => wpC_bind (wpC_standAt ?_))))
  simp only [ha, List.any_nil, Bool.or_false]
  refine wpC_bind (wpC_pure ?_)
  exact wpC_bind (wpC_mono h₁ (fun r s₂ hr => wpC_bind (wpC_holding (.of (wpAny_point (wpC_pure hr))))))
theorem c_two {l r : Expr} {op : Pos} {α β : Type} {R : Heap → α → β → Prop} {f : Value → Value → Sem α} {Q : β → MS → Prop} (h : CE c n sc ρ σ l fun a σ1 => CE c n sc ρ σ1 r fun b σ2 => WO c n σ2 [a, b] R (t2 f) Q)
    (hr : Room A n) (he : EnvOk sc env) (hf : FrameOk c env ρ σ s.heap) (hR : Rel c σ s.heap) {g : Sem Value → Sem Value} (hg : g (eval r env) = eval r env) {k : Value → Value → Sem α} (hk : ∀ a b P s', wpC c.M A (f a b) P s' → wpC c.M A (k a b) P s') :
    wpC c.M A (do let a ← eval l env; let b ← holding [a] (g (eval r env)); standAt op; k a b) (Post c NoX σ s R Q) s := by
  rw [hg]
  exact wpC_bind (h.use hr he hf hR fun a s₁ u σ1 r1 st1 hf1 h1 => wpC_bind (wpC_holding (h1.use hr he hf1 st1.rel fun b s₂ v σ2 r2 st2 hf2 h2 => wpC_bind (wpC_standAt (hk _ _ _ _
    (.of (h2.use (vs := [a, b]) hr st2.rel (.cons (VRel.step (X := NoX) r1 st1.rel st2) (.cons r2 .nil)) fun w s₃ p => (p.seq st2).seq st1)))))))
theorem CE_binop {l r : Expr} {op : Operator} {Q : MV → MS → Prop} (h : CE c n sc ρ σ l fun a σ1 => CE c n sc ρ σ1 r fun b σ2 => W2 c n σ2 a b (binaryOp op) Q) : CE c n sc ρ σ (.BinOp l op r pos) Q := fun A env s hr he hf hR => by
  show wpC _ _ (eval (.BinOp l op r pos) env) _ _
  rw [eval_BinOp]
  exact c_two h hr he hf hR (g := id) rfl fun a b P s' x => wpC_operate x
theorem CE_cmp {l r : Expr} {op : CmpOp} {Q : MV → MS → Prop} (hm : behindInMarks op r = false) (h : CE c n sc ρ σ l fun a σ1 => CE c n sc ρ σ1 r fun b σ2 => W2 c n σ2 a b (compareOp op) Q) : CE c n sc ρ σ (.Compare l [op] [r] pos) Q := fun A env s hr he hf hR => by
  show wpC _ _ (eval (.Compare l [op] [r] pos) env) _ _
  rw [eval_Compare1]
  exact c_two h hr he hf hR (markedBehindIn_of_false hm) fun a b P s' x => wpC_operate x
theorem CT_not {e : Expr} {Q : Bool → MS → Prop} (h : CT c n sc ρ σ e fun b σ' => Q (!b) σ') : CT c n sc ρ σ (.UnaryOp .Not e pos) Q := fun A env s hr he hf hR => by
  show wpC _ _ (isTrue (.UnaryOp .Not e pos) env _) _ _
  rw [arm_isTrue_UnaryOp]
  exact wpC_bind (CX.use h hr he hf hR fun b s₁ u σ1 r1 st1 hf1 h1 => wpC_pure ⟨!u, σ1, congrArg (fun z => !z) (show b = u from r1), st1, h1⟩)
theorem CT_value {e : Expr} {Q : Bool → MS → Prop} (hv : ∀ env : Env, ∀ whole, isTrue e env whole = (do let v ← whole; standAt e.pos; holding [v] (truthy v))) (h : CE c n sc ρ σ e fun v σ' => WT c n σ' v Q) : CT c n sc ρ σ e Q := fun A env s hr he hf hR => by
  show wpC _ _ (isTrue e env (eval e env)) _ _
  rw [hv]
  exact wpC_bind (CX.use h hr he hf hR fun a s₁ u σ1 r1 st1 hf1 h1 => wpC_bind (wpC_standAt (wpC_holding (.of (WO.use h1 (vs := [a]) hr st1.rel (.cons r1 .nil) fun w s₂ p => p.seq st1)))))
/-! ## statements -/
def seqC (c : Cx) (n : Nat) (sc : Scope) (rest : List Stmt) (Q : MF → List (Str × MV) → MS → Prop) : MF → List (Str × MV) → MS → Prop
  | .next, ρ, σ => CS c n sc ρ σ rest Q
  | f, ρ, σ => Q f ρ σ
theorem CS_nil {Q : MF → List (Str × MV) → MS → Prop} (h : Q .next ρ σ) : CS c n sc ρ σ [] Q := .of (WS_nil h)
theorem CS_cons {st : Stmt} {rest : List Stmt} {Q : MF → List (Str × MV) → MS → Prop} (h : C1S c n sc ρ σ st (seqC c n sc rest Q)) : CS c n sc ρ σ (st :: rest) Q := fun A env s hr he hf hR => by
  rw [execs_cons]
  refine wpC_bind (wpC_mono (h A env s hr he hf hR) (fun f s₁ p => ?_))
  obtain ⟨f', ρ', σ', r, hf', st', q⟩ := p
  cases f' with
  | next => cases f <;> first | exact r.elim | exact wpC_mono (q A env s₁ hr he hf' st'.rel) (fun f s' p => p.seq hf st' hf')
  | brk => cases f <;> first | exact r.elim | exact wpC_pure ⟨.brk, ρ', σ', r, hf', st', q⟩
  | cont => cases f <;> first | exact r.elim | exact wpC_pure ⟨.cont, ρ', σ', r, hf', st', q⟩
  | ret v => cases f <;> first | exact r.elim | exact wpC_pure ⟨.ret v, ρ', σ', r, hf', st', q⟩
theorem C_return {e : Expr} {Q : MF → List (Str × MV) → MS → Prop} (h : CE c n sc ρ σ e fun v σ1 => Q (.ret v) ρ σ1) : C1S c n sc ρ σ (.Return (some e) pos) Q := fun A env s hr he hf hR => by
  rw [exec_Return_some]
  exact wpC_bind (wpC_standAt (wpC_bind (CX.use h hr he hf hR fun v s₁ u σ1 r1 st1 hf1 h1 => wpC_pure ⟨.ret u, ρ, σ1, r1, hf1, st1.toX, h1⟩)))
theorem C_if {t : Expr} {a b : List Stmt} {Q : MF → List (Str × MV) → MS → Prop} (h : CT c n sc ρ σ t fun v σ1 => (v = true → CS c n sc ρ σ1 a Q) ∧ (v = false → CS c n sc ρ σ1 b Q)) : C1S c n sc ρ σ (.If t a b pos) Q := fun A env s hr he hf hR => by
  rw [exec_If]
  refine wpC_bind (wpC_standAt (wpC_bind (CX.use h hr he hf hR fun v s₁ u σ1 r1 st1 hf1 h1 => ?_)))
  obtain rfl : v = u := r1
  cases v with
  | true => exact wpC_mono (h1.1 rfl A env s₁ hr he hf1 st1.rel) (fun f s' p => p.of hf st1 hf1)
  | false => exact wpC_mono (h1.2 rfl A env s₁ hr he hf1 st1.rel) (fun f s' p => p.of hf st1 hf1)
theorem C_assign {t e : Expr} {Q : MF → List (Str × MV) → MS → Prop} (hs : ∀ env : Env, env.scope = sc → swapsWithSole [t] e pos.line env = pure false) (hw : ∀ env : Env, env.scope = sc → swappedStores [t] e env = pure none)
    (ht : ∀ env : Env, (assignEach [t] env).map (·.2) = [assign t env]) (h : CE c n sc ρ σ e fun v σ1 => WA c n sc ρ σ1 t v fun ρ' σ' => Q .next ρ' σ') : C1S c n sc ρ σ (.Assign [t] e pos) Q := fun A env s hr he hf hR => by
  rw [exec_Assign_arm]
  refine wpC_bind (wpC_standAt ?_)
  rw [hs env he.scope]
  refine wpC_bind (wpC_pure ?_)
  rw [if_neg (by decide)]
  refine wpC_bind (CX.use h hr he hf hR fun v s₁ u σ1 r1 st1 hf1 h1 => ?_)
  rw [hw env he.scope]
  refine wpC_bind (wpC_pure ?_)
  rw [ht]
  show wpC c.M A (do assignAll v [assign t env]; pure Flow.next) _ s₁
  refine wpC_bind (.of (wpAny_mono (h1 A env s₁ v hr he hf1 st1.rel r1) (fun _ s₂ p => wpC_pure ?_) fun _ _ e => e))
  obtain ⟨ρ', σ', hf', st', q⟩ := p
  exact ⟨.next, ρ', σ', trivial, hf', st1.toX.transX hf st' hf1, q⟩
theorem C_for {t it : Expr} {body : List Stmt} {Q : MF → List (Str × MV) → MS → Prop} (hfold : ∀ env : Env, ∀ x, foldedSetIterable it env x = pure x)
    (h : WE c n sc ρ σ it fun u σ1 => ∃ (xs : List MV) (Inv : Nat → List (Str × MV) → MS → Prop), Inv 0 ρ σ1 ∧ (∀ i ρ' σ', Inv i ρ' σ' → Items σ' u xs) ∧
      (∀ i y ρ' σ', xs[i]? = some y → Inv i ρ' σ' → WA c n sc ρ' σ' t y fun ρ2 σ2 => CS c n sc ρ2 σ2 body fun f ρ3 σ3 => match f with
        | .next => Inv (i + 1) ρ3 σ3 | .cont => Inv (i + 1) ρ3 σ3 | .brk => Q .next ρ3 σ3 | .ret v => Q (.ret v) ρ3 σ3) ∧
      (∀ ρ' σ', Inv xs.length ρ' σ' → Q .next ρ' σ')) : C1S c n sc ρ σ (.For t it body [] pos) Q := fun A env s hr he hf hR => by
  rw [exec_For]
  refine wpC_bind (wpC_standAt (wpC_bind (.of (h.use hr he hf hR fun v s₁ u σ1 r1 st1 hf1 h1 => wpC_bind (wpC_of_eq (hfold env v) (wpC_bind (wpC_standAt (wpC_bind (wpC_holding ?_)))))))))
  obtain ⟨xs, Inv, h0, hI, hturn, hend⟩ := h1
  refine .of (it_start st1.rel r1 (hI 0 _ _ h0) fun h' hit kp => wpC_runOwn ?_)
  have k0 : ∀ a, a = s₁.heap.objs.size → s₁.heap.get? a = none := fun a e => by subst e; exact size0 _
  generalize hIa : s₁.heap.objs.size = a at hit
  have ka := k0 a hIa.symm
  have aFr : ¬ FrX env a := fun q => by
    rcases q with q | ⟨y, q⟩
    · obtain ⟨o, e⟩ := hf1.locAt; rw [← q, ka] at e; cases e
    · obtain ⟨⟨_, o, e, _⟩, _⟩ := hf1.cells y a q; rw [ka] at e; cases e
  have a0 : c.h₀.get? a = none := st1.rel.freeBase ka
  have stb : StepOk c NoX σ1 σ1 s₁ { s₁ with heap := h' } := StepOk.keeps (t := s₁.toks) st1.rel kp
  refine codeC_loop rfl rfl (fun k s' => ∃ i ρ' σ', k = xs.length - i ∧ i ≤ xs.length ∧ FrameOk c env ρ' σ' s'.heap ∧ StepOk c (FrX env) σ1 σ' s₁ s' ∧ ItAt s'.heap a u i ∧ σ' a = none ∧ Inv i ρ' σ') ?_ xs.length
    ⟨0, ρ, σ1, rfl, Nat.zero_le _, hf1.go st1.rel stb.go, stb.toX, hit, st1.rel.notk ka, h0⟩
  rintro k s' ⟨i, ρ', σ', rfl, hi, hf', st', hit', ha', hInv⟩
  have ext : ∀ {h2 : Heap} {tk : Nat}, Heap.ExtBut a s'.heap h2 → TKeep s'.heap h2 ∧ Rel c σ' h2 ∧ FrameOk c env ρ' σ' h2 ∧ StepOk c (FrX env) σ1 σ' s₁ { s' with heap := h2, toks := tk } := fun {h2 tk} e => by
    have tk2 : TKeep s'.heap h2 := fun b o g t => e b o (fun q => by subst q; exact hit'.notT o g t) g
    have R2 := st'.rel.ext e ha' a0 tk2
    refine ⟨tk2, R2, hf'.goX (X := fun b => b = a) tk2 (fun b hb q => aFr (q ▸ hb)) ⟨fun b o _ hb g => e b o hb g, fun _ _ g _ => g, fun _ g => g⟩, R2, ⟨fun b o g hb g' => e b o (fun q => by rw [q, ka] at g'; cases g') (st'.go.keep b o g hb g'), st'.go.new, st'.go.dom⟩, st'.gens, st'.os⟩
  show wpC _ A ((forTurn t (.ref a) body [] env).onRaise (fun x => do noteFrame x env; theTreesLotGoes x)) _ _
  refine wpC_onRaise ?_
  simp only [forTurn]
  refine wpC_bind (wpC_standAt (wpC_bind (wpC_onRaise ?_)))
  by_cases hlt : i < xs.length
  · have hy : xs[i]? = some xs[i] := by simp [hlt]
    refine .of (it_item (E := Bot) st'.rel (hI i _ _ hInv) ha' hit' hy fun v h2 tk rv hit2 e => ?_)
    obtain ⟨tk2, R2, hf2, st2⟩ := ext (tk := tk) e
    refine wpC_bind (.of (letOwned hit2 (wpC_bind (.of (wpAny_mono (hturn i _ _ _ hy hInv A env _ v hr he hf2 R2 rv) (fun _ s₃ p => ?_) fun _ _ f => f)))))
    obtain ⟨ρ3, σ3, hf3, st3, hb⟩ := p
    have ha3 : σ3 a = none := by obtain ⟨o, _, _, g, _⟩ := hit2.obj; exact st3.go.new a o ha' g
    have hit3 : ItAt s₃.heap a u (i + 1) := hit2.keep (GoX.tkeep R2 (fun b o hb e => hf2.notT b o hb e) st3.go) fun o g => st3.go.keep a o ha' aFr g
    refine wpC_bind (wpC_mono (hb A env s₃ hr he hf3 st3.rel) (fun f s₄ p => ?_))
    obtain ⟨f', ρ4, σ4, rf, hf4, st4, q⟩ := p
    have st24 := (st2.transX hf1 st3 hf2).transX hf1 st4 hf3
    have st04 : StepOk c (FrX env) σ σ4 s s₄ := st1.toX.transX hf st24 hf1
    have nxt : Inv (i + 1) ρ4 σ4 → ∃ m, m < xs.length - i ∧ ∃ i ρ' σ', m = xs.length - i ∧ i ≤ xs.length ∧ FrameOk c env ρ' σ' s₄.heap ∧ StepOk c (FrX env) σ1 σ' s₁ s₄ ∧ ItAt s₄.heap a u i ∧ σ' a = none ∧ Inv i ρ' σ' := fun q =>
      ⟨xs.length - (i + 1), by omega, i + 1, ρ4, σ4, rfl, hlt, hf4, st24, hit3.keep (st4.tkeepX hf3 st3.rel) fun o g => st4.go.keep a o ha3 aFr g, (by obtain ⟨o, _, _, g, _⟩ := hit3.obj; exact st4.go.new a o ha3 g), q⟩
    cases f' with
    | next => cases f <;> first | exact rf.elim | exact wpC_pure (.inl ⟨rfl, nxt q⟩)
    | cont => cases f <;> first | exact rf.elim | exact wpC_pure (.inl ⟨rfl, nxt q⟩)
    | brk => cases f <;> first | exact rf.elim | exact wpC_pure ⟨.next, ρ4, σ4, trivial, hf4, st04, q⟩
    | ret v => cases f <;> first | exact rf.elim | exact wpC_pure ⟨.ret v, ρ4, σ4, rf, hf4, st04, q⟩
  · have hi' : i = xs.length := by omega
    subst hi'
    refine .of (it_end (E := Bot) hr.1 st'.rel (hI _ _ _ hInv) hit' (by simp) fun h2 e => ?_)
    obtain ⟨tk2, R2, hf2, st2⟩ := ext (tk := s'.toks) e
    refine wpC_pure (.inr ⟨rfl, codeC_of_tree rfl ?_⟩)
    show wpC _ A (do return Fin.done (← (execs [] env).onRaise (fun x => do noteFrame x env; theTreesLotGoes x))) _ _
    exact wpC_bind (wpC_onRaise (.of (wpAny_execs_nil (wpC_pure ⟨.next, ρ', σ', trivial, hf2, st1.toX.transX hf st2 hf1, hend _ _ hInv⟩))))
/-- a def's call is its body -/
theorem CC_def {f : Str} {params : Arguments} {body : List Stmt} {scope : Scope} {ns : List Str} {us : List MV} {Q : MV → MS → Prop} (G : Gd c) (F : FnAt c f params body scope)
    (hb : ∀ pm code doc vs, vs.length = ns.length → bindArgs (docDef f params body scope pm code doc) ⟨vs, []⟩ = pure (ns.zip vs))
    (hn : ns.Nodup) (hk : (ns.all (okName scope)) = true) (hl : us.length = ns.length)
    (h : CS c n scope (ns.zip us) σ body fun fl _ σ' => match fl with | .ret v => Q v σ' | .next => Q .none σ' | _ => False)
    (hco : scope.isCoroutine = false) (hgen : scope.isGenerator = false) (hkf : scope.kind = .function) : CC c (n + 1) f us σ Q := fun A s vs a ha hr hR hv => by
  obtain ⟨a', o, pm, code, doc, hv', ho, hd, hcd⟩ := F
  rw [ha] at hv'; cases hv'
  have hvl : vs.length = ns.length := hv.length.trans hl
  refine wpC_call (codeC_call_cells hr.depth (hR.base _ _ ho) hd (G.nolimit.keeps hR.base) (hcd.keeps hR.base) rfl (hb pm code doc vs hvl) rfl (fun y hy => ?_) (fun s₁ I => ?_) hco hgen hkf)
  · exact call_kinds hk hvl y hy
  · obtain ⟨hf, R₁, he, out⟩ := call_frame (c := c) (fd := docDef f params body scope pm code doc) rfl rfl hR hv hvl hn hk hkf I
    refine wpC_mono (h _ _ s₁ (hr.call _) he hf R₁) (fun fl s' p => ?_)
    obtain ⟨f', ρ', σ', r, _, st, q⟩ := p
    have out := out σ' s' st
    cases f' with
    | next => cases fl <;> first | exact r.elim | exact ⟨_, σ', vNone, out, q⟩
    | ret v => cases fl <;> first | exact r.elim | exact ⟨_, σ', r, out, q⟩
    | brk => exact q.elim
    | cont => exact q.elim
end Mine
end
section
open PySem PySem.Calls PyProof.Rows PySem.W PySem.SeqAt
set_option linter.unusedVariables false
set_option maxRecDepth 100000
namespace Mine
variable {c : Cx} {n : Nat} {sc : Scope} {ρ : List (Str × MV)} {σ : MS} {A : Around} {env : Env} {s : Shared} {pos : Pos} {x : Str}

theorem ba_mro : mroOf (.type "bytearray") = pure [.type "bytearray", .type "object"] := by rw [mroOf_type]; kernel_rfl
theorem ba_new : typeLookup (.type "bytearray") "__new__" = pure (some (.builtin "bytearray.__new__")) := by rw [typeLookup_type, builtinLookup_eq_fast]; kernel_rfl
theorem ba_init : Slot "bytearray" "__init__" "bytearray.__init__" :=
  .of (owner := "bytearray") (n := "__init__") (by rw [typeLookup_type, builtinLookup_eq_fast]; kernel_rfl) (by decide +kernel) (by decide +kernel) (by decide +kernel)
    (by first | exact .inl (by decide +kernel) | exact .inr (by decide +kernel)) (by rw [isSubtype_type]; kernel_rfl)
theorem ba_sub : isSubtype (.type "bytearray") (.type "bytearray") = pure true := by rw [isSubtype_type]; kernel_rfl
theorem ba_called : TypeCalled "bytearray" "bytearray.__new__" "bytearray.__init__" :=
  ⟨by decide +kernel, by decide +kernel, ⟨_, _, ba_mro⟩, madeBy_type ba_mro ba_new (by decide +kernel), by decide +kernel, ba_sub, ba_init⟩
theorem ba_typeCall (a : Value) : checkTypeCall "bytearray" ⟨[a], []⟩ = pure () := by kernel_rfl
theorem ba_newCall (a : Value) : checkBuiltinCall "bytearray.__new__" ⟨[.type "bytearray", a], []⟩ = pure () := by kernel_rfl
theorem ba_entry_new : entryFor table "bytearray.__new__" = some Builtin.«list.__new__» := entryFor_alias (id' := "list.__new__") (by kernel_rfl) rfl (by decide +kernel) (by kernel_rfl)
theorem ba_plain_new : plainId "bytearray.__new__" = true := by decide +kernel
set_option maxRecDepth 1000000 in
set_option maxHeartbeats 4000000 in
theorem ba_owner : ("bytearray.__new__".splitOn ".__new__").headD "" = "bytearray" := by simp +decide [String.splitOn, String.splitOnAux]
theorem ba_entry_init : entryFor table "bytearray.__init__" = some Builtin.«bytearray.__init__» := by first | exact entryFor_of_fast (by kernel_rfl) | exact entryFor_of_tree (by kernel_rfl)
theorem ba_args_init (a b : Value) : argsOk "bytearray.__init__" ⟨[a, b], []⟩ := by unfold argsOk; kernel_rfl
theorem ba_release : typeLookup (.type "bytearray") "__release_buffer__" = pure (some (.builtin "bytearray.__release_buffer__")) := by rw [typeLookup_type, builtinLookup_eq_fast]; kernel_rfl
theorem ba_bind (v : Value) : Builtin.Bytes.bindOptional "bytearray.__init__" "bytearray" ["source", "encoding", "errors"] [v] [] = pure [some v, none, none] := by kernel_rfl

section
variable {prog : Program} {w : World} {α : Type}
theorem if_f {M : Model} {E : Value → Shared → Prop} {b : Bool} {t u : Sem α} {Q : α → Shared → Prop} (hb : b = false) (h : wpAny M A u Q E s) : wpAny M A (if b = true then t else u) Q E s := by subst hb; exact h
theorem if_t {M : Model} {E : Value → Shared → Prop} {b : Bool} {t u : Sem α} {Q : α → Shared → Prop} (hb : b = true) (h : wpAny M A t Q E s) : wpAny M A (if b = true then t else u) Q E s := by subst hb; exact h
theorem cif_f {M : Model} {b : Bool} {t u : Sem α} {Q : α → Shared → Prop} (hb : b = false) (h : wpC M A u Q s) : wpC M A (if b = true then t else u) Q s := by subst hb; exact h
theorem cif_t {M : Model} {b : Bool} {t u : Sem α} {Q : α → Shared → Prop} (hb : b = true) (h : wpC M A t Q s) : wpC M A (if b = true then t else u) Q s := by subst hb; exact h

theorem ba_code_new (a : Value) {E : Value → Shared → Prop} {Q₁ : Value → Shared → Prop}
    (h : Q₁ (.ref s.heap.objs.size) { s with heap := s.heap.push { cls := .type "bytearray", data := .bytearray #[] } }) :
    codeAny (model prog w) A (.call (.builtin "bytearray.__new__") ⟨[.type "bytearray", a], []⟩) (wants Q₁ E) s := by
  refine codeAny_of_tree ?_
  show wpAny _ A.in1 (do checkBuiltinCall "bytearray.__new__" ⟨[.type "bytearray", a], []⟩; again (.builtin "bytearray.__new__" ⟨[.type "bytearray", a], []⟩)) _ _ s
  refine wpAny_bind (wpAny_of_eq (ba_newCall a) (wpAny_pure ⟨plainId_quiet ba_plain_new _, codeAny_builtin_stack ba_entry_new rfl fun p st => ?_⟩))
  rw [Around.under_plainId ba_plain_new _]
  have hsub := ba_sub
  have hown := ba_owner
  simp only [hown]
  refine wpAny_bind (wpAny_of_eq (a := true) rfl (if_f rfl (wpAny_bind (wpAny_of_eq hsub (if_f rfl (wpAny_bind (wpAny_pure ?_)))))))
  refine if_t (by decide +kernel) (wpAny_bind ?_)
  refine wpAny_newObj_type ?_ (Nat.zero_le _)
  exact wpAny_pure h

/-- a look at the stack that sees no such built-in -/
theorem wpC_stackAny {M : Model} {f : Code × Pos → Bool} {Q : Bool → Shared → Prop} (hf : ∀ k q, okC k = true → f (k, q) = false) (h : Q false s) : wpC M A (do return (← stack).any f) Q s := fun Γ p hΓ hC => by
  show Q (((Γ.code, p) :: Γ.below).any f) s
  have : ((Γ.code, p) :: Γ.below).any f = false := by
    rw [List.any_eq_false]
    rintro ⟨k, q⟩ he
    rw [hf k q]
    · exact Bool.false_ne_true
    · rcases List.mem_cons.mp he with e | he
      · cases e; exact hC.1
      · exact hC.2 _ he
  rw [this]; exact h
/-- bytearray's own look at the stack -/
theorem wpC_exported {M : Model} {self : Value} {Q : Bool → Shared → Prop} (h : Q false s) : wpC M A (Builtin.Bytes.exported self) Q s := by
  unfold Builtin.Bytes.exported
  refine wpC_stackAny (fun k q hk => ?_) h
  cases k with
  | builtin id args =>
    have nb : id ∉ badIds := by simpa [okC] using hk
    have ne : ∀ z, badIds.contains z = true → ¬id = z := fun z hz e => nb (e ▸ List.contains_iff_mem.mp hz)
    delta Builtin.Bytes.exported.match_1 Builtin.Bytes.exported._sparseCasesOn_1
    dsimp only
    rw [dif_neg (ne "bytearray.__contains__" (by decide +kernel)), dif_neg (ne "bytearray.__mod__" (by decide +kernel)), dif_neg (ne "bytearray.__rmod__" (by decide +kernel)), dif_neg (ne "_struct.pack_into.held" (by decide +kernel)), dif_neg (ne "bytearray.find.held" (by decide +kernel))]
    obtain ⟨l, kw⟩ := args
    cases l with
    | nil => rfl
    | cons v r =>
      show (_ && Builtin.Bytes.decodersThatHold.contains id) = false
      have : Builtin.Bytes.decodersThatHold.contains id = false := by
        cases z : Builtin.Bytes.decodersThatHold.contains id with
        | false => rfl
        | true => exact absurd (List.mem_append_left _ (List.contains_iff_mem.mp z)) nb
      rw [this, Bool.and_false]
  | _ => rfl
theorem ownRelease_ba {M : Model} {E : Value → Shared → Prop} {S : Value} {Q : Bool → Shared → Prop} (hT : s.TypeIs S "bytearray") (h : Q false s) : wpAny M A (Builtin.Bytes.ownRelease S) Q E s := by
  unfold Builtin.Bytes.ownRelease Builtin.Bytes.slotIsOwn
  refine wpAny_bind (wpAny_bind (wpAny_specialOf hT ba_release ?_))
  dsimp only
  refine if_f (by decide +kernel) ?_
  have e : ("bytearray.__release_buffer__".dropRight ("__release_buffer__".length + 1)) = "bytearray" := by decide +kernel
  rw [e]
  exact wpAny_isInstance hT ba_sub (wpAny_pure h)
theorem write_ba {M : Model} {E : Value → Shared → Prop} {S : Addr} {b : Array UInt8} {f : Array UInt8 → Array UInt8} {Q : Unit → Shared → Prop} (hS : s.heap.get? S = some { cls := .type "bytearray", data := .bytearray b 0 }) (hz : (f b).size ≤ sizeLine)
    (h : ∀ h', h'.get? S = some { cls := .type "bytearray", data := .bytearray (f b) 0 } → Heap.SameBut S s.heap h' → Q () { s with heap := h' }) : wpAny M A (Builtin.Bytes.write (.ref S) f) Q E s := by
  show wpAny _ _ (updateBytearray S f) _ _ _
  unfold updateBytearray
  refine wpAny_bind (wpAny_load hS ?_)
  show wpAny _ _ (update S (Obj.mapBytearray f) >>= fun _ => lookBehind S) _ _ _
  refine wpAny_bind (wpAny_update hS ?_)
  have hS₂ : (s.heap.update S (Obj.mapBytearray f)).get? S = some { cls := .type "bytearray", data := .bytearray (f b) } := Heap.get?_update_self (Obj.mapBytearray f) hS rfl
  refine wpAny_lookBehind hS₂ ?_ (h _ hS₂ (Heap.SameBut.update ..))
  show (if (f b).size > sizeLine then some "bytearray:memory" else none) = none
  rw [if_neg (by omega)]
end
end Mine
end
section
open PySem PySem.Calls PyProof.Rows PySem.W PySem.SeqAt
set_option linter.unusedVariables false
set_option maxRecDepth 100000
namespace Mine
variable {c : Cx} {n : Nat} {sc : Scope} {ρ : List (Str × MV)} {σ : MS} {A : Around} {env : Env} {s : Shared} {pos : Pos} {x : Str}
section
variable {prog : Program} {w : World} {α : Type}
theorem wpC_specialOf {M : Model} {v : Value} {T : String} {name : Str} {r : Option Value} {Q : Option Value → Shared → Prop} (hT : s.TypeIs v T) (h : typeLookup (.type T) name = pure r) (hQ : Q r s) : wpC M A (specialOf v name) Q s := .of (wpAny_specialOf hT h hQ)
/-- bytearray.__init__ of a fresh bytearray and a count -/
theorem ba_init_int {S : Addr} {i : Int} {t : Tok} {Q : Fin → Shared → Prop} (h0 : 0 < i) (h1 : i ≤ 100000) (hS : s.heap.get? S = some { cls := .type "bytearray", data := .bytearray #[] })
    (h : ∀ h', h'.get? S = some { cls := .type "bytearray", data := .bytearray (Array.replicate i.toNat 0) } → Heap.SameBut S s.heap h' → Q (.done (.ret .none)) { s with heap := h' }) :
    wpC (model prog w) A (Builtin.«bytearray.__init__» ⟨[.ref S, .int i t], []⟩) Q s := by
  have hT : ∀ s' : Shared, (∃ b, s'.heap.get? S = some { cls := .type "bytearray", data := .bytearray b }) → s'.TypeIs (.ref S) "bytearray" := fun s' ⟨b, e⟩ => ⟨_, e, rfl⟩
  unfold Builtin.«bytearray.__init__»
  refine wpC_bind (.of (ownRelease_ba (hT s ⟨_, hS⟩) ?_))
  refine cif_f rfl ?_
  refine wpC_bind (wpC_of_eq (ba_bind _) ?_)
  refine wpC_bind (wpC_of_eq (a := ()) rfl ?_)
  refine wpC_bind (wpC_of_eq (a := ()) rfl ?_)
  have ex : ∀ (s' : Shared) (b : Array UInt8) (P : Bool → Shared → Prop), s'.heap.get? S = some { cls := .type "bytearray", data := .bytearray b } → P false s' → wpC (model prog w) A (Builtin.Bytes.exported (.ref S) <||> (do return (← Builtin.Bytes.exportsOf (.ref S)) > 0)) P s' := fun s' b P e hP => by
    unfold orM
    refine wpC_bind (wpC_exported ?_)
    show wpC _ _ (do let n ← Builtin.Bytes.exportsOf (.ref S); pure (decide (n > 0))) _ _
    refine wpC_bind (.of ?_)
    show wpAny _ _ (load S >>= _) _ _ _
    exact wpAny_bind (wpAny_load e (wpAny_pure (wpC_pure hP)))
  refine wpC_bind (ex s _ _ hS ?_)
  refine cif_f rfl ?_
  refine wpC_bind (.of (write_ba hS (Nat.zero_le _) fun h₁ hS₁ hs₁ => ?_))
  dsimp only
  refine wpC_bind (wpC_of_eq (a := none) rfl ?_)
  refine cif_f rfl ?_
  refine wpC_bind (wpC_of_eq (a := ()) rfl ?_)
  refine wpC_bind (wpC_specialOf (typeIs_int _ i t) F.slot_int_index.lookup ?_)
  refine cif_t rfl ?_
  refine wpC_bind (wpC_of_eq (a := .ok i) rfl ?_)
  dsimp only
  refine cif_f (by simp [Builtin.Bytes.fitsIndex]; omega) ?_
  rw [if_neg (by omega)]
  refine cif_f (by simp; omega) ?_
  refine cif_f (by simp [Builtin.Bytes.tooLong, sizeLine_eq]; omega) ?_
  refine wpC_bind (wpC_rule ?_)
  rw [if_pos h0]
  refine wpC_bind (.of (write_ba hS₁ (by simp [sizeLine_eq]; omega) fun h₂ hS₂ hs₂ => ?_))
  exact wpC_pure (h h₂ hS₂ (hs₁.trans hs₂))
theorem okC_builtin {id : String} {args : Args} (h : badIds.contains id = false) : okC (.builtin id args) = true := by show (!badIds.contains id) = true; rw [h]; rfl
theorem codeC_builtin {R : Result → Shared → Prop} {id : String} {args : Args} {b : Builtin} (hb : entryFor table id = some b) (ok : okC (.builtin id args) = true)
    (h : wpC (model prog w) (A.under (.builtin id args)) (b args) (fun fin s' => match fin with | .done f => R (.ok f) s' | .again k' => k'.quiet = true ∧ codeC (model prog w) A k' R s') s) : codeC (model prog w) A (.builtin id args) R s := by
  refine codeC_of_tree ok ?_
  show wpC _ _ (match entryFor table id with | some b => b args | none => unsupported ((withoutEnding? id "#data").getD id)) _ _
  rw [hb]; exact h
/-- bytearray(n) -/
theorem call_ba {i : Int} {t : Tok} {Q : Value → Shared → Prop} (h0 : 0 < i) (h1 : i ≤ 100000)
    (h : ∀ h', h'.get? s.heap.objs.size = some { cls := .type "bytearray", data := .bytearray (Array.replicate i.toNat 0) } → (∀ b o, s.heap.get? b = some o → h'.get? b = some o) → Q (.ref s.heap.objs.size) { s with heap := h' }) :
    wpC (model prog w) A (call (.type "bytearray") [.int i t]) Q s := by
  have ft := ba_called
  obtain ⟨cc, tl, hmro⟩ := ft.mro
  refine wpC_call (codeC_of_tree rfl ?_)
  show wpC _ _ (callAny (.type "bytearray") _) _ _
  refine wpC_pure ⟨Code.quiet_builtin _ (by decide +kernel), codeC_builtin F.entry_type_call (okC_builtin (by decide +kernel)) ?_⟩
  rw [Around.under_plain (weight_type_call_type "bytearray" _ []) rfl]
  unfold Builtin.«type.__call__»
  dsimp only
  refine cif_f ft.notType ?_
  refine cif_f ft.canCreate ?_
  refine wpC_bind (wpC_of_eq (ba_typeCall _) ?_)
  refine wpC_bind (wpC_of_eq hmro ?_)
  refine cif_f rfl ?_
  refine wpC_bind (wpC_of_eq ft.made ?_)
  dsimp only
  refine wpC_bind (wpC_pure ?_)
  refine wpC_bind (wpC_holding (.of (wpAny_call (codeAny_mono (ba_code_new (E := Bot) (.int i t) (Q₁ := fun v s' => v = .ref s.heap.objs.size ∧ s' = { s with heap := s.heap.push { cls := .type "bytearray", data := .bytearray #[] } }) ⟨rfl, rfl⟩) fun r s₁ p => ?_))))
  cases r with
  | error e => exact p.elim
  | ok f =>
    cases f with
    | ret obj =>
      obtain ⟨rfl, rfl⟩ := p
      have hS : (s.heap.push { cls := .type "bytearray", data := .bytearray #[] }).get? s.heap.objs.size = some { cls := .type "bytearray", data := .bytearray #[] } := Heap.get?_push_size _ rfl
      have hT : ({ s with heap := s.heap.push { cls := .type "bytearray", data := .bytearray #[] } } : Shared).TypeIs (.ref s.heap.objs.size) "bytearray" := ⟨_, hS, rfl⟩
      refine wpC_bind (.of (wpAny_isInstance hT ba_sub ?_))
      refine cif_f rfl ?_
      refine wpC_bind (wpC_holding ?_)
      unfold callSpecial?
      refine wpC_bind (wpC_specialOf hT ft.init.lookup ?_)
      dsimp only
      refine wpC_holding (wpC_bind (wpC_of_eq (ft.init.bind _) ?_))
      dsimp only
      refine wpC_bind (wpC_call (codeC_of_tree rfl ?_))
      show wpC _ _ (do checkBuiltinCall "bytearray.__init__" _; again (.builtin "bytearray.__init__" _)) _ _
      refine wpC_bind (.of (ft.init.check _ _ _ _ _ _ _ _ hT (ba_args_init _ _) (wpC_pure ⟨plainId_quiet ft.init.plain _, codeC_builtin ba_entry_init (okC_builtin (by decide +kernel)) ?_⟩)))
      rw [Around.under_plainId ft.init.plain _]
      refine ba_init_int h0 h1 hS fun h₂ hS₂ hs₂ => ?_
      refine wpC_pure ?_
      dsimp only
      refine cif_f rfl (wpC_pure ?_)
      exact h h₂ hS₂ fun b o e => hs₂.extBut b o (Nat.ne_of_lt (Heap.lt_size e)) (Heap.get?_push_of_some _ e)
    | _ => exact p.elim
end
end Mine
end
section
open PySem PySem.Calls PyProof.Rows PySem.W PySem.SeqAt
set_option linter.unusedVariables false
set_option maxRecDepth 100000
namespace Mine
variable {c : Cx} {n : Nat} {sc : Scope} {ρ : List (Str × MV)} {σ : MS} {A : Around} {env : Env} {s : Shared} {pos : Pos} {x : Str}

theorem ba_setitem : Slot "bytearray" "__setitem__" "bytearray.__setitem__" :=
  .of (owner := "bytearray") (n := "__setitem__") (by rw [typeLookup_type, builtinLookup_eq_fast]; kernel_rfl) (by decide +kernel) (by decide +kernel) (by decide +kernel)
    (by first | exact .inl (by decide +kernel) | exact .inr (by decide +kernel)) (by rw [isSubtype_type]; kernel_rfl)
theorem ba_entry_setitem : entryFor table "bytearray.__setitem__" = some Builtin.«bytearray.__setitem__» := by first | exact entryFor_of_fast (by kernel_rfl) | exact entryFor_of_tree (by kernel_rfl)
theorem ba_args_setitem (a b d : Value) : argsOk "bytearray.__setitem__" ⟨[a, b, d], []⟩ := by unfold argsOk; kernel_rfl
theorem ba_no_bytes : typeLookup (.type "bytearray") "__bytes__" = pure none := by rw [typeLookup_type, builtinLookup_eq_fast]; kernel_rfl
theorem ba_no_index : typeLookup (.type "bytearray") "__index__" = pure none := by rw [typeLookup_type, builtinLookup_eq_fast]; kernel_rfl
theorem ba_buffer : typeLookup (.type "bytearray") "__buffer__" = pure (some (.builtin "bytearray.__buffer__")) := by rw [typeLookup_type, builtinLookup_eq_fast]; kernel_rfl
section
variable {prog : Program} {w : World} {α : Type}
/-- found[k] = v on a bytearray -/
theorem setItem_ba {E : Value → Shared → Prop} {S : Addr} {b : Array UInt8} {k v : Int} {t u : Tok} {Q : Unit → Shared → Prop} (hS : s.heap.get? S = some { cls := .type "bytearray", data := .bytearray b 0 }) (hz : b.size ≤ sizeLine)
    (h0 : 0 ≤ k) (h1 : k < b.size) (v0 : 0 ≤ v) (v1 : v < 256) (hk : k < 100000)
    (h : ∀ h', h'.get? S = some { cls := .type "bytearray", data := .bytearray (b.setIfInBounds k.toNat v.toNat.toUInt8) 0 } → Heap.SameBut S s.heap h' → Q () { s with heap := h' }) : wpAny (model prog w) A (setItem (.ref S) (.int k t) (.int v u)) Q E s := by
  have hT : s.TypeIs (.ref S) "bytearray" := ⟨_, hS, rfl⟩
  unfold setItem
  refine wpAny_holding ?_
  refine wpAny_bind (wpAny_sequenceKey hT (by decide) ?_)
  refine wpAny_bind (wpAny_callSpecial?_slot (name := Str.ofString "__setitem__") hT ba_setitem
    (wpAny_call_entry ba_setitem hT ba_entry_setitem ?_ (ba_args_setitem _ _ _)))
  unfold Builtin.«bytearray.__setitem__»
  refine if_f rfl ?_
  dsimp only
  refine wpAny_bind ?_
  unfold Builtin.Bytes.subscript?
  refine wpAny_bind (wpAny_specialOf (typeIs_int _ k t) F.slot_int_index.lookup (if_f rfl ?_))
  refine wpAny_bind (wpAny_of_eq (a := k) rfl (if_f (by simp [Builtin.Bytes.fitsIndex]; omega) (wpAny_pure ?_)))
  dsimp only
  refine wpAny_bind ?_
  unfold Builtin.Bytes.byteValue
  refine wpAny_bind (wpAny_of_eq (a := v) rfl (if_f (by simp only [Bool.or_eq_false_iff, decide_eq_false_iff_not]; omega) (wpAny_pure ?_)))
  refine wpAny_bind ?_
  unfold Builtin.Bytes.payload Builtin.Bytes.payload?
  refine wpAny_bind (wpAny_bind (wpAny_load hS (wpAny_pure (wpAny_pure ?_))))
  have hi : seqIndex? k b.size = some k.toNat := by unfold seqIndex?; simp [show ¬ k < 0 by omega, h0, h1]
  rw [hi]
  dsimp only
  refine wpAny_bind (write_ba hS (by simpa using hz) fun h' hS' hs' => ?_)
  refine wpAny_pure ⟨_, rfl, ?_⟩
  exact wpAny_pure (h h' hS' hs')
/-- bytes(found) -/
theorem call_bytes_ba {E : Value → Shared → Prop} {S : Addr} {b : Array UInt8} {Q : Value → Shared → Prop} (hS : s.heap.get? S = some { cls := .type "bytearray", data := .bytearray b 0 }) (hz : b.size ≤ sizeLine)
    (h : ∀ t k, Q (.bytes b t) { s with toks := k }) : wpAny (model prog w) A (call (.type "bytes") [.ref S]) Q E s := by
  refine callType_codes (Q₁ := fun obj s₁ => s₁.TypeIs obj "bytes" ∧ Q obj s₁) F.bm_called (F.bm_typeCall _) F.entry_object_init
    ?_ fun obj s₁ h₁ => ⟨h₁.1, F.args_object_init_2 obj _, object_init_meets F.bm_called.init.lookup F.bm_called.made (by decide) prog w A.in1 _ s₁ ⟨h₁.1, rfl, h₁.2⟩⟩
  refine codeAny_of_tree ?_
  show wpAny _ A.in1.in1 (do checkBuiltinCall "bytes.__new__" ⟨[.type "bytes", .ref S], []⟩; again (.builtin "bytes.__new__" ⟨[.type "bytes", .ref S], []⟩)) _ _ s
  refine wpAny_bind (wpAny_of_eq (F.bm_newCall _) (wpAny_pure ⟨plainId_quiet F.bm_plain _, codeAny_builtin F.bm_entry ?_⟩))
  rw [Around.under_plainId F.bm_plain _]
  have hT : s.TypeIs (.ref S) "bytearray" := ⟨_, hS, rfl⟩
  unfold Builtin.«bytes.__new__»
  refine wpAny_bind (wpAny_of_eq (a := true) rfl ?_)
  refine if_f rfl ?_
  refine wpAny_bind (wpAny_of_eq F.bm_sub ?_)
  refine if_f rfl ?_
  refine wpAny_bind (wpAny_of_eq (F.bm_bind _) ?_)
  refine wpAny_bind (wpAny_of_eq (a := ()) rfl ?_)
  refine wpAny_bind (wpAny_of_eq (a := ()) rfl ?_)
  refine if_f rfl ?_
  refine wpAny_bind (wpAny_specialOf hT ba_no_bytes ?_)
  refine wpAny_bind (wpAny_bind ?_)
  show wpAny _ _ (load S >>= _) _ _ _
  refine wpAny_bind (wpAny_load hS ?_)
  refine wpAny_pure (wpAny_pure ?_)
  refine if_f rfl ?_
  refine wpAny_bind (wpAny_specialOf hT ba_no_index ?_)
  refine if_t rfl ?_
  first
    | show wpAny _ _ (Builtin.Bytes.buffer? "bytes.__new__" (.ref S) true >>= _) _ _ _
    | (refine wpAny_bind ?_; show wpAny _ _ (Builtin.Bytes.buffer? "bytes.__new__" (.ref S) true >>= _) _ _ _)
  refine wpAny_bind ?_
  unfold Builtin.Bytes.buffer?
  refine wpAny_bind (wpAny_specialOf hT ba_buffer ?_)
  dsimp only
  refine wpAny_bind ?_
  unfold Builtin.Bytes.slotIsOwn
  refine wpAny_bind (wpAny_specialOf hT ba_buffer ?_)
  dsimp only
  refine if_f (by decide +kernel) ?_
  have e : ("bytearray.__buffer__".dropRight ("__buffer__".length + 1)) = "bytearray" := by decide +kernel
  rw [e]
  refine wpAny_isInstance hT ba_sub (if_f rfl ?_)
  refine wpAny_bind (wpAny_specialOf hT ba_buffer ?_)
  refine wpAny_bind (ownRelease_ba hT (if_f rfl ?_))
  refine wpAny_bind ?_
  unfold Builtin.Bytes.payload Builtin.Bytes.payload?
  refine wpAny_bind (wpAny_bind (wpAny_load hS (wpAny_pure (wpAny_pure (wpAny_pure ?_)))))
  dsimp only
  refine wpAny_bind (wpAny_rule (wpAny_bind (wpAny_mkBytes ?_ hz)))
  first
    | exact wpAny_pure ⟨typeIs_bytes _ _ _, h _ _⟩
    | exact wpAny_bind (wpAny_pure (wpAny_pure ⟨typeIs_bytes _ _ _, h _ _⟩))
end
/-! ## as rules -/
theorem CE_type {b : Str} {bp : Pos} {T : String} {e : Expr} {Q : MV → MS → Prop} (G : Gd c) (hx : okGlob sc b = true) (B : Bt c b (.type T))
    (hs : ∀ env : Env, starEach [e] env = [(false, eval e env)]) (h : WE c n sc ρ σ e fun u σ1 => ∀ A s v, Room A n → Rel c σ1 s.heap → VRel s.heap v u → wpC c.M A (call (.type T) [v]) (Post c NoX σ1 s VRel Q) s) : CE c n sc ρ σ (.Call (.Name b bp) [e] [] pos) Q := fun A env s hr he hf hR => by
  show wpC _ _ (eval (.Call (.Name b bp) [e] [] pos) env) _ _
  rw [arm_eval_Call_Name']
  refine wpC_bind (.of (load_built G he hR hx B.1 B.2 ?_))
  show wpC c.M A (callWith pos (.type T) [] (backTo pos (starEach [e] env)) []) _ _
  rw [hs]
  unfold callWith
  have key : wpC c.M A (spliced [(false, eval e env)]) (fun vs s' => wpC c.M A (call (.type T) ([] ++ vs) []) (Post c NoX σ s VRel Q) s') s := by
    show wpC c.M A (do
      let v ← eval e env
      let here ← (pure [v] : Sem (List Value))
      return here ++ (← holding here (spliced []))) _ s
    refine wpC_bind (.of (h.use hr he hf hR fun v s₁ u σ1 r1 st1 hf1 h1 => wpC_bind (wpC_pure (wpC_bind (wpC_holding (wpC_pure (wpC_pure ?_)))))))
    exact wpC_mono (h1 A s₁ v hr st1.rel r1) fun w s₂ p => p.seq st1
  have args : wpC c.M A (evalArgs (.type T) true [(false, eval e env)] []) (fun x s' => wpC c.M A (call (.type T) ([] ++ x.pos) x.kw) (Post c NoX σ s VRel Q) s') s := by
    unfold evalArgs
    show wpC c.M A (spliced [(false, eval e env)] >>= _) _ s
    refine wpC_bind (wpC_mono key (fun vs s' h' => wpC_holding ?_))
    exact wpC_bind (wpC_pure (wpC_bind (wpC_pure (wpC_pure h'))))
  refine wpC_bind (wpC_holding (wpC_mono args (fun z s₁ h₁ => wpC_bind (wpC_standAt ?_))))
  refine wpC_bind (wpC_pure ?_)
  exact wpC_bind (wpC_mono h₁ (fun r s₂ hr => wpC_bind (wpC_holding (.of (wpAny_point (wpC_pure hr))))))
theorem CE_ba {b : Str} {bp : Pos} {e : Expr} {Q : MV → MS → Prop} (G : Gd c) (hx : okGlob sc b = true) (B : Bt c b (.type "bytearray"))
    (hs : ∀ env : Env, starEach [e] env = [(false, eval e env)]) (h : WE c n sc ρ σ e fun u σ1 => ∃ i, u = .int i ∧ 0 < i ∧ i ≤ 100000 ∧ ∀ k, σ1 k = none → Q (.ref k) (upd σ1 k (.barr (Array.replicate i.toNat 0)))) : CE c n sc ρ σ (.Call (.Name b bp) [e] [] pos) Q :=
  CE_type G hx B hs (WE_mono h fun u σ1 q A s v hr hR rv => by
    obtain ⟨i, rfl, h0, h1, q⟩ := q
    obtain ⟨t, rfl⟩ := rv.int
    refine call_ba h0 h1 fun h' g kp => ?_
    exact ⟨.ref s.heap.objs.size, _, vRef, StepOk.more (t := s.toks) (mo := .barr (Array.replicate i.toNat 0)) hR (size0 _) kp g (by intro _ _ z; cases z), q _ hR.fresh⟩)
/-- b[i] = v on a bytearray -/
theorem A_bidx {value slice : Expr} {v : MV} {Q : List (Str × MV) → MS → Prop} (h : WE c n sc ρ σ value fun o σ1 => WE c n sc ρ σ1 slice fun i σ2 => ∃ k b j z, o = .ref k ∧ i = .int j ∧ v = .int z ∧ σ2 k = some (.barr b) ∧ 0 ≤ j ∧ j < b.size ∧ b.size < 100000 ∧ 0 ≤ z ∧ z < 256 ∧ Q ρ (upd σ2 k (.barr (b.setIfInBounds j.toNat z.toNat.toUInt8)))) :
    WA c n sc ρ σ (.Subscript value slice pos) v Q := fun A env s u hr he hf hR hv => by
  rw [assign_Subscript]
  refine wpAny_bind (wpAny_holding (h.use hr he hf hR fun a s₁ w σ1 r1 st1 hf1 h1 => wpAny_bind (wpAny_holding (h1.use hr he hf1 st1.rel fun b s₂ w2 σ2 r2 st2 hf2 h2 => wpAny_bind (wpAny_standAt ?_)))))
  obtain ⟨k, b, j, z, rfl, rfl, rfl, hk, h0, h1', hz, z0, z1, q⟩ := h2
  obtain rfl := r1.ref
  obtain ⟨t, rfl⟩ := r2.int
  obtain ⟨t', rfl⟩ := hv.int
  have l := st2.rel.obj _ _ hk
  refine wpAny_bind (wpAny_holding (setItem_ba l (by rw [sizeLine_eq]; omega) h0 h1' z0 z1 (by omega) fun h' g hs => wpAny_release' ?_))
  have st3 : StepOk c NoX σ2 (upd σ2 k (.barr (b.setIfInBounds j.toNat z.toNat.toUInt8))) s₂ { s₂ with heap := h' } :=
    StepOk.turn (t := s₂.toks) st2.rel hk hs.extBut g (by intro _ q; cases q) (by intro _ _ q; cases q) (by intro _ _ q; cases q) (by intro _ q; cases q)
  exact ⟨ρ, _, hf2.go st2.rel st3.go, ((st1.trans st2).trans st3).toX, q⟩
theorem b_bytes {k : Addr} {b : Array UInt8} {Q : MV → MS → Prop} (hk : σ k = some (.barr b)) (hz : b.size ≤ 100000) (h : Q (.bytes b) σ) : WBt c n σ [.ref k] (.type "bytes") Q := WBt1 fun A s a hr hR ha => by
  obtain rfl := ha.ref
  exact call_bytes_ba (hR.obj _ _ hk) (by rw [sizeLine_eq]; omega) fun t k => Post.tok hR vBytes h
end Mine
end
section
open PySem PySem.Calls PyProof.Rows PySem.W PySem.SeqAt
set_option linter.unusedVariables false
set_option maxRecDepth 100000
namespace Mine
variable {c : Cx} {n : Nat} {sc : Scope} {ρ : List (Str × MV)} {σ : MS} {A : Around} {env : Env} {s : Shared} {pos : Pos} {x : Str}

theorem F2.ofInts {h : Heap} : ∀ {vs : List Value} {ns : List Int}, IntsAre vs ns → F2 (VRel h) vs (ns.map MV.int)
  | _, _, .nil => .nil
  | _, _, .cons i t r => .cons vInt (F2.ofInts r)
theorem b_sorted {k : Addr} {ns : List Int} {Q : MV → MS → Prop} (hk : LAt σ k (ns.map MV.int)) (hz : ns.length < 64) (h : ∀ (ns' : List Int) q, ns'.Perm ns → ns'.Pairwise (· ≤ ·) → σ q = none → Q (.ref q) (upd σ q (.list (ns'.map MV.int)))) : WBt c n σ [.ref k] (.builtin "sorted") Q := WBt1 fun A s a hr hR ha => by
  obtain rfl := ha.ref
  obtain ⟨items, l, f⟩ := listAt hR hk
  have e := f.length
  rw [List.length_map] at e
  refine sorted_ints (vs := items.toList) (by simpa using l) f.ints (by omega) fun out ns' a1 a2 a3 => ?_
  obtain ⟨e, he⟩ := sortedAll_at s.heap items.toList out
  have k0 : s.heap.get? (s.heap.objs.size + 1) = none := by
    cases q : s.heap.get? (s.heap.objs.size + 1) with
    | none => rfl
    | some o => exact absurd (Heap.lt_size q) (by show ¬ (s.heap.objs.size + 1 < s.heap.objs.size); omega)
  exact ⟨.ref (s.heap.objs.size + 1), _, vRef, StepOk.more (t := s.toks) (mo := .list (ns'.map MV.int)) hR k0 (fun b o q => sortedAll_old q) ⟨out, e, he, F2.ofInts a1⟩ (by intro _ _ z; cases z), h ns' _ a2 a3 (hR.notk k0)⟩
theorem argBest_max (f : Nat → Int) : ∀ k, argBest (fun i j => decide (f i > f j)) k ≤ k ∧ ∀ i, i ≤ k → f i ≤ f (argBest (fun i j => decide (f i > f j)) k)
  | 0 => ⟨Nat.le_refl _, fun i h => by have : i = 0 := by omega
                                       subst this; exact Int.le_refl _⟩
  | k + 1 => by
    obtain ⟨h1, h2⟩ := argBest_max f k
    unfold argBest
    split
    · rename_i h
      simp only [decide_eq_true_eq] at h
      refine ⟨Nat.le_refl _, fun i hi => ?_⟩
      by_cases q : i = k + 1
      · subst q; exact Int.le_refl _
      · exact Int.le_trans (h2 i (by omega)) (by omega)
    · rename_i h
      simp only [decide_eq_true_eq] at h
      refine ⟨by omega, fun i hi => ?_⟩
      by_cases q : i = k + 1
      · subst q; omega
      · exact h2 i (by omega)
theorem b_maxL {k : Addr} {ns : List Int} {Q : MV → MS → Prop} (hk : LAt σ k (ns.map MV.int)) (hne : ns ≠ []) (h : ∀ m, m ∈ ns → (∀ y ∈ ns, y ≤ m) → Q (.int m) σ) : WBt c n σ [.ref k] (.builtin "max") Q := WBt1 fun A s a hr hR ha => by
  obtain rfl := ha.ref
  obtain ⟨items, l, f⟩ := listAt hR hk
  obtain ⟨xs, e1, e2⟩ := intItems_of f.ints
  rw [show items.toList.toArray = items by simp] at e1
  have hl : xs.size = ns.length := by rw [← e2]; simp
  have hp : 0 < ns.length := List.length_pos_iff.mpr hne
  refine max_intList hr.1 (xs := xs) (by rw [e1]; exact l) (by omega) fun v h' tk hv kp => ?_
  obtain ⟨m1, m2⟩ := argBest_max (numAt xs) (xs.size - 1)
  generalize argBest (fun i j => decide (numAt xs i > numAt xs j)) (xs.size - 1) = b at hv m1 m2
  have hb : b < ns.length := by omega
  have hbx : b < xs.size := by omega
  have hv' : v = .int (numAt xs b) xs[b].2 := by
    have : (intItems xs)[b]? = some (.int xs[b].1 xs[b].2) := by simp [intItems, hbx]
    rw [hv] at this; cases this
    simp [numAt, hbx]
  subst hv'
  have hn : ∀ i, numAt xs i = ns.getD i 0 := numAt_eq e2
  have hm : numAt xs b ∈ ns := by rw [hn, List.getD_eq_getElem?_getD, List.getElem?_eq_getElem hb]; simp
  refine Post.keeps hR kp vInt (h _ hm fun y hy => ?_)
  obtain ⟨i, hi, rfl⟩ := List.getElem_of_mem hy
  have := m2 i (by omega)
  rw [hn i, List.getD_eq_getElem?_getD, List.getElem?_eq_getElem hi] at this
  exact this
/-- a tuple of ints that a global name holds -/
def GT (c : Cx) (x : Str) (ns : List Int) : Prop := ∃ a items m, c.mg x = some (.ref a) ∧ c.h₀.get? a = some (tupObj items m) ∧ F2 ARel items.toList (ns.map MA.int)
theorem WE_globTup {ns : List Int} {Q : MV → MS → Prop} (G : Gd c) (hx : okGlob sc x = true) (T : GT c x ns) (h : Q (.tup (ns.map MA.int)) σ) : WE c n sc ρ σ (.Name x pos) Q := fun A env s hr he hf hR => by
  obtain ⟨a, items, m, hv, hg, f⟩ := T
  exact load_glob G he hR hx hv (Post.here (u := .tup (ns.map MA.int)) hR ⟨items, m, hR.base _ _ hg, f⟩ h)
/-- t.index(v), t a tuple of ints -/
theorem tup_index {prog : Program} {w : World} {E : Value → Shared → Prop} {a : Addr} {items : Array Value} {m : Nat} {ns : List Int} {i : Int} {t : Tok} {j : Nat} {Q : Value → Shared → Prop} (hg : s.heap.get? a = some (tupObj items m)) (hI : IntsAre items.toList ns)
    (hj : ns[j]? = some i) (hb : ∀ k, k < j → ns[k]? ≠ some i) (h : ∀ t, Q (.int j t) { s with toks := s.toks + 1 }) : wpAny (model prog w) A (call (.builtin "tuple.index") [.ref a, .int i t]) Q E s := by
  have hT : s.TypeIs (.ref a) "tuple" := ⟨_, hg, rfl⟩
  refine wpAny_call_entry F.slot_tuple_index hT F.entry_tuple_index ?_ (F.args_tuple_index_2 _ _)
  unfold Builtin.«tuple.index»
  refine wpAny_bind (wpAny_of_eq (a := (.ref a, [.int i t])) rfl ?_)
  dsimp only
  refine wpAny_bind ?_
  show wpAny _ _ (Builtin.Tuple.tupleItemsOf (.ref a)) _ _ _
  unfold Builtin.Tuple.tupleItemsOf
  refine wpAny_bind (wpAny_bind (wpAny_load hg (wpAny_pure (wpAny_pure ?_))))
  refine wpAny_bind (wpAny_pure (wpAny_bind (wpAny_pure ?_)))
  rw [Std.Legacy.Range.forIn_eq_forIn_range']
  simp only [Std.Legacy.Range.size, Nat.sub_zero, Nat.add_sub_cancel, Nat.div_one, Nat.min_self]
  have hl := hI.length
  rw [Array.length_toList] at hl
  obtain ⟨hjn, _⟩ := List.getElem?_eq_some_iff.mp hj
  refine wpAny_bind (wpAny_mono (Q := fun r s' => ∃ t, r = (some (.done (.ret (.int j t))), ()) ∧ s' = { s with toks := s.toks + 1 }) ?_ (fun r s' p => ?_) fun _ _ e => e)
  case refine_2 =>
    obtain ⟨t', rfl, rfl⟩ := p
    exact wpAny_pure ⟨_, rfl, h t'⟩
  have loop : ∀ (d k : Nat), k + d = items.size → k ≤ j → wpAny (model prog w) A.in1 (forIn (List.range' k d) ((none : Option Fin), ()) fun (i_1 : Nat) (__s : Option Fin × Unit) =>
            match items[i_1]? with
            | some y => do
              let __do_lift ← eqBool y (Value.int i t)
              if __do_lift = true then do
                  let __do_lift ← retInt (i_1 : Nat)
                  pure (ForInStep.done (some __do_lift, ()))
                else pure (ForInStep.yield (none, ()))
            | x => pure (ForInStep.yield (none, ()))) (fun r s' => ∃ t, r = (some (.done (.ret (.int j t))), ()) ∧ s' = { s with toks := s.toks + 1 }) E s := by
    intro d
    induction d with
    | zero => intro k h1 h2; omega
    | succ d ih =>
      intro k h1 h2
      rw [List.range'_succ, List.forIn_cons]
      obtain ⟨i', t', e1, e2⟩ := intsAt hI k (by rw [Array.length_toList]; omega)
      have e3 : items[k]? = some (.int i' t') := by
        rw [← Array.getElem?_toList, List.getElem?_eq_getElem (by rw [Array.length_toList]; omega), e1]
      rw [e3]
      dsimp only
      refine wpAny_bind (wpAny_bind (wpAny_eqBool_int ?_))
      by_cases q : k = j
      · subst q
        rw [hj] at e2; cases e2
        refine if_t (by simp) (wpAny_bind ?_)
        unfold retInt
        exact wpAny_bind (wpAny_mkInt (wpAny_pure (wpAny_pure (wpAny_pure ⟨_, rfl, rfl⟩))))
      · have : i' ≠ i := fun z => hb k (by omega) (by rw [e2, z])
        refine if_f (by simpa using this) (wpAny_pure ?_)
        exact ih (k + 1) (by omega) (by omega)
  exact loop items.size 0 (by omega) (Nat.zero_le _)
theorem WE_index {o e : Expr} {apos : Pos} {Q : MV → MS → Prop} (hbase : ∀ env : Env, attributeBase o "index" env (eval o env) = eval o env) (hs : ∀ env : Env, starEach [e] env = [(false, eval e env)]) (hline : (apos.endLine == pos.line) = true)
    (h : WE c n sc ρ σ o fun ov σ1 => ∃ ns : List Int, ov = .tup (ns.map MA.int) ∧ WE c n sc ρ σ1 e fun v σ2 => ∃ i j, v = .int i ∧ ns[j]? = some i ∧ (∀ k, k < j → ns[k]? ≠ some i) ∧ Q (.int (j : Nat)) σ2) :
    WE c n sc ρ σ (.Call (.Attribute o "index" apos) [e] [] pos) Q := fun A env s hr he hf hR => by
  refine methodForm (hbase env) (hs env) hline F.plainAttrs_tuple F.slot_tuple_index F.type_tuple_index (h.use hr he hf hR fun ov s₁ u σ1 r1 st1 hf1 h1 => ?_)
  obtain ⟨ns, rfl, h2⟩ := h1
  obtain ⟨a, items, m, rfl, g, f⟩ := r1.tup
  refine ⟨⟨_, g, rfl⟩, fun b e => by cases e; exact ⟨_, g, rfl⟩, ?_⟩
  refine callWith_builtin rfl (evalArgs_plain ?_)
  show wpAny _ _ (do
      let v ← eval e env
      let here ← (pure [v] : Sem (List Value))
      return here ++ (← holding here (spliced []))) _ _ _
  refine wpAny_bind (h2.use hr he hf1 st1.rel fun v s₂ w σ2 r2 st2 hf2 h3 => wpAny_bind (wpAny_pure (wpAny_bind (wpAny_holding (wpAny_pure (wpAny_pure ?_))))))
  obtain ⟨i, j, rfl, e1, e2, q⟩ := h3
  obtain ⟨t, rfl⟩ := r2.int
  exact tup_index ((Go.tkeep st1.rel st2.go) _ _ g (.inl ⟨_, _, rfl⟩)) f.intsA e1 e2 fun t => ((Post.tok (X := NoX) st2.rel vInt q).seq st2).seq st1
end Mine
end
section
open PySem PySem.Calls PyProof.Rows PySem.W PySem.SeqAt
set_option linter.unusedVariables false
set_option maxRecDepth 100000
namespace Mine
variable {c : Cx} {n : Nat} {sc : Scope} {ρ : List (Str × MV)} {σ : MS} {A : Around} {env : Env} {s : Shared} {pos : Pos} {x : Str}

/-- written str keys and their values, in turn -/
abbrev KRel (h : Heap) : Value × Value → Str × MV → Prop := fun p q => (∃ t, p.1 = .str q.1 t) ∧ VRel h p.2 q.2
def WK (c : Cx) (n : Nat) (sc : Scope) (ρ : List (Str × MV)) (σ : MS) (pos : Pos) (ks : List (Option Expr)) (vs : List Expr) (Q : List (Str × MV) → MS → Prop) : Prop :=
  WX c n sc ρ σ (fun h ps es => F2 (KRel h) ps es) (fun env => evalPairs (pairTrees ks vs env pos)) Q
theorem WK_nil {Q : List (Str × MV) → MS → Prop} (h : Q [] σ) : WK c n sc ρ σ pos [] [] Q := fun A env s hr he hf hR => pairTrees_nil_walk (Post.here hR .nil h)
theorem WK_cons {key : Str} {kk : Nat} {kp : Pos} {ks : List (Option Expr)} {e : Expr} {vs : List Expr} {Q : List (Str × MV) → MS → Prop} (h : WE c n sc ρ σ e fun v σ1 => WK c n sc ρ σ1 pos ks vs fun es σ2 => Q ((key, v) :: es) σ2) :
    WK c n sc ρ σ pos (some (.Constant (.str key) kk kp) :: ks) (e :: vs) Q := fun A env s hr he hf hR => by
  refine pairTrees_cons_walk (Calls.Constant_str ?_)
  have st0 : StepOk c NoX σ σ s { s with toks := s.toks + 1 } := (StepOk.refl hR).tok _
  refine h.use hr he (s := { s with toks := s.toks + 1 }) hf hR fun v s₁ u σ1 r1 st1 hf1 h1 => h1.use hr he hf1 st1.rel fun ps s₂ es σ2 r2 st2 hf2 h2 => ?_
  exact (((Post.here (X := NoX) st2.rel (.cons ⟨⟨_, rfl⟩, VRel.step (X := NoX) r1 st1.rel st2⟩ r2) h2).seq st2).seq st1).seq st0
theorem F2.carries {prog : Program} {w : World} {h : Heap} : ∀ {ps : List (Value × Value)} {es : List (Str × MV)}, F2 (KRel h) ps es →
    ∃ kvs, Carries (strKind prog w) ps kvs ∧ F2 (fun (p : Str × Value) (q : Str × MV) => p.1 = q.1 ∧ VRel h p.2 q.2) kvs es
  | _, _, .nil => ⟨[], trivial, .nil⟩
  | (_, v) :: ps, (k, m) :: es, .cons ⟨⟨t, e⟩, b⟩ r => by
    obtain ⟨kvs, c1, c2⟩ := F2.carries (prog := prog) (w := w) r
    dsimp only at e
    subst e
    exact ⟨(k, v) :: kvs, ⟨strKind_is prog w k t, rfl, c1⟩, .cons ⟨rfl, b⟩ c2⟩
theorem F2.keys {h : Heap} : ∀ {kvs : List (Str × Value)} {es : List (Str × MV)}, F2 (fun (p : Str × Value) (q : Str × MV) => p.1 = q.1 ∧ VRel h p.2 q.2) kvs es → kvs.map (·.1) = es.map (·.1)
  | _, _, .nil => rfl
  | _, _, .cons a r => by rw [List.map_cons, List.map_cons, a.1, F2.keys r]
theorem WE_dict {ks : List (Option Expr)} {vs : List Expr} {Q : MV → MS → Prop} (hall : ks.all (·.isSome) = true) (hl : ks.length = vs.length) (h0 : ks ≠ []) (hlen : ks.length ≤ 15)
    (h : WK c n sc ρ σ pos ks vs fun es σ1 => (es.map (·.1)).Nodup ∧ ∀ k, σ1 k = none → Q (.ref k) (upd σ1 k (.dict es))) : WE c n sc ρ σ (.Dict ks vs pos) Q := fun A env s hr he hf hR => by
  refine wpAny_Dict_walk (knd := strKind c.prog c.w) hall hl h0 hlen ?_
  have st0 : StepOk c NoX σ σ s { s with heap := s.heap.push { cls := .type "dict", data := .dict #[] } } := StepOk.keeps (t := s.toks) hR fun b o e => Heap.get?_push_of_some _ e
  have kD := size0 s.heap
  have d0 : ({ s with heap := s.heap.push { cls := .type "dict", data := .dict #[] } } : Shared).heap.DictOf (strKind c.prog c.w) s.heap.objs.size [] := Heap.DictOf.new s.heap
  have hf0 := hf.go hR st0.go
  refine wpAny_mono (h A env _ hr he hf0 st0.rel) (fun ps s₁ p => ?_) fun _ _ e => e
  obtain ⟨es, σ1, r1, st1, hn, q⟩ := p
  obtain ⟨kvs, c1, c2⟩ := F2.carries (prog := c.prog) (w := c.w) r1
  have D0 : σ s.heap.objs.size = none := hR.notk kD
  have d1 : s₁.heap.DictOf (strKind c.prog c.w) s.heap.objs.size [] := d0.at fun o e => st1.go.keep _ _ D0 id e
  refine ⟨kvs, c1, d1, fun h' d2 hs => ?_⟩
  rw [merged_nil_of_nodup kvs (by rw [c2.keys]; exact hn)] at d2
  have D1 : σ1 s.heap.objs.size = none := by
    obtain ⟨o, _, _, g, _⟩ := d0
    exact st1.go.new _ o D0 g
  have nt : ∀ o, s₁.heap.get? s.heap.objs.size = some o → ¬ IsT o := fun o g => by
    obtain ⟨o', _, _, g', _, hd, _⟩ := d1
    rw [g] at g'; cases g'; exact notT_dict hd
  have tk : TKeep s₁.heap h' := fun b o g t => (hs.2 b fun z => by subst z; exact nt o g t).trans g
  have R2 := st1.rel.ext hs.extBut D1 (hR.freeBase kD) tk
  have st2 : StepOk c (fun b => b = s.heap.objs.size) σ1 σ1 s₁ { s₁ with heap := h', toks := s₁.toks + ps.length } := ⟨R2, ⟨fun b o _ hb g => hs.extBut b o hb g, fun _ _ g _ => g, fun _ g => g⟩, rfl, rfl⟩
  have st3 := (st0.trans st1).join st2 fun b hb => hb ▸ kD
  have st4 := st3.adopt (k := s.heap.objs.size) (mo := .dict es) D1 kD (hR.freeBase kD) ⟨kvs, d2, c2.imp fun _ _ y => ⟨y.1, y.2.keep tk⟩⟩ (by intro _ _ z; cases z)
  exact ⟨.ref s.heap.objs.size, _, vRef, st4, q _ D1⟩
end Mine
end
section
open PySem PySem.Calls PyProof.Rows PySem.W PySem.SeqAt Builtin Builtin.ObjectAttr Builtin.Getset_descriptor
set_option linter.unusedVariables false
set_option maxRecDepth 100000
namespace Mine
variable {c : Cx} {n : Nat} {sc : Scope} {ρ : List (Str × MV)} {σ : MS} {A : Around} {env : Env} {s : Shared} {pos : Pos} {x : Str}

abbrev IRel (h : Heap) : DictEntry → Str × MV → Prop := fun p q => (∃ t, p.key = .str q.1 t) ∧ VRel h p.val q.2
theorem F2.noRef {h : Heap} : ∀ {en : List DictEntry} {es : List (Str × MV)}, F2 (IRel h) en es → en.any (·.refKey) = false
  | _, _, .nil => rfl
  | e :: en, _, .cons ⟨⟨t, a⟩, _⟩ r => by rw [List.any_cons, F2.noRef r]; simp [DictEntry.refKey, a]
theorem isStr_eq {e : DictEntry} {k y : Str} {t : Tok} (h : e.key = .str k t) : e.key.isStr y = decide (y = k) := by
  rw [h]; show (k == y) = _
  rw [Bool.eq_iff_iff]; simp only [beq_iff_eq, decide_eq_true_eq]; exact eq_comm
theorem F2.getL {h : Heap} {y : Str} {v : MV} : ∀ {en : List DictEntry} {es : List (Str × MV)}, F2 (IRel h) en es → lk es y = some v → ∃ u, PySem.W.getL y en = some (some u) ∧ VRel h u v
  | _, _, .nil, e => by simp [lk] at e
  | d :: en, (k, m) :: es, .cons ⟨⟨t, a⟩, b⟩ r, e => by
    unfold lk at e
    unfold PySem.W.getL
    rw [List.find?_cons, isStr_eq a]
    by_cases q : y = k
    · subst q; rw [if_pos rfl] at e; cases e; simp only [decide_true]; exact ⟨_, rfl, b⟩
    · rw [if_neg q] at e
      obtain ⟨u, e1, e2⟩ := r.getL e
      refine ⟨u, ?_, e2⟩
      simp only [decide_eq_false q]
      unfold PySem.W.getL at e1
      cases z : en.find? (fun x => x.key.isStr y) with
      | some w => rw [z] at e1; exact e1
      | none => rw [z] at e1; dsimp only at e1; split at e1 <;> cases e1
theorem F2.getLnone {h : Heap} {y : Str} : ∀ {en : List DictEntry} {es : List (Str × MV)}, F2 (IRel h) en es → lk es y = none → PySem.W.getL y en = some none
  | en, es, f, e => by
    unfold PySem.W.getL
    have : en.find? (fun x => x.key.isStr y) = none := by
      rw [List.find?_eq_none]
      intro d hd
      induction f with
      | nil => cases hd
      | cons a r ih =>
        rename_i d' q en' es'
        obtain ⟨k, m⟩ := q
        obtain ⟨⟨t, a⟩, b⟩ := a
        unfold lk at e
        split at e
        · cases e
        · rename_i ne
          rcases List.mem_cons.mp hd with rfl | hd
          · rw [isStr_eq a, decide_eq_false ne]; exact Bool.false_ne_true
          · exact ih e hd
    rw [this, f.noRef]; rfl
theorem F2.putL {h : Heap} {y : Str} {u : Value} {v : MV} {hsh : Int} {t : Tok} (hv : VRel h u v) : ∀ {en : List DictEntry} {es : List (Str × MV)}, F2 (IRel h) en es → F2 (IRel h) (PySem.W.putL y hsh (.str y t) u en) (up es y v)
  | _, _, .nil => .cons ⟨⟨t, rfl⟩, hv⟩ .nil
  | d :: en, (k, m) :: es, .cons ⟨⟨t', a⟩, b⟩ r => by
    unfold up PySem.W.putL
    rw [isStr_eq a]
    by_cases q : y = k
    · subst q; rw [if_pos rfl]; simp only [decide_true, if_true]; exact .cons ⟨⟨t', a⟩, hv⟩ r
    · rw [if_neg q]; simp only [decide_eq_false q, Bool.false_eq_true, if_false]; exact .cons ⟨⟨t', a⟩, b⟩ (F2.putL hv r)
theorem putL_length (y : Str) (hsh : Int) (key u : Value) : ∀ en : List DictEntry, (PySem.W.putL y hsh key u en).length ≤ en.length + 1
  | [] => by simp [PySem.W.putL]
  | e :: r => by
    unfold PySem.W.putL
    split
    · simp
    · have := putL_length y hsh key u r; simp; omega
section
variable {prog : Program} {w : World} {K : Frag} {C x dx : Addr}
theorem set_inst {E : Value → Shared → Prop} {name : Str} {v : Value} {en : List DictEntry} {m : Nat} {Q : Unit → Shared → Prop} (X : K.In s.heap) (hx : s.heap.get? x = some (instObj C dx)) (hd : s.heap.get? dx = some (dictOf en m)) (hne : x ≠ dx)
    (hs : findIn K (.ref C) "__setattr__" = some (some (.builtin "object.__setattr__"))) (hp : plainOver K C = true) (ht : takerIn K C name = some none) (hh : hasDictIn K C = true) (hr : en.any (·.refKey) = false) (hz : en.length ≤ 1000)
    (h : ∀ h' hsh t k, h'.get? dx = some (dictOf (PySem.W.putL name hsh (.str name t) v en) (putN name en m)) → Heap.SameBut dx s.heap h' → Q () { s with heap := h', toks := k }) : wpAny (model prog w) A (setAttr (.ref x) name v) Q E s := by
  have I : InstAt s.heap x (instObj C dx) C (some (dictOf en m)) := ⟨hx, rfl, rfl, hd⟩
  refine set_plain X I hs (osa_open (s := { s with toks := s.toks + 1 }) X I hp ht fun b => ?_)
  obtain ⟨cd, hc, hd'⟩ := any_some hh
  refine wpAny_bind (wpAny_pure (wpAny_bind (wpAny_bind (wpAny_loadPart hx (wpAny_bind (Looks.here (s := { s with toks := s.toks + 1 }) (looks_clsIn X hc) ?_))))))
  rw [hd']
  refine wpAny_pure (a := some dx) (wpAny_bind (wpAny_pure (wpAny_bind ?_)))
  unfold nsSet
  refine wpAny_bind (wpAny_bind (wpAny_askSetting (wpAny_pure (wpAny_bind (wpAny_mkText (wpAny_bind (wpAny_loadPart hd ?_)))))))
  dsimp only
  have cc : (!en.toArray.any (·.key.isStr name) && en.toArray.any (·.refKey)) = false := by
    rw [← Array.any_toList, ← Array.any_toList, List.toList_toArray, hr, Bool.and_false]
  rw [aRefKeyMayBeTheName_at, cc]
  refine wpAny_updatePart hd ?_
  have g : (s.heap.update dx (Obj.putName name (PyData.keyHash w.params name) (.str name (s.toks + 1)) v)).get? dx = some (dictOf (PySem.W.putL name (PyData.keyHash w.params name) (.str name (s.toks + 1)) v en) (putN name en m)) := by
    have := Heap.get?_update_self (Obj.putName name (PyData.keyHash w.params name) (.str name (s.toks + 1)) v) hd (by rw [putName_dict]; rfl)
    rw [putName_dict] at this; exact this
  refine wpAny_bind (wpAny_lookBehind g (pastItsLine_dict (by rw [List.size_toArray, sizeLine_eq]; have := putL_length name (PyData.keyHash w.params name) (.str name (s.toks + 1)) v en; omega)) ?_)
  exact wpAny_pure (h _ _ _ _ g (Heap.SameBut.update ..))
end
/-! ## mini instances -/
theorem Rel.turnI {h h' : Heap} {k dx : Addr} {es es' : List (Str × MV)} (R : Rel c σ h) (hk : σ k = some (.inst dx es)) (hs : Heap.ExtBut dx h h') (o : ORel c h' k (.inst dx es')) : Rel c (upd σ k (.inst dx es')) h' := by
  have hd : σ dx = some (.aux k) := R.own _ _ _ hk
  have h0 : c.h₀.get? dx = none := R.new _ _ hd (by intro _ q; cases q)
  obtain ⟨o₀, g₀, nt⟩ := R.atk hd
  have tk : TKeep h h' := fun b o' e t => hs b o' (fun q => by subst q; rw [g₀] at e; cases e; exact nt t) e
  have kd : k ≠ dx := fun q => by rw [q, hd] at hk; cases hk
  refine ⟨fun b o' e => hs b o' (fun q => by rw [q, h0] at e; cases e) (R.base b o' e), fun j m e => ?_, fun j m e nf => ?_, fun j dy es₁ e => ?_⟩
  · by_cases q : j = k
    · subst q; rw [upd_eq] at e; cases e; exact o
    · rw [upd_ne q] at e
      by_cases q2 : j = dx
      · subst q2
        rw [hd] at e; cases e
        obtain ⟨en, nn, _, b, _⟩ := o
        exact ⟨en, nn, b⟩
      · refine (R.obj j m e).keep tk (fun o' g => hs j o' q2 g) fun dy es₁ z o' g => hs dy o' (fun z' => ?_) g
        have := R.own j dy es₁ (z ▸ e); rw [z', hd] at this; cases this; exact q rfl
  · by_cases q : j = k
    · subst q; exact R.new _ _ hk (by intro _ q; cases q)
    · rw [upd_ne q] at e; exact R.new j m e nf
  · by_cases q : j = k
    · subst q; rw [upd_eq] at e; cases e; rw [upd_ne (Ne.symm kd)]; exact hd
    · rw [upd_ne q] at e
      have w := R.own j dy es₁ e
      have : dy ≠ k := fun z => by rw [z, hk] at w; cases w
      rw [upd_ne this]; exact w
theorem Rel.newI {h h' : Heap} {k dx : Addr} (R : Rel c σ h) (k0 : h.get? k = none) (d0 : h.get? dx = none) (hne : k ≠ dx) (kp : ∀ b o, h.get? b = some o → h'.get? b = some o) (g1 : h'.get? k = some (instObj c.rd dx)) (g2 : h'.get? dx = some emptyDict) :
    Rel c (upd (upd σ dx (.aux k)) k (.inst dx [])) h' := by
  have R' := R.keeps kp
  refine ⟨R'.base, fun j m e => ?_, fun j m e nf => ?_, fun j dy es e => ?_⟩
  · by_cases q : j = k
    · subst q; rw [upd_eq] at e; cases e; exact ⟨[], 0, g1, g2, .nil⟩
    · rw [upd_ne q] at e
      by_cases q2 : j = dx
      · subst q2; rw [upd_eq] at e; cases e; exact ⟨[], 0, g2⟩
      · rw [upd_ne q2] at e; exact R'.obj j m e
  · by_cases q : j = k
    · subst q; exact R.freeBase k0
    · rw [upd_ne q] at e
      by_cases q2 : j = dx
      · subst q2; exact R.freeBase d0
      · rw [upd_ne q2] at e; exact R.new j m e nf
  · by_cases q : j = k
    · subst q; rw [upd_eq] at e; cases e; rw [upd_ne (Ne.symm hne), upd_eq]
    · rw [upd_ne q] at e
      by_cases q2 : j = dx
      · subst q2; rw [upd_eq] at e; cases e
      · rw [upd_ne q2] at e
        have w := R.own j dy es e
        rw [upd_ne (fun z => by rw [z, R.notk k0] at w; cases w), upd_ne (fun z => by rw [z, R.notk d0] at w; cases w)]; exact w
/-- what the class of the reader is -/
structure RdOk (c : Cx) (fI : Addr) : Prop where
  at_ : c.mg "Reader" = some (.ref c.rd)
  keep : keepIn c.K (.ref c.rd) = true
  made : makesIn c.K c.rd = true
  get : plainGet c.K c.rd "" = true
  hasd : hasDictIn c.K c.rd = true
  setter : findIn c.K (.ref c.rd) "__setattr__" = some (some (.builtin "object.__setattr__"))
  over : plainOver c.K c.rd = true
  init : findIn c.K (.ref c.rd) "__init__" = some (some (.ref fI))
  initF : typeIn c.K (.ref fI) = some (.type "function")
theorem RdOk.gets {fI : Addr} (H : RdOk c fI) : findIn c.K (.ref c.rd) "__getattribute__" = some (some (.builtin "object.__getattribute__")) ∧ findIn c.K (.ref c.rd) "__getattr__" = some none := plainGet_of H.get
theorem Rel.inK {h : Heap} (G : Gd c) (R : Rel c σ h) : c.K.In h := G.X.keeps R.base
theorem handed_of {h : Heap} {v : Value} {m : MV} (r : VRel h v m) : handedIn v = true := by
  cases m with
  | a y =>
    cases y with
    | none => obtain rfl := r.isNone; rfl
    | bool b => obtain rfl := r.bool; rfl
    | int i => obtain ⟨t, rfl⟩ := r.int; rfl
    | bytes b => obtain ⟨t, rfl⟩ := r.bytes; rfl
    | ref k => obtain rfl := r.ref; rfl
  | tup xs => obtain ⟨k, _, _, rfl, _⟩ := r.tup; rfl
  | rng lo hi st => obtain ⟨k, _, _, _, rfl, _⟩ := r.rng; rfl
/-- o.name, o a plain name -/
theorem WE_attr {fI : Addr} {o : Str} {op : Pos} {name : Str} {Q : MV → MS → Prop} (G : Gd c) (H : RdOk c fI) (ha : findIn c.K (.ref c.rd) name = some none)
    (h : WE c n sc ρ σ (.Name o op) fun ov σ1 => ∃ k dx es v, ov = .ref k ∧ σ1 k = some (.inst dx es) ∧ lk es name = some v ∧ Q v σ1) : WE c n sc ρ σ (.Attribute (.Name o op) name pos) Q := fun A env s hr he hf hR => by
  show wpAny c.M A (eval (.Attribute (.Name o op) name pos) env) _ _ _
  rw [arm_eval_Attribute]
  show wpAny c.M A (do
    let o' ← eval (.Name o op) env
    standAt pos.atName
    let r ← holding [o'] (getAttr o' name true)
    letTemporaryGo (.Name o op) o' r
    pure r) _ _ _
  refine wpAny_bind (h.use hr he hf hR fun ov s₁ u σ1 r1 st1 hf1 h1 => wpAny_bind (wpAny_standAt (wpAny_bind (wpAny_holding ?_))))
  obtain ⟨k, dx, es, v, rfl, hk, hv, q⟩ := h1
  obtain rfl := r1.ref
  obtain ⟨en, m, g1, g2, f⟩ := st1.rel.obj _ _ hk
  obtain ⟨u, e1, e2⟩ := f.getL hv
  have I : InstAt s₁.heap k (instObj c.rd dx) c.rd (some (dictOf en m)) := ⟨g1, rfl, rfl, g2⟩
  refine get_value (st1.rel.inK G) I H.gets.1 (findObj_own H.hasd ha rfl (by rw [lookIn_dict]; exact e1)) (handed_of e2) ?_
  exact wpAny_bind (wpAny_pure (wpAny_pure ((Post.tok (X := NoX) st1.rel e2 q).seq st1)))
/-- o.name = v -/
theorem A_attr {fI : Addr} {o : Expr} {name : Str} {v : MV} {Q : List (Str × MV) → MS → Prop} (G : Gd c) (H : RdOk c fI) (ht : takerIn c.K c.rd name = some none)
    (h : WE c n sc ρ σ o fun ov σ1 => ∃ k dx es es', ov = .ref k ∧ σ1 k = some (.inst dx es) ∧ es.length ≤ 1000 ∧ up es name v = es' ∧ Q ρ (upd σ1 k (.inst dx es'))) : WA c n sc ρ σ (.Attribute o name pos) v Q := fun A env s u hr he hf hR hv => by
  rw [arm_assign_Attribute]
  refine wpAny_bind (wpAny_holding (h.use hr he hf hR fun ov s₁ w σ1 r1 st1 hf1 h1 => wpAny_bind (wpAny_standAt (wpAny_bind (wpAny_holding ?_)))))
  obtain ⟨k, dx, es, es', rfl, hk, hz, rfl, q⟩ := h1
  obtain rfl := r1.ref
  obtain ⟨en, m, g1, g2, f⟩ := st1.rel.obj _ _ hk
  have hd := st1.rel.own _ _ _ hk
  have kd : k ≠ dx := fun q => by rw [q, hd] at hk; cases hk
  refine set_inst (st1.rel.inK G) g1 g2 kd H.setter H.over ht H.hasd f.noRef (by rw [f.length]; exact hz) fun h' hsh t tk g hs => wpAny_release' ?_
  have hv1 := VRel.step (X := NoX) hv hR st1
  obtain ⟨o₀, q₀, nt⟩ := st1.rel.atk hd
  have tk' : TKeep s₁.heap h' := fun b o' e t => hs.extBut b o' (fun q => by subst q; rw [q₀] at e; cases e; exact nt t) e
  have R2 := st1.rel.turnI (es' := up es name v) hk hs.extBut ⟨_, _, hs.extBut _ _ kd g1, g, (F2.putL hv1 f).imp fun _ _ y => ⟨y.1, y.2.keep tk'⟩⟩
  have st2 : StepOk c NoX σ1 (upd σ1 k (.inst dx (up es name v))) s₁ { s₁ with heap := h', toks := tk } :=
    ⟨R2, ⟨fun b o e _ g => hs.extBut b o (fun q => by rw [q, hd] at e; cases e) g, fun b o e g => by rw [upd_ne (fun q => by rw [q, hk] at e; cases e)]; exact e, fun b e => by
      by_cases q : b = k
      · subst q; rw [upd_eq] at e; cases e
      · rwa [upd_ne q] at e⟩, rfl, rfl⟩
  exact ⟨ρ, _, hf1.go st1.rel st2.go, (st1.trans st2).toX, q⟩
end Mine
end
section
open PySem PySem.Calls PyProof.Rows PySem.W PySem.SeqAt Builtin Builtin.ObjectAttr Builtin.Getset_descriptor
set_option linter.unusedVariables false
set_option maxRecDepth 100000
namespace Mine
variable {c : Cx} {n : Nat} {sc : Scope} {ρ : List (Str × MV)} {σ : MS} {A : Around} {env : Env} {s : Shared} {pos : Pos} {x : Str}

/-- a method's function object -/
def MethAt (c : Cx) (a : Addr) (ns : List Str) (body : List Stmt) (scope : Scope) : Prop :=
  ∃ o fd, c.h₀.get? a = some o ∧ o.data = .func fd ∧ fd.scope = scope ∧ fd.body = .stmts body ∧ fd.closure = [] ∧ fd.globals = mainGlobals ∧ fd.builtins = builtinsNs ∧ c.h₀.CodeRec fd.code fd.qualname ∧
    ∀ vs : List Value, vs.length = ns.length → bindArgs fd ⟨vs, []⟩ = pure (ns.zip vs)
/-- a call of the function object at a -/
def WCA (c : Cx) (n : Nat) (a : Addr) (xs : List MV) (σ : MS) (Q : MV → MS → Prop) : Prop :=
  ∀ A s vs, Room A n → Rel c σ s.heap → F2 (VRel s.heap) vs xs → codeAny c.M A (.call (.ref a) ⟨vs, []⟩) (fun r s' => match r with | .ok (.ret v) => Post c NoX σ s VRel Q v s' | _ => False) s
theorem WCA_def {a : Addr} {body : List Stmt} {scope : Scope} {ns : List Str} {us : List MV} {Q : MV → MS → Prop} (G : Gd c) (F : MethAt c a ns body scope)
    (hn : ns.Nodup) (hk : (ns.all (okName scope)) = true) (hl : us.length = ns.length)
    (h : WS c n scope (ns.zip us) σ body fun fl _ σ' => match fl with | .ret v => Q v σ' | .next => Q .none σ' | _ => False)
    (hco : scope.isCoroutine = false) (hgen : scope.isGenerator = false) (hkf : scope.kind = .function) : WCA c (n + 1) a us σ Q := fun A s vs hr hR hv => by
  obtain ⟨o, fd, ho, hd, rfl, hb, hcl, hgl, hbu, hcd, hbind⟩ := F
  have hvl : vs.length = ns.length := hv.length.trans hl
  refine codeAny_call_cells hr.depth (hR.base _ _ ho) hd (G.nolimit.keeps hR.base) (hcd.keeps hR.base) hb (hbind vs hvl) hcl (fun y hy => call_kinds hk hvl y hy) (fun s₁ I => ?_) hco hgen hkf
  obtain ⟨hf, R₁, he, out⟩ := call_frame (c := c) (fd := fd) hgl hbu hR hv hvl hn hk hkf I
  refine wpAny_mono (h _ _ s₁ (hr.call _) he hf R₁) (fun fl s' p => ?_) fun _ _ e => e.elim
  obtain ⟨f', ρ', σ', r, _, st, q⟩ := p
  have out := out σ' s' st
  cases f' with
  | next => cases fl <;> first | exact r.elim | exact ⟨_, σ', vNone, out, q⟩
  | ret v => cases fl <;> first | exact r.elim | exact ⟨_, σ', r, out, q⟩
  | brk => exact q.elim
  | cont => exact q.elim
theorem WCA_mono {a : Addr} {us : List MV} {Q Q' : MV → MS → Prop} (h : WCA c n a us σ Q) (hq : ∀ v σ', Q v σ' → Q' v σ') : WCA c n a us σ Q' := fun A s vs hr hR hv =>
  codeAny_mono (h A s vs hr hR hv) fun r s' p => by
    rcases r with e | (v | _ | _ | _) <;> first | exact p.elim | skip
    obtain ⟨u, σ', r, st', q⟩ := p
    exact ⟨u, σ', r, st', hq _ _ q⟩
/-- o.name(), name a method of the class -/
theorem WE_meth {fI f : Addr} {o : Str} {op apos : Pos} {name : Str} {Q : MV → MS → Prop} (G : Gd c) (H : RdOk c fI) (hf : findIn c.K (.ref c.rd) name = some (some (.ref f))) (ht : typeIn c.K (.ref f) = some (.type "function")) (hk : keepIn c.K (.ref f) = true)
    (hline : (apos.endLine == pos.line) = true)
    (h : WE c n sc ρ σ (.Name o op) fun ov σ1 => ∃ k dx es, ov = .ref k ∧ σ1 k = some (.inst dx es) ∧ lk es name = none ∧ WCA c n f [.ref k] σ1 Q) : WE c n sc ρ σ (.Call (.Attribute (.Name o op) name apos) [] [] pos) Q := fun A env s hr he hF hR => by
  show wpAny c.M A (eval (.Call (.Attribute (.Name o op) name apos) [] [] pos) env) _ _ _
  rw [arm_eval_Call]
  show wpAny c.M A (do
    let ov ← eval (.Name o op) env
    standAt apos.atName
    methodCall (.Name o op) name apos pos env ov 0 [] []) _ _ _
  refine wpAny_bind (h.use hr he hF hR fun ov s₁ u σ1 r1 st1 hf1 h1 => wpAny_bind (wpAny_standAt ?_))
  obtain ⟨k, dx, es, rfl, hk1, hv, w⟩ := h1
  obtain rfl := r1.ref
  obtain ⟨en, m, g1, g2, f'⟩ := st1.rel.obj _ _ hk1
  have I : InstAt s₁.heap k (instObj c.rd dx) c.rd (some (dictOf en m)) := ⟨g1, rfl, rfl, g2⟩
  have X := st1.rel.inK G
  unfold methodCall
  have few : methodCallForm 0 [] [] = true := rfl
  rw [few]
  refine wpAny_bind (wpAny_holding ?_)
  show wpAny _ _ (getMethod (.ref k) name _) _ _ _
  refine method_fn X I H.gets.1 H.gets.2 hf ht (by show (lookIn name (dictOf en m)).map _ = _; rw [lookIn_dict, f'.getLnone hv]; rfl) ?_
  dsimp only
  unfold methodCallPos
  rw [hline]
  refine wpAny_bind (wpAny_pure ?_)
  refine callWith_K0 (env := env) X hk ?_
  refine wpAny_call (codeAny_mono (w A s₁ [.ref k] hr st1.rel (.cons vRef .nil)) fun r s' p => ?_)
  rcases r with e | (v | _ | _ | _) <;> first | exact p.elim | exact p.seq st1
/-- Reader(e) -/
theorem WE_make {fI : Addr} {fp : Pos} {e : Expr} {Q : MV → MS → Prop} (G : Gd c) (H : RdOk c fI) (hx : okGlob sc "Reader" = true) (hs : ∀ env : Env, starEach [e] env = [(false, eval e env)])
    (h : WE c (n + 1) sc ρ σ e fun v σ1 => ∀ k dx, σ1 k = none → σ1 dx = none → k ≠ dx → WCA c n fI [.ref k, v] (upd (upd σ1 dx (.aux k)) k (.inst dx [])) fun u σ2 => u = .none ∧ Q (.ref k) σ2) :
    WE c (n + 1) sc ρ σ (.Call (.Name "Reader" fp) [e] [] pos) Q := fun A env s hr he hf hR => by
  refine wpAny_Call_Name_kw (load_glob G he hR hx H.at_ ?_)
  have hse : starEach [e] env = (false, eval e env) :: starEach [] env := hs env
  refine callWith_K (h₀ := c.h₀) (env := env) (rest := []) G.X H.keep ?_ hse
  rw [hse]
  show wpAny c.M A (do
    let v ← eval e env
    let here ← (pure [v] : Sem (List Value))
    return here ++ (← holding here (spliced []))) _ _ s
  refine wpAny_bind (h.use hr he hf hR fun v s₁ u σ1 r1 st1 hf1 h1 => wpAny_bind (wpAny_pure (wpAny_bind (wpAny_holding (wpAny_pure (wpAny_pure ?_))))))
  have X := st1.rel.inK G
  refine ⟨X, wpAny_call ?_⟩
  have kdx := size0 s₁.heap
  have kx : s₁.heap.get? (s₁.heap.objs.size + 1) = none := by
    cases q : s₁.heap.get? (s₁.heap.objs.size + 1) with
    | none => rfl
    | some o => exact absurd (Heap.lt_size q) (by show ¬ (s₁.heap.objs.size + 1 < s₁.heap.objs.size); omega)
  have ne : s₁.heap.objs.size + 1 ≠ s₁.heap.objs.size := Nat.succ_ne_self _
  have w := h1 (s₁.heap.objs.size + 1) s₁.heap.objs.size (st1.rel.notk kx) (st1.rel.notk kdx) ne
  obtain ⟨hh, g, d, t, os⟩ := s₁
  refine make_core (makes_of X H.made) (looks_findIn X H.init) (fun self => bind_fn X self H.initF) (.inl rfl) ?_
  have kp : ∀ b o, hh.get? b = some o → ((hh.push emptyDict).push (instObj c.rd hh.objs.size)).get? b = some o := fun b o e => Heap.get?_push_of_some _ (Heap.get?_push_of_some _ e)
  have g1 : ((hh.push emptyDict).push (instObj c.rd hh.objs.size)).get? (hh.objs.size + 1) = some (instObj c.rd hh.objs.size) := by heap_get
  have g2 : ((hh.push emptyDict).push (instObj c.rd hh.objs.size)).get? hh.objs.size = some emptyDict := Heap.get?_push_of_some _ (Heap.get?_push_size _ rfl)
  have R2 := st1.rel.newI kx kdx ne kp g1 g2
  have st2 : StepOk c NoX σ1 (upd (upd σ1 hh.objs.size (.aux (hh.objs.size + 1))) (hh.objs.size + 1) (.inst hh.objs.size [])) ⟨hh, g, d, t, os⟩ ⟨(hh.push emptyDict).push (instObj c.rd hh.objs.size), g, d, t, os⟩ :=
    ⟨R2, ⟨fun b o _ _ e => kp b o e, fun b o e g' => by rw [upd_ne (fun q => by rw [q, kx] at g'; cases g'), upd_ne (fun q => by rw [q, kdx] at g'; cases g')]; exact e, fun b e => by
      by_cases q : b = hh.objs.size + 1
      · subst q; rw [upd_eq] at e; cases e
      · rw [upd_ne q] at e
        by_cases q2 : b = hh.objs.size
        · subst q2; rw [upd_eq] at e; cases e
        · rwa [upd_ne q2] at e⟩, rfl, rfl⟩
  have hr2 : Room (A.under (.builtin "type.__call__" ⟨.ref c.rd :: [v], []⟩)) n := by
    refine ⟨hr.1, ?_, ?_⟩
    · have := hr.2.1; show A.depth + 1 + n < _; omega
    · have := hr.2.2; show A.units + 1 + 8 * n + 8 < _; omega
  refine codeAny_mono (w _ ⟨(hh.push emptyDict).push (instObj c.rd hh.objs.size), g, d, t, os⟩ [.ref (hh.objs.size + 1), v] hr2 st2.rel (.cons vRef (.cons (VRel.step (X := NoX) r1 st1.rel st2) .nil))) fun r s' p => ?_
  rcases r with e | (v' | _ | _ | _) <;> first | exact p.elim | skip
  obtain ⟨u', σ2, r2, st3, rfl, q⟩ := p
  obtain rfl := r2.isNone
  exact ⟨rfl, .ref (hh.objs.size + 1), σ2, vRef, (st1.trans st2).trans st3, q⟩
end Mine
end
section
open PySem PySem.Calls PyProof.Rows PySem.W PySem.SeqAt
set_option linter.unusedVariables false
set_option maxRecDepth 100000
namespace Mine
variable {c : Cx} {n : Nat} {sc : Scope} {ρ : List (Str × MV)} {σ : MS} {A : Around} {env : Env} {s : Shared} {pos : Pos} {x : Str}

/-! ## the text's defs, by their place in the row -/
def stI (i : Nat) : Stmt := PySem.Challenge.pw_nz0348_01.main.body.getD i (.Pass ⟨0, 0, 0, 0⟩)
def boS : Stmt → List Stmt
  | .FunctionDef _ _ b .. => b
  | .ClassDef _ _ _ b .. => b
  | _ => []
def arS : Stmt → Arguments
  | .FunctionDef _ a .. => a
  | _ => ⟨[], [], none, [], [], none, []⟩
def scS : Stmt → Scope
  | .FunctionDef _ _ _ _ _ _ s .. => s
  | _ => { kind := .function, names := [], isGenerator := false, isCoroutine := false, more := [] }
def nmS : Stmt → Str
  | .FunctionDef m .. => m
  | _ => ""
def FnI (c : Cx) (i : Nat) : Prop := FnAt c (nmS (stI i)) (arS (stI i)) (boS (stI i)) (scS (stI i))
/-- a method of the class Reader -/
def mtI (j : Nat) : Stmt := (boS (stI 25)).getD j (.Pass ⟨0, 0, 0, 0⟩)
def intG (c : Cx) (x : Str) (i : Int) : Prop := ∃ t, c.mg x = some (.int i t)
structure PC (c : Cx) (fI fL fV : Addr) : Prop where
  G : Gd c
  fn : ∀ i ∈ [8, 9, 10, 11, 12, 15, 16, 17, 20, 21, 22, 23, 27, 28, 29, 30, 31, 32, 34, 35, 36, 37, 38, 39, 40, 41], FnI c i
  bLen : Bt c "len" (.builtin "len")
  bAbs : Bt c "abs" (.builtin "abs")
  bSum : Bt c "sum" (.builtin "sum")
  bAny : Bt c "any" (.builtin "any")
  bMax : Bt c "max" (.builtin "max")
  bMin : Bt c "min" (.builtin "min")
  bSorted : Bt c "sorted" (.builtin "sorted")
  bRange : Bt c "range" (.type "range")
  bList : Bt c "list" (.type "list")
  bBytes : Bt c "bytes" (.type "bytes")
  bBa : Bt c "bytearray" (.type "bytearray")
  sizes : GT c "VARINT_SIZES" [1, 2, 4, 8]
  most : intG c "MOST_OCTETS" 4
  rd : RdOk c fI
  mI : MethAt c fI ["self", "data"] (boS (mtI 0)) (scS (mtI 0))
  mL : MethAt c fL ["self"] (boS (mtI 1)) (scS (mtI 1))
  mV : MethAt c fV ["self"] (boS (mtI 5)) (scS (mtI 5))
  data : findIn c.K (.ref c.rd) "data" = some none
  at_ : findIn c.K (.ref c.rd) "at" = some none
  left : findIn c.K (.ref c.rd) "left" = some (some (.ref fL))
  varint : findIn c.K (.ref c.rd) "varint" = some (some (.ref fV))
  leftF : typeIn c.K (.ref fL) = some (.type "function")
  varintF : typeIn c.K (.ref fV) = some (.type "function")
  leftK : keepIn c.K (.ref fL) = true
  varintK : keepIn c.K (.ref fV) = true
theorem WE_intG {i : Int} {Q : MV → MS → Prop} (G : Gd c) (hx : okGlob sc x = true) (hv : intG c x i) (h : Q (.int i) σ) : WE c n sc ρ σ (.Name x pos) Q := by
  obtain ⟨t, e⟩ := hv; exact WE_globInt G hx e h
theorem lk_upS {v : MV} : lk (up ρ x v) x = some v := by rw [lk_up, if_pos rfl]
theorem lk_upN {y : Str} {v w : MV} (h : decide (y = x) = false) (e : lk ρ y = some w) : lk (up ρ x v) y = some w := by
  rw [lk_up, if_neg (by simpa using h)]; exact e
theorem gWE {e : Expr} {Q : MV → MS → Prop} (h : WE c n sc ρ σ e Q) : WE c n sc ρ σ e Q := h
theorem gCall {f : Expr} {es : List Expr} {ks : List Keyword} {Q : MV → MS → Prop} (h : WE c n sc ρ σ (.Call f es ks pos) Q) : WE c n sc ρ σ (.Call f es ks pos) Q := h
theorem gW2 {x y : MV} {f : Value → Value → Sem Value} {Q : MV → MS → Prop} (h : W2 c n σ x y f Q) : W2 c n σ x y f Q := h
theorem gWS {st : List Stmt} {Q : MF → List (Str × MV) → MS → Prop} (h : WS c n sc ρ σ st Q) : WS c n sc ρ σ st Q := h
theorem gWB {e : Expr} {Q : Bool → MS → Prop} (h : WB c n sc ρ σ e Q) : WB c n sc ρ σ e Q := h
theorem gCS {st : List Stmt} {Q : MF → List (Str × MV) → MS → Prop} (h : CS c n sc ρ σ st Q) : CS c n sc ρ σ st Q := h
theorem CE_nm {Q : MV → MS → Prop} (h : WE c n sc ρ σ (.Name x pos) Q) : CE c n sc ρ σ (.Name x pos) Q := .of h
theorem CE_ct {k : Const} {m : Nat} {Q : MV → MS → Prop} (h : WE c n sc ρ σ (.Constant k m pos) Q) : CE c n sc ρ σ (.Constant k m pos) Q := .of h
theorem CE_sb {e i : Expr} {Q : MV → MS → Prop} (h : WE c n sc ρ σ (.Subscript e i pos) Q) : CE c n sc ρ σ (.Subscript e i pos) Q := .of h
theorem isInt {i : Int} {P : Int → Prop} (h : P i) : ∃ j, MV.int i = MV.int j ∧ P j := ⟨i, rfl, h⟩
theorem seqQ_next {rest : List Stmt} {Q : MF → List (Str × MV) → MS → Prop} (h : WS c n sc ρ σ rest Q) : seqQ c n sc rest Q .next ρ σ := h
theorem seqQ_ret {rest : List Stmt} {Q : MF → List (Str × MV) → MS → Prop} {v : MV} (h : Q (.ret v) ρ σ) : seqQ c n sc rest Q (.ret v) ρ σ := h
theorem seqQ_brk {rest : List Stmt} {Q : MF → List (Str × MV) → MS → Prop} (h : Q .brk ρ σ) : seqQ c n sc rest Q .brk ρ σ := h
theorem seqC_next {rest : List Stmt} {Q : MF → List (Str × MV) → MS → Prop} (h : CS c n sc ρ σ rest Q) : seqC c n sc rest Q .next ρ σ := h
theorem seqC_ret {rest : List Stmt} {Q : MF → List (Str × MV) → MS → Prop} {v : MV} (h : Q (.ret v) ρ σ) : seqC c n sc rest Q (.ret v) ρ σ := h
theorem seqC_brk {rest : List Stmt} {Q : MF → List (Str × MV) → MS → Prop} (h : Q .brk ρ σ) : seqC c n sc rest Q .brk ρ σ := h
theorem E_len {fI fL fV : Addr} {bp : Pos} {e : Expr} {rest : List Expr} {Q : MV → MS → Prop} (P : PC c fI fL fV) (hx : okGlob sc "len" = true)
    (hs : ∀ env : Env, starEach (e :: rest) env = (false, eval e env) :: starEach rest env ∧ (starEach rest env).any (·.1) = false) (h : WL c n sc ρ σ pos (e :: rest) fun us σ1 => WBt c n σ1 us (.builtin "len") Q) : WE c n sc ρ σ (.Call (.Name "len" bp) (e :: rest) [] pos) Q := WE_built P.G hx P.bLen hs h
theorem E_abs {fI fL fV : Addr} {bp : Pos} {e : Expr} {rest : List Expr} {Q : MV → MS → Prop} (P : PC c fI fL fV) (hx : okGlob sc "abs" = true)
    (hs : ∀ env : Env, starEach (e :: rest) env = (false, eval e env) :: starEach rest env ∧ (starEach rest env).any (·.1) = false) (h : WL c n sc ρ σ pos (e :: rest) fun us σ1 => WBt c n σ1 us (.builtin "abs") Q) : WE c n sc ρ σ (.Call (.Name "abs" bp) (e :: rest) [] pos) Q := WE_built P.G hx P.bAbs hs h
theorem E_sum {fI fL fV : Addr} {bp : Pos} {e : Expr} {rest : List Expr} {Q : MV → MS → Prop} (P : PC c fI fL fV) (hx : okGlob sc "sum" = true)
    (hs : ∀ env : Env, starEach (e :: rest) env = (false, eval e env) :: starEach rest env ∧ (starEach rest env).any (·.1) = false) (h : WL c n sc ρ σ pos (e :: rest) fun us σ1 => WBt c n σ1 us (.builtin "sum") Q) : WE c n sc ρ σ (.Call (.Name "sum" bp) (e :: rest) [] pos) Q := WE_built P.G hx P.bSum hs h
theorem E_any {fI fL fV : Addr} {bp : Pos} {e : Expr} {rest : List Expr} {Q : MV → MS → Prop} (P : PC c fI fL fV) (hx : okGlob sc "any" = true)
    (hs : ∀ env : Env, starEach (e :: rest) env = (false, eval e env) :: starEach rest env ∧ (starEach rest env).any (·.1) = false) (h : WL c n sc ρ σ pos (e :: rest) fun us σ1 => WBt c n σ1 us (.builtin "any") Q) : WE c n sc ρ σ (.Call (.Name "any" bp) (e :: rest) [] pos) Q := WE_built P.G hx P.bAny hs h
theorem E_max {fI fL fV : Addr} {bp : Pos} {e : Expr} {rest : List Expr} {Q : MV → MS → Prop} (P : PC c fI fL fV) (hx : okGlob sc "max" = true)
    (hs : ∀ env : Env, starEach (e :: rest) env = (false, eval e env) :: starEach rest env ∧ (starEach rest env).any (·.1) = false) (h : WL c n sc ρ σ pos (e :: rest) fun us σ1 => WBt c n σ1 us (.builtin "max") Q) : WE c n sc ρ σ (.Call (.Name "max" bp) (e :: rest) [] pos) Q := WE_built P.G hx P.bMax hs h
theorem E_min {fI fL fV : Addr} {bp : Pos} {e : Expr} {rest : List Expr} {Q : MV → MS → Prop} (P : PC c fI fL fV) (hx : okGlob sc "min" = true)
    (hs : ∀ env : Env, starEach (e :: rest) env = (false, eval e env) :: starEach rest env ∧ (starEach rest env).any (·.1) = false) (h : WL c n sc ρ σ pos (e :: rest) fun us σ1 => WBt c n σ1 us (.builtin "min") Q) : WE c n sc ρ σ (.Call (.Name "min" bp) (e :: rest) [] pos) Q := WE_built P.G hx P.bMin hs h
theorem E_sorted {fI fL fV : Addr} {bp : Pos} {e : Expr} {rest : List Expr} {Q : MV → MS → Prop} (P : PC c fI fL fV) (hx : okGlob sc "sorted" = true)
    (hs : ∀ env : Env, starEach (e :: rest) env = (false, eval e env) :: starEach rest env ∧ (starEach rest env).any (·.1) = false) (h : WL c n sc ρ σ pos (e :: rest) fun us σ1 => WBt c n σ1 us (.builtin "sorted") Q) : WE c n sc ρ σ (.Call (.Name "sorted" bp) (e :: rest) [] pos) Q := WE_built P.G hx P.bSorted hs h
theorem E_range {fI fL fV : Addr} {bp : Pos} {e : Expr} {rest : List Expr} {Q : MV → MS → Prop} (P : PC c fI fL fV) (hx : okGlob sc "range" = true)
    (hs : ∀ env : Env, starEach (e :: rest) env = (false, eval e env) :: starEach rest env ∧ (starEach rest env).any (·.1) = false) (h : WL c n sc ρ σ pos (e :: rest) fun us σ1 => WBt c n σ1 us (.type "range") Q) : WE c n sc ρ σ (.Call (.Name "range" bp) (e :: rest) [] pos) Q := WE_type P.G hx P.bRange hs h
theorem E_list {fI fL fV : Addr} {bp : Pos} {e : Expr} {rest : List Expr} {Q : MV → MS → Prop} (P : PC c fI fL fV) (hx : okGlob sc "list" = true)
    (hs : ∀ env : Env, starEach (e :: rest) env = (false, eval e env) :: starEach rest env ∧ (starEach rest env).any (·.1) = false) (h : WL c n sc ρ σ pos (e :: rest) fun us σ1 => WBt c n σ1 us (.type "list") Q) : WE c n sc ρ σ (.Call (.Name "list" bp) (e :: rest) [] pos) Q := WE_type P.G hx P.bList hs h
theorem E_bytes {fI fL fV : Addr} {bp : Pos} {e : Expr} {rest : List Expr} {Q : MV → MS → Prop} (P : PC c fI fL fV) (hx : okGlob sc "bytes" = true)
    (hs : ∀ env : Env, starEach (e :: rest) env = (false, eval e env) :: starEach rest env ∧ (starEach rest env).any (·.1) = false) (h : WL c n sc ρ σ pos (e :: rest) fun us σ1 => WBt c n σ1 us (.type "bytes") Q) : WE c n sc ρ σ (.Call (.Name "bytes" bp) (e :: rest) [] pos) Q := WE_type P.G hx P.bBytes hs h
theorem E_most {fI fL fV : Addr} {Q : MV → MS → Prop} (P : PC c fI fL fV) (hx : okGlob sc "MOST_OCTETS" = true) (h : Q (.int 4) σ) : WE c n sc ρ σ (.Name "MOST_OCTETS" pos) Q := WE_intG P.G hx P.most h
theorem E_sizes {fI fL fV : Addr} {Q : MV → MS → Prop} (P : PC c fI fL fV) (hx : okGlob sc "VARINT_SIZES" = true) (h : Q (.tup [.int 1, .int 2, .int 4, .int 8]) σ) : WE c n sc ρ σ (.Name "VARINT_SIZES" pos) Q := WE_globTup P.G hx P.sizes h
end Mine
end
section
open PySem PySem.W PyProof.Rows PySem.Calls
set_option maxRecDepth 100000
set_option maxHeartbeats 8000000
namespace Mine
abbrev WalkC (q : Program) (loose : List Str) (XP : (Str → Option Value) → Heap → Prop) (YP : World → Heap → Prop) (r : RowW) (d : DefRec) (kwd : List (Str × PySem.Expr)) : Prop :=
  ∀ (w : World) (s₀ s₁ : Shared) (mg mb : Str → Option Value), Ground q loose r.records XP w s₀ mg mb s₁.heap → YP w s₁.heap → ∀ (a : Addr) (o : Obj) (pm cd doc dV kV : Value), s₁.heap.get? a = some o →
    o.data = .func { docDef d.name d.params d.body d.scope pm cd doc with defaults := dV, kwdefaults := kV } → s₁.heap.CodeRec cd d.name → Dflts mg s₁.heap d.params kwd dV kV → mg d.name = some (.ref a) → s₁.gens = #[] →
    ∀ (args : List WData) (vals : List Value) (as : List Addr), r.claim.pre args = true → WData.layableAll args = true → ReadsAllW r.records (classAt s₀.heap) s₁.heap vals args as → WellAll w.params s₁.heap vals args → (∀ a ∈ as, (a == sysModules) = false) →
      wpC (model r.prog w) callerA (PySem.call (.ref a) vals) (fun v s' => GoodWG r.claim (classAt s₀.heap) (ExcName.means s₀.heap) args s₁ (.ok (.ret v)) s') s₁
abbrev callΓ : Ctx := ⟨.builtin "claim.caller" {}, none, none, [], none⟩
theorem callΓ_in : CIn callΓ := ⟨by decide +kernel, fun e he => by cases he⟩
theorem ends_here {prog : Program} {w : World} {t : Sem Fin} {s : Shared} {R : Result → Shared → Prop} (hreg : s.asleep)
    (h : wpC (model prog w) callerA t (fun fin s' => ∃ f, fin = .done f ∧ (R (.ok f) s' ∧ leftWithCleanup s'.gens = false)) s) :
    ∃ n r s' s'', runN (denote table) prog w n s ⟨t, .builtin "claim.caller" {}, default, []⟩ = .halted (outcomeOf r) s' ∧
      schedN (denote table) prog w n (.single s ⟨t, .builtin "claim.caller" {}, default, []⟩) = .halted (outcomeOf r) s' ∧ s'.forget = s''.forget ∧ R r s'' := by
  have key : Sem.wp (model prog w) callΓ t (Sem.finPost (model prog w) callΓ fun r s' => R r s' ∧ leftWithCleanup s'.gens = false) (fun e _ s' => R (.error e) s' ∧ leftWithCleanup s'.gens = false) default s :=
    Sem.wp_mono _ _ _ (fun fin p' s' h' => by obtain ⟨f, rfl, hf⟩ := h'; exact hf) (fun _ _ _ f => f.elim) _ _ (h callΓ default caller_in callΓ_in)
  obtain ⟨n, r, s₁, s₂, hs, hn, hfo, hR⟩ := wp_halts_full (M := model prog w) (R := R) hreg key
  exact ⟨n, r, s₂, s₁, hn, hs, hfo, hR⟩
theorem callFromC {c : ClaimW} {tree : List Value → Sem Fin} {w : World} {s : Shared} {free : Addr → Prop} {gens : Prop} {kept : Heap → Prop} (hz : s.asleep) (hgens : s.gens = #[])
    (hspec : ∀ args, c.pre args = true → WData.layableAll args = true → ∀ ord : List DictEntry → List DictEntry, (∀ l, (ord l).Perm l) →
      ∃ vs s₁, layAllW c.records (classAt s.heap) w.params ord args s = some (vs, s₁) ∧
        wpC (model c.prog w) callerA (tree vs) (fun fin s' => ∃ f, fin = .done f ∧ (c.Ends s args vs s₁ (.ok f) s' ∧ s'.os = s.os ∧ AllBare s'.gens ∧ kept s'.heap)) s₁) :
    c.CallFrom (fun vs => ⟨tree vs, .builtin "claim.caller" {}, default, []⟩) w free gens kept s := by
  intro args hpre hlay ord hord
  obtain ⟨vs, s₁, hlaid, hcode⟩ := hspec args hpre hlay ord hord
  obtain ⟨_, _, _, life⟩ := layAllW_rest _ _ _ hlaid
  obtain ⟨k, r, s', s'', hrun, hsched, hfo, hcase, hos, hkp⟩ := ends_here (prog := c.prog) (w := w) (t := tree vs) (s := s₁)
    (R := fun r s' => c.Ends s args vs s₁ r s' ∧ s'.os = s.os ∧ kept s'.heap) (Shared.asleep_of_life life hz)
    (wpC_mono hcode fun fin s' q => by
      obtain ⟨f, e, h1, h2, h3, h4⟩ := q
      exact ⟨f, e, ⟨h1, h2, h4⟩, leftWithCleanup_false_of_bare h3⟩)
  obtain ⟨eh, _, _, eo, _⟩ := Shared.forget_eq hfo
  rw [← eo] at hos
  rw [← eh] at hkp
  refine ⟨vs, s₁, hlaid, k, _, s', hsched, ?_, (fun _ i x hx => by rw [hgens] at hx; simp at hx), hkp, by rw [(runN_life _ _ _ hrun).trans life], Shared.rest_eq hos⟩
  rcases hcase.congr eh with ⟨v, rfl, d1, d2, d3, d4, d5⟩ | ⟨e, ob, cls, rfl, d1, d2, d3, d4, d5⟩
  · exact .inl ⟨v, rfl, d1, d2, d3, fun b o y _ => d4 b o y, d5⟩
  · exact .inr ⟨e, ob, cls, rfl, d1, d2, d3, d4, fun b o y _ => d5 b o y⟩
theorem holds_here {r : OpenRow} {q : Program} {loose : List Str} {Xt : Shared → Bool} {XP : (Str → Option Value) → Heap → Prop} {α : Type} {Yf : Shared → α} {Ya : World → α} {YP : World → Heap → Prop} {d : DefRec} {kwd : List (Str × PySem.Expr)} {N : Nat}
    (left : LeftO r.prog q loose Xt Yf Ya N) (hY : ∀ w s, Yf s = Ya w → YP w s.heap) (hYk : ∀ w h h', YP w h → (∀ b o, h.get? b = some o → h'.get? b = some o) → YP w h')
    (hX : ∀ s, Xt s = true → XP (s.heap.nsMap mainGlobals) s.heap) (hXk : ∀ mg h h', XP mg h → (∀ b o, h.get? b = some o → h'.get? b = some o) → XP mg h')
    (hdef : defOf q r.name = some (d, kwd)) (hp : r.prog.theDef r.name = some (d.params, d.body, d.scope)) (hk : kwWritten? d.params.kwonlyargs d.params.kw_defaults = some kwd) (hRf : ∀ s, Xt s = true → RecFacts r.records s.heap) (hwr : (!r.writes || r.records.isEmpty) = true)
    (k1 : r.wellSaid = true) (ok : (chainsOk q && opensWell r.prog && (frees r.toRowW && r.within.isEmpty)) = true) (hb : r.prog.bare) (hw : r.toRowW.promised)
    (call : WalkC q loose XP YP r.toRowW d kwd) : r.Holds := by
  have okd := ok
  simp only [Bool.and_eq_true] at okd
  obtain ⟨⟨hch, o1⟩, k5, k6⟩ := okd
  obtain ⟨hsame, hu, ha, hap, hm⟩ := frees_parts k5
  have beh := left.behind (XP := fun mg h => XP mg h ∧ RecFacts r.records h) (fun s hs => ⟨hX s hs, hRf s hs⟩) hch
  refine ⟨k1, hw, ⟨⟨hb, o1, by show r.toRowW.makers.map _ = []; rw [hm]; rfl⟩, hw.witness, fun w => ⟨(beh w).1, fun s' hs' => ?_⟩⟩⟩
  obtain ⟨s₀, hf, hg0, s, hT, hz, hge, hg, GX, y⟩ := (beh w).2 s' hs'
  have G0 : Ground q loose [] XP w s (s.heap.nsMap mainGlobals) (s.heap.nsMap builtinsNs) s.heap := ⟨GX.T, GX.B, GX.D, GX.TE, GX.TD, GX.W, GX.X.1, GX.cls, GX.has, GX.apart, GX.once, GX.K⟩
  have RF := GX.X.2
  have hgens : s.gens = #[] := Array.eq_empty_of_size_eq_zero (beq_iff_eq.mp hge)
  have G : Ground q loose r.toRowW.records XP w s _ _ s.heap := RF.ground G0
  refine ⟨s₀, hf, hg0, s, hT, (fun n hn => ?_), RF.1, RF.2.1, callFromC (c := r.toRowW.claim) (tree := fun vs => do match ← nsGet mainNs r.name with
      | some f => do ret (← PySem.call f vs)
      | none => unsupported "claim.caller:no-such-global") hz hgens fun args hpre hlay ord hord => ?_⟩
  · obtain rfl : n = r.name := by split at hn <;> simp_all
    exact pinned_of_view hg G0 hdef hp hk
  obtain ⟨⟨vs, s₁⟩, hlaid⟩ := Option.isSome_iff_exists.mp (layAllW_isSome (P := w.params) (ord := ord) G.has args r.toRowW.args s (pre_splitW hpre).1)
  have keeps := layAllW_keeps _ _ _ hlaid
  obtain ⟨as, hrd, hin, hold⟩ := reads_layAllW hord _ _ _ hlaid hlay s₁.heap (fun _ _ e => e)
  have rest := layAllW_rest _ _ _ hlaid
  have L : Laid r.toRowW.records w s s₁ args vs as := ⟨⟨ord, hord, hlaid⟩, hrd, hin, hold, keeps, rest.1.trans hgens, rest.2.2.1⟩
  have G₁ := G.keeps hXk keeps
  obtain ⟨a, o, pm, cd, doc, dV, kV, h1, h2, h3, h4, h5⟩ := G₁.fn hdef
  have h := call w s s₁ _ _ G₁ (hYk _ _ _ (hY w s y) keeps) a o pm cd doc dV kV h2 h3 h4 h5 (defOf_name hdef ▸ h1) L.gens args vs as hpre hlay L.reads L.well (L.low G.low)
  have hi := ident_freeW hu ha hap
  have hwi : r.toRowW.claim.within = [] := List.isEmpty_iff.mp k6
  refine ⟨vs, s₁, hlaid, wpC_bind (.of (wpAny_nsGet G₁.T.g ?_))⟩
  rw [h1]
  refine wpC_bind (wpC_mono h fun v s' g => wpC_pure ⟨_, rfl, ?_⟩)
  have z := g.laid (c := r.toRowW.claim) hsame hwi hi L
  exact ⟨z.1, z.2.1, z.2.2, fun q => ⟨namesKept_of hT hg _ keeps g.2.1.old, noTable hwr q⟩⟩
/-- what the head looks at: the text without the stores into __name__ -/
noncomputable def view : Program := { PySem.Challenge.pw_nz0348_01 with main := { PySem.Challenge.pw_nz0348_01.main with body := [stI 0, stI 2, stI 3, stI 4, stI 5, stI 7, stI 8, stI 9, stI 10, stI 11, stI 12, stI 14, stI 15, stI 16, stI 17, stI 19, stI 20, stI 21, stI 22, stI 23, stI 25, stI 27, stI 28, stI 29, stI 30, stI 31, stI 32, stI 34, stI 35, stI 36, stI 37, stI 38, stI 39, stI 40, stI 41] } }
/-- the few objects of the top that the proof looks into -/
noncomputable def KR (P : Params) : Frag := [
(3,
  { cls := Value.type "dict",
    data :=
      Data.dict
        #[{ hash := PyData.keyHash P (Str.ofString "__name__"), key := Value.str (Str.ofString "__name__") 165,
            val := Value.str (Str.ofString "law_nz0348_01") 529 },
          { hash := PyData.keyHash P (Str.ofString "__doc__"), key := Value.str (Str.ofString "__doc__") 166,
            val := Value.none },
          { hash := PyData.keyHash P (Str.ofString "__package__"), key := Value.str (Str.ofString "__package__") 167,
            val := Value.none },
          { hash := PyData.keyHash P (Str.ofString "__loader__"), key := Value.str (Str.ofString "__loader__") 168,
            val := Value.builtin "__main__.__loader__#opaque" },
          { hash := PyData.keyHash P (Str.ofString "__spec__"), key := Value.str (Str.ofString "__spec__") 169,
            val := Value.none },
          { hash := PyData.keyHash P (Str.ofString "__annotations__"),
            key := Value.str (Str.ofString "__annotations__") 170, val := Value.ref 6 },
          { hash := PyData.keyHash P (Str.ofString "__builtins__"), key := Value.str (Str.ofString "__builtins__") 171,
            val := Value.ref 4 },
          { hash := PyData.keyHash P (Str.ofString "__file__"), key := Value.str (Str.ofString "__file__") 173,
            val := Value.str (Str.ofString "/claim/cut.py") 172 },
          { hash := PyData.keyHash P (Str.ofString "__cached__"), key := Value.str (Str.ofString "__cached__") 174,
            val := Value.none },
          { hash := PyData.keyHash P (Str.ofString "_wall"), key := Value.str (Str.ofString "_wall") 193,
            val := Value.ref 21 },
          { hash := PyData.keyHash P (Str.ofString "INTERNAL_ERROR"),
            key := Value.str (Str.ofString "INTERNAL_ERROR") 197, val := Value.int 1 196 },
          { hash := PyData.keyHash P (Str.ofString "FRAME_ENCODING_ERROR"),
            key := Value.str (Str.ofString "FRAME_ENCODING_ERROR") 199, val := Value.int 7 198 },
          { hash := PyData.keyHash P (Str.ofString "QuicError"), key := Value.str (Str.ofString "QuicError") 232,
            val := Value.ref 38 },
          { hash := PyData.keyHash P (Str.ofString "Short"), key := Value.str (Str.ofString "Short") 261,
            val := Value.ref 58 },
          { hash := PyData.keyHash P (Str.ofString "VARINT_SIZES"), key := Value.str (Str.ofString "VARINT_SIZES") 268,
            val := Value.ref 62 },
          { hash := PyData.keyHash P (Str.ofString "put_whole"), key := Value.str (Str.ofString "put_whole") 278,
            val := Value.ref 69 },
          { hash := PyData.keyHash P (Str.ofString "get_whole"), key := Value.str (Str.ofString "get_whole") 289,
            val := Value.ref 76 },
          { hash := PyData.keyHash P (Str.ofString "varint_size"), key := Value.str (Str.ofString "varint_size") 297,
            val := Value.ref 83 },
          { hash := PyData.keyHash P (Str.ofString "put_varint"), key := Value.str (Str.ofString "put_varint") 306,
            val := Value.ref 90 },
          { hash := PyData.keyHash P (Str.ofString "get_varint"), key := Value.str (Str.ofString "get_varint") 315,
            val := Value.ref 97 },
          { hash := PyData.keyHash P (Str.ofString "MOST_OCTETS"), key := Value.str (Str.ofString "MOST_OCTETS") 319,
            val := Value.int 4 318 },
          { hash := PyData.keyHash P (Str.ofString "number_size"), key := Value.str (Str.ofString "number_size") 329,
            val := Value.ref 104 },
          { hash := PyData.keyHash P (Str.ofString "cut_number"), key := Value.str (Str.ofString "cut_number") 338,
            val := Value.ref 111 },
          { hash := PyData.keyHash P (Str.ofString "restore_number"),
            key := Value.str (Str.ofString "restore_number") 351, val := Value.ref 118 },
          { hash := PyData.keyHash P (Str.ofString "ACK_TYPE"), key := Value.str (Str.ofString "ACK_TYPE") 355,
            val := Value.int 2 354 },
          { hash := PyData.keyHash P (Str.ofString "gaps_of"), key := Value.str (Str.ofString "gaps_of") 367,
            val := Value.ref 125 },
          { hash := PyData.keyHash P (Str.ofString "ranges_of"), key := Value.str (Str.ofString "ranges_of") 380,
            val := Value.ref 132 },
          { hash := PyData.keyHash P (Str.ofString "put_ranges"), key := Value.str (Str.ofString "put_ranges") 394,
            val := Value.ref 139 },
          { hash := PyData.keyHash P (Str.ofString "fitting"), key := Value.str (Str.ofString "fitting") 411,
            val := Value.ref 146 },
          { hash := PyData.keyHash P (Str.ofString "Reader"), key := Value.str (Str.ofString "Reader") 482,
            val := Value.ref 198 },
          { hash := PyData.keyHash P (Str.ofString "add_number"), key := Value.str (Str.ofString "add_number") 497,
            val := Value.ref 209 },
          { hash := PyData.keyHash P (Str.ofString "has_number"), key := Value.str (Str.ofString "has_number") 503,
            val := Value.ref 214 },
          { hash := PyData.keyHash P (Str.ofString "largest_of"), key := Value.str (Str.ofString "largest_of") 510,
            val := Value.ref 221 },
          { hash := PyData.keyHash P (Str.ofString "count_of"), key := Value.str (Str.ofString "count_of") 516,
            val := Value.ref 226 },
          { hash := PyData.keyHash P (Str.ofString "newly_acked"), key := Value.str (Str.ofString "newly_acked") 522,
            val := Value.ref 231 },
          { hash := PyData.keyHash P (Str.ofString "prune"), key := Value.str (Str.ofString "prune") 528,
            val := Value.ref 236 },
          { hash := PyData.keyHash P (Str.ofString "_law_box"), key := Value.str (Str.ofString "_law_box") 536,
            val := Value.ref 241 },
          { hash := PyData.keyHash P (Str.ofString "_law_take"), key := Value.str (Str.ofString "_law_take") 544,
            val := Value.ref 248 },
          { hash := PyData.keyHash P (Str.ofString "_law_come"), key := Value.str (Str.ofString "_law_come") 555,
            val := Value.ref 255 },
          { hash := PyData.keyHash P (Str.ofString "_law_send"), key := Value.str (Str.ofString "_law_send") 566,
            val := Value.ref 262 },
          { hash := PyData.keyHash P (Str.ofString "_law_tell"), key := Value.str (Str.ofString "_law_tell") 572,
            val := Value.ref 267 },
          { hash := PyData.keyHash P (Str.ofString "_law_hear"), key := Value.str (Str.ofString "_law_hear") 578,
            val := Value.ref 272 },
          { hash := PyData.keyHash P (Str.ofString "_law_step"), key := Value.str (Str.ofString "_law_step") 584,
            val := Value.ref 277 },
          { hash := PyData.keyHash P (Str.ofString "law"), key := Value.str (Str.ofString "law") 590,
            val := Value.ref 282 }]
        44 }),
(62,
  { cls := Value.type "tuple", data := Data.seq #[Value.int 1 264, Value.int 2 265, Value.int 4 266, Value.int 8 267] }),
(159,
  { cls := Value.type "code",
    data :=
      Data.fields
        #[Value.str (Str.ofString "__init__") 426, Value.str (Str.ofString "Reader.__init__") 427,
          Value.str (Str.ofString "/claim/cut.py") 428, Value.int 114 0, Value.int 2 0, Value.int 0 0, Value.int 0 0,
          Value.int 3 0, Value.ref 154, Value.bool true, Value.int 181 0, Value.ref 155, Value.none, Value.ref 156,
          Value.ref 157, Value.ref 158, Value.int 431 0, Value.int 114 0,
          Value.str (Str.ofString "/claim/cut.py") 432] }),
(160,
  { cls := Value.type "function",
    data :=
      Data.func
        { name := Str.ofString "__init__", qualname := Str.ofString "Reader.__init__",
          params := arS (mtI 0), body := FuncBody.stmts (boS (mtI 0)), scope := scS (mtI 0), globals := 3, closure := [], defaults := Value.none, kwdefaults := Value.none,
          pyModule := Value.str (Str.ofString "quic.octets") 412, code := Value.ref 159 } }),
(166,
  { cls := Value.type "code",
    data :=
      Data.fields
        #[Value.str (Str.ofString "left") 434, Value.str (Str.ofString "Reader.left") 435,
          Value.str (Str.ofString "/claim/cut.py") 436, Value.int 118 0, Value.int 1 0, Value.int 0 0, Value.int 0 0,
          Value.int 3 0, Value.ref 161, Value.bool true, Value.int 181 0, Value.ref 162, Value.none, Value.ref 163,
          Value.ref 164, Value.ref 165, Value.int 438 0, Value.int 118 0,
          Value.str (Str.ofString "/claim/cut.py") 439] }),
(167,
  { cls := Value.type "function",
    data :=
      Data.func
        { name := Str.ofString "left", qualname := Str.ofString "Reader.left",
          params := arS (mtI 1), body := FuncBody.stmts (boS (mtI 1)), scope := scS (mtI 1), globals := 3, closure := [], defaults := Value.none, kwdefaults := Value.none,
          pyModule := Value.str (Str.ofString "quic.octets") 412, code := Value.ref 166 } }),
(194,
  { cls := Value.type "code",
    data :=
      Data.fields
        #[Value.str (Str.ofString "varint") 465, Value.str (Str.ofString "Reader.varint") 466,
          Value.str (Str.ofString "/claim/cut.py") 467, Value.int 132 0, Value.int 1 0, Value.int 0 0, Value.int 0 0,
          Value.int 3 0, Value.ref 189, Value.bool true, Value.int 181 0, Value.ref 190, Value.none, Value.ref 191,
          Value.ref 192, Value.ref 193, Value.int 470 0, Value.int 132 0,
          Value.str (Str.ofString "/claim/cut.py") 471] }),
(195,
  { cls := Value.type "function",
    data :=
      Data.func
        { name := Str.ofString "varint", qualname := Str.ofString "Reader.varint",
          params := arS (mtI 5), body := FuncBody.stmts (boS (mtI 5)), scope := scS (mtI 5), globals := 3, closure := [], defaults := Value.none, kwdefaults := Value.none,
          pyModule := Value.str (Str.ofString "quic.octets") 412, code := Value.ref 194 } }),
(197,
  { cls := Value.type "dict",
    data :=
      Data.dict
        #[{ hash := PyData.keyHash P (Str.ofString "__module__"), key := Value.str (Str.ofString "__module__") 421,
            val := Value.str (Str.ofString "quic.octets") 412 },
          { hash := PyData.keyHash P (Str.ofString "__firstlineno__"),
            key := Value.str (Str.ofString "__firstlineno__") 425, val := Value.int 112 424 },
          { hash := PyData.keyHash P (Str.ofString "__init__"), key := Value.str (Str.ofString "__init__") 433,
            val := Value.ref 160 },
          { hash := PyData.keyHash P (Str.ofString "left"), key := Value.str (Str.ofString "left") 440,
            val := Value.ref 167 },
          { hash := PyData.keyHash P (Str.ofString "take"), key := Value.str (Str.ofString "take") 448,
            val := Value.ref 174 },
          { hash := PyData.keyHash P (Str.ofString "rest"), key := Value.str (Str.ofString "rest") 455,
            val := Value.ref 181 },
          { hash := PyData.keyHash P (Str.ofString "whole"), key := Value.str (Str.ofString "whole") 464,
            val := Value.ref 188 },
          { hash := PyData.keyHash P (Str.ofString "varint"), key := Value.str (Str.ofString "varint") 472,
            val := Value.ref 195 },
          { hash := PyData.keyHash P (Str.ofString "__static_attributes__"),
            key := Value.str (Str.ofString "__static_attributes__") 475, val := Value.ref 196 },
          { hash := PyData.keyHash P (Str.ofString "__dict__"), key := Value.str (Str.ofString "__dict__") 477,
            val := Value.ref 199 },
          { hash := PyData.keyHash P (Str.ofString "__weakref__"), key := Value.str (Str.ofString "__weakref__") 479,
            val := Value.ref 200 },
          { hash := PyData.keyHash P (Str.ofString "__doc__"), key := Value.str (Str.ofString "__doc__") 480,
            val := Value.none }]
        4 }),
(198,
  { cls := Value.type "type",
    data :=
      Data.cls
        { name := Str.ofString "Reader", bases := [Value.type "object"], mro := [Value.ref 198, Value.type "object"],
          ns := 197, qualname := Str.ofString "Reader" },
    slots :=
      #[none, none, some (Value.str (Str.ofString "Reader") 414), some (Value.str (Str.ofString "Reader") 422),
        some (Value.builtin "object.__new__"), some (Value.bool true)] })]
def asR : List Addr := [3, 62, 159, 160, 166, 167, 194, 195, 197, 198]
theorem asR_eq : ∀ P, asR = (KR P).map (·.1) := fun P => rfl
noncomputable abbrev hookR : Hook := kHook KR asR asR_eq
def poS : Stmt → Pos
  | .FunctionDef _ _ _ _ _ _ _ _ _ p => p
  | _ => default
def lawD : DefRec := ⟨nmS (stI 41), arS (stI 41), boS (stI 41), scS (stI 41), poS (stI 41)⟩
namespace Tp
/-! ## the top in pieces: what each piece leaves (printed by genhead.py) -/
abbrev sv (s : String) (t : Tok) : Value := .str (Str.ofString s) t
abbrev de (P : Params) (s : String) (t : Tok) (v : Value) : DictEntry := ⟨PyData.keyHash P (Str.ofString s), .str (Str.ofString s) t, v⟩
abbrev oT (l : List Value) : Obj := { cls := .type "tuple", data := .seq ⟨l⟩ }
abbrev oF (l : List Value) : Obj := { cls := .none, data := .fields ⟨l⟩ }
abbrev oK (l : List Value) : Obj := { cls := .type "code", data := .fields ⟨l⟩ }
abbrev oG (t : String) (l : List Value) : Obj := { cls := .type t, data := .fields ⟨l⟩ }
abbrev oR (l : List (Option Value)) : Obj := { cls := .type "frame", slots := ⟨l⟩ }
abbrev oD (l : List DictEntry) (n : Nat) : Obj := { cls := .type "dict", data := .dict ⟨l⟩ n }
abbrev oE (l : List DictEntry) (n : Nat) : Obj := { cls := .none, data := .dict ⟨l⟩ n }
abbrev oM (a b : String) (s : Stmt) : Obj := { cls := .none, data := .func { name := Str.ofString a, qualname := Str.ofString b, params := arS s, body := .stmts (boS s), scope := scS s, globals := 0, closure := [], defaults := .none, kwdefaults := .none } }
abbrev oU (a b : String) (s : Stmt) (m k : Value) : Obj := { cls := .type "function", data := .func { name := Str.ofString a, qualname := Str.ofString b, params := arS s, body := .stmts (boS s), scope := scS s, globals := 3, closure := [], defaults := .none, kwdefaults := .none, pyModule := m, code := k } }
abbrev oL (a : String) (bs mro : List Value) (ns : Addr) (b : String) (sl : List (Option Value)) : Obj := { cls := .type "type", data := .cls { name := Str.ofString a, bases := bs, mro := mro, ns := ns, qualname := Str.ofString b }, slots := ⟨sl⟩ }
abbrev mtJ (i j : Nat) : Stmt := (boS (stI i)).getD j (.Pass ⟨0, 0, 0, 0⟩)
noncomputable def dE (P : Params) : List DictEntry := [de P "__doc__" 166 (.none),
  de P "__package__" 167 (.none),
  de P "__loader__" 168 (.builtin "__main__.__loader__#opaque"),
  de P "__spec__" 169 (.none),
  de P "__annotations__" 170 (.ref 6),
  de P "__builtins__" 171 (.ref 4),
  de P "__file__" 173 (sv "/claim/cut.py" 172),
  de P "__cached__" 174 (.none),
  de P "_wall" 193 (.ref 21),
  de P "INTERNAL_ERROR" 197 (.int 1 196),
  de P "FRAME_ENCODING_ERROR" 199 (.int 7 198),
  de P "QuicError" 232 (.ref 38),
  de P "Short" 261 (.ref 58),
  de P "VARINT_SIZES" 268 (.ref 62),
  de P "put_whole" 278 (.ref 69),
  de P "get_whole" 289 (.ref 76),
  de P "varint_size" 297 (.ref 83),
  de P "put_varint" 306 (.ref 90),
  de P "get_varint" 315 (.ref 97),
  de P "MOST_OCTETS" 319 (.int 4 318),
  de P "number_size" 329 (.ref 104),
  de P "cut_number" 338 (.ref 111),
  de P "restore_number" 351 (.ref 118),
  de P "ACK_TYPE" 355 (.int 2 354),
  de P "gaps_of" 367 (.ref 125),
  de P "ranges_of" 380 (.ref 132),
  de P "put_ranges" 394 (.ref 139),
  de P "fitting" 411 (.ref 146),
  de P "Reader" 482 (.ref 198),
  de P "add_number" 497 (.ref 209),
  de P "has_number" 503 (.ref 214),
  de P "largest_of" 510 (.ref 221),
  de P "count_of" 516 (.ref 226),
  de P "newly_acked" 522 (.ref 231),
  de P "prune" 528 (.ref 236),
  de P "_law_box" 536 (.ref 241),
  de P "_law_take" 544 (.ref 248),
  de P "_law_come" 555 (.ref 255),
  de P "_law_send" 566 (.ref 262),
  de P "_law_tell" 572 (.ref 267),
  de P "_law_hear" 578 (.ref 272),
  de P "_law_step" 584 (.ref 277),
  de P "law" 590 (.ref 282)]
noncomputable def wE : List Value := [.int 1 0, .int 0 0, .ref 20, .int 7 0, .int 0 0, .ref 27, .int 14 0, .int 0 0, .ref 47, .int 21 0, .int 0 0, .ref 68, .int 29 0, .int 0 0, .ref 75, .int 36 0, .int 0 0, .ref 82, .int 41 0, .int 0 0, .ref 89, .int 48 0, .int 0 0, .ref 96, .int 55 0, .int 0 0, .ref 103, .int 61 0, .int 0 0, .ref 110, .int 64 0, .int 0 0, .ref 117, .int 76 0, .int 0 0, .ref 124, .int 83 0, .int 0 0, .ref 131, .int 93 0, .int 0 0, .ref 138, .int 99 0, .int 0 0, .ref 145, .int 112 0, .int 0 0, .ref 152, .int 136 0, .int 0 0, .ref 208, .int 149 0, .int 0 0, .ref 213, .int 151 0, .int 0 0, .ref 220, .int 153 0, .int 0 0, .ref 225, .int 155 0, .int 0 0, .ref 230, .int 157 0, .int 0 0, .ref 235, .int 160 0, .int 0 0, .ref 240, .int 163 0, .int 0 0, .ref 247, .int 168 0, .int 0 0, .ref 254, .int 183 0, .int 0 0, .ref 261, .int 193 0, .int 0 0, .ref 266, .int 204 0, .int 0 0, .ref 271, .int 221 0, .int 0 0, .ref 276, .int 236 0, .int 0 0, .ref 281]
noncomputable def tE (P : Params) : List DictEntry := [de P "type.__subclasses__.Exception.0" 229 (.int 38 0), de P "type.__subclasses__.Exception.n" 230 (.int 2 0), de P "type.__subclasses__.Exception.1" 258 (.int 58 0)]
noncomputable def nO0 (_ : Params) (r : List Obj) : List Obj := oK [sv "<module>" 182, sv "<module>" 183, sv "/claim/cut.py" 184, .int 1 0, .int 0 0, .int 0 0, .int 0 0, .int 0 0, .ref 11, .bool false, .int 181 0, .ref 12, .none, .none, .none, .none, .int 185 0, .int 1 0, sv "/claim/cut.py" 186] ::
  oR [some (.ref 13), some (.ref 3), some (.ref 3), none, some (sv "__main__" 164), none, some (.ref 0)] :: r
noncomputable def nO1 (P : Params) (r : List Obj) : List Obj := oT [] ::
  oF [] ::
  oT [sv "k" 190] ::
  oT [] ::
  oM "_wall" "_wall" (stI 0) ::
  oK [sv "_wall" 187, sv "_wall" 188, sv "/claim/cut.py" 189, .int 1 0, .int 1 0, .int 0 0, .int 0 0, .int 3 0, .ref 15, .bool true, .int 181 0, .ref 16, .none, .ref 17, .ref 18, .ref 19, .int 191 0, .int 1 0, sv "/claim/cut.py" 192] ::
  oU "_wall" "_wall" (stI 0) (sv "__main__" 164) (.ref 20) ::
  oT [.type "Exception"] ::
  oG "builtin_function_or_method" [.builtin "type.__prepare__", .type "type"] ::
  oD [de P "__module__" 207 (sv "quic.errors" 194), de P "__qualname__" 209 (sv "QuicError" 208), de P "__firstlineno__" 211 (.int 7 210), de P "__init__" 221 (.ref 35), de P "__static_attributes__" 225 (.ref 36)] 5 ::
  oT [] ::
  oF [.int 9 0, .int 4 0, .ref 34] ::
  oK [sv "QuicError" 202, sv "QuicError" 203, sv "/claim/cut.py" 204, .int 7 0, .int 0 0, .int 0 0, .int 0 0, .int 0 0, .ref 25, .bool false, .int 181 0, .ref 26, .none, .none, .none, .none, .int 205 0, .int 7 0, sv "/claim/cut.py" 206] ::
  oR [some (.ref 27), some (.ref 3), some (.ref 24), none, some (sv "quic.errors" 194), none, some (.ref 0)] ::
  oT [] ::
  oF [] ::
  oT [sv "self" 215, sv "code" 216, sv "frame_type" 217, sv "text" 218] ::
  oT [] ::
  oM "__init__" "QuicError.__init__" (mtJ 4 0) ::
  oK [sv "__init__" 212, sv "QuicError.__init__" 213, sv "/claim/cut.py" 214, .int 9 0, .int 4 0, .int 0 0, .int 0 0, .int 3 0, .ref 29, .bool true, .int 181 0, .ref 30, .none, .ref 31, .ref 32, .ref 33, .int 219 0, .int 9 0, sv "/claim/cut.py" 220] ::
  oU "__init__" "QuicError.__init__" (mtJ 4 0) (sv "quic.errors" 194) (.ref 34) ::
  oT [sv "code" 222, sv "frame_type" 223, sv "text" 224] ::
  oD [de P "__module__" 207 (sv "quic.errors" 194), de P "__firstlineno__" 211 (.int 7 210), de P "__init__" 221 (.ref 35), de P "__static_attributes__" 225 (.ref 36), de P "__weakref__" 227 (.ref 39), de P "__doc__" 228 (.none)] 3 ::
  oL "QuicError" [.type "Exception"] [.ref 38, .type "Exception", .type "BaseException", .type "object"] 37 "QuicError" [some (.ref 22), none, some (sv "QuicError" 200), some (sv "QuicError" 208), some (.builtin "Exception.__new__"), some (.bool true)] ::
  oG "getset_descriptor" [sv "__weakref__" 226, .ref 38, .builtin "ExceptionGroup.__weakref__", .none] ::
  oG "super" [.ref 38, .ref 38, .ref 38] ::
  oG "builtin_function_or_method" [.builtin "object.__init_subclass__", .ref 38] ::
  oT [.type "Exception"] ::
  oG "builtin_function_or_method" [.builtin "type.__prepare__", .type "type"] ::
  oD [de P "__module__" 240 (sv "quic.errors" 194), de P "__qualname__" 242 (sv "Short" 241), de P "__firstlineno__" 244 (.int 14 243), de P "__init__" 252 (.ref 55), de P "__static_attributes__" 254 (.ref 56)] 5 ::
  oT [] ::
  oF [.int 16 0, .int 4 0, .ref 54] ::
  oK [sv "Short" 235, sv "Short" 236, sv "/claim/cut.py" 237, .int 14 0, .int 0 0, .int 0 0, .int 0 0, .int 0 0, .ref 45, .bool false, .int 181 0, .ref 46, .none, .none, .none, .none, .int 238 0, .int 14 0, sv "/claim/cut.py" 239] ::
  oR [some (.ref 47), some (.ref 3), some (.ref 44), none, some (sv "quic.errors" 194), none, some (.ref 0)] ::
  oT [] ::
  oF [] ::
  oT [sv "self" 248, sv "text" 249] ::
  oT [] ::
  oM "__init__" "Short.__init__" (mtJ 5 0) ::
  oK [sv "__init__" 245, sv "Short.__init__" 246, sv "/claim/cut.py" 247, .int 16 0, .int 2 0, .int 0 0, .int 0 0, .int 3 0, .ref 49, .bool true, .int 181 0, .ref 50, .none, .ref 51, .ref 52, .ref 53, .int 250 0, .int 16 0, sv "/claim/cut.py" 251] ::
  oU "__init__" "Short.__init__" (mtJ 5 0) (sv "quic.errors" 194) (.ref 54) ::
  oT [sv "text" 253] ::
  oD [de P "__module__" 240 (sv "quic.errors" 194), de P "__firstlineno__" 244 (.int 14 243), de P "__init__" 252 (.ref 55), de P "__static_attributes__" 254 (.ref 56), de P "__weakref__" 256 (.ref 59), de P "__doc__" 257 (.none)] 3 ::
  oL "Short" [.type "Exception"] [.ref 58, .type "Exception", .type "BaseException", .type "object"] 57 "Short" [some (.ref 42), none, some (sv "Short" 233), some (sv "Short" 241), some (.builtin "Exception.__new__"), some (.bool true)] ::
  oG "getset_descriptor" [sv "__weakref__" 255, .ref 58, .builtin "ExceptionGroup.__weakref__", .none] ::
  oG "super" [.ref 58, .ref 58, .ref 58] ::
  oG "builtin_function_or_method" [.builtin "object.__init_subclass__", .ref 58] :: r
noncomputable def nO2 (P : Params) (r : List Obj) : List Obj := oT [.int 1 264, .int 2 265, .int 4 266, .int 8 267] ::
  oT [] ::
  oF [] ::
  oT [sv "n" 272, sv "size" 273, sv "found" 274, sv "place" 275] ::
  oT [] ::
  oM "put_whole" "put_whole" (stI 8) ::
  oK [sv "put_whole" 269, sv "put_whole" 270, sv "/claim/cut.py" 271, .int 21 0, .int 2 0, .int 0 0, .int 0 0, .int 3 0, .ref 63, .bool true, .int 181 0, .ref 64, .none, .ref 65, .ref 66, .ref 67, .int 276 0, .int 21 0, sv "/claim/cut.py" 277] ::
  oU "put_whole" "put_whole" (stI 8) (sv "quic.varint" 262) (.ref 68) ::
  oT [] ::
  oF [] ::
  oT [sv "data" 282, sv "at" 283, sv "size" 284, sv "found" 285, sv "octet" 286] ::
  oT [] ::
  oM "get_whole" "get_whole" (stI 9) ::
  oK [sv "get_whole" 279, sv "get_whole" 280, sv "/claim/cut.py" 281, .int 29 0, .int 3 0, .int 0 0, .int 0 0, .int 3 0, .ref 70, .bool true, .int 181 0, .ref 71, .none, .ref 72, .ref 73, .ref 74, .int 287 0, .int 29 0, sv "/claim/cut.py" 288] ::
  oU "get_whole" "get_whole" (stI 9) (sv "quic.varint" 262) (.ref 75) ::
  oT [] ::
  oF [] ::
  oT [sv "n" 293, sv "size" 294] ::
  oT [] ::
  oM "varint_size" "varint_size" (stI 10) ::
  oK [sv "varint_size" 290, sv "varint_size" 291, sv "/claim/cut.py" 292, .int 36 0, .int 1 0, .int 0 0, .int 0 0, .int 3 0, .ref 77, .bool true, .int 181 0, .ref 78, .none, .ref 79, .ref 80, .ref 81, .int 295 0, .int 36 0, sv "/claim/cut.py" 296] ::
  oU "varint_size" "varint_size" (stI 10) (sv "quic.varint" 262) (.ref 82) ::
  oT [] ::
  oF [] ::
  oT [sv "n" 301, sv "size" 302, sv "least" 303] ::
  oT [] ::
  oM "put_varint" "put_varint" (stI 11) ::
  oK [sv "put_varint" 298, sv "put_varint" 299, sv "/claim/cut.py" 300, .int 41 0, .int 2 0, .int 0 0, .int 0 0, .int 3 0, .ref 84, .bool true, .int 181 0, .ref 85, .none, .ref 86, .ref 87, .ref 88, .int 304 0, .int 41 0, sv "/claim/cut.py" 305] ::
  oU "put_varint" "put_varint" (stI 11) (sv "quic.varint" 262) (.ref 89) ::
  oT [] ::
  oF [] ::
  oT [sv "data" 310, sv "at" 311, sv "size" 312] ::
  oT [] ::
  oM "get_varint" "get_varint" (stI 12) ::
  oK [sv "get_varint" 307, sv "get_varint" 308, sv "/claim/cut.py" 309, .int 48 0, .int 2 0, .int 0 0, .int 0 0, .int 3 0, .ref 91, .bool true, .int 181 0, .ref 92, .none, .ref 93, .ref 94, .ref 95, .int 313 0, .int 48 0, sv "/claim/cut.py" 314] ::
  oU "get_varint" "get_varint" (stI 12) (sv "quic.varint" 262) (.ref 96) ::
  oT [] ::
  oF [] ::
  oT [sv "full" 323, sv "largest_acked" 324, sv "apart" 325, sv "size" 326] ::
  oT [] ::
  oM "number_size" "number_size" (stI 15) ::
  oK [sv "number_size" 320, sv "number_size" 321, sv "/claim/cut.py" 322, .int 55 0, .int 2 0, .int 0 0, .int 0 0, .int 3 0, .ref 98, .bool true, .int 181 0, .ref 99, .none, .ref 100, .ref 101, .ref 102, .int 327 0, .int 55 0, sv "/claim/cut.py" 328] ::
  oU "number_size" "number_size" (stI 15) (sv "quic.pnum" 316) (.ref 103) ::
  oT [] ::
  oF [] ::
  oT [sv "full" 333, sv "largest_acked" 334, sv "size" 335] ::
  oT [] ::
  oM "cut_number" "cut_number" (stI 16) ::
  oK [sv "cut_number" 330, sv "cut_number" 331, sv "/claim/cut.py" 332, .int 61 0, .int 2 0, .int 0 0, .int 0 0, .int 3 0, .ref 105, .bool true, .int 181 0, .ref 106, .none, .ref 107, .ref 108, .ref 109, .int 336 0, .int 61 0, sv "/claim/cut.py" 337] ::
  oU "cut_number" "cut_number" (stI 16) (sv "quic.pnum" 316) (.ref 110) ::
  oT [] ::
  oF [] ::
  oT [sv "truncated" 342, sv "size" 343, sv "largest_seen" 344, sv "expected" 345, sv "window" 346, sv "half" 347, sv "found" 348] ::
  oT [] ::
  oM "restore_number" "restore_number" (stI 17) ::
  oK [sv "restore_number" 339, sv "restore_number" 340, sv "/claim/cut.py" 341, .int 64 0, .int 3 0, .int 0 0, .int 0 0, .int 3 0, .ref 112, .bool true, .int 181 0, .ref 113, .none, .ref 114, .ref 115, .ref 116, .int 349 0, .int 64 0, sv "/claim/cut.py" 350] ::
  oU "restore_number" "restore_number" (stI 17) (sv "quic.pnum" 316) (.ref 117) ::
  oT [] ::
  oF [] ::
  oT [sv "ranges" 359, sv "low" 360, sv "high" 361, sv "found" 362, sv "before" 363, sv "one" 364] ::
  oT [] ::
  oM "gaps_of" "gaps_of" (stI 20) ::
  oK [sv "gaps_of" 356, sv "gaps_of" 357, sv "/claim/cut.py" 358, .int 76 0, .int 1 0, .int 0 0, .int 0 0, .int 3 0, .ref 119, .bool true, .int 181 0, .ref 120, .none, .ref 121, .ref 122, .ref 123, .int 365 0, .int 76 0, sv "/claim/cut.py" 366] ::
  oU "gaps_of" "gaps_of" (stI 20) (sv "quic.ackform" 352) (.ref 124) ::
  oT [] ::
  oF [] ::
  oT [sv "largest" 371, sv "first" 372, sv "pairs" 373, sv "found" 374, sv "gap" 375, sv "size" 376, sv "high" 377] ::
  oT [] ::
  oM "ranges_of" "ranges_of" (stI 21) ::
  oK [sv "ranges_of" 368, sv "ranges_of" 369, sv "/claim/cut.py" 370, .int 83 0, .int 3 0, .int 0 0, .int 0 0, .int 3 0, .ref 126, .bool true, .int 181 0, .ref 127, .none, .ref 128, .ref 129, .ref 130, .int 378 0, .int 83 0, sv "/claim/cut.py" 379] ::
  oU "ranges_of" "ranges_of" (stI 21) (sv "quic.ackform" 352) (.ref 131) ::
  oT [] ::
  oF [] ::
  oT [sv "delay" 384, sv "ranges" 385, sv "largest" 386, sv "first" 387, sv "pairs" 388, sv "found" 389, sv "gap" 390, sv "size" 391] ::
  oT [] ::
  oM "put_ranges" "put_ranges" (stI 22) ::
  oK [sv "put_ranges" 381, sv "put_ranges" 382, sv "/claim/cut.py" 383, .int 93 0, .int 2 0, .int 0 0, .int 0 0, .int 3 0, .ref 133, .bool true, .int 181 0, .ref 134, .none, .ref 135, .ref 136, .ref 137, .int 392 0, .int 93 0, sv "/claim/cut.py" 393] ::
  oU "put_ranges" "put_ranges" (stI 22) (sv "quic.ackform" 352) (.ref 138) ::
  oT [] ::
  oF [] ::
  oT [sv "delay" 398, sv "ranges" 399, sv "room" 400, sv "largest" 401, sv "first" 402, sv "pairs" 403, sv "used" 404, sv "many" 405, sv "size" 406, sv "gap" 407, sv "length" 408] ::
  oT [] ::
  oM "fitting" "fitting" (stI 23) ::
  oK [sv "fitting" 395, sv "fitting" 396, sv "/claim/cut.py" 397, .int 99 0, .int 3 0, .int 0 0, .int 0 0, .int 3 0, .ref 140, .bool true, .int 181 0, .ref 141, .none, .ref 142, .ref 143, .ref 144, .int 409 0, .int 99 0, sv "/claim/cut.py" 410] ::
  oU "fitting" "fitting" (stI 23) (sv "quic.ackform" 352) (.ref 145) ::
  oT [] ::
  oG "builtin_function_or_method" [.builtin "type.__prepare__", .type "type"] ::
  oD [de P "__module__" 421 (sv "quic.octets" 412), de P "__qualname__" 423 (sv "Reader" 422), de P "__firstlineno__" 425 (.int 112 424), de P "__init__" 433 (.ref 160), de P "left" 440 (.ref 167), de P "take" 448 (.ref 174), de P "rest" 455 (.ref 181), de P "whole" 464 (.ref 188), de P "varint" 472 (.ref 195), de P "__static_attributes__" 475 (.ref 196)] 10 ::
  oT [] ::
  oF [.int 114 0, .int 4 0, .ref 159, .int 118 0, .int 4 0, .ref 166, .int 121 0, .int 4 0, .ref 173, .int 124 0, .int 4 0, .ref 180, .int 127 0, .int 4 0, .ref 187, .int 132 0, .int 4 0, .ref 194] ::
  oK [sv "Reader" 416, sv "Reader" 417, sv "/claim/cut.py" 418, .int 112 0, .int 0 0, .int 0 0, .int 0 0, .int 0 0, .ref 150, .bool false, .int 181 0, .ref 151, .none, .none, .none, .none, .int 419 0, .int 112 0, sv "/claim/cut.py" 420] ::
  oR [some (.ref 152), some (.ref 3), some (.ref 149), none, some (sv "quic.octets" 412), none, some (.ref 0)] ::
  oT [] ::
  oF [] ::
  oT [sv "self" 429, sv "data" 430] ::
  oT [] ::
  oM "__init__" "Reader.__init__" (mtJ 25 0) ::
  oK [sv "__init__" 426, sv "Reader.__init__" 427, sv "/claim/cut.py" 428, .int 114 0, .int 2 0, .int 0 0, .int 0 0, .int 3 0, .ref 154, .bool true, .int 181 0, .ref 155, .none, .ref 156, .ref 157, .ref 158, .int 431 0, .int 114 0, sv "/claim/cut.py" 432] ::
  oU "__init__" "Reader.__init__" (mtJ 25 0) (sv "quic.octets" 412) (.ref 159) ::
  oT [] ::
  oF [] ::
  oT [sv "self" 437] ::
  oT [] ::
  oM "left" "Reader.left" (mtJ 25 1) ::
  oK [sv "left" 434, sv "Reader.left" 435, sv "/claim/cut.py" 436, .int 118 0, .int 1 0, .int 0 0, .int 0 0, .int 3 0, .ref 161, .bool true, .int 181 0, .ref 162, .none, .ref 163, .ref 164, .ref 165, .int 438 0, .int 118 0, sv "/claim/cut.py" 439] ::
  oU "left" "Reader.left" (mtJ 25 1) (sv "quic.octets" 412) (.ref 166) ::
  oT [] ::
  oF [] ::
  oT [sv "self" 444, sv "many" 445] ::
  oT [] ::
  oM "take" "Reader.take" (mtJ 25 2) ::
  oK [sv "take" 441, sv "Reader.take" 442, sv "/claim/cut.py" 443, .int 121 0, .int 2 0, .int 0 0, .int 0 0, .int 3 0, .ref 168, .bool true, .int 181 0, .ref 169, .none, .ref 170, .ref 171, .ref 172, .int 446 0, .int 121 0, sv "/claim/cut.py" 447] ::
  oU "take" "Reader.take" (mtJ 25 2) (sv "quic.octets" 412) (.ref 173) ::
  oT [] ::
  oF [] ::
  oT [sv "self" 452] ::
  oT [] ::
  oM "rest" "Reader.rest" (mtJ 25 3) ::
  oK [sv "rest" 449, sv "Reader.rest" 450, sv "/claim/cut.py" 451, .int 124 0, .int 1 0, .int 0 0, .int 0 0, .int 3 0, .ref 175, .bool true, .int 181 0, .ref 176, .none, .ref 177, .ref 178, .ref 179, .int 453 0, .int 124 0, sv "/claim/cut.py" 454] ::
  oU "rest" "Reader.rest" (mtJ 25 3) (sv "quic.octets" 412) (.ref 180) ::
  oT [] ::
  oF [] ::
  oT [sv "self" 459, sv "size" 460, sv "found" 461] ::
  oT [] ::
  oM "whole" "Reader.whole" (mtJ 25 4) ::
  oK [sv "whole" 456, sv "Reader.whole" 457, sv "/claim/cut.py" 458, .int 127 0, .int 2 0, .int 0 0, .int 0 0, .int 3 0, .ref 182, .bool true, .int 181 0, .ref 183, .none, .ref 184, .ref 185, .ref 186, .int 462 0, .int 127 0, sv "/claim/cut.py" 463] ::
  oU "whole" "Reader.whole" (mtJ 25 4) (sv "quic.octets" 412) (.ref 187) ::
  oT [] ::
  oF [] ::
  oT [sv "self" 468, sv "found" 469] ::
  oT [] ::
  oM "varint" "Reader.varint" (mtJ 25 5) ::
  oK [sv "varint" 465, sv "Reader.varint" 466, sv "/claim/cut.py" 467, .int 132 0, .int 1 0, .int 0 0, .int 0 0, .int 3 0, .ref 189, .bool true, .int 181 0, .ref 190, .none, .ref 191, .ref 192, .ref 193, .int 470 0, .int 132 0, sv "/claim/cut.py" 471] ::
  oU "varint" "Reader.varint" (mtJ 25 5) (sv "quic.octets" 412) (.ref 194) ::
  oT [sv "at" 473, sv "data" 474] ::
  oD [de P "__module__" 421 (sv "quic.octets" 412), de P "__firstlineno__" 425 (.int 112 424), de P "__init__" 433 (.ref 160), de P "left" 440 (.ref 167), de P "take" 448 (.ref 174), de P "rest" 455 (.ref 181), de P "whole" 464 (.ref 188), de P "varint" 472 (.ref 195), de P "__static_attributes__" 475 (.ref 196), de P "__dict__" 477 (.ref 199), de P "__weakref__" 479 (.ref 200), de P "__doc__" 480 (.none)] 4 ::
  oL "Reader" [.type "object"] [.ref 198, .type "object"] 197 "Reader" [none, none, some (sv "Reader" 414), some (sv "Reader" 422), some (.builtin "object.__new__"), some (.bool true)] ::
  oG "getset_descriptor" [sv "__dict__" 476, .ref 198, .builtin "function.__dict__", .builtin "function.__dict__#set"] ::
  oG "getset_descriptor" [sv "__weakref__" 478, .ref 198, .builtin "ExceptionGroup.__weakref__", .none] ::
  oG "super" [.ref 198, .ref 198, .ref 198] ::
  oG "builtin_function_or_method" [.builtin "object.__init_subclass__", .ref 198] :: r
noncomputable def nO3 (_ : Params) (r : List Obj) : List Obj := oT [] ::
  oF [] ::
  oT [sv "ranges" 488, sv "n" 489, sv "low" 490, sv "high" 491, sv "found" 492, sv "is_in" 493, sv "one" 494] ::
  oT [] ::
  oM "add_number" "add_number" (stI 27) ::
  oK [sv "add_number" 485, sv "add_number" 486, sv "/claim/cut.py" 487, .int 136 0, .int 2 0, .int 0 0, .int 0 0, .int 3 0, .ref 203, .bool true, .int 181 0, .ref 204, .none, .ref 205, .ref 206, .ref 207, .int 495 0, .int 136 0, sv "/claim/cut.py" 496] ::
  oU "add_number" "add_number" (stI 27) (sv "quic.ranges" 483) (.ref 208) ::
  oT [] ::
  oF [] ::
  oM "has_number" "has_number" (stI 28) ::
  oK [sv "has_number" 498, sv "has_number" 499, sv "/claim/cut.py" 500, .int 149 0, .int 2 0, .int 0 0, .int 0 0, .int 3 0, .ref 210, .bool true, .int 181 0, .ref 211, .none, .none, .none, .ref 212, .int 501 0, .int 149 0, sv "/claim/cut.py" 502] ::
  oU "has_number" "has_number" (stI 28) (sv "quic.ranges" 483) (.ref 213) ::
  oT [] ::
  oF [] ::
  oT [sv "ranges" 507] ::
  oT [] ::
  oM "largest_of" "largest_of" (stI 29) ::
  oK [sv "largest_of" 504, sv "largest_of" 505, sv "/claim/cut.py" 506, .int 151 0, .int 1 0, .int 0 0, .int 0 0, .int 3 0, .ref 215, .bool true, .int 181 0, .ref 216, .none, .ref 217, .ref 218, .ref 219, .int 508 0, .int 151 0, sv "/claim/cut.py" 509] ::
  oU "largest_of" "largest_of" (stI 29) (sv "quic.ranges" 483) (.ref 220) ::
  oT [] ::
  oF [] ::
  oM "count_of" "count_of" (stI 30) ::
  oK [sv "count_of" 511, sv "count_of" 512, sv "/claim/cut.py" 513, .int 153 0, .int 1 0, .int 0 0, .int 0 0, .int 3 0, .ref 222, .bool true, .int 181 0, .ref 223, .none, .none, .none, .ref 224, .int 514 0, .int 153 0, sv "/claim/cut.py" 515] ::
  oU "count_of" "count_of" (stI 30) (sv "quic.ranges" 483) (.ref 225) ::
  oT [] ::
  oF [] ::
  oM "newly_acked" "newly_acked" (stI 31) ::
  oK [sv "newly_acked" 517, sv "newly_acked" 518, sv "/claim/cut.py" 519, .int 155 0, .int 2 0, .int 0 0, .int 0 0, .int 3 0, .ref 227, .bool true, .int 181 0, .ref 228, .none, .none, .none, .ref 229, .int 520 0, .int 155 0, sv "/claim/cut.py" 521] ::
  oU "newly_acked" "newly_acked" (stI 31) (sv "quic.ranges" 483) (.ref 230) ::
  oT [] ::
  oF [] ::
  oM "prune" "prune" (stI 32) ::
  oK [sv "prune" 523, sv "prune" 524, sv "/claim/cut.py" 525, .int 157 0, .int 2 0, .int 0 0, .int 0 0, .int 3 0, .ref 232, .bool true, .int 181 0, .ref 233, .none, .none, .none, .ref 234, .int 526 0, .int 157 0, sv "/claim/cut.py" 527] ::
  oU "prune" "prune" (stI 32) (sv "quic.ranges" 483) (.ref 235) ::
  oT [] ::
  oF [] ::
  oM "_law_box" "_law_box" (stI 34) ::
  oK [sv "_law_box" 531, sv "_law_box" 532, sv "/claim/cut.py" 533, .int 160 0, .int 1 0, .int 0 0, .int 0 0, .int 3 0, .ref 237, .bool true, .int 181 0, .ref 238, .none, .none, .none, .ref 239, .int 534 0, .int 160 0, sv "/claim/cut.py" 535] ::
  oU "_law_box" "_law_box" (stI 34) (sv "law_nz0348_01" 529) (.ref 240) ::
  oT [] ::
  oF [] ::
  oT [sv "box" 540, sv "many" 541] ::
  oT [] ::
  oM "_law_take" "_law_take" (stI 35) ::
  oK [sv "_law_take" 537, sv "_law_take" 538, sv "/claim/cut.py" 539, .int 163 0, .int 2 0, .int 0 0, .int 0 0, .int 3 0, .ref 242, .bool true, .int 181 0, .ref 243, .none, .ref 244, .ref 245, .ref 246, .int 542 0, .int 163 0, sv "/claim/cut.py" 543] ::
  oU "_law_take" "_law_take" (stI 35) (sv "law_nz0348_01" 529) (.ref 247) ::
  oT [] ::
  oF [] ::
  oT [sv "world" 548, sv "number" 549, sv "data" 550, sv "seen" 551, sv "late" 552] ::
  oT [] ::
  oM "_law_come" "_law_come" (stI 36) ::
  oK [sv "_law_come" 545, sv "_law_come" 546, sv "/claim/cut.py" 547, .int 168 0, .int 3 0, .int 0 0, .int 0 0, .int 3 0, .ref 249, .bool true, .int 181 0, .ref 250, .none, .ref 251, .ref 252, .ref 253, .int 553 0, .int 168 0, sv "/claim/cut.py" 554] ::
  oU "_law_come" "_law_come" (stI 36) (sv "law_nz0348_01" 529) (.ref 254) ::
  oT [] ::
  oF [] ::
  oT [sv "world" 559, sv "box" 560, sv "fate" 561, sv "number" 562, sv "data" 563] ::
  oT [] ::
  oM "_law_send" "_law_send" (stI 37) ::
  oK [sv "_law_send" 556, sv "_law_send" 557, sv "/claim/cut.py" 558, .int 183 0, .int 3 0, .int 0 0, .int 0 0, .int 3 0, .ref 256, .bool true, .int 181 0, .ref 257, .none, .ref 258, .ref 259, .ref 260, .int 564 0, .int 183 0, sv "/claim/cut.py" 565] ::
  oU "_law_send" "_law_send" (stI 37) (sv "law_nz0348_01" 529) (.ref 261) ::
  oT [] ::
  oF [] ::
  oM "_law_tell" "_law_tell" (stI 38) ::
  oK [sv "_law_tell" 567, sv "_law_tell" 568, sv "/claim/cut.py" 569, .int 193 0, .int 2 0, .int 0 0, .int 0 0, .int 3 0, .ref 263, .bool true, .int 181 0, .ref 264, .none, .none, .none, .ref 265, .int 570 0, .int 193 0, sv "/claim/cut.py" 571] ::
  oU "_law_tell" "_law_tell" (stI 38) (sv "law_nz0348_01" 529) (.ref 266) ::
  oT [] ::
  oF [] ::
  oM "_law_hear" "_law_hear" (stI 39) ::
  oK [sv "_law_hear" 573, sv "_law_hear" 574, sv "/claim/cut.py" 575, .int 204 0, .int 2 0, .int 0 0, .int 0 0, .int 3 0, .ref 268, .bool true, .int 181 0, .ref 269, .none, .none, .none, .ref 270, .int 576 0, .int 204 0, sv "/claim/cut.py" 577] ::
  oU "_law_hear" "_law_hear" (stI 39) (sv "law_nz0348_01" 529) (.ref 271) ::
  oT [] ::
  oF [] ::
  oM "_law_step" "_law_step" (stI 40) ::
  oK [sv "_law_step" 579, sv "_law_step" 580, sv "/claim/cut.py" 581, .int 221 0, .int 3 0, .int 0 0, .int 0 0, .int 3 0, .ref 273, .bool true, .int 181 0, .ref 274, .none, .none, .none, .ref 275, .int 582 0, .int 221 0, sv "/claim/cut.py" 583] ::
  oU "_law_step" "_law_step" (stI 40) (sv "law_nz0348_01" 529) (.ref 276) ::
  oT [] ::
  oF [] ::
  oM "law" "law" (stI 41) ::
  oK [sv "law" 585, sv "law" 586, sv "/claim/cut.py" 587, .int 236 0, .int 1 0, .int 0 0, .int 0 0, .int 3 0, .ref 278, .bool true, .int 181 0, .ref 279, .none, .none, .none, .ref 280, .int 588 0, .int 236 0, sv "/claim/cut.py" 589] ::
  oU "law" "law" (stI 41) (sv "law_nz0348_01" 529) (.ref 281) :: r
noncomputable abbrev hT (P : Params) (two dct twl : Obj) (l : List Obj) : Heap := ⟨⟨boot_o_0 P :: boot_o_1 P :: two :: dct :: boot_o_4 P :: boot_o_5 P :: boot_o_6 P :: boot_o_7 P :: boot_o_8 P :: boot_o_9 P :: boot_o_10 P :: oT [] :: twl :: l⟩, {}⟩
noncomputable def hP0 (P : Params) : Heap := hT P (oE ((tE P).take 0) 0) (oD (de P "__name__" 165 (sv "__main__" 164) :: (dE P).take 8) 9) (oF (wE.take 0)) (nO0 P [])
noncomputable def hP1 (P : Params) : Heap := hT P (oE ((tE P).take 3) 3) (oD (de P "__name__" 165 (sv "quic.errors" 194) :: (dE P).take 13) 14) (oF (wE.take 9)) (nO0 P (nO1 P []))
noncomputable def hP2 (P : Params) : Heap := hT P (oE ((tE P).take 3) 3) (oD (de P "__name__" 165 (sv "quic.octets" 412) :: (dE P).take 29) 30) (oF (wE.take 48)) (nO0 P (nO1 P (nO2 P [])))
noncomputable def hP3 (P : Params) : Heap := hT P (oE ((tE P).take 3) 3) (oD (de P "__name__" 165 (sv "law_nz0348_01" 529) :: (dE P).take 43) 44) (oF (wE.take 90)) (nO0 P (nO1 P (nO2 P (nO3 P []))))
abbrev pw : Program := PySem.Challenge.pw_nz0348_01
abbrev bE : List Stmt := behindTheImports pw
noncomputable abbrev eE : Env := { scope := pw.main.scope, locals := mainNs, globals := mainNs, cells := [], code := .ref 13, frame := some 14 }
noncomputable abbrev cE : Code := .body bE eE
abbrev qE : Pos := ⟨0, 0, 0, 0⟩
abbrev sg (i j : Nat) : List Stmt := (bE.drop i).take (j - i)
noncomputable abbrev sT0 (w : World) (os : OsState) : Shared := ⟨hP0 w.params, ⟨[]⟩, boot_drawn, 187, os⟩
noncomputable abbrev sT1 (w : World) (os : OsState) : Shared := ⟨hP1 w.params, ⟨[]⟩, boot_drawn, 262, os⟩
noncomputable abbrev sT2 (w : World) (os : OsState) : Shared := ⟨hP2 w.params, ⟨[]⟩, boot_drawn, 483, os⟩
noncomputable abbrev sT3 (w : World) (os : OsState) : Shared := ⟨hP3 w.params, ⟨[]⟩, boot_drawn, 591, os⟩
section
set_option maxRecDepth 1000000
set_option maxHeartbeats 0
theorem tp_pre (w : World) (os : OsState) : topGo treeTable pw w 11 (some (.ref 6)) 12 ⟨boot_heap w.params, ⟨[]⟩, boot_drawn, boot_toks, os⟩ (topStub pw) = some (sT0 w os, ⟨denote treeTable cE, cE, qE, [topFrame qE]⟩) := by kernel_rfl
theorem tp_block (w : World) (os : OsState) : segRun treeTable pw w 11 (some (.ref 6)) 1 1 (sT0 w os) (blockOf bE eE cE qE [topFrame qE]) = some (.next, sT0 w os, cE, qE) := by kernel_rfl
theorem tp_0 (w : World) (os : OsState) : segRun treeTable pw w 11 (some (.ref 6)) 1 517 (sT0 w os) (piecesOf (sg 0 6) eE cE ⟨0, 0, 0, 0⟩ [topFrame qE]) = some (.next, sT1 w os, cE, ⟨14, 0, 18, 24⟩) := by kernel_rfl
theorem tp_1 (w : World) (os : OsState) : segRun treeTable pw w 11 (some (.ref 6)) 1 850 (sT1 w os) (piecesOf (sg 6 26) eE cE ⟨14, 0, 18, 24⟩ [topFrame qE]) = some (.next, sT2 w os, cE, ⟨112, 0, 134, 20⟩) := by kernel_rfl
theorem tp_2 (w : World) (os : OsState) : segRun treeTable pw w 11 (some (.ref 6)) 1 413 (sT2 w os) (piecesOf (sg 26 42) eE cE ⟨112, 0, 134, 20⟩ [topFrame qE]) = some (.next, sT3 w os, cE, ⟨236, 0, 255, 79⟩) := by kernel_rfl
theorem tp_fin (w : World) (os : OsState) : topRun treeTable pw w 11 (some (.ref 6)) 2 (sT3 w os) ⟨doneF .next, cE, ⟨236, 0, 255, 79⟩, [topFrame qE]⟩ = some (sT3 w os) := by kernel_rfl
theorem tp_body : sg 0 6 ++ (sg 6 26 ++ (sg 26 42 ++ [])) = bE := by kernel_rfl
theorem rest_eq {w : World} {l l' : List Stmt} {N : Nat} {s r : Shared} (h : l = l') (k : topRun treeTable pw w 11 (some (.ref 6)) N s (restOf l eE cE qE [topFrame qE]) = some r) : topRun treeTable pw w 11 (some (.ref 6)) N s (restOf l' eE cE qE [topFrame qE]) = some r := h ▸ k
theorem tp_run (w : World) (os : OsState) : topRun treeTable pw w 11 (some (.ref 6)) (12 + (1 + (517 + (850 + (413 + (2)))))) ⟨boot_heap w.params, ⟨[]⟩, boot_drawn, boot_toks, os⟩ (topStub pw) = some (sT3 w os) :=
  go_top (tp_pre w os) (piece_block (tp_block w os) (rest_eq tp_body (piece_app (tp_0 w os) (piece_app (tp_1 w os) (piece_app (tp_2 w os) (piece_nil (tp_fin w os)))))))
end
section
set_option maxRecDepth 1000000
set_option maxHeartbeats 0
theorem tp_open : ∀ w : World, (fencedOpening treeTable pw w 3680).map (fun s => (s.heap, s.gens, s.drawn, s.toks)) = some (boot_heap w.params, Array.mk [], boot_drawn, boot_toks) :=
  boot_open (by kernel_rfl) (by decide +kernel) (fun s => by kernel_rfl)
theorem left1 : LeftO pw view [] (fun s => xlAt view [] s && recOk (RowW.records PySem.Challenge.rw_nz0348_01.row.toRowW) s) hookR.obs hookR.val 3680 :=
  LeftO.of_pieces (H₀ := boot_heap) (H₁ := hP3) (gs₀ := ⟨[]⟩) (gs₁ := ⟨[]⟩) (d₀ := boot_drawn) (d₁ := boot_drawn) (k₀ := boot_toks) (k₁ := 591) (m₀ := 11) (ann := some (.ref 6)) (M := 12 + (1 + (517 + (850 + (413 + (2))))))
    tp_open (fun w => by kernel_rfl) tp_run (by decide +kernel) (fun w => by kernel_rfl)
theorem said1 : PySem.Challenge.rw_nz0348_01.wellSaid = true := by
  delta OpenLaw.wellSaid
  repeat' first | with_reducible refine look_both ?_ ?_ | delta OpenRow.wellSaid | delta OpenRow.partSaid | delta looksOpen
  all_goals decide +kernel
end
end Tp
theorem hd (walk : WalkC view [] (XL view []) hookR.says PySem.Challenge.rw_nz0348_01.row.toRowW lawD []) : PySem.Challenge.rw_nz0348_01.Holds := by
  w_on
  refine holds_law Tp.said1 fun said => ?_
  refine holds_here (q := view) (loose := []) (Xt := fun s => xlAt view [] s && recOk (RowW.records PySem.Challenge.rw_nz0348_01.row.toRowW) s) (XP := XL view []) (Yf := hookR.obs) (Ya := hookR.val) (YP := hookR.says) (N := 3680) (d := lawD) (kwd := []) Tp.left1 hookR.of hookR.keeps
    (fun s e => xl_of s (Bool.and_eq_true_iff.mp e).1) XL.keeps (by kernel_rfl) (by kernel_rfl) (by kernel_rfl) (fun s e => recFacts_of (Bool.and_eq_true_iff.mp e).2) (by rfl) (by assumption) (by decide +kernel) ⟨rfl, rfl, rfl, rfl, rfl, by decide +kernel⟩ ?hw walk
  case hw => w_witness2
end Mine
end
section
open PySem PySem.Calls PyProof.Rows PySem.W PySem.SeqAt
set_option linter.unusedVariables false
namespace Mine
variable {c : Cx} {n : Nat} {sc : Scope} {ρ : List (Str × MV)} {σ : MS} {A : Around} {env : Env} {s : Shared} {pos : Pos} {x : Str}
theorem L_tuple2 {ts : List Expr} {k : Nat} {x y : MA} {Q : List (Str × MV) → MS → Prop} (hn : ts.length = 2) (hs : ∀ env : Env, (assignEach ts env).findIdx? (·.1) = none ∧ (assignEach ts env).length = ts.length)
    (h : WALs c n sc ρ σ ts [.a x, .a y] Q) : WAL c n sc ρ σ (.Tuple ts k pos) (.tup [x, y]) Q := L_tuple hn hs h
theorem A_tuple2 {ts : List Expr} {k : Nat} {x y : MA} {Q : List (Str × MV) → MS → Prop} (hn : ts.length = 2) (hs : ∀ env : Env, (assignEach ts env).findIdx? (·.1) = none ∧ (assignEach ts env).length = ts.length)
    (h : WAs c n sc ρ σ ts [.a x, .a y] Q) : WA c n sc ρ σ (.Tuple ts k pos) (.tup [x, y]) Q := A_tuple hn hs h
theorem A_tuple3 {ts : List Expr} {k : Nat} {x y z : MA} {Q : List (Str × MV) → MS → Prop} (hn : ts.length = 3) (hs : ∀ env : Env, (assignEach ts env).findIdx? (·.1) = none ∧ (assignEach ts env).length = ts.length)
    (h : WAs c n sc ρ σ ts [.a x, .a y, .a z] Q) : WA c n sc ρ σ (.Tuple ts k pos) (.tup [x, y, z]) Q := A_tuple hn hs h
theorem A_tuple4 {ts : List Expr} {k : Nat} {x y z w : MA} {Q : List (Str × MV) → MS → Prop} (hn : ts.length = 4) (hs : ∀ env : Env, (assignEach ts env).findIdx? (·.1) = none ∧ (assignEach ts env).length = ts.length)
    (h : WAs c n sc ρ σ ts [.a x, .a y, .a z, .a w] Q) : WA c n sc ρ σ (.Tuple ts k pos) (.tup [x, y, z, w]) Q := A_tuple hn hs h
theorem andT {A B : Prop} (h : A) : (true = true → A) ∧ (true = false → B) := ⟨fun _ => h, fun z => nomatch z⟩
theorem andF {A B : Prop} (h : B) : (false = true → A) ∧ (false = false → B) := ⟨fun z => (nomatch z), fun _ => h⟩
theorem andNF {A B : Prop} (h : A) : ((!false) = true → A) ∧ ((!false) = false → B) := ⟨fun _ => h, fun z => nomatch z⟩
theorem andNT {A B : Prop} (h : B) : ((!true) = true → A) ∧ ((!true) = false → B) := ⟨fun z => (nomatch z), fun _ => h⟩
theorem exUpd {ρ ρ₂ : List (Str × MV)} {x : Str} {v : MV} {P : List (Str × MV) → Prop} (e : up ρ x v = ρ₂) (h : P ρ₂) : ∃ ρ', up ρ x v = ρ' ∧ P ρ' := ⟨_, e, h⟩
theorem lk_append {ρ r : List (Str × MV)} {x : Str} {v : MV} (h : lk ρ x = some v) : lk (ρ ++ r) x = some v := by
  induction ρ with
  | nil => simp [lk] at h
  | cons p q ih =>
    obtain ⟨y, w⟩ := p
    rw [List.cons_append]
    unfold lk at h ⊢
    split
    · rename_i e; rw [if_pos e] at h; exact h
    · rename_i e; rw [if_neg e] at h; exact ih h
theorem Ext_app (ρ r : List (Str × MV)) : Ext ρ (ρ ++ r) := fun _ _ e => lk_append e
theorem Ext_more {ρ r : List (Str × MV)} (h : ∃ q, r = ρ ++ q) : Ext ρ r := by obtain ⟨q, rfl⟩ := h; exact Ext_app _ _
theorem extAnd {ρ ρ' : List (Str × MV)} {A : Prop} (h1 : ∃ q, ρ' = ρ ++ q) (h : A) : Ext ρ ρ' ∧ A := ⟨Ext_more h1, h⟩
theorem g_t0 {x : MA} {r : List MA} {Q : MV → MS → Prop} (h : Q (.a x) σ) : WG c n σ (.tup (x :: r)) (.int 0) Q := g_tup (by decide) (by decide) rfl h
theorem g_t1 {x y : MA} {r : List MA} {Q : MV → MS → Prop} (h : Q (.a y) σ) : WG c n σ (.tup (x :: y :: r)) (.int 1) Q := g_tup (by decide) (by decide) rfl h
theorem tup2 {x y : MA} {P : List MA → Prop} (h : P [x, y]) : ∃ xs : List MA, [MV.a x, MV.a y] = xs.map .a ∧ xs.length ≤ 100 ∧ P xs := ⟨[x, y], rfl, by simp, h⟩
theorem tup3 {x y z : MA} {P : List MA → Prop} (h : P [x, y, z]) : ∃ xs : List MA, [MV.a x, MV.a y, MV.a z] = xs.map .a ∧ xs.length ≤ 100 ∧ P xs := ⟨[x, y, z], rfl, by simp, h⟩
theorem tup4 {x y z w : MA} {P : List MA → Prop} (h : P [x, y, z, w]) : ∃ xs : List MA, [MV.a x, MV.a y, MV.a z, MV.a w] = xs.map .a ∧ xs.length ≤ 100 ∧ P xs := ⟨[x, y, z, w], rfl, by simp, h⟩
end Mine
end
section
open PySem PySem.Calls PyProof.Rows PySem.W PySem.SeqAt
set_option linter.unusedVariables false
set_option maxRecDepth 100000
set_option maxHeartbeats 8000000
namespace Mine
local macro_rules | `(tactic| k_places) => `(tactic| first | assumption | exact lk_hit | with_reducible exact lk_upS | ((with_reducible refine' lk_upN ?k0 ?k1); (case k0 => decide +kernel); (case k1 => k_places)) | (refine' lk_skip ?k0 ?k1; (case k0 => decide +kernel); (case k1 => k_places)) | exact lk_upS)
local macro_rules | `(tactic| k_memK) => `(tactic| first | exact up_hit | exact up_nil | (refine' up_skip ?k0 ?k1; (case k0 => decide +kernel); (case k1 => k_memK)) | rfl)
local macro_rules | `(tactic| k_clsL) => `(tactic| first
  | ((with_reducible first | refine' E_len ?k0 ?k1 ?k2 ?_ | refine' E_abs ?k0 ?k1 ?k2 ?_ | refine' E_sum ?k0 ?k1 ?k2 ?_ | refine' E_any ?k0 ?k1 ?k2 ?_ | refine' E_max ?k0 ?k1 ?k2 ?_ | refine' E_min ?k0 ?k1 ?k2 ?_ | refine' E_sorted ?k0 ?k1 ?k2 ?_ | refine' E_range ?k0 ?k1 ?k2 ?_ | refine' E_list ?k0 ?k1 ?k2 ?_ | refine' E_bytes ?k0 ?k1 ?k2 ?_); (case k0 => assumption); (case k1 => decide +kernel); (case k2 => intro _; exact ⟨rfl, rfl⟩)))
local macro_rules | `(tactic| k_offL) => `(tactic| first
  | ((with_reducible first | refine' WE_name ?k0 ?_); (case k0 => k_places))
  | (with_reducible first | refine WE_int ?_ | refine WE_binop ?_ | refine WE_none ?_ | refine WE_bool ?_ | refine WE_neg ?_ | refine WE_ifexp ?_ | refine WE_tuple ?_ | refine WE_list ?_ | refine WE_and ?_ | refine WE_key ?_)
  | ((with_reducible refine gCall ?_); k_clsL)
  | ((with_reducible first | refine' WE_sub ?k0 ?_); (case k0 => intro _ _; rfl))
  | ((with_reducible first | refine' WE_cmp ?k0 ?_ | refine' WE_cmp2 ?k0 ?_); (case k0 => rfl))
  | ((with_reducible first | refine' E_most ?k0 ?k1 ?_ | refine' E_sizes ?k0 ?k1 ?_); (case k0 => assumption); (case k1 => decide +kernel)))
local macro_rules | `(tactic| k_allIn) => `(tactic| first
  | (with_reducible first | refine o_add ?_ | refine o_sub ?_ | refine o_lt ?_ | refine o_gt ?_ | refine o_le ?_ | refine o_ge ?_ | refine o_eq ?_ | refine o_ne ?_ | refine o_is ?_ | refine o_or ?_ | refine o_and ?_ | refine o_iadd ?_)
  | ((with_reducible first | refine' o_mul ?k0 ?_); (case k0 => first | exact IntMulOk.of_left (by decide) | exact IntMulOk.of_right (by decide)))
  | ((with_reducible first | refine' o_div ?k0 ?k1 ?_); (case k0 => decide); (case k1 => decide))
  | ((with_reducible first | refine' o_mod ?k0 ?_); (case k0 => decide))
  | ((with_reducible first | refine' o_shl ?k0 ?k1 ?k2 ?_); (case k0 => decide); (case k1 => decide); (case k2 => decide)))
local macro_rules | `(tactic| k_ownIn) => `(tactic| first
  | ((with_reducible first | refine' WB_cmp ?k0 ?_ | refine' WB_cmp2 ?k0 ?_); (case k0 => rfl))
  | (with_reducible first | refine WB_not ?_ | refine WB_and ?_ | refine WB_or ?_ | refine WB_or3 ?_)
  | ((with_reducible first | refine' WB_value ?k0 ?_); (case k0 => intro _ _; rfl)))
local macro_rules | `(tactic| l_intsW) => `(tactic| first
  | (with_reducible first | refine WS_cons (S_if ?_) | refine WS_cons (S_return ?_) | refine WS_cons (S_break ?_) | refine WS_nil ?_)
  | ((with_reducible first | refine' WS_cons (S_assign ?k0 ?k1 ?k2 ?_)); (case k0 => intro _ _; rfl); (case k1 => intro _ _; rfl); (case k2 => intro _; rfl))
  | ((with_reducible first | refine' WS_cons (S_expr ?k0 ?_)); (case k0 => intro _; rfl))
  | ((with_reducible first | refine' WS_cons (S_aug ?k0 ?k1 ?_)); (case k0 => decide +kernel); (case k1 => k_places)))
local macro_rules | `(tactic| l_intsC) => `(tactic| first
  | (with_reducible first | refine CS_cons (C_if ?_) | refine CS_cons (C_return ?_) | refine CS_nil ?_)
  | ((with_reducible first | refine' CS_cons (C_assign ?k0 ?k1 ?k2 ?_)); (case k0 => intro _ _; rfl); (case k1 => intro _ _; rfl); (case k2 => intro _; rfl)))
local macro_rules | `(tactic| k_subL) => `(tactic| first
  | ((with_reducible refine gWE ?_); k_offL)
  | ((with_reducible refine gW2 ?_); k_allIn)
  | ((with_reducible refine gWS ?_); l_intsW)
  | ((with_reducible refine gWB ?_); k_ownIn)
  | ((with_reducible refine gCS ?_); l_intsC)
  | (with_reducible first | refine WT_bool ?_ | refine WL_nil ?_ | refine As_nil ?_ | refine Ls_nil ?_ | refine andT ?_ | refine andF ?_ | refine andNT ?_ | refine andNF ?_ | refine g_t0 ?_ | refine g_t1 ?_ | refine tup2 ?_ | refine tup3 ?_ | refine tup4 ?_ | refine b_max ?_ | refine b_min ?_ | refine WI_nil ?_ | refine WI_one ?_ | refine WP_none ?_ | refine WP_some ?_ | refine seqQ_next ?_ | refine seqQ_ret ?_ | refine seqQ_brk ?_ | refine seqC_next ?_ | refine seqC_ret ?_ | refine seqC_brk ?_ | refine CL_nil ?_ | refine CE_nm ?_ | refine CE_ct ?_ | refine CE_sb ?_ | refine CE_binop ?_ | refine CT_not ?_ | refine isInt ?_)
  | ((with_reducible first | refine' WL_cons ?k0 ?_ | refine' As_cons ?k0 ?_ | refine' Ls_cons ?k0 ?_ | refine' CL_cons ?k0 ?_); (case k0 => intro _; rfl))
  | ((with_reducible first | refine' A_name ?k0 ?_ | refine' L_name ?k0 ?_); (case k0 => decide +kernel); refine ⟨_, by k_memK, ?_⟩)
  | ((with_reducible first | refine' L_tuple2 ?k0 ?k1 ?_ | refine' A_tuple2 ?k0 ?k1 ?_ | refine' A_tuple3 ?k0 ?k1 ?_ | refine' A_tuple4 ?k0 ?k1 ?_); (case k0 => rfl); (case k1 => intro _; exact ⟨rfl, rfl⟩))
  | ((with_reducible first | refine' exUpd ?k0 ?_); (case k0 => k_memK))
  | ((with_reducible first | refine' extAnd ?k0 ?_); (case k0 => exact ⟨_, rfl⟩))
  | ((with_reducible first | refine' CE_cmp ?k0 ?_); (case k0 => rfl))
  | ((with_reducible first | refine' CT_value ?k0 ?_); (case k0 => intro _ _; rfl)))
variable {c : Cx} {n : Nat} {σ : MS} {fI fL fV : Addr}
def wholeI (l : List UInt8) : Int := l.foldl (fun a o => a * 256 + o.toNat) 0
theorem picked_nat (b : Array UInt8) (i k : Nat) (h : i + k ≤ b.size) : KBy.picked b (some (i : Int)) (some ((i : Int) + k)) = ((b.toList.drop i).take k).toArray := by
  rw [KBc.picked_eq]
  have e1 : clipAt b.size (i : Int) = i := by unfold clipAt; split <;> omega
  have e2 : clipAt b.size ((i : Int) + k) = i + k := by unfold clipAt; split <;> omega
  simp only [Option.elim_some, e1, e2, Nat.add_sub_cancel_left]
theorem wholeI_take (l : List UInt8) (j : Nat) (o : UInt8) (h : l[j]? = some o) : wholeI (l.take (j + 1)) = wholeI (l.take j) * 256 + o.toNat := by
  unfold wholeI
  rw [List.take_add_one, h, List.foldl_append]; rfl
theorem w_get_whole (P : PC c fI fL fV) {b : Array UInt8} {i k : Nat} {Q : MV → MS → Prop} (h1 : i + k ≤ b.size) (h2 : b.size ≤ 100000) (h : Q (.int (wholeI ((b.toList.drop i).take k))) σ) : WC c (n + 1) "get_whole" [.bytes b, .int i, .int k] σ Q := by
  have F := P.fn 9 (by decide)
  refine WC_def (ns := ["data", "at", "size"]) P.G F (fun _ _ _ => len3 fun _ _ _ => rfl) (by decide +kernel) (by decide +kernel) rfl ?_ rfl rfl rfl
  apply WS_cons; apply S_if
  iterate 9 k_subL
  refine b_lenB h2 ?_
  iterate 2 k_subL
  refine ⟨fun z => ?_, fun z => ?_⟩
  · simp only [decide_eq_true_eq] at z; omega
  iterate 6 k_subL
  refine WS_cons (S_for (fun _ _ => rfl) ?_)
  refine WE_sliceB (fun _ _ => ⟨_, rfl⟩) ?_
  k_subL
  k_subL
  k_subL
  refine ⟨_, rfl, ?_⟩
  iterate 5 k_subL
  refine ⟨_, rfl, _, rfl, h2, ?_⟩
  rw [picked_nat b i k h1]
  generalize hl : (b.toList.drop i).take k = l at h ⊢
  refine ⟨l.map fun z => .int z.toNat, fun j ρ' σ' => σ' = σ ∧ lk ρ' "found" = some (.int (wholeI (l.take j))), ⟨rfl, ?_⟩, ?_, ?_, ?_⟩
  · k_places
  · rintro j ρ' σ' ⟨rfl, _⟩; exact rfl
  · rintro j y ρ' σ' hy ⟨rfl, hf⟩
    rw [List.getElem?_map] at hy
    obtain ⟨o, e1, rfl⟩ := Option.map_eq_some_iff.mp hy
    have sm : IntMulOk (wholeI (l.take j)) 256 := IntMulOk.of_right (by decide)
    iterate 6 k_subL
    refine o_mul sm ?_
    iterate 5 k_subL
    refine ⟨rfl, ?_⟩
    rw [wholeI_take l j o e1]
    k_places
  · rintro ρ' σ' ⟨rfl, hf⟩
    rw [List.length_map, List.take_length] at hf
    refine WS_cons (S_return (WE_name hf h))
def Grow (σ σ' : MS) : Prop := ∀ k mo, σ k = some mo → σ' k = some mo
theorem Grow.refl (σ : MS) : Grow σ σ := fun _ _ e => e
theorem Grow.trans {σ σ' σ'' : MS} (a : Grow σ σ') (b : Grow σ' σ'') : Grow σ σ'' := fun k mo e => b k mo (a k mo e)
theorem Grow.new {σ : MS} {k : Addr} {mo : MO} (h : σ k = none) : Grow σ (upd σ k mo) := fun j m e => by
  rw [upd_ne (fun q => by rw [q, h] at e; cases e)]; exact e
theorem Grow.more {σ σ' : MS} {k : Addr} {mo : MO} (g : Grow σ σ') (h : σ k = none) : Grow σ (upd σ' k mo) := fun j m e => by
  rw [upd_ne (fun q => by rw [q, h] at e; cases e)]; exact g j m e
theorem Grow.lat {σ σ' : MS} {k : Addr} {xs : List MV} (g : Grow σ σ') (h : LAt σ k xs) : LAt σ' k xs := h.imp (g _ _) (g _ _)
def vsz (m : Int) : Int := if m < 64 then 1 else 2
theorem two_pow6 : (2 : Int) ^ (6 : Int).toNat = 64 := by decide
theorem w_varint_size (P : PC c fI fL fV) {m : Int} {Q : MV → MS → Prop} (h0 : 0 ≤ m) (h1 : m < 16384) (h : Q (.int (vsz m)) σ) : WC c (n + 1) "varint_size" [.int m] σ Q := by
  have F := P.fn 10 (by decide)
  refine WC_def (ns := ["n"]) P.G F (fun _ _ _ => len1 fun _ => rfl) (by decide +kernel) (by decide +kernel) rfl ?_ rfl rfl rfl
  refine WS_cons (S_for (fun _ _ => rfl) ?_)
  repeat k_subL
  refine ⟨[.int 1, .int 2, .int 4, .int 8], fun j ρ' σ' => σ' = σ ∧ lk ρ' "n" = some (.int m) ∧ (j = 0 ∨ (j = 1 ∧ 64 ≤ m)), ⟨rfl, by k_places, .inl rfl⟩, ?_, ?_, ?_⟩
  · rintro j ρ' σ' ⟨rfl, _⟩; exact rfl
  · rintro j y ρ' σ' hy ⟨rfl, hn, hj⟩
    rcases hj with rfl | ⟨rfl, hm⟩
    · cases hy
      repeat k_subL
      refine ⟨fun _ => ?_, fun z => ?_⟩
      · repeat k_subL
        refine ⟨fun z => ?_, fun z => ?_⟩
        · repeat k_subL
          have : m < 64 := by have := of_decide_eq_true z; exact this
          rw [show vsz m = 1 by unfold vsz; rw [if_pos this]] at h
          exact h
        · repeat k_subL
          have : ¬ m < 64 := by have := of_decide_eq_false z; exact this
          exact ⟨rfl, by k_places, .inr ⟨rfl, by omega⟩⟩
      · simp at z; omega
    · cases hy
      repeat k_subL
      refine ⟨fun _ => ?_, fun z => ?_⟩
      · repeat k_subL
        refine ⟨fun z => ?_, fun z => ?_⟩
        · repeat k_subL
          rw [show vsz m = 2 by unfold vsz; rw [if_neg (by omega)]] at h
          exact h
        · have : ¬ m < 16384 := by have := of_decide_eq_false z; exact this
          omega
      · simp at z; omega
  · rintro ρ' σ' ⟨rfl, hn, hj⟩
    rcases hj with hj | ⟨hj, _⟩ <;> simp at hj
/-- the octets of a number, highest first -/
def be (k m : Int) : List UInt8 := if k = 1 then [m.toNat.toUInt8] else [(m / 256).toNat.toUInt8, (m % 256).toNat.toUInt8]
theorem shr_zero {m : Int} {k : Nat} (h0 : 0 ≤ m) (h1 : m < 2 ^ k) : m / 2 ^ k = 0 := Int.ediv_eq_zero_of_lt h0 h1
def nA (m : Int) : Nat → Int
  | 0 => m
  | 1 => m / 256
  | _ => m / 256 / 256
def bA1 (m : Int) : Nat → Array UInt8
  | 0 => #[0]
  | _ => #[m.toNat.toUInt8]
def bA2 (m : Int) : Nat → Array UInt8
  | 0 => #[0, 0]
  | 1 => #[0, (m % 256).toNat.toUInt8]
  | _ => #[(m / 256).toNat.toUInt8, (m % 256).toNat.toUInt8]
theorem c_put_whole (P : PC c fI fL fV) {m k : Int} {Q : MV → MS → Prop} (hk : (k = 1 ∧ 0 ≤ m ∧ m < 256) ∨ (k = 2 ∧ 0 ≤ m ∧ m < 65536)) (h : ∀ σ', Grow σ σ' → Q (.bytes (be k m).toArray) σ') : CC c (n + 1) "put_whole" [.int m, .int k] σ Q := by
  have F := P.fn 8 (by decide)
  refine CC_def (ns := ["n", "size"]) P.G F (fun _ _ _ => len2 fun _ _ => rfl) (by decide +kernel) (by decide +kernel) rfl ?_ rfl rfl rfl
  apply CS_cons; apply C_if; refine CT.of ?_
  have k0 : 0 < k := by omega
  have k3 : k ≤ 2 := by omega
  have hz : m / 2 ^ (8 * k).toNat = 0 := by
    rcases hk with ⟨rfl, a, b⟩ | ⟨rfl, a, b⟩
    · exact Int.ediv_eq_zero_of_lt a (by simpa using b)
    · exact Int.ediv_eq_zero_of_lt a (by simpa using b)
  repeat k_subL
  refine ⟨fun _ => ?_, fun z => by simp at z; omega⟩
  repeat k_subL
  refine o_shr (by omega) ?_
  repeat k_subL
  rw [hz]
  refine ⟨fun z => by simp at z, fun _ => ?_⟩
  repeat k_subL
  refine CE_ba P.G (by decide +kernel) P.bBa (fun _ => rfl) ?_
  repeat k_subL
  refine ⟨k0, by omega, fun q hq => ?_⟩
  repeat k_subL
  refine CS.of ?_
  refine WS_cons (S_for (fun _ _ => rfl) ?_)
  repeat k_subL
  refine b_range3 (by decide) (by decide) ?_
  have fin : ∀ ρ' σ', σ' q = some (.barr (be k m).toArray) → Grow σ σ' → lk ρ' "found" = some (.ref q) → WS c n (scS (stI 8)) ρ' σ' ((boS (stI 8)).drop 3) fun fl x σ' => match fl with | .ret v => Q v σ' | .next => Q .none σ' | _ => False := by
    intro ρ' σ' h1 h2 h3
    apply WS_cons; apply S_return
    repeat k_subL
    refine b_bytes h1 ?_ (h σ' h2)
    unfold be; split <;> simp
  rcases hk with ⟨rfl, a, b⟩ | ⟨rfl, a, b⟩
  · refine ⟨[.int 0], fun j ρ' σ' => Grow σ σ' ∧ lk ρ' "found" = some (.ref q) ∧ lk ρ' "n" = some (.int (nA m j)) ∧ σ' q = some (.barr (bA1 m j)), ⟨.new hq, by k_places, by k_places, upd_eq⟩, ?_, ?_, ?_⟩
    · rintro j ρ' σ' _; exact ⟨by decide, rfl⟩
    · rintro j y ρ' σ' hy ⟨hg, hf, hn, hσ⟩
      obtain rfl : j = 0 := by
        cases j with
        | zero => rfl
        | succ j => simp at hy
      cases hy
      have hn0 : lk ρ' "n" = some (.int m) := hn
      have hσ0 : σ' q = some (.barr #[0]) := hσ
      repeat k_subL
      refine A_bidx ?_
      repeat k_subL
      refine ⟨q, _, _, _, rfl, rfl, rfl, hσ0, by decide, by decide, by decide, by omega, by omega, ?_⟩
      repeat k_subL
      refine ⟨fun k mo e => ?_, by k_places, by k_places, ?_⟩
      · rw [upd_ne (fun z => by rw [z, hq] at e; cases e)]; exact hg k mo e
      · rw [upd_eq, show m % 256 = m by omega]; rfl
    · rintro ρ' σ' ⟨hg, hf, hn, hσ⟩
      exact fin ρ' σ' hσ hg hf
  · refine ⟨[.int 1, .int 0], fun j ρ' σ' => Grow σ σ' ∧ lk ρ' "found" = some (.ref q) ∧ lk ρ' "n" = some (.int (nA m j)) ∧ σ' q = some (.barr (bA2 m j)), ⟨.new hq, by k_places, by k_places, upd_eq⟩, ?_, ?_, ?_⟩
    · rintro j ρ' σ' _; exact ⟨by decide, rfl⟩
    · rintro j y ρ' σ' hy ⟨hg, hf, hn, hσ⟩
      rcases j with _ | _ | j
      · cases hy
        have hn0 : lk ρ' "n" = some (.int m) := hn
        have hσ0 : σ' q = some (.barr #[0, 0]) := hσ
        repeat k_subL
        refine A_bidx ?_
        repeat k_subL
        refine ⟨q, _, _, _, rfl, rfl, rfl, hσ0, by decide, by decide, by decide, by omega, by omega, ?_⟩
        repeat k_subL
        refine ⟨fun k mo e => ?_, by k_places, by k_places, ?_⟩
        · rw [upd_ne (fun z => by rw [z, hq] at e; cases e)]; exact hg k mo e
        · rw [upd_eq]; rfl
      · cases hy
        have hn0 : lk ρ' "n" = some (.int (m / 256)) := hn
        have hσ0 : σ' q = some (.barr #[0, (m % 256).toNat.toUInt8]) := hσ
        repeat k_subL
        refine A_bidx ?_
        repeat k_subL
        refine ⟨q, _, _, _, rfl, rfl, rfl, hσ0, by decide, by simp, by simp, by omega, by omega, ?_⟩
        repeat k_subL
        refine ⟨fun k mo e => ?_, by k_places, by k_places, ?_⟩
        · rw [upd_ne (fun z => by rw [z, hq] at e; cases e)]; exact hg k mo e
        · rw [upd_eq, show m / 256 % 256 = m / 256 by omega]; rfl
      · simp at hy
    · rintro ρ' σ' ⟨hg, hf, hn, hσ⟩
      exact fin ρ' σ' hσ hg hf
/-- a number of variable length, as few octets as can be -/
def vi (m : Int) : List UInt8 := if m < 64 then be 1 m else be 2 (16384 + m)
theorem or_shift {m : Int} (h0 : 0 ≤ m) (h1 : m < 16384) : Builtin.bitOr 16384 m = 16384 + m := by
  rw [PyProof.Rows.bitOr_and, PyProof.Rows.bitAnd_comm, PyProof.Rows.bitAnd_pp h0 (by decide)]
  have : m.toNat &&& (16384 : Int).toNat = 0 := by
    show m.toNat &&& 2 ^ 14 = 0
    apply Nat.eq_of_testBit_eq
    intro i
    rw [Nat.testBit_and, Nat.testBit_two_pow, Nat.zero_testBit]
    by_cases h : 14 = i
    · subst h; rw [Nat.testBit_lt_two_pow (by omega)]; rfl
    · simp [h]
  rw [this]; simp
theorem or_zero {m : Int} (h0 : 0 ≤ m) : Builtin.bitOr 0 m = m := by
  rw [PyProof.Rows.bitOr_and, PyProof.Rows.bitAnd_comm, PyProof.Rows.bitAnd_zero]; omega
theorem and_low {x : Int} {k : Nat} (h0 : 0 ≤ x) : Builtin.bitAnd x (2 ^ k - 1) = x % 2 ^ k := by
  have hp : (0 : Int) < 2 ^ k := Int.pow_pos (by decide)
  rw [PyProof.Rows.bitAnd_pp h0 (by omega)]
  have e : ((2 : Int) ^ k - 1).toNat = 2 ^ k - 1 := by
    have : ((2 : Int) ^ k) = ((2 ^ k : Nat) : Int) := by push_cast; rfl
    rw [this]; omega
  rw [e, Nat.and_two_pow_sub_one_eq_mod]
  push_cast
  rw [Int.toNat_of_nonneg h0]
theorem c_put_varint (P : PC c fI fL fV) {m : Int} {Q : MV → MS → Prop} (h0 : 0 ≤ m) (h1 : m < 16384) (h : ∀ σ', Grow σ σ' → Q (.bytes (vi m).toArray) σ') : CC c (n + 2) "put_varint" [.int m, .none] σ Q := by
  have F := P.fn 11 (by decide)
  refine CC_def (ns := ["n", "size"]) P.G F (fun _ _ _ => len2 fun _ _ => rfl) (by decide +kernel) (by decide +kernel) rfl ?_ rfl rfl rfl
  apply CS_cons
  refine C1S.of ?_
  apply S_assign
  · intro _ _; rfl
  · intro _ _; rfl
  · intro _; rfl
  refine WE_call P.G (by decide +kernel) (P.fn 10 (by decide)) (fun _ => rfl) ?_
  repeat k_subL
  refine w_varint_size P h0 h1 ?_
  repeat k_subL
  refine CT.of ?_
  repeat k_subL
  refine ⟨fun _ => ?_, fun z => by cases z⟩
  repeat k_subL
  have hs : vsz m = 1 ∨ vsz m = 2 := by unfold vsz; split <;> simp
  refine CT.of ?_
  repeat k_subL
  refine ⟨fun _ => ?_, fun z => by simp at z⟩
  apply WB_cmp rfl
  repeat k_subL
  refine o_notinT (ns := [1, 2, 4, 8]) ?_
  repeat k_subL
  refine ⟨fun z => ?_, fun _ => ?_⟩
  · rcases hs with hs | hs <;> rw [hs] at z <;> simp at z
  repeat k_subL
  refine CE_call P.G (by decide +kernel) (P.fn 8 (by decide)) (fun _ => rfl) ?_
  refine CL.of ?_
  repeat k_subL
  refine WE_index (fun _ => rfl) (fun _ => rfl) rfl ?_
  repeat k_subL
  refine ⟨[1, 2, 4, 8], rfl, ?_⟩
  repeat k_subL
  by_cases hm : m < 64
  · have hv : vsz m = 1 := by unfold vsz; rw [if_pos hm]
    rw [hv]
    refine ⟨_, 0, rfl, rfl, fun k hk => by omega, ?_⟩
    repeat k_subL
    have e : Builtin.bitOr (((0 : Nat) : Int) * 2 ^ (8 * 1 - 2 : Int).toNat) m = m := by
      rw [show (((0 : Nat) : Int) * 2 ^ (8 * 1 - 2 : Int).toNat) = 0 by decide]; exact or_zero h0
    rw [e]
    refine c_put_whole P (.inl ⟨rfl, h0, by omega⟩) fun σ' g => ?_
    have hb : be 1 m = vi m := by unfold vi; rw [if_pos hm]
    rw [hb]
    exact h σ' g
  · have hv : vsz m = 2 := by unfold vsz; rw [if_neg hm]
    rw [hv]
    refine ⟨_, 1, rfl, rfl, fun k hk => by rw [show k = 0 by omega]; decide, ?_⟩
    repeat k_subL
    have e : Builtin.bitOr (((1 : Nat) : Int) * 2 ^ (8 * 2 - 2 : Int).toNat) m = 16384 + m := by
      rw [show (((1 : Nat) : Int) * 2 ^ (8 * 2 - 2 : Int).toNat) = 16384 by decide]; exact or_shift h0 h1
    rw [e]
    refine c_put_whole P (.inr ⟨rfl, by omega, by omega⟩) fun σ' g => ?_
    have hb : be 2 (16384 + m) = vi m := by unfold vi; rw [if_neg hm]
    rw [hb]
    exact h σ' g
/-- what a number's octets tell -/
theorem u8 {m : Int} (h0 : 0 ≤ m) (h1 : m < 256) : ((m.toNat.toUInt8.toNat : Nat) : Int) = m := by
  have : m.toNat < 256 := by omega
  have e : (m.toNat.toUInt8).toNat = m.toNat := by simp [Nat.toUInt8, UInt8.toNat_ofNat', Nat.mod_eq_of_lt this]
  rw [e]; omega
theorem whole_be {k m : Int} (hk : (k = 1 ∧ 0 ≤ m ∧ m < 256) ∨ (k = 2 ∧ 0 ≤ m ∧ m < 65536)) : wholeI (be k m) = m := by
  rcases hk with ⟨rfl, a, b⟩ | ⟨rfl, a, b⟩
  · show (0 : Int) * 256 + (m.toNat.toUInt8.toNat : Nat) = m
    rw [u8 a b]; omega
  · show ((0 : Int) * 256 + ((m / 256).toNat.toUInt8.toNat : Nat)) * 256 + ((m % 256).toNat.toUInt8.toNat : Nat) = m
    rw [u8 (by omega) (by omega), u8 (by omega) (by omega)]; omega
theorem vi_len {m : Int} : ((vi m).length : Int) = vsz m := by unfold vi vsz; split <;> rfl
theorem w_get_varint (P : PC c fI fL fV) {b : Array UInt8} {pre post : List UInt8} {m : Int} {Q : MV → MS → Prop} (hb : b.toList = pre ++ vi m ++ post) (hz : b.size ≤ 100000) (h0 : 0 ≤ m) (h1 : m < 16384)
    (h : Q (.tup [.int m, .int (pre.length + vsz m)]) σ) : WC c (n + 2) "get_varint" [.bytes b, .int pre.length] σ Q := by
  have F := P.fn 12 (by decide)
  have hl : b.size = pre.length + (vi m).length + post.length := by rw [← Array.length_toList, hb]; simp [Nat.add_assoc]
  have hp : (1 : Int) ≤ vsz m := by unfold vsz; split <;> decide
  have hv := vi_len (m := m)
  refine WC_def (ns := ["data", "at"]) P.G F (fun _ _ _ => len2 fun _ _ => rfl) (by decide +kernel) (by decide +kernel) rfl ?_ rfl rfl rfl
  apply WS_cons; apply S_if
  repeat k_subL
  refine b_lenB hz ?_
  repeat k_subL
  refine ⟨fun z => by simp at z; omega, fun _ => ?_⟩
  repeat k_subL
  repeat k_subL
  have hd : (b.toList.getD pre.length 0) = (vi m).getD 0 0 := by
    rw [hb, List.append_assoc, List.getD_eq_getElem?_getD, List.getElem?_append_right (Nat.le_refl _), Nat.sub_self, ← List.getD_eq_getElem?_getD]
    unfold vi; split <;> rfl
  have hd2 : (((vi m).getD 0 0).toNat : Int) / 2 ^ (6 : Int).toNat = vsz m - 1 := by
    unfold vi vsz
    split
    · show ((m.toNat.toUInt8.toNat : Nat) : Int) / 64 = 0
      rw [u8 h0 (by omega)]; omega
    · show ((((16384 + m) / 256).toNat.toUInt8.toNat : Nat) : Int) / 64 = 1
      rw [u8 (by omega) (by omega)]; omega
  refine g_bytes (by omega) (by omega) hz ?_
  rw [show ((pre.length : Int)).toNat = pre.length by omega, hd]
  repeat k_subL
  refine o_shr (by decide) ?_
  rw [hd2]
  have hs : vsz m = 1 ∨ vsz m = 2 := by unfold vsz; split <;> simp
  refine g_tup (i := vsz m - 1) (xs := [.int 1, .int 2, .int 4, .int 8]) (y := .int (vsz m)) (by omega) (by omega) ?_ ?_
  · rcases hs with hs | hs <;> rw [hs] <;> rfl
  repeat k_subL
  refine WE_call P.G (by decide +kernel) (P.fn 9 (by decide)) (fun _ => rfl) ?_
  repeat k_subL
  rw [← hv]
  refine w_get_whole P (by omega) hz ?_
  have hw : (b.toList.drop pre.length).take (vi m).length = vi m := by
    rw [hb, List.append_assoc, List.drop_left, List.take_left]
  rw [hw, hv]
  repeat k_subL
  refine o_shl (by omega) (by omega) (by decide) ?_
  repeat k_subL
  have e : Builtin.bitAnd (wholeI (vi m)) (1 * 2 ^ (8 * vsz m - 2).toNat - 1) = m := by
    rw [Int.one_mul]
    rcases hs with hs | hs
    · have hm : m < 64 := by unfold vsz at hs; split at hs <;> omega
      have hw : wholeI (vi m) = m := by unfold vi; rw [if_pos hm]; exact whole_be (.inl ⟨rfl, h0, by omega⟩)
      rw [hs, hw, show (8 * 1 - 2 : Int).toNat = 6 by decide, and_low h0]
      omega
    · have hm : ¬ m < 64 := by unfold vsz at hs; split at hs <;> omega
      have hw : wholeI (vi m) = 16384 + m := by unfold vi; rw [if_neg hm]; exact whole_be (.inr ⟨rfl, by omega, by omega⟩)
      rw [hs, hw, show (8 * 2 - 2 : Int).toNat = 14 by decide, and_low (by omega)]
      omega
  rw [e]
  exact h
/-- None, or a number -/
abbrev oI : Option Int → MV
  | none => .none
  | some i => .int i
/-- how many numbers lie between -/
def apart (full : Int) : Option Int → Int
  | none => full + 1
  | some a => full - a
def nsz (d : Int) : Int := if d ≤ 128 then 1 else 2
theorem w_number_size (P : PC c fI fL fV) {f : Int} {la : Option Int} {Q : MV → MS → Prop} (h1 : apart f la ≤ 32768) (h : Q (.int (nsz (apart f la))) σ) : WC c (n + 1) "number_size" [.int f, oI la] σ Q := by
  have F := P.fn 15 (by decide)
  refine WC_def (ns := ["full", "largest_acked"]) P.G F (fun _ _ _ => len2 fun _ _ => rfl) (by decide +kernel) (by decide +kernel) rfl ?_ rfl rfl rfl
  have key : ∀ ρ', lk ρ' "apart" = some (.int (apart f la)) → WS c n (scS (stI 15)) ρ' σ ((boS (stI 15)).drop 1) fun fl x σ' => match fl with | .ret v => Q v σ' | .next => Q .none σ' | _ => False := by
    intro ρ' ha
    refine WS_cons (S_for (fun _ _ => rfl) ?_)
    repeat k_subL
    refine b_range2 ?_
    refine ⟨[.int 1, .int 2, .int 3, .int 4], fun j ρ' σ' => σ' = σ ∧ lk ρ' "apart" = some (.int (apart f la)) ∧ (j = 0 ∨ (j = 1 ∧ 128 < apart f la)), ⟨rfl, ha, .inl rfl⟩, ?_, ?_, ?_⟩
    · rintro j ρ' σ' ⟨rfl, _⟩; exact ⟨by decide, rfl⟩
    · rintro j y ρ' σ' hy ⟨rfl, hn, hj⟩
      rcases hj with rfl | ⟨rfl, hm⟩
      · cases hy
        repeat k_subL
        refine ⟨fun z => ?_, fun z => ?_⟩
        · repeat k_subL
          have : apart f la ≤ 128 := by have z : 2 * apart f la ≤ 256 := of_decide_eq_true z
                                        omega
          rw [show nsz (apart f la) = 1 by unfold nsz; rw [if_pos this]] at h
          exact h
        · repeat k_subL
          have : ¬ 2 * apart f la ≤ 256 := of_decide_eq_false z
          exact ⟨rfl, by k_places, .inr ⟨rfl, by omega⟩⟩
      · cases hy
        repeat k_subL
        refine ⟨fun z => ?_, fun z => ?_⟩
        · repeat k_subL
          rw [show nsz (apart f la) = 2 by unfold nsz; rw [if_neg (by omega)]] at h
          exact h
        · have : ¬ 2 * apart f la ≤ 65536 := of_decide_eq_false z
          omega
    · rintro ρ' σ' ⟨rfl, hn, hj⟩
      rcases hj with hj | ⟨hj, _⟩ <;> simp at hj
  apply WS_cons
  apply S_assign
  · intro _ _; rfl
  · intro _ _; rfl
  · intro _; rfl
  repeat k_subL
  cases la with
  | none =>
    refine ⟨fun _ => ?_, fun z => by cases z⟩
    repeat k_subL
    refine key _ ?_
    show lk _ _ = some (MV.int (f + 1))
    k_places
  | some a =>
    refine ⟨fun z => (by cases z), fun _ => ?_⟩
    repeat k_subL
    refine key _ ?_
    show lk _ _ = some (MV.int (f - a))
    k_places
theorem nsz_or (d : Int) : nsz d = 1 ∨ nsz d = 2 := by unfold nsz; split <;> simp
/-- the octets of a packet number that are told -/
def cut (f : Int) (la : Option Int) : List UInt8 := be (nsz (apart f la)) (f % 256 ^ (nsz (apart f la)).toNat)
theorem c_cut_number (P : PC c fI fL fV) {f : Int} {la : Option Int} {Q : MV → MS → Prop} (h1 : apart f la ≤ 32768) (h : ∀ σ', Grow σ σ' → Q (.bytes (cut f la).toArray) σ') : CC c (n + 2) "cut_number" [.int f, oI la] σ Q := by
  have F := P.fn 16 (by decide)
  refine CC_def (ns := ["full", "largest_acked"]) P.G F (fun _ _ _ => len2 fun _ _ => rfl) (by decide +kernel) (by decide +kernel) rfl ?_ rfl rfl rfl
  apply CS_cons
  refine C1S.of ?_
  apply S_assign
  · intro _ _; rfl
  · intro _ _; rfl
  · intro _; rfl
  refine WE_call P.G (by decide +kernel) (P.fn 15 (by decide)) (fun _ => rfl) ?_
  repeat k_subL
  refine w_number_size P h1 ?_
  repeat k_subL
  refine CE_call P.G (by decide +kernel) (P.fn 8 (by decide)) (fun _ => rfl) ?_
  refine CL.of ?_
  repeat k_subL
  have hs := nsz_or (apart f la)
  refine o_shl (by omega) (by omega) (by decide) ?_
  refine o_mod (by rw [Int.one_mul]; exact Int.pow_pos (by decide)) ?_
  repeat k_subL
  have hc : be (nsz (apart f la)) (f % (1 * 2 ^ (8 * nsz (apart f la)).toNat)) = cut f la := by
    unfold cut
    rcases hs with hs | hs <;> rw [hs] <;> rfl
  refine c_put_whole P ?_ fun σ' g => ?_
  · rcases hs with hs | hs
    · exact .inl ⟨hs, by rw [hs]; show 0 ≤ f % (1 * 2 ^ 8) ∧ f % (1 * 2 ^ 8) < 256; omega⟩
    · exact .inr ⟨hs, by rw [hs]; show 0 ≤ f % (1 * 2 ^ 16) ∧ f % (1 * 2 ^ 16) < 65536; omega⟩
  rw [hc]
  exact h σ' g
/-- the packet number nearest to the one that comes next -/
def restore (t k e : Int) : Int :=
  let w := 256 ^ k.toNat
  let f := e / w * w + t
  if f ≤ e - w / 2 ∧ f < 4611686018427387904 - w then f + w else if f > e + w / 2 ∧ f ≥ w then f - w else f
def expect : Option Int → Int
  | none => 0
  | some a => a + 1
theorem w_restore_number (P : PC c fI fL fV) {t k : Int} {ls : Option Int} {Q : MV → MS → Prop} (hk : k = 1 ∨ k = 2) (h : Q (.int (restore t k (expect ls))) σ) : WC c (n + 1) "restore_number" [.int t, .int k, oI ls] σ Q := by
  have F := P.fn 17 (by decide)
  refine WC_def (ns := ["truncated", "size", "largest_seen"]) P.G F (fun _ _ _ => len3 fun _ _ _ => rfl) (by decide +kernel) (by decide +kernel) rfl ?_ rfl rfl rfl
  have hw : 1 * 2 ^ (8 * k).toNat = (256 : Int) ^ k.toNat := by rcases hk with rfl | rfl <;> decide
  have hp : (0 : Int) < 256 ^ k.toNat := Int.pow_pos (by decide)
  have hp2 : (256 : Int) ^ k.toNat < 1073741824 := by rcases hk with rfl | rfl <;> decide
  have key : ∀ ρ' (e : Int), lk ρ' "expected" = some (.int e) → lk ρ' "truncated" = some (.int t) → lk ρ' "size" = some (.int k) → Q (.int (restore t k e)) σ → WS c n (scS (stI 17)) ρ' σ ((boS (stI 17)).drop 1) fun fl x σ' => match fl with | .ret v => Q v σ' | .next => Q .none σ' | _ => False := by
    intro ρ' e h1 h2 h3 h
    have hr : restore t k e = if e / 256 ^ k.toNat * 256 ^ k.toNat + t ≤ e - 256 ^ k.toNat / 2 ∧ e / 256 ^ k.toNat * 256 ^ k.toNat + t < 4611686018427387904 - 256 ^ k.toNat then e / 256 ^ k.toNat * 256 ^ k.toNat + t + 256 ^ k.toNat
      else if e / 256 ^ k.toNat * 256 ^ k.toNat + t > e + 256 ^ k.toNat / 2 ∧ e / 256 ^ k.toNat * 256 ^ k.toNat + t ≥ 256 ^ k.toNat then e / 256 ^ k.toNat * 256 ^ k.toNat + t - 256 ^ k.toNat else e / 256 ^ k.toNat * 256 ^ k.toNat + t := rfl
    rw [hr] at h
    have hm : IntMulOk (e / 256 ^ k.toNat) (256 ^ k.toNat) := by rcases hk with rfl | rfl <;> exact IntMulOk.of_right (by decide)
    generalize hW : (256 : Int) ^ k.toNat = W at *
    clear hr
    generalize hF : e / W * W + t = F' at *
    have last : ∀ ρ', lk ρ' "expected" = some (.int e) → lk ρ' "window" = some (.int W) → lk ρ' "half" = some (.int (W / 2)) → lk ρ' "found" = some (.int F') → Q (.int (if F' > e + W / 2 ∧ F' ≥ W then F' - W else F')) σ →
        WS c n (scS (stI 17)) ρ' σ ((boS (stI 17)).drop 5) fun fl x σ' => match fl with | .ret v => Q v σ' | .next => Q .none σ' | _ => False := by
      intro ρ' g1 g2 g3 g4 h
      apply WS_cons; apply S_if
      repeat k_subL
      refine ⟨fun z1 => ?_, fun z1 => ?_⟩
      · repeat k_subL
        refine ⟨fun z2 => ?_, fun z2 => ?_⟩
        · repeat k_subL
          have z1 : F' > e + W / 2 := of_decide_eq_true z1
          have z2 : F' ≥ W := of_decide_eq_true z2
          rw [if_pos ⟨z1, z2⟩] at h; exact h
        · repeat k_subL
          have z2 : ¬ F' ≥ W := of_decide_eq_false z2
          rw [if_neg (fun q => z2 q.2)] at h; exact h
      · refine ⟨fun z => (by cases z), fun _ => ?_⟩
        repeat k_subL
        have z1 : ¬ F' > e + W / 2 := of_decide_eq_false z1
        rw [if_neg (fun q => z1 q.1)] at h; exact h
    apply WS_cons
    apply S_assign
    · intro _ _; rfl
    · intro _ _; rfl
    · intro _; rfl
    repeat k_subL
    refine o_shl (by omega) (by omega) (by decide) ?_
    rw [hw]
    repeat k_subL
    refine o_div hp hp2 ?_
    repeat k_subL
    refine o_mul hm ?_
    repeat k_subL
    rw [hF]
    refine ⟨fun z1 => ?_, fun z1 => ?_⟩
    · repeat k_subL
      refine ⟨fun z2 => ?_, fun z2 => ?_⟩
      · repeat k_subL
        have z1 : F' ≤ e - W / 2 := of_decide_eq_true z1
        have z2 : F' < 4611686018427387904 - W := of_decide_eq_true z2
        rw [if_pos ⟨z1, z2⟩] at h; exact h
      · iterate 2 k_subL
        have z2 : ¬ F' < 4611686018427387904 - W := of_decide_eq_false z2
        rw [if_neg (fun q => z2 q.2)] at h
        exact last _ (by k_places) (by k_places) (by k_places) (by k_places) h
    · refine ⟨fun z => (by cases z), fun _ => ?_⟩
      iterate 2 k_subL
      have z1 : ¬ F' ≤ e - W / 2 := of_decide_eq_false z1
      rw [if_neg (fun q => z1 q.1)] at h
      exact last _ (by k_places) (by k_places) (by k_places) (by k_places) h
  apply WS_cons
  apply S_assign
  · intro _ _; rfl
  · intro _ _; rfl
  · intro _; rfl
  repeat k_subL
  cases ls with
  | none =>
    refine ⟨fun _ => ?_, fun z => by cases z⟩
    iterate 3 k_subL
    exact key _ 0 (by k_places) (by k_places) (by k_places) h
  | some a =>
    refine ⟨fun z => (by cases z), fun _ => ?_⟩
    iterate 6 k_subL
    exact key _ (a + 1) (by k_places) (by k_places) (by k_places) h
section
open PySem PySem.Calls PyProof.Rows PySem.W PySem.SeqAt
set_option linter.unusedVariables false
/-! ## the plain law: ranges -/
abbrev Rg := Int × Int
def Nm : List Rg → Prop
  | [] => True
  | q :: r => 0 ≤ q.1 ∧ q.1 ≤ q.2 ∧ (∀ p ∈ r, p.2 + 2 ≤ q.1) ∧ Nm r
def inR (rs : List Rg) (n : Int) : Prop := ∃ q ∈ rs, q.1 ≤ n ∧ n ≤ q.2
def hasN (rs : List Rg) (n : Int) : Bool := (rs.map fun q => decide (q.1 ≤ n) && decide (n ≤ q.2)).any id
theorem hasN_iff {rs : List Rg} {n : Int} : hasN rs n = true ↔ inR rs n := by
  unfold hasN inR; simp
theorem inR_nil {n : Int} : ¬ inR [] n := fun ⟨_, h, _⟩ => nomatch h
theorem inR_cons {q : Rg} {rs : List Rg} {n : Int} : inR (q :: rs) n ↔ (q.1 ≤ n ∧ n ≤ q.2) ∨ inR rs n := by
  unfold inR; simp
theorem inR_append {rs ss : List Rg} {n : Int} : inR (rs ++ ss) n ↔ inR rs n ∨ inR ss n := by
  unfold inR
  constructor
  · rintro ⟨q, h, r⟩
    rcases List.mem_append.mp h with h | h
    · exact .inl ⟨q, h, r⟩
    · exact .inr ⟨q, h, r⟩
  · rintro (⟨q, h, r⟩ | ⟨q, h, r⟩)
    · exact ⟨q, List.mem_append_left _ h, r⟩
    · exact ⟨q, List.mem_append_right _ h, r⟩
theorem Nm.tail {q : Rg} {r : List Rg} (h : Nm (q :: r)) : Nm r := h.2.2.2
theorem Nm.memOk : ∀ {rs : List Rg} {q : Rg}, Nm rs → q ∈ rs → 0 ≤ q.1 ∧ q.1 ≤ q.2
  | p :: r, q, h, hq => by
    rcases List.mem_cons.mp hq with rfl | hq
    · exact ⟨h.1, h.2.1⟩
    · exact Nm.memOk h.tail hq
theorem Nm.append : ∀ {rs ss : List Rg}, Nm (rs ++ ss) → Nm rs ∧ Nm ss ∧ ∀ p ∈ rs, ∀ q ∈ ss, q.2 + 2 ≤ p.1
  | [], ss, h => ⟨trivial, h, fun _ hp => nomatch hp⟩
  | p :: r, ss, h => by
    obtain ⟨h1, h2, h3, h4⟩ := h
    obtain ⟨a, b, d⟩ := Nm.append h4
    refine ⟨⟨h1, h2, fun q hq => h3 q (List.mem_append_left _ hq), a⟩, b, fun x hx y hy => ?_⟩
    rcases List.mem_cons.mp hx with rfl | hx
    · exact h3 y (List.mem_append_right _ hy)
    · exact d x hx y hy
theorem Nm.take {rs : List Rg} (h : Nm rs) (m : Nat) : Nm (rs.take m) := by
  have : Nm (rs.take m ++ rs.drop m) := by rw [List.take_append_drop]; exact h
  exact this.append.1
/-- a number, or a run of numbers, put in -/
def ins (lo hi : Int) : List Rg → List Rg
  | [] => [(lo, hi)]
  | q :: r => if q.1 > hi + 1 then q :: ins lo hi r else if q.2 < lo - 1 then (lo, hi) :: q :: r else ins (min lo q.1) (max hi q.2) r
theorem ins_top {B : Int} : ∀ (rs : List Rg) (lo hi : Int), hi + 2 ≤ B → (∀ p ∈ rs, p.2 + 2 ≤ B) → ∀ p ∈ ins lo hi rs, p.2 + 2 ≤ B
  | [], lo, hi, h1, h2, p, hp => by
    unfold ins at hp; simp at hp; subst hp; exact h1
  | q :: r, lo, hi, h1, h2, p, hp => by
    have hq := h2 q (.head _)
    unfold ins at hp
    split at hp
    · rcases List.mem_cons.mp hp with rfl | hp
      · exact hq
      · exact ins_top r lo hi h1 (fun p hp => h2 p (.tail _ hp)) p hp
    · split at hp
      · rcases List.mem_cons.mp hp with rfl | hp
        · exact h1
        · exact h2 p hp
      · exact ins_top r _ _ (by omega) (fun p hp => h2 p (.tail _ hp)) p hp
theorem ins_nm : ∀ (rs : List Rg) (lo hi : Int), Nm rs → 0 ≤ lo → lo ≤ hi → Nm (ins lo hi rs)
  | [], lo, hi, _, h0, h1 => ⟨h0, h1, fun _ h => (List.not_mem_nil h).elim, trivial⟩
  | q :: r, lo, hi, h, h0, h1 => by
    obtain ⟨a, b, d, e⟩ := h
    unfold ins
    split
    · exact ⟨a, b, ins_top r lo hi (by omega) d, ins_nm r lo hi e h0 h1⟩
    · split
      · refine ⟨h0, h1, fun p hp => ?_, a, b, d, e⟩
        show p.2 + 2 ≤ lo
        rcases List.mem_cons.mp hp with rfl | hp
        · omega
        · have := d p hp; omega
      · exact ins_nm r _ _ e (by omega) (by omega)
theorem ins_mem {n : Int} : ∀ (rs : List Rg) (lo hi : Int), Nm rs → lo ≤ hi → (inR (ins lo hi rs) n ↔ (lo ≤ n ∧ n ≤ hi) ∨ inR rs n)
  | [], lo, hi, _, h1 => by unfold ins; rw [inR_cons]
  | q :: r, lo, hi, h, h1 => by
    obtain ⟨a, b, d, e⟩ := h
    unfold ins
    split
    · rw [inR_cons, ins_mem r lo hi e h1, inR_cons]
      constructor
      · rintro (x | x | x)
        · exact .inr (.inl x)
        · exact .inl x
        · exact .inr (.inr x)
      · rintro (x | x | x)
        · exact .inr (.inl x)
        · exact .inl x
        · exact .inr (.inr x)
    · split
      · rw [inR_cons]
      · rw [ins_mem r _ _ e (by omega), inR_cons]
        constructor
        · rintro (x | x)
          · by_cases z : lo ≤ n ∧ n ≤ hi
            · exact .inl z
            · exact .inr (.inl (by omega))
          · exact .inr (.inr x)
        · rintro (x | x | x)
          · exact .inl (by omega)
          · exact .inl (by omega)
          · exact .inr x
def prn (low : Int) : List Rg → List Rg
  | [] => []
  | q :: r => if q.2 ≥ low then (max q.1 low, q.2) :: prn low r else prn low r
theorem prn_top {B low : Int} : ∀ (rs : List Rg), (∀ p ∈ rs, p.2 + 2 ≤ B) → ∀ p ∈ prn low rs, p.2 + 2 ≤ B
  | [], _, p, hp => nomatch hp
  | q :: r, h, p, hp => by
    unfold prn at hp
    split at hp
    · rcases List.mem_cons.mp hp with rfl | hp
      · exact h q (.head _)
      · exact prn_top r (fun p hp => h p (.tail _ hp)) p hp
    · exact prn_top r (fun p hp => h p (.tail _ hp)) p hp
theorem prn_nm {low : Int} : ∀ (rs : List Rg), Nm rs → Nm (prn low rs)
  | [], _ => trivial
  | q :: r, h => by
    obtain ⟨a, b, d, e⟩ := h
    unfold prn
    split
    · refine ⟨?_, ?_, fun p hp => ?_, prn_nm r e⟩
      · show 0 ≤ max q.1 low; omega
      · show max q.1 low ≤ q.2; omega
      · show p.2 + 2 ≤ max q.1 low
        have := prn_top r d p hp; omega
    · exact prn_nm r e
theorem prn_mem {low n : Int} : ∀ (rs : List Rg), inR (prn low rs) n ↔ inR rs n ∧ low ≤ n
  | [] => ⟨fun h => (inR_nil h).elim, fun h => (inR_nil h.1).elim⟩
  | q :: r => by
    unfold prn
    split
    · rw [inR_cons, inR_cons, prn_mem r]
      constructor
      · rintro (x | x)
        · exact ⟨.inl (by omega), by omega⟩
        · exact ⟨.inr x.1, x.2⟩
      · rintro ⟨x | x, y⟩
        · exact .inl (by show max q.1 low ≤ n ∧ n ≤ q.2; omega)
        · exact .inr ⟨x, y⟩
    · rw [prn_mem r, inR_cons]
      constructor
      · rintro ⟨x, y⟩; exact ⟨.inr x, y⟩
      · rintro ⟨x | x, y⟩
        · omega
        · exact ⟨x, y⟩
/-! ## the numbers of ranges -/
def rng (lo hi : Int) : List Int := (List.range (hi + 1 - lo).toNat).map fun i : Nat => lo + (i : Int)
def numsOf (rs : List Rg) : List Int := rs.flatMap fun q => rng q.1 q.2
theorem mem_rng {lo hi n : Int} : n ∈ rng lo hi ↔ lo ≤ n ∧ n ≤ hi := by
  unfold rng
  rw [List.mem_map]
  constructor
  · rintro ⟨i, hi, rfl⟩
    have := List.mem_range.mp hi; omega
  · rintro ⟨a, b⟩
    exact ⟨(n - lo).toNat, List.mem_range.mpr (by omega), by omega⟩
theorem rng_sorted {lo hi : Int} : (rng lo hi).Pairwise (· < ·) := by
  unfold rng
  rw [List.pairwise_map]
  exact List.pairwise_lt_range.imp fun h => by omega
theorem rng_length {lo hi : Int} : (rng lo hi).length = (hi + 1 - lo).toNat := by simp [rng]
theorem mem_nums {rs : List Rg} {n : Int} : n ∈ numsOf rs ↔ inR rs n := by
  unfold numsOf inR
  rw [List.mem_flatMap]
  constructor
  · rintro ⟨q, h, r⟩; exact ⟨q, h, mem_rng.mp r⟩
  · rintro ⟨q, h, r⟩; exact ⟨q, h, mem_rng.mpr r⟩
theorem Nm.pair : ∀ {rs : List Rg}, Nm rs → rs.Pairwise fun p q => q.2 + 2 ≤ p.1
  | [], _ => .nil
  | _ :: _, h => .cons h.2.2.1 (Nm.pair h.tail)
theorem nums_rev_sorted {rs : List Rg} (h : Nm rs) : (numsOf rs.reverse).Pairwise (· < ·) := by
  unfold numsOf
  rw [List.pairwise_flatMap]
  refine ⟨fun _ _ => rng_sorted, ?_⟩
  rw [List.pairwise_reverse]
  refine h.pair.imp fun {p q} hpq x hx y hy => ?_
  have := mem_rng.mp hx; have := mem_rng.mp hy; omega
theorem lt_nodup {l : List Int} (h : l.Pairwise (· < ·)) : l.Nodup := h.imp fun h => by omega
theorem nums_nodup {rs : List Rg} (h : Nm rs) : (numsOf rs).Nodup := by
  unfold numsOf List.Nodup
  rw [List.pairwise_flatMap]
  refine ⟨fun _ _ => lt_nodup rng_sorted, h.pair.imp fun {p q} hpq x hx y hy => ?_⟩
  have := mem_rng.mp hx; have := mem_rng.mp hy; omega
def cnt (rs : List Rg) : Int := (rs.map fun q => q.2 - q.1 + 1).sum
theorem cnt_nums : ∀ {rs : List Rg}, Nm rs → cnt rs = (numsOf rs).length
  | [], _ => rfl
  | q :: r, h => by
    have ih := cnt_nums h.tail
    unfold cnt numsOf at *
    rw [List.map_cons, List.sum_cons, List.flatMap_cons, List.length_append, ih, rng_length]
    have := h.2.1
    omega
theorem same_length {l m : List Int} (hl : l.Nodup) (hm : m.Nodup) (h : ∀ x, x ∈ l ↔ x ∈ m) : l.length = m.length :=
  ((List.perm_ext_iff_of_nodup hl hm).mpr h).length_eq
theorem nums_len {rs : List Rg} (h : Nm rs) : rs.length ≤ (numsOf rs).length := by
  induction rs with
  | nil => exact Nat.zero_le _
  | cons q r ih =>
    have := ih h.tail
    unfold numsOf at *
    rw [List.flatMap_cons, List.length_append, rng_length, List.length_cons]
    have := h.2.1
    omega
/-- a sorted list with the same members -/
theorem sorted_eq {l m k : List Int} (hl : l.Pairwise (· < ·)) (hm : m.Nodup) (h : ∀ x, x ∈ l ↔ x ∈ m) (hp : k.Perm m) (hk : k.Pairwise (· ≤ ·)) : l = k := by
  have p1 : l.Perm m := (List.perm_ext_iff_of_nodup (lt_nodup hl) hm).mpr h
  exact List.Perm.eq_of_pairwise (le := fun a b : Int => a ≤ b) (fun a b _ _ h1 h2 => by omega) (hl.imp fun h => by omega) hk (p1.trans hp.symm)
theorem sorted_filter {l k : List Int} {p : Int → Bool} (hl : l.Pairwise (· < ·)) (hp : k.Perm (l.filter p)) (hk : k.Pairwise (· ≤ ·)) : k = l.filter p :=
  (sorted_eq (hl.filter p) (lt_nodup (hl.filter p)) (fun _ => Iff.rfl) hp hk).symm
/-- what is told from the top down to one range -/
theorem tell_eq {pre rest : List Rg} {q : Rg} {kept k : List Int} (h : Nm (pre ++ q :: rest)) (hN : kept.Nodup) (hK : ∀ n, inR (pre ++ q :: rest) n ↔ n ∈ kept)
    (hp : k.Perm (kept.filter fun n => decide (n ≥ q.1))) (hk : k.Pairwise (· ≤ ·)) : numsOf (pre ++ [q]).reverse = k := by
  obtain ⟨h1, h2, h3⟩ := h.append
  have ht : Nm (pre ++ [q]) := by
    have := h.take (pre.length + 1)
    rw [List.take_append, List.take_of_length_le (by omega)] at this
    simpa using this
  refine sorted_eq (nums_rev_sorted ht) (hN.filter _) (fun x => ?_) hp hk
  rw [mem_nums, List.mem_filter, ← hK x]
  have hrev : inR (pre ++ [q]).reverse x ↔ inR (pre ++ [q]) x := by unfold inR; simp only [List.mem_reverse]
  rw [hrev, decide_eq_true_iff, inR_append, inR_append, inR_cons, inR_cons]
  constructor
  · rintro (hx | hx | hx)
    · refine ⟨.inl hx, ?_⟩
      obtain ⟨p, hp, a, b⟩ := hx
      have := h3 p hp q (.head _)
      have := h2.2.1
      omega
    · exact ⟨.inr (.inl hx), hx.1⟩
    · exact (inR_nil hx).elim
  · rintro ⟨hx | hx | hx, hge⟩
    · exact .inl hx
    · exact .inr (.inl hx)
    · obtain ⟨p, hp, a, b⟩ := hx
      have := h2.2.2.1 p hp
      omega
/-! ## the frame's octets -/
def gps (before : Int) : List Rg → List Rg
  | [] => []
  | q :: r => (before - q.2 - 2, q.2 - q.1) :: gps q.1 r
def back (lo : Int) : List Rg → List Rg
  | [] => []
  | p :: r => (lo - p.1 - 2 - p.2, lo - p.1 - 2) :: back (lo - p.1 - 2 - p.2) r
theorem back_gps : ∀ (r : List Rg) (lo : Int), back lo (gps lo r) = r
  | [], _ => rfl
  | q :: r, lo => by
    unfold gps back
    have e1 : lo - (lo - q.2 - 2) - 2 - (q.2 - q.1) = q.1 := by omega
    have e2 : lo - (lo - q.2 - 2) - 2 = q.2 := by omega
    dsimp only
    rw [e1, e2, back_gps r q.1]
theorem gps_length : ∀ (r : List Rg) (lo : Int), (gps lo r).length = r.length
  | [], _ => rfl
  | q :: r, lo => by unfold gps; rw [List.length_cons, List.length_cons, gps_length r]
theorem gps_take : ∀ (r : List Rg) (lo : Int) (m : Nat), gps lo (r.take m) = (gps lo r).take m
  | [], _, _ => by simp [gps]
  | q :: r, lo, 0 => by simp [gps]
  | q :: r, lo, m + 1 => by rw [List.take_succ_cons]; unfold gps; rw [List.take_succ_cons, gps_take r]
theorem gps_ok : ∀ (r : List Rg) (lo B : Int), lo ≤ B → Nm r → (∀ p ∈ r, p.2 + 2 ≤ lo) → ∀ p ∈ gps lo r, 0 ≤ p.1 ∧ p.1 ≤ B ∧ 0 ≤ p.2 ∧ p.2 ≤ B
  | [], _, _, _, _, _, p, hp => nomatch hp
  | q :: r, lo, B, hB, h, ht, p, hp => by
    obtain ⟨a, b, d, e⟩ := h
    have := ht q (.head _)
    unfold gps at hp
    rcases List.mem_cons.mp hp with rfl | hp
    · dsimp only; omega
    · exact gps_ok r q.1 B (by omega) e d p hp
def encp (ps : List Rg) : List UInt8 := ps.flatMap fun p => vi p.1 ++ vi p.2
def enc : List Rg → List UInt8
  | [] => []
  | q :: r => vi q.2 ++ vi 5 ++ vi (r.length : Nat) ++ vi (q.2 - q.1) ++ encp (gps q.1 r)
theorem vsz_or (m : Int) : vsz m = 1 ∨ vsz m = 2 := by unfold vsz; split <;> simp
def psz (ps : List Rg) : Int := (ps.map fun p => vsz p.1 + vsz p.2).sum
theorem encp_len : ∀ ps : List Rg, ((encp ps).length : Int) = psz ps
  | [] => rfl
  | p :: r => by
    have := encp_len r
    unfold encp psz at *
    rw [List.flatMap_cons, List.length_append, List.length_append, List.map_cons, List.sum_cons]
    have := vi_len (m := p.1)
    have := vi_len (m := p.2)
    push_cast
    omega
theorem psz_le : ∀ ps : List Rg, 0 ≤ psz ps ∧ psz ps ≤ 4 * ps.length
  | [] => by simp [psz]
  | p :: r => by
    have := psz_le r
    have h1 := vsz_or p.1
    have h2 := vsz_or p.2
    unfold psz at *
    rw [List.map_cons, List.sum_cons, List.length_cons]
    push_cast
    omega
theorem enc_len {q : Rg} {r : List Rg} : ((enc (q :: r)).length : Int) = vsz q.2 + 1 + vsz (r.length : Nat) + vsz (q.2 - q.1) + psz (gps q.1 r) := by
  unfold enc
  simp only [List.length_append]
  have := vi_len (m := q.2)
  have := vi_len (m := 5)
  have := vi_len (m := (r.length : Nat))
  have := vi_len (m := q.2 - q.1)
  have := encp_len (gps q.1 r)
  have : vsz 5 = 1 := by decide
  push_cast
  omega
end
section
open PySem PySem.Calls PyProof.Rows PySem.W PySem.SeqAt
set_option linter.unusedVariables false
variable {c : Cx} {n : Nat} {sc : Scope} {ρ : List (Str × MV)} {σ : MS} {A : Around} {env : Env} {s : Shared} {pos : Pos} {x : Str}
abbrev rgV (q : Rg) : MV := .tup [.int q.1, .int q.2]
/-- a new list is handed on -/
def NewL (σ : MS) (xs : List MV) (Q : MV → MS → Prop) : Prop := ∀ σ' q, Grow σ σ' → σ q = none → σ' q = some (.list xs) → Q (.ref q) σ'
theorem prn_pos {low : Int} {q : Rg} {r : List Rg} (h : q.2 ≥ low) : prn low (q :: r) = (max q.1 low, q.2) :: prn low r := by
  rw [prn, if_pos h]
theorem prn_neg {low : Int} {q : Rg} {r : List Rg} (h : ¬ q.2 ≥ low) : prn low (q :: r) = prn low r := by
  rw [prn, if_neg h]
theorem prn_append {low : Int} : ∀ (xs ys : List Rg), prn low (xs ++ ys) = prn low xs ++ prn low ys
  | [], _ => rfl
  | q :: r, ys => by
    by_cases h : q.2 ≥ low
    · rw [List.cons_append, prn_pos h, prn_pos h, prn_append r ys, List.cons_append]
    · rw [List.cons_append, prn_neg h, prn_neg h, prn_append r ys]
end
section
open PySem PySem.Calls PyProof.Rows PySem.W PySem.SeqAt
set_option linter.unusedVariables false
/-! ## the world of the law -/
structure St where
  next : Int
  acked : Option Int
  out : List Int
  late : List (Int × Array UInt8)
  seen : Option Int
  ranges : List Rg
  kept : List Int
  came : List Int
  acks : List (Array UInt8)
  told : List Int
  sent : List Int
/-- a number whose octets are under way -/
def LateOk (sent : List Int) (seen : Option Int) (p : Int × Array UInt8) : Prop :=
  ∃ k : Int, (k = 1 ∨ k = 2) ∧ p.2 = (be k (p.1 % 256 ^ k.toNat)).toArray ∧ p.1 ∈ sent ∧ p.1 ≤ expect seen + 256 ^ k.toNat / 2
def AckOk (came : List Int) (d : Array UInt8) : Prop := ∃ q r, Nm (q :: r) ∧ (∀ n, inR (q :: r) n → n ∈ came) ∧ d = (enc (q :: r)).toArray
structure Inv (a t : Nat) (S : St) : Prop where
  next0 : 0 ≤ S.next
  nextL : S.next ≤ 401 * (a : Int)
  sentL : S.sent.length ≤ a
  sentS : S.sent.Pairwise (· < ·)
  sentB : ∀ x ∈ S.sent, 0 ≤ x ∧ x < S.next
  outE : S.out = S.sent.filter fun x => !decide (x ∈ S.told)
  toldC : ∀ x ∈ S.told, x ∈ S.came
  cameS : ∀ x ∈ S.came, x ∈ S.sent ∧ x + 1 ≤ expect S.seen
  exp0 : 0 ≤ expect S.seen
  expN : expect S.seen ≤ S.next
  ack : ∀ x, S.acked = some x → 0 ≤ x ∧ x + 1 ≤ expect S.seen
  keptN : S.kept.Nodup
  keptC : ∀ x ∈ S.kept, x ∈ S.came
  nm : Nm S.ranges
  rk : ∀ n, inR S.ranges n ↔ n ∈ S.kept
  late : ∀ p ∈ S.late, LateOk S.sent S.seen p
  acks : ∀ d ∈ S.acks, AckOk S.came d
  lateL : S.late.length ≤ 2 * t
  cameL : S.came.length ≤ t
  acksL : S.acks.length ≤ t
  toldL : S.told.length ≤ 40 * t
  aL : a ≤ 40
theorem Inv.mono {a b t u : Nat} {S : St} (I : Inv a t S) (h : a ≤ b) (hb : b ≤ 40) (h2 : t ≤ u) : Inv b u S :=
  { I with nextL := by have := I.nextL; omega
           sentL := by have := I.sentL; omega
           lateL := by have := I.lateL; omega
           cameL := by have := I.cameL; omega
           acksL := by have := I.acksL; omega
           toldL := by have := I.toldL; omega
           aL := hb }
theorem Inv.big {a t : Nat} {S : St} (I : Inv a t S) {x : Int} (h : x ∈ S.sent) : 0 ≤ x ∧ x < 16384 := by
  have := I.sentB x h; have := I.nextL; have := I.aL; omega
theorem Inv.cameBig {a t : Nat} {S : St} (I : Inv a t S) {x : Int} (h : x ∈ S.came) : 0 ≤ x ∧ x < 16384 := I.big (I.cameS x h).1
theorem Inv.expBig {a t : Nat} {S : St} (I : Inv a t S) {x : Int} (h : x ∈ S.kept) : x ∈ S.sent := (I.cameS x (I.keptC x h)).1
/-- some ranges of what came are few -/
theorem Inv.few {a t : Nat} {S : St} (I : Inv a t S) {rs : List Rg} (h : Nm rs) (hc : ∀ n, inR rs n → n ∈ S.came) : (numsOf rs).length ≤ 40 ∧ rs.length ≤ 40 := by
  have h1 : (numsOf rs).length ≤ S.sent.length := (nums_nodup h).length_le_of_subset fun x hx => (I.cameS x (hc x (mem_nums.mp hx))).1
  have := nums_len h
  have := I.sentL
  have := I.aL
  omega
theorem Inv.rangesFew {a t : Nat} {S : St} (I : Inv a t S) : S.ranges.length ≤ 40 := (I.few I.nm fun n h => I.keptC n ((I.rk n).mp h)).2
theorem Inv.keptFew {a t : Nat} {S : St} (I : Inv a t S) : S.kept.length ≤ 40 := by
  have h1 : S.kept.length ≤ S.sent.length := I.keptN.length_le_of_subset fun x hx => I.expBig hx
  have := I.sentL; have := I.aL; omega
theorem Inv.outFew {a t : Nat} {S : St} (I : Inv a t S) : S.out.length ≤ 40 := by
  have : S.out.length ≤ S.sent.length := by rw [I.outE]; exact List.length_filter_le _ _
  have := I.sentL; have := I.aL; omega
theorem Inv.outS {a t : Nat} {S : St} (I : Inv a t S) : S.out.Pairwise (· < ·) := by rw [I.outE]; exact I.sentS.filter _
theorem Nm.hiLow {q : Rg} {r : List Rg} (h : Nm (q :: r)) : inR (q :: r) q.2 := ⟨q, .head _, h.2.1, Int.le_refl _⟩
theorem Inv.rgBig {a t : Nat} {S : St} (I : Inv a t S) {q : Rg} {r : List Rg} (h : Nm (q :: r)) (hc : ∀ n, inR (q :: r) n → n ∈ S.came) : q.2 < 16384 := (I.cameBig (hc _ h.hiLow)).2
/-! ### restoring -/
theorem restore_is {m e W : Int} (k : Int) (hk : k = 1 ∨ k = 2) (hW : W = 256 ^ k.toNat) (m0 : 0 ≤ m) (m1 : m < 16384) (e0 : 0 ≤ e) (e1 : e < 16385) (lo : 2 * (e - m) < W) (hi : m ≤ e + W / 2) : restore (m % W) k e = m := by
  have key : ∀ w : Int, w = 256 ∨ w = 65536 → 2 * (e - m) < w → m ≤ e + w / 2 → (if e / w * w + m % w ≤ e - w / 2 ∧ e / w * w + m % w < 4611686018427387904 - w then e / w * w + m % w + w else if e / w * w + m % w > e + w / 2 ∧ e / w * w + m % w ≥ w then e / w * w + m % w - w else e / w * w + m % w) = m := by
    intro w hw a b
    rcases hw with rfl | rfl
    · split
      · omega
      · split <;> omega
    · split
      · omega
      · split <;> omega
  unfold restore
  rw [← hW]
  exact key W (by rcases hk with rfl | rfl <;> simp at hW <;> omega) lo hi
theorem LateOk.back {sent : List Int} {seen : Option Int} {p : Int × Array UInt8} (h : LateOk sent seen p) (b : 0 ≤ p.1) : ∃ k : Int, (k = 1 ∨ k = 2) ∧ p.2.size = k.toNat ∧ wholeI p.2.toList = p.1 % 256 ^ k.toNat ∧ p.1 ≤ expect seen + 256 ^ k.toNat / 2 := by
  obtain ⟨k, hk, e, _, hi⟩ := h
  refine ⟨k, hk, ?_, ?_, hi⟩
  · rw [e]; rcases hk with rfl | rfl <;> simp [be]
  · rw [e]
    show wholeI (be k (p.1 % 256 ^ k.toNat)) = _
    rcases hk with rfl | rfl
    · exact whole_be (.inl ⟨rfl, by simp; omega, by simp; omega⟩)
    · exact whole_be (.inr ⟨rfl, by simp; omega, by simp; omega⟩)
/-! ### the steps -/
def expUp (seen : Option Int) (m : Int) : Option Int := match seen with
  | none => some m
  | some s => some (max s m)
def St.comes (S : St) (m : Int) : St := { S with seen := expUp S.seen m, ranges := ins m m S.ranges, kept := if m ∈ S.kept then S.kept else S.kept ++ [m], came := S.came ++ [m] }
theorem expUp_le (seen : Option Int) (m : Int) : expect seen ≤ expect (expUp seen m) ∨ expect seen ≤ 0 := by
  cases seen with
  | none => exact .inr (Int.le_refl _)
  | some s => left; unfold expUp expect; dsimp only; omega
theorem expUp_ge (seen : Option Int) (m : Int) (h0 : 0 ≤ m) : m + 1 ≤ expect (expUp seen m) ∧ expect seen ≤ expect (expUp seen m) := by
  cases seen with
  | none => unfold expUp expect; dsimp only; omega
  | some s => unfold expUp expect; dsimp only; omega
theorem expUp_max (seen : Option Int) (m : Int) : expect (expUp seen m) ≤ expect seen ∨ expect (expUp seen m) ≤ m + 1 := by
  cases seen with
  | none => unfold expUp expect; dsimp only; omega
  | some s => unfold expUp expect; dsimp only; omega
theorem comes_mem {S : St} {a t : Nat} (I : Inv a t S) {m : Int} (x : Int) : inR (S.comes m).ranges x ↔ x ∈ (S.comes m).kept := by
  unfold St.comes
  dsimp only
  rw [ins_mem _ _ _ I.nm (Int.le_refl _), I.rk]
  split
  · rename_i h
    constructor
    · rintro (z | z)
      · have : x = m := by omega
        rw [this]; exact h
      · exact z
    · exact .inr
  · rw [List.mem_append, List.mem_singleton]
    constructor
    · rintro (z | z)
      · exact .inr (by omega)
      · exact .inl z
    · rintro (z | z)
      · exact .inr z
      · exact .inl (by omega)
theorem comes_nodup {S : St} {a t : Nat} (I : Inv a t S) {m : Int} : (S.comes m).kept.Nodup := by
  unfold St.comes
  dsimp only
  split
  · exact I.keptN
  · rename_i h
    rw [List.nodup_append]
    exact ⟨I.keptN, by simp, fun x hx y hy e => h (by simp at hy; rw [← hy, ← e]; exact hx)⟩
theorem Inv.comes {S : St} {a t : Nat} (I : Inv a t S) {m : Int} (hm : m ∈ S.sent) : Inv a (t + 1) (S.comes m) := by
  have hb := I.big hm
  obtain ⟨g1, g2⟩ := expUp_ge S.seen m hb.1
  have cm : ∀ x, x ∈ S.came → x ∈ (S.comes m).came := fun x hx => List.mem_append_left _ hx
  refine { next0 := I.next0, nextL := I.nextL, sentL := I.sentL, sentS := I.sentS, sentB := I.sentB, outE := I.outE, toldC := fun x hx => cm x (I.toldC x hx), cameS := fun x hx => ?_, exp0 := ?_, expN := ?_, ack := fun x hx => ?_, keptN := comes_nodup I, keptC := fun x hx => ?_, nm := ins_nm _ _ _ I.nm hb.1 (Int.le_refl _), rk := comes_mem I, late := fun p hp => ?_, acks := fun d hd => ?_, lateL := ?_, cameL := ?_, acksL := ?_, toldL := ?_, aL := I.aL }
  · rcases List.mem_append.mp hx with hx | hx
    · obtain ⟨a, b⟩ := I.cameS x hx; exact ⟨a, by show x + 1 ≤ expect (expUp S.seen m); omega⟩
    · simp at hx; subst hx; exact ⟨hm, g1⟩
  · have := I.exp0; show 0 ≤ expect (expUp S.seen m); omega
  · have := I.expN; have := (I.sentB m hm).2; show expect (expUp S.seen m) ≤ S.next; have := expUp_max S.seen m; omega
  · obtain ⟨a, b⟩ := I.ack x hx; exact ⟨a, by show x + 1 ≤ expect (expUp S.seen m); omega⟩
  · have : x ∈ (if m ∈ S.kept then S.kept else S.kept ++ [m]) := hx
    split at this
    · exact cm x (I.keptC x this)
    · rcases List.mem_append.mp this with h | h
      · exact cm x (I.keptC x h)
      · exact List.mem_append_right _ h
  · obtain ⟨k, h1, h2, h3, h4⟩ := I.late p hp
    exact ⟨k, h1, h2, h3, by show p.1 ≤ expect (expUp S.seen m) + _; omega⟩
  · obtain ⟨q, r, h1, h2, h3⟩ := I.acks d hd
    exact ⟨q, r, h1, fun n hn => cm n (h2 n hn), h3⟩
  · have := I.lateL; show S.late.length ≤ _; omega
  · have := I.cameL; show (S.came ++ [m]).length ≤ _; simp; omega
  · have := I.acksL; show S.acks.length ≤ _; omega
  · have := I.toldL; show S.told.length ≤ _; omega
theorem comes_count {S : St} {a t : Nat} (I : Inv a t S) {m : Int} (hm : m ∈ S.sent) : cnt (S.comes m).ranges = ((S.comes m).kept.length : Nat) := by
  have J := I.comes hm
  rw [cnt_nums J.nm, same_length (nums_nodup J.nm) J.keptN fun x => mem_nums.trans (J.rk x)]
/-- a packet is sent; what of it is late -/
def St.sends (S : St) (m : Int) (l : List (Int × Array UInt8)) : St := { S with next := m + 1, out := S.out ++ [m], sent := S.sent ++ [m], late := S.late ++ l }
theorem Inv.sends {S : St} {a t : Nat} (I : Inv a t S) {m : Int} {l : List (Int × Array UInt8)} (h0 : S.next ≤ m) (h1 : m ≤ S.next + 400) (ha : a + 1 ≤ 40) (hl : l.length ≤ 2) (hL : ∀ p ∈ l, LateOk (S.sent ++ [m]) S.seen p) : Inv (a + 1) (t + 1) (S.sends m l) := by
  have n0 := I.next0
  have sm : ∀ x, x ∈ S.sent → x ∈ S.sent ++ [m] := fun x hx => List.mem_append_left _ hx
  have mt : m ∉ S.told := fun h => by
    have := I.sentB m (I.cameS m (I.toldC m h)).1; omega
  refine { next0 := ?_, nextL := ?_, sentL := ?_, sentS := ?_, sentB := fun x hx => ?_, outE := ?_, toldC := I.toldC, cameS := fun x hx => ⟨sm x (I.cameS x hx).1, (I.cameS x hx).2⟩, exp0 := I.exp0, expN := ?_, ack := I.ack, keptN := I.keptN, keptC := I.keptC, nm := I.nm, rk := I.rk, late := fun p hp => ?_, acks := I.acks, lateL := ?_, cameL := ?_, acksL := ?_, toldL := ?_, aL := ha }
  · show 0 ≤ m + 1; omega
  · have := I.nextL; show m + 1 ≤ 401 * ((a + 1 : Nat) : Int); push_cast; omega
  · have := I.sentL; show (S.sent ++ [m]).length ≤ _; simp; omega
  · show (S.sent ++ [m]).Pairwise _
    rw [List.pairwise_append]
    exact ⟨I.sentS, by simp, fun x hx y hy => by simp at hy; subst hy; have := I.sentB x hx; omega⟩
  · rcases List.mem_append.mp hx with hx | hx
    · have := I.sentB x hx; exact ⟨this.1, by show x < m + 1; omega⟩
    · simp at hx; subst hx; exact ⟨by omega, by show x < x + 1; omega⟩
  · show S.out ++ [m] = (S.sent ++ [m]).filter fun x => !decide (x ∈ S.told)
    rw [List.filter_append, ← I.outE]; simp [mt]
  · have := I.expN; show expect S.seen ≤ m + 1; omega
  · rcases List.mem_append.mp hp with hp | hp
    · obtain ⟨k, h1, h2, h3, h4⟩ := I.late p hp; exact ⟨k, h1, h2, sm _ h3, h4⟩
    · exact hL p hp
  · have := I.lateL; show (S.late ++ l).length ≤ _; simp; omega
  · have := I.cameL; show S.came.length ≤ _; omega
  · have := I.acksL; show S.acks.length ≤ _; omega
  · have := I.toldL; show S.told.length ≤ _; omega
theorem Inv.apartOk {S : St} {a t : Nat} (I : Inv a t S) {m : Int} (h0 : S.next ≤ m) (h1 : m ≤ S.next + 400) (ha : a + 1 ≤ 40) : apart m S.acked ≤ 32768 := by
  have := I.nextL
  have := I.aL
  cases h : S.acked with
  | none => show m + 1 ≤ _; omega
  | some x => have := (I.ack x h).1; show m - x ≤ _; omega
theorem nsz_half (d : Int) (h : d ≤ 32768) : d ≤ 256 ^ (nsz d).toNat / 2 := by
  unfold nsz
  split
  · show d ≤ 256 ^ 1 / 2; omega
  · show d ≤ 256 ^ 2 / 2; omega
theorem Inv.cutOk {S : St} {a t : Nat} (I : Inv a t S) {m : Int} (h0 : S.next ≤ m) (h1 : m ≤ S.next + 400) (ha : a + 1 ≤ 40) : LateOk (S.sent ++ [m]) S.seen (m, (cut m S.acked).toArray) := by
  have hap := I.apartOk h0 h1 ha
  refine ⟨nsz (apart m S.acked), nsz_or _, rfl, List.mem_append_right _ (.head _), ?_⟩
  have hh := nsz_half _ hap
  have e0 := I.exp0
  have key : m ≤ expect S.seen + apart m S.acked := by
    cases h : S.acked with
    | none => show m ≤ expect S.seen + (m + 1); omega
    | some x => have := (I.ack x h).2; show m ≤ expect S.seen + (m - x); omega
  show m ≤ expect S.seen + 256 ^ (nsz (apart m S.acked)).toNat / 2
  omega
end
section
open PySem PySem.Calls PyProof.Rows PySem.W PySem.SeqAt
set_option linter.unusedVariables false
def St.prunes (S : St) (low : Int) : St := { S with ranges := prn low S.ranges, kept := S.kept.filter fun n => decide (n ≥ low) }
theorem Inv.prunes {S : St} {a t : Nat} (I : Inv a t S) (low : Int) : Inv a t (S.prunes low) :=
  { I with keptN := I.keptN.filter _
           keptC := fun x hx => I.keptC x (List.mem_filter.mp hx).1
           nm := prn_nm _ I.nm
           rk := fun n => by
             show inR (prn low S.ranges) n ↔ n ∈ S.kept.filter fun n => decide (n ≥ low)
             rw [prn_mem, I.rk, List.mem_filter, decide_eq_true_iff] }
theorem Inv.dropLate {S : St} {a t : Nat} (I : Inv a t S) (i : Nat) : Inv a t { S with late := S.late.eraseIdx i } :=
  { I with late := fun p hp => I.late p (List.mem_of_mem_eraseIdx hp)
           lateL := Nat.le_trans (List.length_eraseIdx_le _ _) I.lateL }
theorem Inv.dropAck {S : St} {a t : Nat} (I : Inv a t S) (i : Nat) : Inv a t { S with acks := S.acks.eraseIdx i } :=
  { I with acks := fun p hp => I.acks p (List.mem_of_mem_eraseIdx hp)
           acksL := Nat.le_trans (List.length_eraseIdx_le _ _) I.acksL }
theorem Inv.tells {S : St} {a t : Nat} (I : Inv a t S) {d : Array UInt8} (h : AckOk S.came d) : Inv a (t + 1) { S with acks := S.acks ++ [d] } :=
  { I.mono (Nat.le_refl _) I.aL (Nat.le_succ t) with
           acks := fun p hp => by
             rcases List.mem_append.mp hp with hp | hp
             · exact I.acks p hp
             · simp at hp; subst hp; exact h
           acksL := by have := I.acksL; show (S.acks ++ [d]).length ≤ _; simp; omega }
def St.hears (S : St) (q : Rg) (r : List Rg) : St :=
  { S with out := S.out.filter fun n => !decide (n ∈ S.out.filter (hasN (q :: r))), told := S.told ++ numsOf (q :: r), acked := expUp S.acked q.2 }
theorem Inv.hears {S : St} {a t : Nat} (I : Inv a t S) {q : Rg} {r : List Rg} (hN : Nm (q :: r)) (hc : ∀ n, inR (q :: r) n → n ∈ S.came) : Inv a (t + 1) (S.hears q r) := by
  have hq := (I.cameS _ (hc _ hN.hiLow)).2
  have hq0 := (I.cameBig (hc _ hN.hiLow)).1
  refine { I.mono (Nat.le_refl _) I.aL (Nat.le_succ t) with outE := ?_, toldC := fun x hx => ?_, ack := fun x hx => ?_, toldL := ?_ }
  · show (S.out.filter fun n => !decide (n ∈ S.out.filter (hasN (q :: r)))) = S.sent.filter fun x => !decide (x ∈ S.told ++ numsOf (q :: r))
    have e : (S.out.filter fun n => !decide (n ∈ S.out.filter (hasN (q :: r)))) = S.out.filter fun n => !decide (n ∈ numsOf (q :: r)) := by
      apply List.filter_congr
      intro x hx
      congr 1
      rw [Bool.eq_iff_iff, decide_eq_true_iff, decide_eq_true_iff, List.mem_filter, mem_nums, hasN_iff]
      exact ⟨fun h => h.2, fun h => ⟨hx, h⟩⟩
    rw [e, I.outE, List.filter_filter]
    apply List.filter_congr
    intro x hx
    rw [Bool.eq_iff_iff]
    simp
    constructor
    · rintro ⟨a, b⟩; exact ⟨b, a⟩
    · rintro ⟨a, b⟩; exact ⟨b, a⟩
  · rcases List.mem_append.mp hx with hx | hx
    · exact I.toldC x hx
    · exact hc x (mem_nums.mp hx)
  · have hx' : expUp S.acked q.2 = some x := hx
    show 0 ≤ x ∧ x + 1 ≤ expect S.seen
    cases h : S.acked with
    | none => rw [h] at hx'; cases hx'; exact ⟨hq0, hq⟩
    | some y =>
      rw [h] at hx'
      have := I.ack y h
      have e : max y q.2 = x := Option.some.inj hx'
      omega
  · have := (I.few hN hc).1
    have := I.toldL
    show (S.told ++ numsOf (q :: r)).length ≤ _
    rw [List.length_append]
    omega
/-! ## the world on the heap -/
structure Ad where
  o : Addr
  l : Addr
  r : Addr
  k : Addr
  cm : Addr
  ac : Addr
  td : Addr
  sn : Addr
abbrev ltV (p : Int × Array UInt8) : MV := .tup [.int p.1, .bytes p.2]
noncomputable abbrev wEs (S : St) (a : Ad) : List (Str × MV) :=
  [("next", .int S.next), ("acked", oI S.acked), ("out", .ref a.o), ("late", .ref a.l), ("seen", oI S.seen), ("ranges", .ref a.r), ("kept", .ref a.k), ("came", .ref a.cm), ("acks", .ref a.ac), ("told", .ref a.td), ("sent", .ref a.sn)]
def Apart (w : Addr) (a : Ad) : Prop :=
  (@Ne Nat w a.o ∧ @Ne Nat w a.l ∧ @Ne Nat w a.r ∧ @Ne Nat w a.k ∧ @Ne Nat w a.cm ∧ @Ne Nat w a.ac ∧ @Ne Nat w a.td ∧ @Ne Nat w a.sn) ∧ (@Ne Nat a.o a.l ∧ @Ne Nat a.o a.r ∧ @Ne Nat a.o a.k ∧ @Ne Nat a.o a.cm ∧ @Ne Nat a.o a.ac ∧ @Ne Nat a.o a.td ∧ @Ne Nat a.o a.sn) ∧ (@Ne Nat a.l a.r ∧ @Ne Nat a.l a.k ∧ @Ne Nat a.l a.cm ∧ @Ne Nat a.l a.ac ∧ @Ne Nat a.l a.td ∧ @Ne Nat a.l a.sn) ∧
      (@Ne Nat a.r a.k ∧ @Ne Nat a.r a.cm ∧ @Ne Nat a.r a.ac ∧ @Ne Nat a.r a.td ∧ @Ne Nat a.r a.sn) ∧ (@Ne Nat a.k a.cm ∧ @Ne Nat a.k a.ac ∧ @Ne Nat a.k a.td ∧ @Ne Nat a.k a.sn) ∧ (@Ne Nat a.cm a.ac ∧ @Ne Nat a.cm a.td ∧ @Ne Nat a.cm a.sn) ∧ (@Ne Nat a.ac a.td ∧ @Ne Nat a.ac a.sn) ∧ @Ne Nat a.td a.sn
structure WAt (σ : MS) (w : Addr) (S : St) (a : Ad) : Prop where
  hw : σ w = some (.dict (wEs S a))
  ho : σ a.o = some (.list (S.out.map MV.int))
  hl : σ a.l = some (.list (S.late.map ltV))
  hr : σ a.r = some (.list (S.ranges.map rgV))
  hk : σ a.k = some (.list (S.kept.map MV.int))
  hcm : σ a.cm = some (.list (S.came.map MV.int))
  hac : σ a.ac = some (.list (S.acks.map MV.bytes))
  htd : σ a.td = some (.list (S.told.map MV.int))
  hsn : σ a.sn = some (.list (S.sent.map MV.int))
  nd : Apart w a
theorem WAt.grow {σ σ' : MS} {w : Addr} {S : St} {a : Ad} (W : WAt σ w S a) (g : Grow σ σ') : WAt σ' w S a :=
  ⟨g _ _ W.hw, g _ _ W.ho, g _ _ W.hl, g _ _ W.hr, g _ _ W.hk, g _ _ W.hcm, g _ _ W.hac, g _ _ W.htd, g _ _ W.hsn, W.nd⟩
theorem WAt.nds {σ : MS} {w : Addr} {S : St} {a : Ad} (W : WAt σ w S a) : Apart w a := W.nd
theorem upd_nn {σ : MS} {k j : Addr} {o m : MO} (e : σ j = some m) (h : j ≠ k) : upd σ k o j = some m := (upd_ne h).trans e
section
variable {σ : MS} {w : Addr} {S : St} {a : Ad}
/-- a number kept in the world is turned -/
theorem WAt.setW (W : WAt σ w S a) {S' : St} (e : ∀ b, wEs S' b = wEs S' b) (h1 : S'.out = S.out) (h2 : S'.late = S.late) (h3 : S'.ranges = S.ranges) (h4 : S'.kept = S.kept) (h5 : S'.came = S.came) (h6 : S'.acks = S.acks) (h7 : S'.told = S.told) (h8 : S'.sent = S.sent) :
    WAt (upd σ w (.dict (wEs S' a))) w S' a := by
  obtain ⟨⟨n1, n2, n3, n4, n5, n6, n7, n8⟩, _⟩ := W.nds
  exact ⟨upd_eq, h1 ▸ upd_nn W.ho n1.symm, h2 ▸ upd_nn W.hl n2.symm, h3 ▸ upd_nn W.hr n3.symm, h4 ▸ upd_nn W.hk n4.symm, h5 ▸ upd_nn W.hcm n5.symm, h6 ▸ upd_nn W.hac n6.symm, h7 ▸ upd_nn W.htd n7.symm, h8 ▸ upd_nn W.hsn n8.symm, W.nd⟩
theorem WAt.setNext (W : WAt σ w S a) (x : Int) : WAt (upd σ w (.dict (wEs { S with next := x } a))) w { S with next := x } a := W.setW (fun _ => rfl) rfl rfl rfl rfl rfl rfl rfl rfl
theorem WAt.setSeen (W : WAt σ w S a) (x : Option Int) : WAt (upd σ w (.dict (wEs { S with seen := x } a))) w { S with seen := x } a := W.setW (fun _ => rfl) rfl rfl rfl rfl rfl rfl rfl rfl
theorem WAt.setAcked (W : WAt σ w S a) (x : Option Int) : WAt (upd σ w (.dict (wEs { S with acked := x } a))) w { S with acked := x } a := W.setW (fun _ => rfl) rfl rfl rfl rfl rfl rfl rfl rfl
/-- an address at which none of the world's parts stands -/
theorem WAt.apart (W : WAt σ w S a) {p : Addr} (h : σ p = none) : @Ne Nat p w ∧ @Ne Nat p a.o ∧ @Ne Nat p a.l ∧ @Ne Nat p a.r ∧ @Ne Nat p a.k ∧ @Ne Nat p a.cm ∧ @Ne Nat p a.ac ∧ @Ne Nat p a.td ∧ @Ne Nat p a.sn := by
  refine ⟨?_, ?_, ?_, ?_, ?_, ?_, ?_, ?_, ?_⟩ <;> rintro rfl
  · rw [W.hw] at h; cases h
  · rw [W.ho] at h; cases h
  · rw [W.hl] at h; cases h
  · rw [W.hr] at h; cases h
  · rw [W.hk] at h; cases h
  · rw [W.hcm] at h; cases h
  · rw [W.hac] at h; cases h
  · rw [W.htd] at h; cases h
  · rw [W.hsn] at h; cases h
/-- a list of the world's is put in anew: W from before the list was made -/
theorem WAt.newOut {σ' : MS} (W : WAt σ w S a) (g : Grow σ σ') {p : Addr} {xs : List Int} (h : σ p = none) (hp : σ' p = some (.list (xs.map MV.int))) : WAt (upd σ' w (.dict (wEs { S with out := xs } { a with o := p }))) w { S with out := xs } { a with o := p } := by
  have W' := W.grow g
  obtain ⟨_, _, _, _, _, _, _, _, _⟩ := W.apart h
  obtain ⟨⟨_, _, _, _, _, _, _, _⟩, ⟨_, _, _, _, _, _, _⟩, ⟨_, _, _, _, _, _⟩, ⟨_, _, _, _, _⟩, ⟨_, _, _, _⟩, ⟨_, _, _⟩, ⟨_, _⟩, _⟩ := W.nds
  refine ⟨upd_eq, upd_nn hp ?_, upd_nn W'.hl ?_, upd_nn W'.hr ?_, upd_nn W'.hk ?_, upd_nn W'.hcm ?_, upd_nn W'.hac ?_, upd_nn W'.htd ?_, upd_nn W'.hsn ?_, ?_⟩
  all_goals (first | assumption | exact Ne.symm (by assumption) | skip)
  unfold Apart; dsimp only; and_intros <;> first | assumption | exact Ne.symm (by assumption)
theorem WAt.newLate {σ' : MS} (W : WAt σ w S a) (g : Grow σ σ') {p : Addr} {xs : List (Int × Array UInt8)} (h : σ p = none) (hp : σ' p = some (.list (xs.map ltV))) : WAt (upd σ' w (.dict (wEs { S with late := xs } { a with l := p }))) w { S with late := xs } { a with l := p } := by
  have W' := W.grow g
  obtain ⟨_, _, _, _, _, _, _, _, _⟩ := W.apart h
  obtain ⟨⟨_, _, _, _, _, _, _, _⟩, ⟨_, _, _, _, _, _, _⟩, ⟨_, _, _, _, _, _⟩, ⟨_, _, _, _, _⟩, ⟨_, _, _, _⟩, ⟨_, _, _⟩, ⟨_, _⟩, _⟩ := W.nds
  refine ⟨upd_eq, upd_nn W'.ho ?_, upd_nn hp ?_, upd_nn W'.hr ?_, upd_nn W'.hk ?_, upd_nn W'.hcm ?_, upd_nn W'.hac ?_, upd_nn W'.htd ?_, upd_nn W'.hsn ?_, ?_⟩
  all_goals (first | assumption | exact Ne.symm (by assumption) | skip)
  unfold Apart; dsimp only; and_intros <;> first | assumption | exact Ne.symm (by assumption)
theorem WAt.newRanges {σ' : MS} (W : WAt σ w S a) (g : Grow σ σ') {p : Addr} {xs : List Rg} (h : σ p = none) (hp : σ' p = some (.list (xs.map rgV))) : WAt (upd σ' w (.dict (wEs { S with ranges := xs } { a with r := p }))) w { S with ranges := xs } { a with r := p } := by
  have W' := W.grow g
  obtain ⟨_, _, _, _, _, _, _, _, _⟩ := W.apart h
  obtain ⟨⟨_, _, _, _, _, _, _, _⟩, ⟨_, _, _, _, _, _, _⟩, ⟨_, _, _, _, _, _⟩, ⟨_, _, _, _, _⟩, ⟨_, _, _, _⟩, ⟨_, _, _⟩, ⟨_, _⟩, _⟩ := W.nds
  refine ⟨upd_eq, upd_nn W'.ho ?_, upd_nn W'.hl ?_, upd_nn hp ?_, upd_nn W'.hk ?_, upd_nn W'.hcm ?_, upd_nn W'.hac ?_, upd_nn W'.htd ?_, upd_nn W'.hsn ?_, ?_⟩
  all_goals (first | assumption | exact Ne.symm (by assumption) | skip)
  unfold Apart; dsimp only; and_intros <;> first | assumption | exact Ne.symm (by assumption)
theorem WAt.newKept {σ' : MS} (W : WAt σ w S a) (g : Grow σ σ') {p : Addr} {xs : List Int} (h : σ p = none) (hp : σ' p = some (.list (xs.map MV.int))) : WAt (upd σ' w (.dict (wEs { S with kept := xs } { a with k := p }))) w { S with kept := xs } { a with k := p } := by
  have W' := W.grow g
  obtain ⟨_, _, _, _, _, _, _, _, _⟩ := W.apart h
  obtain ⟨⟨_, _, _, _, _, _, _, _⟩, ⟨_, _, _, _, _, _, _⟩, ⟨_, _, _, _, _, _⟩, ⟨_, _, _, _, _⟩, ⟨_, _, _, _⟩, ⟨_, _, _⟩, ⟨_, _⟩, _⟩ := W.nds
  refine ⟨upd_eq, upd_nn W'.ho ?_, upd_nn W'.hl ?_, upd_nn W'.hr ?_, upd_nn hp ?_, upd_nn W'.hcm ?_, upd_nn W'.hac ?_, upd_nn W'.htd ?_, upd_nn W'.hsn ?_, ?_⟩
  all_goals (first | assumption | exact Ne.symm (by assumption) | skip)
  unfold Apart; dsimp only; and_intros <;> first | assumption | exact Ne.symm (by assumption)
theorem WAt.newTold {σ' : MS} (W : WAt σ w S a) (g : Grow σ σ') {p : Addr} {xs : List Int} (h : σ p = none) (hp : σ' p = some (.list (xs.map MV.int))) : WAt (upd σ' w (.dict (wEs { S with told := xs } { a with td := p }))) w { S with told := xs } { a with td := p } := by
  have W' := W.grow g
  obtain ⟨_, _, _, _, _, _, _, _, _⟩ := W.apart h
  obtain ⟨⟨_, _, _, _, _, _, _, _⟩, ⟨_, _, _, _, _, _, _⟩, ⟨_, _, _, _, _, _⟩, ⟨_, _, _, _, _⟩, ⟨_, _, _, _⟩, ⟨_, _, _⟩, ⟨_, _⟩, _⟩ := W.nds
  refine ⟨upd_eq, upd_nn W'.ho ?_, upd_nn W'.hl ?_, upd_nn W'.hr ?_, upd_nn W'.hk ?_, upd_nn W'.hcm ?_, upd_nn W'.hac ?_, upd_nn hp ?_, upd_nn W'.hsn ?_, ?_⟩
  all_goals (first | assumption | exact Ne.symm (by assumption) | skip)
  unfold Apart; dsimp only; and_intros <;> first | assumption | exact Ne.symm (by assumption)
/-- a list of the world's is turned where it stands -/
theorem WAt.atOut (W : WAt σ w S a) (xs : List Int) : WAt (upd σ a.o (.list (xs.map MV.int))) w { S with out := xs } a := by
  obtain ⟨⟨_, _, _, _, _, _, _, _⟩, ⟨_, _, _, _, _, _, _⟩, ⟨_, _, _, _, _, _⟩, ⟨_, _, _, _, _⟩, ⟨_, _, _, _⟩, ⟨_, _, _⟩, ⟨_, _⟩, _⟩ := W.nds
  refine ⟨upd_nn W.hw ?_, upd_eq, upd_nn W.hl ?_, upd_nn W.hr ?_, upd_nn W.hk ?_, upd_nn W.hcm ?_, upd_nn W.hac ?_, upd_nn W.htd ?_, upd_nn W.hsn ?_, W.nd⟩
  all_goals first | assumption | exact Ne.symm (by assumption)
theorem WAt.atLate (W : WAt σ w S a) (xs : List (Int × Array UInt8)) : WAt (upd σ a.l (.list (xs.map ltV))) w { S with late := xs } a := by
  obtain ⟨⟨_, _, _, _, _, _, _, _⟩, ⟨_, _, _, _, _, _, _⟩, ⟨_, _, _, _, _, _⟩, ⟨_, _, _, _, _⟩, ⟨_, _, _, _⟩, ⟨_, _, _⟩, ⟨_, _⟩, _⟩ := W.nds
  refine ⟨upd_nn W.hw ?_, upd_nn W.ho ?_, upd_eq, upd_nn W.hr ?_, upd_nn W.hk ?_, upd_nn W.hcm ?_, upd_nn W.hac ?_, upd_nn W.htd ?_, upd_nn W.hsn ?_, W.nd⟩
  all_goals first | assumption | exact Ne.symm (by assumption)
theorem WAt.atKept (W : WAt σ w S a) (xs : List Int) : WAt (upd σ a.k (.list (xs.map MV.int))) w { S with kept := xs } a := by
  obtain ⟨⟨_, _, _, _, _, _, _, _⟩, ⟨_, _, _, _, _, _, _⟩, ⟨_, _, _, _, _, _⟩, ⟨_, _, _, _, _⟩, ⟨_, _, _, _⟩, ⟨_, _, _⟩, ⟨_, _⟩, _⟩ := W.nds
  refine ⟨upd_nn W.hw ?_, upd_nn W.ho ?_, upd_nn W.hl ?_, upd_nn W.hr ?_, upd_eq, upd_nn W.hcm ?_, upd_nn W.hac ?_, upd_nn W.htd ?_, upd_nn W.hsn ?_, W.nd⟩
  all_goals first | assumption | exact Ne.symm (by assumption)
theorem WAt.atCame (W : WAt σ w S a) (xs : List Int) : WAt (upd σ a.cm (.list (xs.map MV.int))) w { S with came := xs } a := by
  obtain ⟨⟨_, _, _, _, _, _, _, _⟩, ⟨_, _, _, _, _, _, _⟩, ⟨_, _, _, _, _, _⟩, ⟨_, _, _, _, _⟩, ⟨_, _, _, _⟩, ⟨_, _, _⟩, ⟨_, _⟩, _⟩ := W.nds
  refine ⟨upd_nn W.hw ?_, upd_nn W.ho ?_, upd_nn W.hl ?_, upd_nn W.hr ?_, upd_nn W.hk ?_, upd_eq, upd_nn W.hac ?_, upd_nn W.htd ?_, upd_nn W.hsn ?_, W.nd⟩
  all_goals first | assumption | exact Ne.symm (by assumption)
theorem WAt.atAcks (W : WAt σ w S a) (xs : List (Array UInt8)) : WAt (upd σ a.ac (.list (xs.map MV.bytes))) w { S with acks := xs } a := by
  obtain ⟨⟨_, _, _, _, _, _, _, _⟩, ⟨_, _, _, _, _, _, _⟩, ⟨_, _, _, _, _, _⟩, ⟨_, _, _, _, _⟩, ⟨_, _, _, _⟩, ⟨_, _, _⟩, ⟨_, _⟩, _⟩ := W.nds
  refine ⟨upd_nn W.hw ?_, upd_nn W.ho ?_, upd_nn W.hl ?_, upd_nn W.hr ?_, upd_nn W.hk ?_, upd_nn W.hcm ?_, upd_eq, upd_nn W.htd ?_, upd_nn W.hsn ?_, W.nd⟩
  all_goals first | assumption | exact Ne.symm (by assumption)
theorem WAt.atSent (W : WAt σ w S a) (xs : List Int) : WAt (upd σ a.sn (.list (xs.map MV.int))) w { S with sent := xs } a := by
  obtain ⟨⟨_, _, _, _, _, _, _, _⟩, ⟨_, _, _, _, _, _, _⟩, ⟨_, _, _, _, _, _⟩, ⟨_, _, _, _, _⟩, ⟨_, _, _, _⟩, ⟨_, _, _⟩, ⟨_, _⟩, _⟩ := W.nds
  refine ⟨upd_nn W.hw ?_, upd_nn W.ho ?_, upd_nn W.hl ?_, upd_nn W.hr ?_, upd_nn W.hk ?_, upd_nn W.hcm ?_, upd_nn W.hac ?_, upd_nn W.htd ?_, upd_eq, W.nd⟩
  all_goals first | assumption | exact Ne.symm (by assumption)
end
end
section
open PySem PySem.Calls PyProof.Rows PySem.W PySem.SeqAt
set_option linter.unusedVariables false
def allA (w : Addr) (a : Ad) : List Addr := [w, a.o, a.l, a.r, a.k, a.cm, a.ac, a.td, a.sn]
/-- the world, and the box of draws beside it -/
structure Hold (σ : MS) (w b ca : Addr) (S : St) (a : Ad) : Prop where
  W : WAt σ w S a
  B : ∃ i r, σ b = some (.list [.ref ca, .int i, .int r]) ∧ 0 ≤ i
  C : ∃ cells : List Int, σ ca = some (.list (cells.map MV.int)) ∧ cells.length ≤ 24
  sep : ∀ k ∈ allA w a, k ≠ b ∧ k ≠ ca
section
variable {σ σ' : MS} {w b ca : Addr} {S : St} {a : Ad}
theorem Hold.grow (X : Hold σ w b ca S a) (g : Grow σ σ') : Hold σ' w b ca S a :=
  ⟨X.W.grow g, let ⟨i, r, e, h⟩ := X.B; ⟨i, r, g _ _ e, h⟩, let ⟨cs, e, h⟩ := X.C; ⟨cs, g _ _ e, h⟩, X.sep⟩
theorem Hold.put (X : Hold σ w b ca S a) (g : Grow σ σ') {k : Addr} {mo : MO} {S' : St} {a' : Ad} (W' : WAt (upd σ' k mo) w S' a') (hk : k ∈ allA w a) (ha : ∀ j ∈ allA w a', j ∈ allA w a ∨ σ j = none) : Hold (upd σ' k mo) w b ca S' a' := by
  obtain ⟨s1, s2⟩ := X.sep k hk
  obtain ⟨i, r, e1, h1⟩ := X.B
  obtain ⟨cs, e2, h2⟩ := X.C
  refine ⟨W', ⟨i, r, upd_nn (g _ _ e1) s1.symm, h1⟩, ⟨cs, upd_nn (g _ _ e2) s2.symm, h2⟩, fun j hj => ?_⟩
  rcases ha j hj with h | h
  · exact X.sep j h
  · exact ⟨fun z => (by rw [z, e1] at h; cases h), fun z => (by rw [z, e2] at h; cases h)⟩
theorem Hold.setNext (X : Hold σ w b ca S a) (x : Int) : Hold (upd σ w (.dict (wEs { S with next := x } a))) w b ca { S with next := x } a := X.put (.refl σ) (X.W.setNext x) (by simp [allA]) fun j h => .inl h
theorem Hold.setSeen (X : Hold σ w b ca S a) (x : Option Int) : Hold (upd σ w (.dict (wEs { S with seen := x } a))) w b ca { S with seen := x } a := X.put (.refl σ) (X.W.setSeen x) (by simp [allA]) fun j h => .inl h
theorem Hold.setAcked (X : Hold σ w b ca S a) (x : Option Int) : Hold (upd σ w (.dict (wEs { S with acked := x } a))) w b ca { S with acked := x } a := X.put (.refl σ) (X.W.setAcked x) (by simp [allA]) fun j h => .inl h
theorem Hold.atOut (X : Hold σ w b ca S a) (xs : List Int) : Hold (upd σ a.o (.list (xs.map MV.int))) w b ca { S with out := xs } a := X.put (.refl σ) (X.W.atOut xs) (by simp [allA]) fun j h => .inl h
theorem Hold.atLate (X : Hold σ w b ca S a) (xs : List (Int × Array UInt8)) : Hold (upd σ a.l (.list (xs.map ltV))) w b ca { S with late := xs } a := X.put (.refl σ) (X.W.atLate xs) (by simp [allA]) fun j h => .inl h
theorem Hold.atKept (X : Hold σ w b ca S a) (xs : List Int) : Hold (upd σ a.k (.list (xs.map MV.int))) w b ca { S with kept := xs } a := X.put (.refl σ) (X.W.atKept xs) (by simp [allA]) fun j h => .inl h
theorem Hold.atCame (X : Hold σ w b ca S a) (xs : List Int) : Hold (upd σ a.cm (.list (xs.map MV.int))) w b ca { S with came := xs } a := X.put (.refl σ) (X.W.atCame xs) (by simp [allA]) fun j h => .inl h
theorem Hold.atAcks (X : Hold σ w b ca S a) (xs : List (Array UInt8)) : Hold (upd σ a.ac (.list (xs.map MV.bytes))) w b ca { S with acks := xs } a := X.put (.refl σ) (X.W.atAcks xs) (by simp [allA]) fun j h => .inl h
theorem Hold.atSent (X : Hold σ w b ca S a) (xs : List Int) : Hold (upd σ a.sn (.list (xs.map MV.int))) w b ca { S with sent := xs } a := X.put (.refl σ) (X.W.atSent xs) (by simp [allA]) fun j h => .inl h
theorem allA_o {j p : Addr} (h0 : σ p = none) (h : j ∈ allA w { a with o := p }) : j ∈ allA w a ∨ σ j = none := by
  simp only [allA, List.mem_cons, List.not_mem_nil, or_false] at h ⊢
  rcases h with rfl | rfl | rfl | rfl | rfl | rfl | rfl | rfl | rfl <;> simp [h0]
theorem allA_l {j p : Addr} (h0 : σ p = none) (h : j ∈ allA w { a with l := p }) : j ∈ allA w a ∨ σ j = none := by
  simp only [allA, List.mem_cons, List.not_mem_nil, or_false] at h ⊢
  rcases h with rfl | rfl | rfl | rfl | rfl | rfl | rfl | rfl | rfl <;> simp [h0]
theorem allA_r {j p : Addr} (h0 : σ p = none) (h : j ∈ allA w { a with r := p }) : j ∈ allA w a ∨ σ j = none := by
  simp only [allA, List.mem_cons, List.not_mem_nil, or_false] at h ⊢
  rcases h with rfl | rfl | rfl | rfl | rfl | rfl | rfl | rfl | rfl <;> simp [h0]
theorem allA_k {j p : Addr} (h0 : σ p = none) (h : j ∈ allA w { a with k := p }) : j ∈ allA w a ∨ σ j = none := by
  simp only [allA, List.mem_cons, List.not_mem_nil, or_false] at h ⊢
  rcases h with rfl | rfl | rfl | rfl | rfl | rfl | rfl | rfl | rfl <;> simp [h0]
theorem allA_td {j p : Addr} (h0 : σ p = none) (h : j ∈ allA w { a with td := p }) : j ∈ allA w a ∨ σ j = none := by
  simp only [allA, List.mem_cons, List.not_mem_nil, or_false] at h ⊢
  rcases h with rfl | rfl | rfl | rfl | rfl | rfl | rfl | rfl | rfl <;> simp [h0]
theorem Hold.newOut (X : Hold σ w b ca S a) (g : Grow σ σ') {p : Addr} {xs : List Int} (h : σ p = none) (hp : σ' p = some (.list (xs.map MV.int))) : Hold (upd σ' w (.dict (wEs { S with out := xs } { a with o := p }))) w b ca { S with out := xs } { a with o := p } := X.put g (X.W.newOut g h hp) (by simp [allA]) fun j hj => allA_o h hj
theorem Hold.newLate (X : Hold σ w b ca S a) (g : Grow σ σ') {p : Addr} {xs : List (Int × Array UInt8)} (h : σ p = none) (hp : σ' p = some (.list (xs.map ltV))) : Hold (upd σ' w (.dict (wEs { S with late := xs } { a with l := p }))) w b ca { S with late := xs } { a with l := p } := X.put g (X.W.newLate g h hp) (by simp [allA]) fun j hj => allA_l h hj
theorem Hold.newRanges (X : Hold σ w b ca S a) (g : Grow σ σ') {p : Addr} {xs : List Rg} (h : σ p = none) (hp : σ' p = some (.list (xs.map rgV))) : Hold (upd σ' w (.dict (wEs { S with ranges := xs } { a with r := p }))) w b ca { S with ranges := xs } { a with r := p } := X.put g (X.W.newRanges g h hp) (by simp [allA]) fun j hj => allA_r h hj
theorem Hold.newKept (X : Hold σ w b ca S a) (g : Grow σ σ') {p : Addr} {xs : List Int} (h : σ p = none) (hp : σ' p = some (.list (xs.map MV.int))) : Hold (upd σ' w (.dict (wEs { S with kept := xs } { a with k := p }))) w b ca { S with kept := xs } { a with k := p } := X.put g (X.W.newKept g h hp) (by simp [allA]) fun j hj => allA_k h hj
theorem Hold.newTold (X : Hold σ w b ca S a) (g : Grow σ σ') {p : Addr} {xs : List Int} (h : σ p = none) (hp : σ' p = some (.list (xs.map MV.int))) : Hold (upd σ' w (.dict (wEs { S with told := xs } { a with td := p }))) w b ca { S with told := xs } { a with td := p } := X.put g (X.W.newTold g h hp) (by simp [allA]) fun j hj => allA_td h hj
/-- the box turned -/
theorem Hold.box (X : Hold σ w b ca S a) {i r : Int} (hi : 0 ≤ i) : Hold (upd σ b (.list [.ref ca, .int i, .int r])) w b ca S a := by
  have s : ∀ k ∈ allA w a, k ≠ b := fun k hk => (X.sep k hk).1
  have W := X.W
  obtain ⟨i0, r0, e1, h1⟩ := X.B
  obtain ⟨cs, e2, h2⟩ := X.C
  have cb : ca ≠ b := fun z => by
    rw [z, e1] at e2
    cases cs with
    | nil => simp at e2
    | cons => simp at e2
  refine ⟨⟨upd_nn W.hw (s _ (by simp [allA])), upd_nn W.ho (s _ (by simp [allA])), upd_nn W.hl (s _ (by simp [allA])), upd_nn W.hr (s _ (by simp [allA])), upd_nn W.hk (s _ (by simp [allA])), upd_nn W.hcm (s _ (by simp [allA])), upd_nn W.hac (s _ (by simp [allA])), upd_nn W.htd (s _ (by simp [allA])), upd_nn W.hsn (s _ (by simp [allA])), W.nd⟩, ⟨i, r, upd_eq, hi⟩, ⟨cs, upd_nn e2 cb, h2⟩, X.sep⟩
end
end
theorem w_has_number (P : PC c fI fL fV) {k : Addr} {rs : List Rg} {m : Int} {Q : MV → MS → Prop} (hk : LAt σ k (rs.map rgV)) (hz : rs.length ≤ 1000) (h : ∀ σ', Grow σ σ' → Q (.bool (hasN rs m)) σ') : WC c (n + 1) "has_number" [.ref k, .int m] σ Q := by
  have F := P.fn 28 (by decide)
  refine WC_def (ns := ["ranges", "n"]) P.G F (fun _ _ _ => len2 fun _ _ => rfl) (by decide +kernel) (by decide +kernel) rfl ?_ rfl rfl rfl
  apply WS_cons; apply S_return
  repeat k_subL

  refine WE_comp (fn := ["n"]) (by decide +kernel) (fun _ _ => rfl) ?_
  repeat k_subL
  refine WCo_1 ["n"] [.int m] (rs.map rgV) (fun i ac σ' => σ' = σ ∧ ac = (rs.take i).map fun q => MV.bool (decide (q.1 ≤ m) && decide (m ≤ q.2))) (by decide +kernel) (.cons (by k_places) .nil) ⟨rfl, rfl⟩ ?_ ?_ ?_
  · rintro i ac σ' ⟨rfl, rfl⟩
    exact ⟨hk, by simp; omega⟩
  · rintro i y ac σ' hy ⟨rfl, rfl⟩
    rw [List.getElem?_map] at hy
    obtain ⟨q, e1, rfl⟩ := Option.map_eq_some_iff.mp hy
    repeat k_subL
    rw [List.take_add_one, e1]
    refine ⟨fun z1 => ?_, fun z1 => ?_⟩
    · repeat k_subL
      exact ⟨rfl, by simp [z1]⟩
    · exact ⟨rfl, by simp [z1]⟩
  · rintro ac σ' ⟨rfl, rfl⟩
    intro q hq
    repeat k_subL
    rw [List.length_map, List.take_length]
    refine b_any (bs := rs.map fun q => decide (q.1 ≤ m) && decide (m ≤ q.2)) (.inl (by rw [upd_eq, List.map_map]; rfl)) ?_
    repeat k_subL
    exact h _ (.new hq)
theorem w_count_of (P : PC c fI fL fV) {k : Addr} {rs : List Rg} {Q : MV → MS → Prop} (hk : LAt σ k (rs.map rgV)) (hz : rs.length ≤ 1000) (h : ∀ σ', Grow σ σ' → Q (.int (cnt rs)) σ') : WC c (n + 1) "count_of" [.ref k] σ Q := by
  have F := P.fn 30 (by decide)
  refine WC_def (ns := ["ranges"]) P.G F (fun _ _ _ => len1 fun _ => rfl) (by decide +kernel) (by decide +kernel) rfl ?_ rfl rfl rfl
  apply WS_cons; apply S_return
  repeat k_subL
  refine WE_comp (fn := []) (by decide +kernel) (fun _ _ => rfl) ?_
  repeat k_subL
  refine WCo_1 [] [] (rs.map rgV) (fun i ac σ' => σ' = σ ∧ ac = (rs.take i).map fun q => MV.int (q.2 - q.1 + 1)) (by decide +kernel) .nil ⟨rfl, rfl⟩ ?_ ?_ ?_
  · rintro i ac σ' ⟨rfl, rfl⟩
    exact ⟨hk, by simp; omega⟩
  · rintro i y ac σ' hy ⟨rfl, rfl⟩
    rw [List.getElem?_map] at hy
    obtain ⟨q, e1, rfl⟩ := Option.map_eq_some_iff.mp hy
    repeat k_subL
    rw [List.take_add_one, e1]
    exact ⟨rfl, by simp⟩
  · rintro ac σ' ⟨rfl, rfl⟩
    intro q hq
    repeat k_subL
    rw [List.length_map, List.take_length]
    refine b_sum (ns := rs.map fun q => q.2 - q.1 + 1) (.inl (by rw [upd_eq, List.map_map]; rfl)) ?_
    repeat k_subL
    exact h _ (.new hq)
theorem w_largest_of (P : PC c fI fL fV) {k : Addr} {q : Rg} {rs : List Rg} {Q : MV → MS → Prop} (hk : LAt σ k ((q :: rs).map rgV)) (hz : (q :: rs).length ≤ 1000) (h : Q (.int q.2) σ) : WC c (n + 1) "largest_of" [.ref k] σ Q := by
  have F := P.fn 29 (by decide)
  refine WC_def (ns := ["ranges"]) P.G F (fun _ _ _ => len1 fun _ => rfl) (by decide +kernel) (by decide +kernel) rfl ?_ rfl rfl rfl
  apply WS_cons; apply S_return
  repeat k_subL
  refine b_lenL hk (by rw [List.length_map]; omega) ?_
  repeat k_subL
  refine ⟨fun _ => ?_, fun z => by simp at z⟩
  repeat k_subL
  refine g_list hk (by decide) (by decide) (y := rgV q) rfl ?_
  repeat k_subL
  exact h
theorem w_prune (P : PC c fI fL fV) {k : Addr} {rs : List Rg} {low : Int} {Q : MV → MS → Prop} (hk : LAt σ k (rs.map rgV)) (hz : rs.length ≤ 1000) (h : NewL σ ((prn low rs).map rgV) Q) : WC c (n + 1) "prune" [.ref k, .int low] σ Q := by
  have F := P.fn 32 (by decide)
  refine WC_def (ns := ["ranges", "low"]) P.G F (fun _ _ _ => len2 fun _ _ => rfl) (by decide +kernel) (by decide +kernel) rfl ?_ rfl rfl rfl
  apply WS_cons; apply S_return
  have len : ∀ xs : List Rg, (prn low xs).length ≤ xs.length := by
    intro xs
    induction xs with
    | nil => exact Nat.le_refl _
    | cons q r ih => unfold prn; split <;> simp <;> omega
  refine WE_comp (fn := ["low"]) (by decide +kernel) (fun _ _ => rfl) ?_
  repeat k_subL
  refine WCo_1 ["low"] [.int low] (rs.map rgV) (fun i ac σ' => σ' = σ ∧ ac = (prn low (rs.take i)).map rgV) (by decide +kernel) (.cons (by k_places) .nil) ⟨rfl, rfl⟩ ?_ ?_ ?_
  · rintro i ac σ' ⟨rfl, rfl⟩
    have := len (rs.take i)
    exact ⟨hk, by simp at this ⊢; omega⟩
  · rintro i y ac σ' hy ⟨rfl, rfl⟩
    rw [List.getElem?_map] at hy
    obtain ⟨q, e1, rfl⟩ := Option.map_eq_some_iff.mp hy
    repeat k_subL
    rw [List.take_add_one, e1, prn_append]
    refine ⟨fun z1 => ?_, fun z1 => ?_⟩
    · have z1 : q.2 ≥ low := of_decide_eq_true z1
      repeat k_subL
      refine ⟨rfl, ?_⟩
      show _ = List.map rgV (prn low (rs.take i) ++ prn low [q])
      rw [prn_pos z1, List.map_append]; rfl
    · have z1 : ¬ q.2 ≥ low := of_decide_eq_false z1
      refine ⟨rfl, ?_⟩
      show _ = List.map rgV (prn low (rs.take i) ++ prn low [q])
      rw [prn_neg z1]; show _ = List.map rgV (prn low (rs.take i) ++ []); rw [List.append_nil]
  · rintro ac σ' ⟨rfl, rfl⟩
    intro q hq
    repeat k_subL
    rw [List.length_map, List.take_length]
    exact h _ _ (.new hq) hq upd_eq
theorem w_newly_acked (P : PC c fI fL fV) {k j : Addr} {ns : List Int} {rs : List Rg} {Q : MV → MS → Prop} (hj : LAt σ j (ns.map MV.int)) (hk : LAt σ k (rs.map rgV)) (hz : rs.length ≤ 1000) (hn : ns.length < 64) (hs : ns.Pairwise (· < ·)) (h : NewL σ ((ns.filter (hasN rs)).map MV.int) Q) : WC c (n + 2) "newly_acked" [.ref j, .ref k] σ Q := by
  have F := P.fn 31 (by decide)
  refine WC_def (ns := ["sent_numbers", "ranges"]) P.G F (fun _ _ _ => len2 fun _ _ => rfl) (by decide +kernel) (by decide +kernel) rfl ?_ rfl rfl rfl
  apply WS_cons; apply S_return
  repeat k_subL
  refine WE_comp (fn := ["ranges"]) (by decide +kernel) (fun _ _ => rfl) ?_
  repeat k_subL
  refine WCo_1 ["ranges"] [.ref k] (ns.map MV.int) (fun i ac σ' => Grow σ σ' ∧ ac = ((ns.take i).filter (hasN rs)).map MV.int) (by decide +kernel) (.cons (by k_places) .nil) ⟨.refl σ, rfl⟩ ?_ ?_ ?_
  · rintro i ac σ' ⟨g, rfl⟩
    have := List.length_filter_le (hasN rs) (ns.take i)
    exact ⟨g.lat hj, by simp at this ⊢; omega⟩
  · rintro i y ac σ' hy ⟨g, rfl⟩
    rw [List.getElem?_map] at hy
    obtain ⟨m, e1, rfl⟩ := Option.map_eq_some_iff.mp hy
    repeat k_subL
    refine WE_call P.G (by decide +kernel) (P.fn 28 (by decide)) (fun _ => rfl) ?_
    repeat k_subL
    refine w_has_number P (g.lat hk) hz fun σ2 g2 => ?_
    repeat k_subL
    rw [List.take_add_one, e1]
    refine ⟨fun z1 => ?_, fun z1 => ?_⟩
    · repeat k_subL
      exact ⟨g.trans g2, by simp [List.filter_append, z1]⟩
    · exact ⟨g.trans g2, by simp [List.filter_append, z1]⟩
  · rintro ac σ' ⟨g, rfl⟩
    intro q hq
    repeat k_subL
    rw [List.length_map, List.take_length]
    refine b_sorted (ns := ns.filter (hasN rs)) (.inl upd_eq) (Nat.lt_of_le_of_lt (List.length_filter_le _ _) hn) fun ns' q' hp hsd hq' => ?_
    rw [sorted_filter hs hp hsd]
    repeat k_subL
    have q1 : σ' q' = none := by
      by_cases e : q' = q
      · subst e; exact hq
      · rwa [upd_ne e] at hq'
    have q0 : σ q' = none := by
      cases e : σ q' with
      | none => rfl
      | some mo => rw [g _ _ e] at q1; cases q1
    exact h _ _ ((g.trans (.new hq)).trans (.new hq')) q0 upd_eq
/-- add_number between two turns -/
structure AddSt (m : Int) (rs rest : List Rg) (lo hi : Int) (fd : List Rg) (inn : Bool) : Prop where
  len : fd.length + rest.length ≤ rs.length + 1 - (if inn then 0 else 1)
  on : inn = true → ins m m rs = fd ++ rest ∧ ∀ p ∈ rest, p.2 < lo - 1 ∧ p.1 ≤ hi + 1
  off : inn = false → ins m m rs = fd ++ ins lo hi rest ∧ lo ≤ hi
  nm : Nm rest
theorem AddSt.above {m : Int} {rs r : List Rg} {q : Rg} {lo hi : Int} {fd : List Rg} {inn : Bool} (S : AddSt m rs (q :: r) lo hi fd inn) (h : q.1 > hi + 1) : AddSt m rs r lo hi (fd ++ [q]) inn := by
  have := S.len
  refine ⟨by simp at this ⊢; omega, fun e => ?_, fun e => ?_, S.nm.tail⟩
  · have := ((S.on e).2 q (.head _)).2; omega
  · obtain ⟨a, b⟩ := S.off e
    refine ⟨?_, b⟩
    rw [a, ins, if_pos h]; simp
theorem AddSt.stay {m : Int} {rs r : List Rg} {q : Rg} {lo hi : Int} {fd : List Rg} (S : AddSt m rs (q :: r) lo hi fd true) : AddSt m rs r lo hi (fd ++ [q]) true := by
  have := S.len
  refine ⟨by simp at this ⊢; omega, fun e => ?_, (fun e => nomatch e), S.nm.tail⟩
  obtain ⟨a, b⟩ := S.on e
  exact ⟨by rw [a]; simp, fun p hp => b p (.tail _ hp)⟩
theorem AddSt.below {m : Int} {rs r : List Rg} {q : Rg} {lo hi : Int} {fd : List Rg} (S : AddSt m rs (q :: r) lo hi fd false) (h1 : ¬ q.1 > hi + 1) (h2 : q.2 < lo - 1) : AddSt m rs r lo hi (fd ++ [(lo, hi)] ++ [q]) true := by
  have := S.len
  refine ⟨by simp at this ⊢; omega, fun e => ?_, (fun e => nomatch e), S.nm.tail⟩
  obtain ⟨a, b⟩ := S.off rfl
  refine ⟨by rw [a, ins, if_neg h1, if_pos h2]; simp, fun p hp => ?_⟩
  obtain ⟨_, g2, g3, g4⟩ := S.nm
  have := g3 p hp
  have := (Nm.memOk g4 hp).2
  omega
theorem AddSt.merge {m : Int} {rs r : List Rg} {q : Rg} {lo hi : Int} {fd : List Rg} {inn : Bool} (S : AddSt m rs (q :: r) lo hi fd inn) (h1 : ¬ q.1 > hi + 1) (h2 : ¬ q.2 < lo - 1) : AddSt m rs r (min lo q.1) (max hi q.2) fd inn := by
  have := S.len
  refine ⟨by simp at this ⊢; omega, fun e => ?_, fun e => ?_, S.nm.tail⟩
  · have := ((S.on e).2 q (.head _)).1; omega
  · obtain ⟨a, b⟩ := S.off e
    refine ⟨?_, by omega⟩
    rw [a, ins, if_neg h1, if_neg h2]
theorem Grow.turn {σ σ' : MS} {k : Addr} {mo : MO} (g : Grow σ σ') (h : σ k = none) : Grow σ (upd σ' k mo) := g.more h
theorem drop_at {α : Type} {rs : List α} {i : Nat} {q : α} (h : rs[i]? = some q) : rs.drop i = q :: rs.drop (i + 1) := by
  obtain ⟨hi, e⟩ := List.getElem?_eq_some_iff.mp h
  rw [List.drop_eq_getElem_cons hi, e]
theorem w_add_number (P : PC c fI fL fV) {k : Addr} {rs : List Rg} {m : Int} {Q : MV → MS → Prop} (hk : LAt σ k (rs.map rgV)) (hz : rs.length ≤ 1000) (hN : Nm rs) (h : NewL σ ((ins m m rs).map rgV) Q) : WC c (n + 1) "add_number" [.ref k, .int m] σ Q := by
  have F := P.fn 27 (by decide)
  refine WC_def (ns := ["ranges", "n"]) P.G F (fun _ _ _ => len2 fun _ _ => rfl) (by decide +kernel) (by decide +kernel) rfl ?_ rfl rfl rfl
  apply WS_cons
  apply S_assign
  · intro _ _; rfl
  · intro _ _; rfl
  · intro _; rfl
  repeat k_subL
  refine ⟨by simp, fun fa hfa => ?_⟩
  repeat k_subL
  refine WS_cons (S_for (fun _ _ => rfl) ?_)
  repeat k_subL
  refine ⟨rs.map rgV, fun i ρ' σ' => ∃ lo hi fd inn, lk ρ' "low" = some (.int lo) ∧ lk ρ' "high" = some (.int hi) ∧ lk ρ' "found" = some (.ref fa) ∧ lk ρ' "is_in" = some (.bool inn) ∧ σ' fa = some (.list (fd.map rgV)) ∧ Grow σ σ' ∧ AddSt m rs (rs.drop i) lo hi fd inn,
    ⟨m, m, [], false, by k_places, by k_places, by k_places, by k_places, upd_eq, .new hfa, ⟨by simp, (fun e => nomatch e), fun _ => ⟨rfl, Int.le_refl _⟩, hN⟩⟩, ?_, ?_, ?_⟩
  · rintro i ρ' σ' ⟨lo, hi, fd, inn, _, _, _, _, _, g, _⟩
    exact g.lat hk
  · rintro i y ρ' σ' hy ⟨lo, hi, fd, inn, hlo, hhi, hfd, hin, hσ, g, S⟩
    rw [List.getElem?_map] at hy
    obtain ⟨q, e1, rfl⟩ := Option.map_eq_some_iff.mp hy
    rw [drop_at e1] at S
    have hfl : (fd.map rgV).length ≤ 100000 := by have := S.len; simp at this ⊢; omega
    repeat k_subL
    refine ⟨fun z1 => ?_, fun z1 => ?_⟩
    · have z1 : q.1 > hi + 1 := of_decide_eq_true z1
      repeat k_subL
      refine WE_append (fun _ => rfl) (fun _ => rfl) rfl ?_
      repeat k_subL
      refine ⟨fa, rfl, ⟨_, hσ⟩, ?_⟩
      repeat k_subL
      refine ⟨_, hσ, hfl, rfl, ?_⟩
      repeat k_subL
      exact ⟨lo, hi, _, inn, by k_places, by k_places, by k_places, by k_places, by rw [upd_eq]; simp, g.turn hfa, S.above z1⟩
    · have z1 : ¬ q.1 > hi + 1 := of_decide_eq_false z1
      repeat k_subL
      refine ⟨fun z2 => ?_, fun z2 => ?_⟩
      · have z2 : q.2 < lo - 1 := of_decide_eq_true z2
        cases inn with
        | true =>
          repeat k_subL
          refine WE_append (fun _ => rfl) (fun _ => rfl) rfl ?_
          repeat k_subL
          refine ⟨fa, rfl, ⟨_, hσ⟩, ?_⟩
          repeat k_subL
          refine ⟨_, hσ, hfl, rfl, ?_⟩
          repeat k_subL
          exact ⟨lo, hi, _, true, by k_places, by k_places, by k_places, by k_places, by rw [upd_eq]; simp, g.turn hfa, S.stay⟩
        | false =>
          repeat k_subL
          refine WE_append (fun _ => rfl) (fun _ => rfl) rfl ?_
          repeat k_subL
          refine ⟨fa, rfl, ⟨_, hσ⟩, ?_⟩
          repeat k_subL
          refine ⟨_, hσ, hfl, rfl, ?_⟩
          repeat k_subL
          refine WE_append (fun _ => rfl) (fun _ => rfl) rfl ?_
          repeat k_subL
          refine ⟨fa, rfl, ⟨_, upd_eq⟩, ?_⟩
          repeat k_subL
          have hz2 : ((fd ++ [(lo, hi)]).map rgV).length ≤ 100000 := by have := S.len; simp at this ⊢; omega
          refine ⟨_, upd_eq, by rw [List.map_append] at hz2; exact hz2, rfl, ?_⟩
          repeat k_subL
          exact ⟨lo, hi, _, true, by k_places, by k_places, by k_places, by k_places, by rw [upd_eq, List.map_append, List.map_append]; rfl, (g.turn hfa).turn hfa, S.below z1 z2⟩
      · have z2 : ¬ q.2 < lo - 1 := of_decide_eq_false z2
        refine WS_cons (S_swap2 (x := "low") (y := "high") (fun _ _ => rfl) (fun env he => by cases env; cases he; rfl) (by decide +kernel) (by decide +kernel) ?_)
        repeat k_subL
        refine ⟨_, _, _, _, rfl, rfl, rfl, ?_⟩
        repeat k_subL
        exact ⟨_, _, fd, inn, by k_places, by k_places, by k_places, by k_places, hσ, g, S.merge z1 z2⟩
  · rintro ρ' σ' ⟨lo, hi, fd, inn, hlo, hhi, hfd, hin, hσ, g, S⟩
    rw [List.length_map, List.drop_length] at S
    repeat k_subL
    cases inn with
    | true =>
      repeat k_subL
      refine h σ' fa g hfa ?_
      rw [hσ, (S.on rfl).1, List.append_nil]
    | false =>
      repeat k_subL
      refine ⟨by simp, fun j hj => ?_⟩
      repeat k_subL
      have hj0 : σ j = none := by
        cases e : σ j with
        | none => rfl
        | some mo => rw [g _ _ e] at hj; cases hj
      have fj : fa ≠ j := fun e => by rw [e, hj] at hσ; cases hσ
      refine o_addL (xs := fd.map rgV) (ys := [rgV (lo, hi)]) (by rw [upd_ne fj]; exact hσ) upd_eq (by have := S.len; simp at this ⊢; omega) fun p hp => ?_
      repeat k_subL
      have hp0 : σ p = none := by
        cases e : σ p with
        | none => rfl
        | some mo => rw [(g.turn hj0) _ _ e] at hp; cases hp
      refine h _ p ((g.turn hj0).turn hp0) hp0 ?_
      rw [upd_eq, (S.off rfl).1]
      simp [ins]
theorem Grow.none {σ σ' : MS} {k : Addr} (g : Grow σ σ') (h : σ' k = .none) : σ k = .none := by
  cases e : σ k with
  | none => rfl
  | some mo => rw [g _ _ e] at h; cases h
theorem pickFrom1 {h : Heap} {items : Array Value} {xs : List MV} (f : F2 (VRel h) items.toList xs) : F2 (VRel h) (slicePick items (some 1) Option.none Option.none).toList (xs.drop 1) := pick_from f 1
theorem w_gaps_of (P : PC c fI fL fV) {k : Addr} {q : Rg} {r : List Rg} {Q : MV → MS → Prop} (hk : LAt σ k ((q :: r).map rgV)) (hz : r.length ≤ 1000)
    (h : ∀ σ' fa, Grow σ σ' → σ fa = none → σ' fa = some (.list ((gps q.1 r).map rgV)) → Q (.tup [.int q.2, .int (q.2 - q.1), .ref fa]) σ') : WC c (n + 1) "gaps_of" [.ref k] σ Q := by
  have F := P.fn 20 (by decide)
  refine WC_def (ns := ["ranges"]) P.G F (fun _ _ _ => len1 fun _ => rfl) (by decide +kernel) (by decide +kernel) rfl ?_ rfl rfl rfl
  apply WS_cons
  apply S_assign
  · intro _ _; rfl
  · intro _ _; rfl
  · intro _; rfl
  repeat k_subL
  refine g_list hk (by decide) (by decide) (y := rgV q) rfl ?_
  repeat k_subL
  refine WS_cons (S_swap2 (x := "found") (y := "before") (fun _ _ => rfl) (fun env he => by cases env; cases he; rfl) (by decide +kernel) (by decide +kernel) ?_)
  repeat k_subL
  refine ⟨by simp, fun fa hfa => ?_⟩
  repeat k_subL
  refine ⟨_, _, _, _, rfl, rfl, rfl, ?_⟩
  repeat k_subL
  refine WS_cons (S_for (fun _ _ => rfl) ?_)
  refine WE_sliceL (fun _ _ => ⟨_, rfl⟩) ?_
  repeat k_subL
  refine ⟨k, _, _, rfl, (Grow.new hfa).lat hk, by simp; omega, by simp, fun h' items f => pickFrom1 f, fun sl hsl => ?_⟩
  have hfs : fa ≠ sl := fun e => by rw [e, upd_eq] at hsl; cases hsl
  have hs0 : σ sl = none := (Grow.new hfa).none hsl
  refine ⟨r.map rgV, fun i ρ' σ' => ∃ b fd, lk ρ' "before" = some (.int b) ∧ lk ρ' "found" = some (.ref fa) ∧ lk ρ' "high" = some (.int q.2) ∧ lk ρ' "low" = some (.int q.1) ∧ σ' fa = some (.list (fd.map rgV)) ∧ σ' sl = some (.list (r.map rgV)) ∧ Grow σ σ' ∧ gps q.1 r = fd ++ gps b (r.drop i),
    ⟨q.1, [], by k_places, by k_places, by k_places, by k_places, by rw [upd_ne hfs, upd_eq]; rfl, by rw [upd_eq]; rfl, (Grow.new hfa).turn hs0, rfl⟩, ?_, ?_, ?_⟩
  · rintro i ρ' σ' ⟨b, fd, _, _, _, _, _, hs, g, _⟩
    exact .inl hs
  · rintro i y ρ' σ' hy ⟨b, fd, hb, hf, hhi, hlo, hσ, hs, g, S⟩
    rw [List.getElem?_map] at hy
    obtain ⟨p, e1, rfl⟩ := Option.map_eq_some_iff.mp hy
    rw [drop_at e1] at S
    have hfl : fd.length ≤ r.length := by have := congrArg List.length S; rw [gps_length, List.length_append] at this; omega
    repeat k_subL
    refine WE_append (fun _ => rfl) (fun _ => rfl) rfl ?_
    repeat k_subL
    refine ⟨fa, rfl, ⟨_, hσ⟩, ?_⟩
    repeat k_subL
    refine ⟨_, hσ, by simp; omega, rfl, ?_⟩
    repeat k_subL
    exact ⟨p.1, fd ++ [(b - p.2 - 2, p.2 - p.1)], by k_places, by k_places, by k_places, by k_places, by rw [upd_eq, List.map_append]; rfl, by rw [upd_ne hfs.symm]; exact hs, g.turn hfa, by rw [S, gps]; simp⟩
  · rintro ρ' σ' ⟨b, fd, hb, hf, hhi, hlo, hσ, hs, g, S⟩
    rw [List.length_map, List.drop_length, gps, List.append_nil] at S
    repeat k_subL
    exact h σ' fa g hfa (by rw [S]; exact hσ)
theorem w_ranges_of (P : PC c fI fL fV) {k : Addr} {q : Rg} {r : List Rg} {Q : MV → MS → Prop} (hk : LAt σ k ((gps q.1 r).map rgV)) (hz : r.length ≤ 1000) (hN : Nm (q :: r)) (h : NewL σ ((q :: r).map rgV) Q) : WC c (n + 1) "ranges_of" [.int q.2, .int (q.2 - q.1), .ref k] σ Q := by
  have F := P.fn 21 (by decide)
  refine WC_def (ns := ["largest", "first", "pairs"]) P.G F (fun _ _ _ => len3 fun _ _ _ => rfl) (by decide +kernel) (by decide +kernel) rfl ?_ rfl rfl rfl
  obtain ⟨n1, n2, n3, n4⟩ := id hN
  apply WS_cons; apply S_if
  repeat k_subL
  refine ⟨fun z => ?_, fun _ => ?_⟩
  · simp at z; omega
  repeat k_subL
  refine ⟨by simp, fun fa hfa => ?_⟩
  repeat k_subL
  refine WS_cons (S_for (fun _ _ => rfl) ?_)
  repeat k_subL
  refine ⟨(gps q.1 r).map rgV, fun i ρ' σ' => ∃ xs y, lk ρ' "found" = some (.ref fa) ∧ σ' fa = some (.list (xs.map rgV ++ [rgV y])) ∧ Grow σ σ' ∧ q :: r.take i = xs ++ [y] ∧ (gps q.1 r).drop i = gps y.1 (r.drop i),
    ⟨[], q, by k_places, by rw [upd_eq]; simp; omega, .new hfa, by simp, rfl⟩, ?_, ?_, ?_⟩
  · rintro i ρ' σ' ⟨xs, y, _, _, g, _⟩
    exact g.lat hk
  · rintro i y ρ' σ' hy ⟨xs, p, hf, hσ, g, e2, e3⟩
    rw [List.getElem?_map] at hy
    obtain ⟨d, e1, rfl⟩ := Option.map_eq_some_iff.mp hy
    rw [drop_at e1] at e3
    have hi : i < r.length := by have := (List.getElem?_eq_some_iff.mp e1).1; rwa [gps_length] at this
    have e4 : r[i]? = some r[i] := by simp [hi]
    generalize r[i] = t at e4
    rw [drop_at e4, gps] at e3
    obtain ⟨rfl, e5⟩ := List.cons.inj e3
    have hx : xs.length ≤ r.length := by have := congrArg List.length e2; simp at this; omega
    have ht := Nm.memOk n4 (List.mem_of_getElem? e4)
    repeat k_subL
    refine g_listLast (.inl hσ) (by simp; omega) ?_
    repeat k_subL
    have a1 : p.1 - (p.1 - t.2 - 2) - 2 = t.2 := by omega
    have a2 : t.2 - (t.2 - t.1) = t.1 := by omega
    rw [a1, a2]
    refine ⟨fun z => ?_, fun _ => ?_⟩
    · simp at z; omega
    repeat k_subL
    refine WE_append (fun _ => rfl) (fun _ => rfl) rfl ?_
    repeat k_subL
    refine ⟨fa, rfl, ⟨_, hσ⟩, ?_⟩
    repeat k_subL
    rw [a2]
    refine ⟨_, hσ, by simp; omega, rfl, ?_⟩
    repeat k_subL
    refine ⟨xs ++ [p], t, by k_places, by rw [upd_eq, List.map_append]; rfl, g.turn hfa, ?_, e5⟩
    rw [List.take_add_one, e4, ← List.cons_append, e2]; rfl
  · rintro ρ' σ' ⟨xs, y, hf, hσ, g, e2, e3⟩
    rw [List.length_map, gps_length, List.take_length] at e2
    repeat k_subL
    refine h σ' fa g hfa ?_
    rw [hσ, e2, List.map_append]; rfl
theorem psz_append (a b : List Rg) : psz (a ++ b) = psz a + psz b := by simp [psz]
theorem encp_append (a b : List Rg) : encp (a ++ b) = encp a ++ encp b := by simp [encp]
theorem vi_sz (m : Int) : (vi m).length ≤ 2 := by have := vi_len (m := m); have := vsz_or m; omega
theorem CE_pv (P : PC c fI fL fV) {sc : Scope} {pos fp p1 : Pos} {e1 : Expr} {ρ : List (Str × MV)} {Q : MV → MS → Prop} (hx : okGlob sc "put_varint" = true) (hs : ∀ env : Env, starEach [e1, .Constant .none 0 p1] env = (false, eval e1 env) :: starEach [.Constant .none 0 p1] env)
    (h : WE c (n + 2) sc ρ σ e1 fun v σ2 => ∃ m, v = .int m ∧ 0 ≤ m ∧ m < 16384 ∧ ∀ σ', Grow σ2 σ' → Q (.bytes (vi m).toArray) σ') : CE c (n + 2) sc ρ σ (.Call (.Name "put_varint" fp) [e1, .Constant .none 0 p1] [] pos) Q :=
  CE_call P.G hx (P.fn 11 (by decide)) hs (.of (WL_cons hs (WE_mono h fun v σ2 q => by
    obtain ⟨m, rfl, a, b, d⟩ := q
    exact WL_cons (fun _ => rfl) (WE_none (WL_nil (c_put_varint P a b d))))))
theorem c_put_ranges (P : PC c fI fL fV) {k : Addr} {q : Rg} {r : List Rg} {Q : MV → MS → Prop} (hk : LAt σ k ((q :: r).map rgV)) (hz : r.length ≤ 1000) (hN : Nm (q :: r)) (hq : q.2 < 16384) (h : ∀ σ', Grow σ σ' → Q (.bytes (enc (q :: r)).toArray) σ') :
    CC c (n + 3) "put_ranges" [.int 5, .ref k] σ Q := by
  have F := P.fn 22 (by decide)
  refine CC_def (ns := ["delay", "ranges"]) P.G F (fun _ _ _ => len2 fun _ _ => rfl) (by decide +kernel) (by decide +kernel) rfl ?_ rfl rfl rfl
  obtain ⟨n1, n2, n3, n4⟩ := id hN
  have hgo := gps_ok r q.1 q.1 (Int.le_refl _) n4 n3
  have v1 := vi_sz q.2
  have v2 := vi_sz 5
  have v3 := vi_sz (r.length : Nat)
  have v4 := vi_sz (q.2 - q.1)
  apply CS_cons
  refine C1S.of ?_
  apply S_assign
  · intro _ _; rfl
  · intro _ _; rfl
  · intro _; rfl
  refine WE_call P.G (by decide +kernel) (P.fn 20 (by decide)) (fun _ => rfl) ?_
  repeat k_subL
  refine w_gaps_of P hk hz fun σ1 fa g1 hf1 hfa => ?_
  repeat k_subL
  refine CE_pv P (by decide +kernel) (fun _ => rfl) ?_
  repeat k_subL
  refine ⟨by omega, hq, fun σ2 g2 => ?_⟩
  refine CE_pv P (by decide +kernel) (fun _ => rfl) ?_
  repeat k_subL
  refine ⟨by omega, by omega, fun σ3 g3 => ?_⟩
  refine o_addB (by simp; omega) ?_
  refine CE_pv P (by decide +kernel) (fun _ => rfl) ?_
  repeat k_subL
  have g13 := g2.trans g3
  refine b_lenL (.inl (g13 _ _ hfa)) (by simp [gps_length]; omega) ?_
  repeat k_subL
  rw [List.length_map, gps_length]
  refine ⟨by omega, by omega, fun σ4 g4 => ?_⟩
  refine o_addB (by simp; omega) ?_
  refine CE_pv P (by decide +kernel) (fun _ => rfl) ?_
  repeat k_subL
  refine ⟨by omega, by omega, fun σ5 g5 => ?_⟩
  refine o_addB (by simp; omega) ?_
  repeat k_subL
  have g15 := (g13.trans g4).trans g5
  have hfa5 := g15 _ _ hfa
  refine CS_cons (C_for (fun _ _ => rfl) ?_)
  repeat k_subL
  refine ⟨(gps q.1 r).map rgV, fun i ρ' σ' => lk ρ' "found" = some (.bytes (vi q.2 ++ vi 5 ++ vi (r.length : Nat) ++ vi (q.2 - q.1) ++ encp ((gps q.1 r).take i)).toArray) ∧ Grow σ5 σ', ⟨?_, .refl _⟩, ?_, ?_, ?_⟩
  · have e : (vi q.2 ++ vi 5 ++ vi (r.length : Nat) ++ vi (q.2 - q.1) ++ encp ((gps q.1 r).take 0)).toArray = (vi q.2).toArray ++ (vi 5).toArray ++ (vi (r.length : Nat)).toArray ++ (vi (q.2 - q.1)).toArray := by simp [encp]
    rw [e]
    k_places
  · rintro i ρ' σ' ⟨_, g⟩
    exact .inl (g _ _ hfa5)
  · rintro i y ρ' σ' hy ⟨hf, g⟩
    rw [List.getElem?_map] at hy
    obtain ⟨p, e1, rfl⟩ := Option.map_eq_some_iff.mp hy
    have hp := hgo p (List.mem_of_getElem? e1)
    have w1 := vi_sz p.1
    have w2 := vi_sz p.2
    have w3 : (encp ((gps q.1 r).take i)).length ≤ 4000 := by
      have := encp_len ((gps q.1 r).take i)
      have := (psz_le ((gps q.1 r).take i)).2
      have : ((gps q.1 r).take i).length ≤ 1000 := by rw [List.length_take, gps_length]; omega
      omega
    repeat k_subL
    refine CE_pv P (by decide +kernel) (fun _ => rfl) ?_
    repeat k_subL
    refine ⟨by omega, by omega, fun σ6 g6 => ?_⟩
    refine o_addB (by simp; omega) ?_
    refine CE_pv P (by decide +kernel) (fun _ => rfl) ?_
    repeat k_subL
    refine ⟨by omega, by omega, fun σ7 g7 => ?_⟩
    refine o_addB (by simp; omega) ?_
    repeat k_subL
    refine ⟨?_, (g.trans g6).trans g7⟩
    rw [List.take_add_one, e1, encp_append]
    have e : (vi q.2 ++ vi 5 ++ vi (r.length : Nat) ++ vi (q.2 - q.1) ++ (encp ((gps q.1 r).take i) ++ encp (some p).toList)).toArray = (vi q.2 ++ vi 5 ++ vi (r.length : Nat) ++ vi (q.2 - q.1) ++ encp ((gps q.1 r).take i)).toArray ++ (vi p.1).toArray ++ (vi p.2).toArray := by simp [encp]
    rw [e]
    k_places
  · rintro ρ' σ' ⟨hf, g⟩
    rw [List.length_map, List.take_length] at hf
    repeat k_subL
    exact h σ' ((g1.trans g15).trans g)
/-- what fitting has counted -/
theorem enc_take_len {q : Rg} {r : List Rg} (i : Nat) (hi : i ≤ r.length) : ((enc ((q :: r).take (i + 1))).length : Int) = vsz q.2 + 1 + vsz (i : Nat) + vsz (q.2 - q.1) + psz ((gps q.1 r).take i) := by
  rw [List.take_succ_cons, enc_len, gps_take, List.length_take, Nat.min_eq_left hi]
theorem pickUpto {h : Heap} {items : Array Value} {xs : List MV} (f : F2 (VRel h) items.toList xs) (b : Nat) (z : Int) (e : z = (b : Int)) : F2 (VRel h) (slicePick items Option.none (some z) Option.none).toList (xs.take b) := by
  subst e; exact pick_upto f b
theorem w_fitting (P : PC c fI fL fV) {k : Addr} {q : Rg} {r : List Rg} {room : Int} {Q : MV → MS → Prop} (hk : σ k = some (.list ((q :: r).map rgV))) (hz : r.length ≤ 60) (hN : Nm (q :: r)) (hq : q.2 < 16384)
    (h0 : vsz q.2 + 1 + vsz (q.2 - q.1) + 1 > room → NewL σ [] Q) (h1 : ∀ m, m ≤ r.length → ((enc ((q :: r).take (m + 1))).length : Int) ≤ room → (room = 400 → m = r.length) → NewL σ (((q :: r).take (m + 1)).map rgV) Q) :
    WC c (n + 2) "fitting" [.int 5, .ref k, .int room] σ Q := by
  have F := P.fn 23 (by decide)
  refine WC_def (ns := ["delay", "ranges", "room"]) P.G F (fun _ _ _ => len3 fun _ _ _ => rfl) (by decide +kernel) (by decide +kernel) rfl ?_ rfl rfl rfl
  obtain ⟨n1, n2, n3, n4⟩ := id hN
  have hgo := gps_ok r q.1 q.1 (Int.le_refl _) n4 n3
  apply WS_cons
  apply S_assign
  · intro _ _; rfl
  · intro _ _; rfl
  · intro _; rfl
  refine WE_call P.G (by decide +kernel) (P.fn 20 (by decide)) (fun _ => rfl) ?_
  repeat k_subL
  refine w_gaps_of P (.inl hk) (by omega) fun σ1 fa g1 hf1 hfa => ?_
  repeat k_subL
  have vs : ∀ {sc : Scope} {pos fp : Pos} {e1 : Expr} {ρ : List (Str × MV)} {σ : MS} {Q : MV → MS → Prop}, okGlob sc "varint_size" = true → (∀ env : Env, starEach [e1] env = (false, eval e1 env) :: starEach [] env) →
      WE c (n + 1) sc ρ σ e1 (fun v σ2 => ∃ m, v = .int m ∧ 0 ≤ m ∧ m < 16384 ∧ Q (.int (vsz m)) σ2) → WE c (n + 1) sc ρ σ (.Call (.Name "varint_size" fp) [e1] [] pos) Q := by
    intro sc pos fp e1 ρ σ Q a1 a2 a3
    refine WE_call P.G a1 (P.fn 10 (by decide)) a2 (WL_cons a2 (WE_mono a3 fun v σ2 q => ?_))
    obtain ⟨m, rfl, a, b, d⟩ := q
    exact WL_nil (w_varint_size P a b d)
  have v5 : vsz 5 = 1 := by decide
  have vq := vsz_or q.2
  have vd := vsz_or (q.2 - q.1)
  refine vs (by decide +kernel) (fun _ => rfl) ?_
  repeat k_subL
  refine ⟨by omega, hq, ?_⟩
  refine vs (by decide +kernel) (fun _ => rfl) ?_
  repeat k_subL
  refine ⟨by omega, by omega, ?_⟩
  repeat k_subL
  refine vs (by decide +kernel) (fun _ => rfl) ?_
  repeat k_subL
  refine ⟨by omega, by omega, ?_⟩
  repeat k_subL
  rw [v5]
  refine WS_cons (S_swap2 (x := "many") (y := "size") (fun _ _ => rfl) (fun env he => by cases env; cases he; rfl) (by decide +kernel) (by decide +kernel) ?_)
  repeat k_subL
  refine ⟨_, _, _, _, rfl, rfl, rfl, ?_⟩
  repeat k_subL
  refine ⟨fun z => ?_, fun z => ?_⟩
  · have z : vsz q.2 + 1 + vsz (q.2 - q.1) + 1 > room := of_decide_eq_true z
    repeat k_subL
    refine ⟨by simp, fun j hj => ?_⟩
    repeat k_subL
    exact h0 z _ j (g1.turn (g1.none hj)) (g1.none hj) upd_eq
  have z : ¬ vsz q.2 + 1 + vsz (q.2 - q.1) + 1 > room := of_decide_eq_false z
  have fin : ∀ ρ' (m : Nat), lk ρ' "many" = some (.int ((m : Int) + 1)) → lk ρ' "ranges" = some (.ref k) → m ≤ r.length → ((enc ((q :: r).take (m + 1))).length : Int) ≤ room → (room = 400 → m = r.length) →
      WS c (n + 1) (scS (stI 23)) ρ' σ1 ((boS (stI 23)).drop 5) fun fl x σ' => match fl with | .ret v => Q v σ' | .next => Q .none σ' | _ => False := by
    intro ρ' m a1 a2 a3 a4 a5
    apply WS_cons; apply S_return
    repeat k_subL
    refine WE_sliceL (fun _ _ => ⟨_, rfl⟩) ?_
    repeat k_subL
    refine ⟨k, _, _, rfl, .inl (g1 _ _ hk), by simp; omega, by simp, fun h' items f => pickUpto f (m + 1) _ (by push_cast; rfl), fun j hj => ?_⟩
    repeat k_subL
    refine b_list upd_eq (by rw [List.length_take]; simp; omega) fun p hp => ?_
    repeat k_subL
    have gj := g1.turn (g1.none hj) (mo := .list (((q :: r).map rgV).take (m + 1)))
    refine h1 m a3 a4 a5 _ p (gj.turn (gj.none hp)) (gj.none hp) ?_
    rw [upd_eq, List.map_take]
  repeat k_subL
  refine WS_cons (S_for (fun _ _ => rfl) ?_)
  repeat k_subL
  refine ⟨(gps q.1 r).map rgV, fun i ρ' σ' => lk ρ' "many" = some (.int ((i : Int) + 1)) ∧ lk ρ' "ranges" = some (.ref k) ∧ lk ρ' "room" = some (.int room) ∧ lk ρ' "size" = some (.int (vsz q.2 + 1 + vsz (q.2 - q.1) + psz ((gps q.1 r).take i))) ∧ σ' = σ1 ∧ vsz q.2 + 1 + vsz (i : Nat) + vsz (q.2 - q.1) + psz ((gps q.1 r).take i) ≤ room,
    ⟨by k_places, by k_places, by k_places, ?_, rfl, ?_⟩, ?_, ?_, ?_⟩
  · have e : vsz q.2 + 1 + vsz (q.2 - q.1) + psz ((gps q.1 r).take 0) = vsz q.2 + 1 + vsz (q.2 - q.1) := by simp [psz]
    rw [e]; k_places
  · have e : psz ((gps q.1 r).take 0) = 0 := by simp [psz]
    have e2 : vsz ((0 : Nat) : Int) = 1 := by decide
    rw [e, e2]; omega
  · rintro i ρ' σ' ⟨_, _, _, _, rfl, _⟩
    exact .inl hfa
  · rintro i y ρ' σ' hy ⟨hm, hr, hro, hs, rfl, hb⟩
    rw [List.getElem?_map] at hy
    obtain ⟨p, e1, rfl⟩ := Option.map_eq_some_iff.mp hy
    have hp := hgo p (List.mem_of_getElem? e1)
    have hi : i < r.length := by have := (List.getElem?_eq_some_iff.mp e1).1; rwa [gps_length] at this
    have e2 : psz ((gps q.1 r).take (i + 1)) = psz ((gps q.1 r).take i) + (vsz p.1 + vsz p.2) := by
      rw [List.take_add_one, e1, psz_append]; simp [psz]
    have e3 := (psz_le ((gps q.1 r).take i)).2
    have e4 : ((gps q.1 r).take i).length = i := by rw [List.length_take, gps_length]; omega
    rw [e4] at e3
    have v1 := vsz_or p.1
    have v2 := vsz_or p.2
    have v3 := vsz_or ((i : Int) + 1)
    repeat k_subL
    refine vs (by decide +kernel) (fun _ => rfl) ?_
    repeat k_subL
    refine ⟨by omega, by omega, ?_⟩
    refine vs (by decide +kernel) (fun _ => rfl) ?_
    repeat k_subL
    refine ⟨by omega, by omega, ?_⟩
    repeat k_subL
    refine vs (by decide +kernel) (fun _ => rfl) ?_
    repeat k_subL
    refine ⟨by omega, by omega, ?_⟩
    repeat k_subL
    refine ⟨fun z2 => ?_, fun z2 => ?_⟩
    · have z2 : vsz q.2 + 1 + vsz (q.2 - q.1) + psz ((gps q.1 r).take i) + (vsz p.1 + vsz p.2) + vsz ((i : Int) + 1) > room := of_decide_eq_true z2
      refine WS_cons (S_break ?_)
      refine fin _ i ?_ ?_ (by omega) (by rw [enc_take_len i (by omega)]; exact hb) fun e => by omega
      · k_places
      · k_places
    · have z2 : ¬ vsz q.2 + 1 + vsz (q.2 - q.1) + psz ((gps q.1 r).take i) + (vsz p.1 + vsz p.2) + vsz ((i : Int) + 1) > room := of_decide_eq_false z2
      repeat k_subL
      refine ⟨by k_places, by k_places, by k_places, ?_, rfl, ?_⟩
      · rw [e2, ← Int.add_assoc (vsz q.2 + 1 + vsz (q.2 - q.1))]; k_places
      · rw [e2]; push_cast; omega
  · rintro ρ' σ' ⟨hm, hr, hro, hs, rfl, hb⟩
    rw [List.length_map, gps_length] at hm hb
    exact fin _ r.length hm hr (Nat.le_refl _) (by rw [enc_take_len _ (Nat.le_refl _)]; exact hb) fun _ => rfl
theorem o_neB {a b : Bool} {Q : MV → MS → Prop} (h : Q (.bool (a != b)) σ) : W2 c n σ (.bool a) (.bool b) (compareOp .NotEq) Q := fun A s vs hr hR hv => by
  cases hv with
  | cons x y =>
    cases y with
    | cons y d => cases d; obtain rfl := x.bool; obtain rfl := y.bool; exact PyProof.Rows.ne_bool (Post.here hR vBool h)
theorem taker_data (P : PC c fI fL fV) : takerIn c.K c.rd "data" = some none := by unfold takerIn; rw [P.data]; rfl
theorem taker_at (P : PC c fI fL fV) : takerIn c.K c.rd "at" = some none := by unfold takerIn; rw [P.at_]; rfl
theorem w_init (P : PC c fI fL fV) {k dx : Addr} {b : Array UInt8} {Q : MV → MS → Prop} (hk : σ k = some (.inst dx [])) (h : Q .none (upd (upd σ k (.inst dx [("data", .bytes b)])) k (.inst dx [("data", .bytes b), ("at", .int 0)]))) : WCA c (n + 1) fI [.ref k, .bytes b] σ Q := by
  refine WCA_def P.G P.mI (by decide) (by decide +kernel) rfl ?_ rfl rfl rfl
  apply WS_cons
  apply S_assign
  · intro _ _; rfl
  · intro _ _; rfl
  · intro _; rfl
  repeat k_subL
  refine A_attr P.G P.rd (taker_data P) ?_
  repeat k_subL
  refine ⟨k, dx, _, _, rfl, hk, by simp, rfl, ?_⟩
  repeat k_subL
  refine A_attr P.G P.rd (taker_at P) ?_
  repeat k_subL
  refine ⟨k, dx, _, _, rfl, upd_eq, by simp [up], by k_memK, ?_⟩
  repeat k_subL
  exact h
theorem w_left (P : PC c fI fL fV) {k dx : Addr} {b : Array UInt8} {p : Int} {Q : MV → MS → Prop} (hk : σ k = some (.inst dx [("data", .bytes b), ("at", .int p)])) (hz : b.size ≤ 100000) (h : Q (.int (b.size - p)) σ) : WCA c (n + 1) fL [.ref k] σ Q := by
  refine WCA_def P.G P.mL (by decide) (by decide +kernel) rfl ?_ rfl rfl rfl
  apply WS_cons; apply S_return
  repeat k_subL
  refine WE_attr P.G P.rd P.data ?_
  repeat k_subL
  refine ⟨k, dx, _, _, rfl, hk, by k_places, ?_⟩
  repeat k_subL
  refine b_lenB hz ?_
  repeat k_subL
  refine WE_attr P.G P.rd P.at_ ?_
  repeat k_subL
  refine ⟨k, dx, _, _, rfl, hk, by k_places, ?_⟩
  repeat k_subL
  exact h
theorem w_varint (P : PC c fI fL fV) {k dx : Addr} {b : Array UInt8} {pre post : List UInt8} {m : Int} {Q : MV → MS → Prop} (hk : σ k = some (.inst dx [("data", .bytes b), ("at", .int pre.length)])) (hb : b.toList = pre ++ vi m ++ post) (hz : b.size ≤ 100000) (h0 : 0 ≤ m) (h1 : m < 16384)
    (h : Q (.int m) (upd σ k (.inst dx [("data", .bytes b), ("at", .int (pre.length + vsz m))]))) : WCA c (n + 3) fV [.ref k] σ Q := by
  refine WCA_def P.G P.mV (by decide) (by decide +kernel) rfl ?_ rfl rfl rfl
  apply WS_cons
  apply S_assign
  · intro _ _; rfl
  · intro _ _; rfl
  · intro _; rfl
  refine WE_call P.G (by decide +kernel) (P.fn 12 (by decide)) (fun _ => rfl) ?_
  repeat k_subL
  refine WE_attr P.G P.rd P.data ?_
  repeat k_subL
  refine ⟨k, dx, _, _, rfl, hk, by k_places, ?_⟩
  repeat k_subL
  refine WE_attr P.G P.rd P.at_ ?_
  repeat k_subL
  refine ⟨k, dx, _, _, rfl, hk, by k_places, ?_⟩
  repeat k_subL
  refine w_get_varint P hb hz h0 h1 ?_
  repeat k_subL
  refine A_attr P.G P.rd (taker_at P) ?_
  repeat k_subL
  refine ⟨k, dx, _, _, rfl, hk, by simp, by k_memK, ?_⟩
  repeat k_subL
  exact h
theorem lk_no {α : Type} {r : List (Str × α)} {x y : Str} {u : α} (h : decide (x = y) = false) (e : lk r x = none) : lk ((y, u) :: r) x = none := by
  simp only [decide_eq_false_iff_not] at h; simp [lk, h, e]
/-- r.varint() where r is a name -/
theorem WE_varint (P : PC c fI fL fV) {sc : Scope} {ρ : List (Str × MV)} {o : Str} {op apos pos : Pos} {k dx : Addr} {b : Array UInt8} {pre post : List UInt8} {m : Int} {Q : MV → MS → Prop} (hline : (apos.endLine == pos.line) = true) (ho : lk ρ o = some (.ref k))
    (hk : σ k = some (.inst dx [("data", .bytes b), ("at", .int pre.length)])) (hb : b.toList = pre ++ vi m ++ post) (hz : b.size ≤ 100000) (h0 : 0 ≤ m) (h1 : m < 16384)
    (h : Q (.int m) (upd σ k (.inst dx [("data", .bytes b), ("at", .int (pre ++ vi m).length)]))) : WE c (n + 3) sc ρ σ (.Call (.Attribute (.Name o op) "varint" apos) [] [] pos) Q := by
  refine WE_meth P.G P.rd P.varint P.varintF P.varintK hline (WE_name ho ⟨k, dx, _, rfl, hk, lk_no (by decide +kernel) (lk_no (by decide +kernel) rfl), w_varint P hk hb hz h0 h1 ?_⟩)
  have e : (((pre ++ vi m).length : Nat) : Int) = pre.length + vsz m := by rw [List.length_append, ← vi_len]; push_cast; rfl
  rw [← e]; exact h
theorem w_take (P : PC c fI fL fV) {w b ca : Addr} {S : St} {a : Ad} {m : Int} {Q : MV → MS → Prop} (X : Hold σ w b ca S a) (hm : 0 < m) (h : ∀ σ' v, Hold σ' w b ca S a → (∀ k mo, k ≠ b → σ k = some mo → σ' k = some mo) → 0 ≤ v → v < m → Q (.int v) σ') : WC c (n + 1) "_law_take" [.ref b, .int m] σ Q := by
  have F := P.fn 35 (by decide)
  refine WC_def (ns := ["box", "many"]) P.G F (fun _ _ _ => len2 fun _ _ => rfl) (by decide +kernel) (by decide +kernel) rfl ?_ rfl rfl rfl
  obtain ⟨i, r, e1, h1⟩ := id X.B
  have X1 := X.box (i := i + 1) (r := r) (by omega)
  obtain ⟨cs, e2, h2⟩ := id X1.C
  have rg : ∀ z : Int, 0 ≤ z % m ∧ z % m < m := fun z => ⟨Int.emod_nonneg _ (by omega), Int.emod_lt_of_pos _ hm⟩
  apply WS_cons
  apply S_assign
  · intro _ _; rfl
  · intro _ _; rfl
  · intro _; rfl
  repeat k_subL
  refine g_list (.inl e1) (by decide) (by decide) (y := .int i) rfl ?_
  repeat k_subL
  refine A_idx ?_
  repeat k_subL
  refine ⟨b, _, _, rfl, rfl, e1, by decide, by simp, by simp, ?_⟩
  have es : ([MV.ref ca, .int i, .int r] : List MV).set (1 : Int).toNat (.int (i + 1)) = [.ref ca, .int (i + 1), .int r] := rfl
  rw [es]
  repeat k_subL
  refine g_list (.inl upd_eq) (by decide) (by decide) (y := .int (i + 1)) rfl ?_
  repeat k_subL
  refine g_list (.inl upd_eq) (by decide) (by decide) (y := .ref ca) rfl ?_
  repeat k_subL
  refine b_lenL (.inl e2) (by simp; omega) ?_
  repeat k_subL
  refine ⟨fun z => ?_, fun z => ?_⟩
  · have z : i + 1 ≤ ((cs.map MV.int).length : Int) := of_decide_eq_true z
    rw [List.length_map] at z
    repeat k_subL
    refine g_list (.inl upd_eq) (by decide) (by decide) (y := .ref ca) rfl ?_
    repeat k_subL
    refine g_list (.inl upd_eq) (by decide) (by decide) (y := .int (i + 1)) rfl ?_
    repeat k_subL
    have hi : (i + 1 - 1).toNat < cs.length := by omega
    refine g_list (.inl e2) (by omega) (by omega) (y := .int cs[(i + 1 - 1).toNat]) (by rw [List.getElem?_map, List.getElem?_eq_getElem hi]; rfl) ?_
    repeat k_subL
    refine o_mod hm ?_
    repeat k_subL
    exact h _ _ X1 (fun k mo hk e => upd_nn e hk) (rg _).1 (rg _).2
  · repeat k_subL
    refine g_list (.inl upd_eq) (by decide) (by decide) (y := .int (i + 1)) rfl ?_
    repeat k_subL
    refine g_list (.inl upd_eq) (by decide) (by decide) (y := .int (i + 1)) rfl ?_
    repeat k_subL
    refine g_list (.inl upd_eq) (by decide) (by decide) (y := .int r) rfl ?_
    repeat k_subL
    refine o_mod hm ?_
    repeat k_subL
    exact h _ _ X1 (fun k mo hk e => upd_nn e hk) (rg _).1 (rg _).2
theorem w_box (P : PC c fI fL fV) {k : Addr} {ns : List Int} {Q : MV → MS → Prop} (hk : LAt σ k (ns.map MV.int)) (hz : ns.length ≤ 100)
    (h : ∀ σ' b ca (cs : List Int) r, Grow σ σ' → σ b = none → σ ca = none → σ' b = some (.list [.ref ca, .int 0, .int r]) → σ' ca = some (.list (cs.map MV.int)) → cs.length ≤ 24 → Q (.ref b) σ') : WC c (n + 1) "_law_box" [.ref k] σ Q := by
  have F := P.fn 34 (by decide)
  refine WC_def (ns := ["script"]) P.G F (fun _ _ _ => len1 fun _ => rfl) (by decide +kernel) (by decide +kernel) rfl ?_ rfl rfl rfl
  apply WS_cons
  refine S_assignComp (fn := []) (by decide +kernel) (fun _ _ => rfl) (fun env he => by cases env; cases he; rfl) (by decide +kernel) ?_
  refine WE_sliceL (fun _ _ => ⟨_, rfl⟩) ?_
  repeat k_subL
  refine ⟨k, _, _, rfl, hk, by simp; omega, by simp, fun h' items f => pickUpto f 24 _ rfl, fun sl hsl => ?_⟩
  refine WCo_1 [] [] ((ns.map MV.int).take 24) (fun i ac σ' => σ' = upd σ sl (.list ((ns.map MV.int).take 24)) ∧ ac = ((ns.take 24).take i).map fun x => MV.int (x.natAbs : Int)) (by decide +kernel) .nil ⟨rfl, rfl⟩ ?_ ?_ ?_
  · rintro i ac σ' ⟨rfl, rfl⟩
    exact ⟨.inl upd_eq, by simp; omega⟩
  · rintro i y ac σ' hy ⟨rfl, rfl⟩
    rw [← List.map_take, List.getElem?_map] at hy
    obtain ⟨q, e1, rfl⟩ := Option.map_eq_some_iff.mp hy
    repeat k_subL
    refine b_abs ?_
    repeat k_subL
    refine ⟨rfl, ?_⟩
    rw [List.take_add_one (i := i), e1, List.map_append]; rfl
  · rintro ac σ' ⟨rfl, rfl⟩
    intro ca hca
    rw [← List.map_take, List.length_map, List.take_length]
    have gs : Grow σ (upd σ sl (.list ((ns.take 24).map MV.int))) := .new hsl
    have hca' : σ ca = none := gs.none (by rw [List.map_take]; exact hca)
    have ec : ((ns.take 24).map fun x => MV.int (x.natAbs : Int)) = ((ns.take 24).map fun x => (x.natAbs : Int)).map MV.int := by rw [List.map_map]; rfl
    rw [ec]
    repeat k_subL
    refine b_sum (.inl upd_eq) ?_
    repeat k_subL
    refine ⟨by simp, fun b hb => ?_⟩
    repeat k_subL
    have gc := gs.turn hca' (mo := .list (((ns.take 24).map fun x => (x.natAbs : Int)).map MV.int))
    have hcb : ca ≠ b := fun e => by rw [e, upd_eq] at hb; cases hb
    exact h _ b ca _ _ (gc.turn (gc.none hb)) (gc.none hb) hca' upd_eq (by rw [upd_ne hcb, upd_eq]) (by simp; omega)
def lateV (seen : Option Int) (m : Int) : Int := match seen with
  | none => 0
  | some s => s + 1 - m
def endQ (Q : MV → MS → Prop) : MF → List (Str × MV) → MS → Prop := fun fl _ σ' => match fl with
  | .ret v => Q v σ'
  | .next => Q .none σ'
  | _ => False
theorem w_come (P : PC c fI fL fV) {w b ca : Addr} {S : St} {a : Ad} {A T : Nat} {m : Int} {d : Array UInt8} {Q : MV → MS → Prop} (X : Hold σ w b ca S a) (I : Inv A T S) (hT : T ≤ 400) (hL : LateOk S.sent S.seen (m, d))
    (h : ∀ σ' S' a', Hold σ' w b ca S' a' → Inv A (T + 1) S' → S'.late = S.late → S'.acks = S.acks → a'.l = a.l → a'.ac = a.ac → Q (.bool true) σ') : WC c (n + 2) "_law_come" [.ref w, .int m, .bytes d] σ Q := by
  have F := P.fn 36 (by decide)
  refine WC_def (ns := ["world", "number", "data"]) P.G F (fun _ _ _ => len3 fun _ _ _ => rfl) (by decide +kernel) (by decide +kernel) rfl ?_ rfl rfl rfl
  have hm : m ∈ S.sent := by obtain ⟨_, _, _, e, _⟩ := hL; exact e
  have mb := I.big hm
  obtain ⟨k, hk, hsz, hwh, hhi⟩ := hL.back mb.1
  dsimp only at hsz hwh hhi
  have hk0 : k.toNat = d.size := hsz.symm
  have hkI : ((d.size : Nat) : Int) = k := by omega
  have eb : 0 ≤ expect S.seen ∧ expect S.seen < 16385 := ⟨I.exp0, by have := I.expN; have := I.nextL; have := I.aL; omega⟩
  have few := I.rangesFew
  have fin2 : ∀ σ1 ρ' a' S4, S4 = { S.comes m with came := S.came } → Hold σ1 w b ca S4 a' → a'.l = a.l → a'.ac = a.ac → lk ρ' "world" = some (.ref w) → lk ρ' "number" = some (.int m) → WS c (n + 1) (scS (stI 36)) ρ' σ1 ((boS (stI 36)).drop 8) (endQ Q) := by
    rintro σ1 ρ' a' S4 rfl X1 l1 l2 e1 e2
    have J := I.comes hm
    have fewJ := J.rangesFew
    have fewK := J.keptFew
    apply WS_cons
    apply S_expr
    · intro _; rfl
    refine WE_append (fun _ => rfl) (fun _ => rfl) rfl ?_
    repeat k_subL
    refine ⟨w, _, _, rfl, X1.W.hw, by k_places, ?_⟩
    refine ⟨_, rfl, ⟨_, X1.W.hcm⟩, ?_⟩
    repeat k_subL
    have hc := I.cameL
    refine ⟨_, X1.W.hcm, by simp; omega, rfl, ?_⟩
    have ec : List.map MV.int S.came ++ [MV.int m] = (S.came ++ [m]).map MV.int := by simp
    show seqQ _ _ _ _ _ _ _ (upd σ1 a'.cm (.list (List.map MV.int S.came ++ [MV.int m])))
    rw [ec]
    have X2 : Hold _ w b ca (S.comes m) a' := X1.atCame (S.came ++ [m])
    repeat k_subL
    refine WE_call P.G (by decide +kernel) (P.fn 30 (by decide)) (fun _ => rfl) ?_
    repeat k_subL
    refine ⟨w, _, _, rfl, X2.W.hw, by k_places, ?_⟩
    repeat k_subL
    refine w_count_of P (.inl X2.W.hr) (by omega) fun σ2 g2 => ?_
    have X3 := X2.grow g2
    repeat k_subL
    refine ⟨w, _, _, rfl, X3.W.hw, by k_places, ?_⟩
    repeat k_subL
    refine b_lenL (.inl X3.W.hk) (by simp; omega) ?_
    repeat k_subL
    rw [List.length_map, comes_count I hm]
    have : ((((S.comes m).kept.length : Nat) : Int) == (((S.comes m).kept.length : Nat) : Int)) = true := by simp
    rw [this]
    exact h σ2 _ a' X3 J rfl rfl l1 l2
  have fin : ∀ σ1 ρ', Hold σ1 w b ca { S with seen := expUp S.seen m } a → lk ρ' "world" = some (.ref w) → lk ρ' "number" = some (.int m) → WS c (n + 1) (scS (stI 36)) ρ' σ1 ((boS (stI 36)).drop 5) (endQ Q) := by
    intro σ1 ρ' X1 e1 e2
    apply WS_cons; apply S_if
    repeat k_subL
    refine WE_call P.G (by decide +kernel) (P.fn 28 (by decide)) (fun _ => rfl) ?_
    repeat k_subL
    refine ⟨w, _, _, rfl, X1.W.hw, by k_places, ?_⟩
    repeat k_subL
    refine w_has_number P (.inl X1.W.hr) (by show S.ranges.length ≤ 1000; omega) fun σ2 g2 => ?_
    have X2 := X1.grow g2
    repeat k_subL
    refine ⟨w, _, _, rfl, X2.W.hw, by k_places, ?_⟩
    refine o_in (ns := S.kept) (.inl X2.W.hk) ?_
    refine o_neB ?_
    repeat k_subL
    have eh : hasN S.ranges m = decide (m ∈ S.kept) := by rw [Bool.eq_iff_iff, hasN_iff, I.rk, decide_eq_true_iff]
    show ((hasN S.ranges m != decide (m ∈ S.kept)) = true → _) ∧ ((hasN S.ranges m != decide (m ∈ S.kept)) = false → _)
    rw [eh]
    refine ⟨fun z => by simp at z, fun _ => ?_⟩
    repeat k_subL
    refine WE_call P.G (by decide +kernel) (P.fn 27 (by decide)) (fun _ => rfl) ?_
    repeat k_subL
    refine ⟨w, _, _, rfl, X2.W.hw, by k_places, ?_⟩
    repeat k_subL
    refine w_add_number P (.inl X2.W.hr) (by show S.ranges.length ≤ 1000; omega) I.nm fun σ3 q g3 hq0 hq => ?_
    refine A_key ?_
    repeat k_subL
    refine ⟨w, _, wEs { S with seen := expUp S.seen m, ranges := ins m m S.ranges } { a with r := q }, rfl, (X2.grow g3).W.hw, by simp, by k_memK, ?_⟩
    have X3 : Hold _ w b ca { S with seen := expUp S.seen m, ranges := ins m m S.ranges } { a with r := q } := X2.newRanges g3 hq0 hq
    repeat k_subL
    refine ⟨w, _, _, rfl, X3.W.hw, by k_places, ?_⟩
    refine o_notin (ns := S.kept) (.inl X3.W.hk) ?_
    repeat k_subL
    refine ⟨fun z => ?_, fun z => ?_⟩
    · have z : m ∉ S.kept := by simpa using z
      repeat k_subL
      refine WE_append (fun _ => rfl) (fun _ => rfl) rfl ?_
      repeat k_subL
      refine ⟨w, _, _, rfl, X3.W.hw, by k_places, ?_⟩
      refine ⟨_, rfl, ⟨_, X3.W.hk⟩, ?_⟩
      repeat k_subL
      have hkf := I.keptFew
      refine ⟨_, X3.W.hk, by simp; omega, rfl, ?_⟩
      have ec : List.map MV.int S.kept ++ [MV.int m] = (S.kept ++ [m]).map MV.int := by simp
      have X4 := X3.atKept (S.kept ++ [m])
      rw [← ec] at X4
      have e : ({ { S with seen := expUp S.seen m, ranges := ins m m S.ranges } with kept := S.kept ++ [m] } : St) = { S.comes m with came := S.came } := by
        unfold St.comes; rw [if_neg z]
      refine WS_nil ?_
      refine fin2 _ _ _ _ e X4 rfl rfl ?_ ?_
      · k_places
      · k_places
    · have z : m ∈ S.kept := by simpa using z
      have e : ({ S with seen := expUp S.seen m, ranges := ins m m S.ranges } : St) = { S.comes m with came := S.came } := by
        unfold St.comes; rw [if_pos z]
      refine WS_nil ?_
      refine fin2 _ _ _ _ e X3 rfl rfl ?_ ?_
      · k_places
      · k_places
  have key : ∀ ρ', lk ρ' "seen" = some (oI S.seen) → lk ρ' "late" = some (.int (lateV S.seen m)) → lk ρ' "world" = some (.ref w) → lk ρ' "number" = some (.int m) → lk ρ' "data" = some (.bytes d) → WS c (n + 1) (scS (stI 36)) ρ' σ ((boS (stI 36)).drop 2) (endQ Q) := by
    intro ρ' e1 e2 e3 e4 e5
    have dz : d.size ≤ 2 := by rcases hk with rfl | rfl <;> omega
    have le : 2 * lateV S.seen m < 256 ^ k.toNat → 2 * (expect S.seen - m) < 256 ^ k.toNat := by
      unfold lateV expect
      cases S.seen with
      | none => intro _; show 2 * (0 - m) < _; have : (0 : Int) < 256 ^ k.toNat := Int.pow_pos (by decide); omega
      | some s => exact id
    apply WS_cons; apply S_if
    repeat k_subL
    refine b_lenB (by omega) ?_
    repeat k_subL
    refine o_pow (by omega) (by omega) (by decide) ?_
    repeat k_subL
    have ek : ((d.size : Nat) : Int).toNat = k.toNat := by omega
    rw [ek]
    refine ⟨fun z => ?_, fun z => ?_⟩
    · repeat k_subL
      exact h σ S a X (I.mono (Nat.le_refl _) I.aL (Nat.le_succ T)) rfl rfl rfl rfl
    have z : ¬ 2 * lateV S.seen m ≥ 256 ^ k.toNat := of_decide_eq_false z
    have z := le (by omega)
    repeat k_subL
    refine WE_call P.G (by decide +kernel) (P.fn 17 (by decide)) (fun _ => rfl) ?_
    repeat k_subL
    refine WE_call P.G (by decide +kernel) (P.fn 9 (by decide)) (fun _ => rfl) ?_
    repeat k_subL
    refine b_lenB (by omega) ?_
    repeat k_subL
    refine w_get_whole P (i := 0) (k := d.size) (by omega) (by omega) ?_
    have ew : (d.toList.drop 0).take d.size = d.toList := by rw [List.drop_zero, List.take_of_length_le (by simp)]
    rw [ew, hwh]
    repeat k_subL
    refine b_lenB (by omega) ?_
    repeat k_subL
    rw [hkI]
    refine w_restore_number P hk ?_
    rw [restore_is k hk rfl mb.1 mb.2 eb.1 eb.2 z hhi]
    repeat k_subL
    refine ⟨fun z => by simp at z, fun _ => ?_⟩
    repeat k_subL
    cases hs : S.seen with
    | none =>
      rw [hs] at e1
      refine ⟨fun _ => ?_, fun z => by cases z⟩
      repeat k_subL
      refine A_key ?_
      repeat k_subL
      refine ⟨w, _, wEs { S with seen := some m } a, rfl, X.W.hw, by simp, by k_memK, ?_⟩
      have X1 := X.setSeen (some m)
      rw [hs] at fin
      exact fin _ _ X1 e3 e4
    | some s =>
      rw [hs] at e1
      refine ⟨fun z => (by cases z), fun _ => ?_⟩
      repeat k_subL
      refine A_key ?_
      repeat k_subL
      refine ⟨w, _, wEs { S with seen := some (max s m) } a, rfl, X.W.hw, by simp, by k_memK, ?_⟩
      have X1 := X.setSeen (some (max s m))
      rw [hs] at fin
      exact fin _ _ X1 e3 e4
  apply WS_cons
  apply S_assign
  · intro _ _; rfl
  · intro _ _; rfl
  · intro _; rfl
  repeat k_subL
  refine ⟨w, _, _, rfl, X.W.hw, by k_places, ?_⟩
  repeat k_subL
  cases hs : S.seen with
  | none =>
    refine ⟨fun _ => ?_, fun z => by cases z⟩
    iterate 3 k_subL
    rw [hs] at key
    refine key _ ?_ ?_ ?_ ?_ ?_
    · k_places
    · k_places
    · k_places
    · k_places
    · k_places
  | some s =>
    refine ⟨fun z => (by cases z), fun _ => ?_⟩
    iterate 8 k_subL
    rw [hs] at key
    refine key _ ?_ ?_ ?_ ?_ ?_
    · k_places
    · k_places
    · k_places
    · k_places
    · k_places
theorem rep_map {α β : Type} (f : α → β) (xs : List α) : ∀ n, (rep n xs).map f = rep n (xs.map f)
  | 0 => rfl
  | n + 1 => by rw [rep, rep, List.map_append, rep_map f xs n]
theorem mem_rep {α : Type} {x : α} {xs : List α} : ∀ {n}, x ∈ rep n xs → x ∈ xs
  | 0, h => nomatch h
  | n + 1, h => by
    rw [rep] at h
    rcases List.mem_append.mp h with h | h
    · exact mem_rep h
    · exact h
theorem rep_one {α : Type} (x : α) : ∀ n, (rep n [x]).length = n
  | 0 => rfl
  | n + 1 => by rw [rep, List.length_append, rep_one x n]; rfl
theorem c_send (P : PC c fI fL fV) {w b ca : Addr} {S : St} {a : Ad} {A T : Nat} {f : Int} {Q : MV → MS → Prop} (X : Hold σ w b ca S a) (I : Inv A T S) (hA : A + 1 ≤ 40) (hT : T ≤ 300) (f0 : 0 ≤ f) (f4 : f < 4)
    (h : ∀ σ' S' a', Hold σ' w b ca S' a' → Inv (A + 1) (T + 2) S' → Q (.bool true) σ') : CC c (n + 3) "_law_send" [.ref w, .ref b, .int f] σ Q := by
  have F := P.fn 37 (by decide)
  refine CC_def (ns := ["world", "box", "fate"]) P.G F (fun _ _ _ => len3 fun _ _ _ => rfl) (by decide +kernel) (by decide +kernel) rfl ?_ rfl rfl rfl
  apply CS_cons
  refine C1S.of ?_
  apply S_assign
  · intro _ _; rfl
  · intro _ _; rfl
  · intro _; rfl
  repeat k_subL
  refine ⟨w, _, _, rfl, X.W.hw, by k_places, ?_⟩
  repeat k_subL
  refine ⟨by simp, fun q hq => ?_⟩
  repeat k_subL
  refine WE_call P.G (by decide +kernel) (P.fn 35 (by decide)) (fun _ => rfl) ?_
  repeat k_subL
  have Xq := X.grow (Grow.new (mo := .list [.int 0, .int 0, .int 0, .int 1, .int 2, .int 90, .int 400]) hq)
  have hqb : q ≠ b := fun e => by obtain ⟨_, _, e1, _⟩ := X.B; rw [e, e1] at hq; cases hq
  refine w_take P Xq (by decide) fun σ1 v X1 fr v0 v1 => ?_
  have hl : ∃ j : Int, ([.int 0, .int 0, .int 0, .int 1, .int 2, .int 90, .int 400] : List MV)[v.toNat]? = some (.int j) ∧ 0 ≤ j ∧ j ≤ 400 := by
    have : v = 0 ∨ v = 1 ∨ v = 2 ∨ v = 3 ∨ v = 4 ∨ v = 5 ∨ v = 6 := by omega
    rcases this with rfl | rfl | rfl | rfl | rfl | rfl | rfl <;> exact ⟨_, rfl, by decide, by decide⟩
  obtain ⟨j, hj, j0, j1⟩ := hl
  refine g_list (.inl (fr q _ hqb upd_eq)) v0 (by omega) hj ?_
  repeat k_subL
  generalize hm : S.next + j = m
  have m0 : S.next ≤ m := by omega
  have m1 : m ≤ S.next + 400 := by omega
  refine A_key ?_
  repeat k_subL
  refine ⟨w, _, wEs { S with next := m + 1 } a, rfl, X1.W.hw, by simp, by k_memK, ?_⟩
  have X2 := X1.setNext (m + 1)
  repeat k_subL
  apply CS_cons
  refine C1S.of ?_
  apply S_expr
  · intro _; rfl
  refine WE_append (fun _ => rfl) (fun _ => rfl) rfl ?_
  repeat k_subL
  refine ⟨w, _, _, rfl, X2.W.hw, by k_places, ?_⟩
  refine ⟨_, rfl, ⟨_, X2.W.ho⟩, ?_⟩
  repeat k_subL
  have ho := I.outFew
  refine ⟨_, X2.W.ho, by simp; omega, rfl, ?_⟩
  have X3 := X2.atOut (S.out ++ [m])
  have ec : (S.out ++ [m]).map MV.int = List.map MV.int S.out ++ [MV.int m] := by simp
  rw [ec] at X3
  repeat k_subL
  apply CS_cons
  refine C1S.of ?_
  apply S_expr
  · intro _; rfl
  refine WE_append (fun _ => rfl) (fun _ => rfl) rfl ?_
  repeat k_subL
  refine ⟨w, _, _, rfl, X3.W.hw, by k_places, ?_⟩
  refine ⟨_, rfl, ⟨_, X3.W.hsn⟩, ?_⟩
  repeat k_subL
  have hs := I.sentL
  refine ⟨_, X3.W.hsn, by simp; omega, rfl, ?_⟩
  have X4 := X3.atSent (S.sent ++ [m])
  have ec : (S.sent ++ [m]).map MV.int = List.map MV.int S.sent ++ [MV.int m] := by simp
  rw [ec] at X4
  repeat k_subL
  refine CE_call P.G (by decide +kernel) (P.fn 16 (by decide)) (fun _ => rfl) ?_
  refine CL.of ?_
  repeat k_subL
  refine ⟨w, _, _, rfl, X4.W.hw, by k_places, ?_⟩
  repeat k_subL
  refine c_cut_number P (I.apartOk m0 m1 hA) fun σ5 g5 => ?_
  have X5 := X4.grow g5
  have hc := I.cutOk m0 m1 hA
  generalize (cut m S.acked).toArray = d at hc
  iterate 2 k_subL
  refine CS.of ?_
  repeat k_subL
  refine ⟨fun z => ?_, fun z => ?_⟩
  · repeat k_subL
    refine WE_call P.G (by decide +kernel) (P.fn 36 (by decide)) (fun _ => rfl) ?_
    repeat k_subL
    have I2 : Inv (A + 1) (T + 1) (S.sends m []) := I.sends m0 m1 hA (by simp) (fun p hp => nomatch hp)
    have e : ({ { { S with next := m + 1 } with out := S.out ++ [m] } with sent := S.sent ++ [m] } : St) = S.sends m [] := by unfold St.sends; simp
    have X6 : Hold σ5 w b ca (S.sends m []) a := e ▸ X5
    refine w_come P X6 I2 (by omega) hc fun σ6 S6 a6 X7 I7 _ _ _ _ => ?_
    repeat k_subL
    exact h _ _ _ X7 I7
  · have z : ¬ f = 0 := by simpa using z
    repeat k_subL
    refine ⟨w, _, _, rfl, X5.W.hw, by k_places, ?_⟩
    repeat k_subL
    refine ⟨by simp, fun p hp => ?_⟩
    repeat k_subL
    refine o_mulL upd_eq (by omega) (by omega) (by simp) fun r hr => ?_
    have gp : Grow σ5 (upd σ5 p (.list [ltV (m, d)])) := .new hp
    have gr := gp.turn (gp.none hr) (mo := .list (rep (f - 1).toNat [ltV (m, d)]))
    have hl := I.lateL
    have hrl := rep_one (ltV (m, d)) (f - 1).toNat
    refine o_addL (xs := S.late.map ltV) (ys := rep (f - 1).toNat [ltV (m, d)]) (gr _ _ X5.W.hl) upd_eq (by rw [List.length_map, hrl]; omega) fun t ht => ?_
    have gt := gr.turn (gr.none ht) (mo := .list (S.late.map ltV ++ rep (f - 1).toNat [ltV (m, d)]))
    have e1 : S.late.map ltV ++ rep (f - 1).toNat [ltV (m, d)] = (S.late ++ rep (f - 1).toNat [(m, d)]).map ltV := by rw [List.map_append, rep_map]; rfl
    refine A_key ?_
    repeat k_subL
    refine ⟨w, _, wEs (S.sends m (rep (f - 1).toNat [(m, d)])) { a with l := t }, rfl, gt _ _ X5.W.hw, by simp, by k_memK, ?_⟩
    have X6 := X5.newLate (xs := S.late ++ rep (f - 1).toNat [(m, d)]) gt (gr.none ht) (by rw [upd_eq, e1])
    have I6 : Inv (A + 1) (T + 2) (S.sends m (rep (f - 1).toNat [(m, d)])) := (I.sends m0 m1 hA (by rw [rep_one]; omega) (fun p hp => by
      have := mem_rep hp
      simp at this; subst this; exact hc)).mono (Nat.le_refl _) hA (Nat.le_succ _)
    repeat k_subL
    exact h _ _ _ X6 I6
theorem rangeItems {σ : MS} {lo hi : Int} (h0 : 0 ≤ lo) (hl : lo ≤ hi) (h1 : hi ≤ 20000) : Items σ (.rng lo (hi + 1) 1) ((rng lo hi).map MV.int) := by
  have e : Builtin.Range.rangeSize lo (hi + 1) 1 = if lo < hi + 1 then hi + 1 - lo else 0 := by
    unfold Builtin.Range.rangeSize
    rw [if_pos (by decide)]
    split
    · rw [Int.ediv_one]; omega
    · rfl
  refine ⟨?_, ?_⟩
  · unfold Builtin.Range.small
    by_cases h : lo < hi + 1
    · rw [e, if_pos h]
      have f : ∀ z : Int, -20001 ≤ z → z ≤ 20001 → Builtin.Range.rangeFitsLong z = true := fun z a b => by unfold Builtin.Range.rangeFitsLong; simp; omega
      simp only [f lo (by omega) (by omega), f (hi + 1) (by omega) (by omega), f 1 (by decide) (by decide), f (hi + 1 - lo) (by omega) (by omega)]; simp [f (hi + 1) (by omega) (by omega)]
    · omega
  · unfold rng
    rw [e, List.map_map]
    have e2 : (if lo < hi + 1 then hi + 1 - lo else 0).toNat = (hi + 1 - lo).toNat := by split <;> omega
    rw [e2]
    apply List.map_congr_left
    intro i _
    show MV.int _ = MV.int _
    rw [Int.mul_one]
theorem nums_append (a b : List Rg) : numsOf (a ++ b) = numsOf a ++ numsOf b := by unfold numsOf; exact List.flatMap_append
theorem nums_one (q : Rg) : numsOf [q] = rng q.1 q.2 := by simp [numsOf]
theorem pickRev1 {h : Heap} {items : Array Value} {xs : List MV} (f : F2 (VRel h) items.toList xs) : F2 (VRel h) (slicePick items Option.none Option.none (some (-1))).toList xs.reverse := pick_rev f
theorem nums_take_len (rs : List Rg) (i : Nat) : (numsOf (rs.take i)).length ≤ (numsOf rs).length := by
  have e : numsOf rs = numsOf (rs.take i) ++ numsOf (rs.drop i) := by rw [← nums_append, List.take_append_drop]
  rw [e, List.length_append]; omega
/-- [n for low, high in L for n in range(low, high + 1)] -/
theorem WCo_nums {sc : Scope} {ρ : List (Str × MV)} {elt tg it tg2 it2 : Expr} {scope : Scope} {cpos : Pos} {k : Addr} {rs : List Rg} {Q : List MV → MS → Prop} (ok : compOk scope sc [] = true) (hs : ∀ env : Env, ∀ x, foldedSetIterable it2 env x = pure x)
    (hk : LAt σ k (rs.map rgV)) (hz : (numsOf rs).length ≤ 100000) (hb : ∀ q ∈ rs, 0 ≤ q.1 ∧ q.1 ≤ q.2 ∧ q.2 ≤ 20000)
    (t1 : ∀ q σ', WAL c n (relabelS scope sc) [] σ' tg (rgV q) fun ρ2 σ2 => σ2 = σ' ∧ WE c n (relabelS scope sc) ρ2 σ' it2 (fun u σ3 => σ3 = σ' ∧ u = .rng q.1 (q.2 + 1) 1) ∧ ∀ (m : Int) σ3, WAL c n (relabelS scope sc) ρ2 σ3 tg2 (.int m) fun ρ3 σ4 => Ext ρ2 ρ3 ∧ σ4 = σ3 ∧ WE c n (relabelS scope sc) ρ3 σ4 elt fun w σ5 => w = .int m ∧ σ5 = σ4)
    (fin : Q ((numsOf rs).map MV.int) σ) : WCo c n sc ρ σ (.ListComp elt [⟨tg, it, [], 0⟩, ⟨tg2, it2, [], 0⟩] scope cpos) scope (.ref k) Q := by
  refine WCo_2 [] [] (rs.map rgV) (fun i ac σ' => σ' = σ ∧ ac = (numsOf (rs.take i)).map MV.int) ok .nil hs ⟨rfl, rfl⟩ ?_ ?_ ?_
  · rintro i ac σ' ⟨rfl, rfl⟩; exact hk
  · rintro i y ac σ' hy ⟨rfl, rfl⟩
    rw [List.getElem?_map] at hy
    obtain ⟨q, e1, rfl⟩ := Option.map_eq_some_iff.mp hy
    have hq := hb q (List.mem_of_getElem? e1)
    have hz1 := nums_take_len rs (i + 1)
    rw [List.take_add_one, e1] at hz1 ⊢
    rw [nums_append] at hz1 ⊢
    have en : numsOf (some q).toList = rng q.1 q.2 := nums_one q
    rw [en] at hz1 ⊢
    intro A env s v a1 a2 a3 a4 a5
    refine wpAny_mono (t1 q σ' A env s v a1 a2 a3 a4 a5) (fun _ s' p => ?_) fun _ _ z => z
    obtain ⟨ρ2, σ2, f2, st2, rfl, w1, w2⟩ := p
    refine ⟨ρ2, σ2, f2, st2, (fun x v e => by simp [lk] at e), WI_nil (andT (WE_mono w1 fun u σ3 h => ?_))⟩
    obtain ⟨rfl, rfl⟩ := h
    refine ⟨(rng q.1 q.2).map MV.int, fun j ac σ' => σ' = σ3 ∧ ac = (numsOf (rs.take i) ++ (rng q.1 q.2).take j).map MV.int, ⟨rfl, by simp⟩, ?_, ?_, ?_⟩
    · rintro j ac σ' ⟨rfl, rfl⟩
      refine ⟨rangeItems hq.1 hq.2.1 hq.2.2, ?_⟩
      rw [List.length_append] at hz1
      have := List.length_take_le j (rng q.1 q.2)
      simp only [List.length_map, List.length_append]
      have : ((rng q.1 q.2).take j).length ≤ (rng q.1 q.2).length := by rw [List.length_take]; omega
      omega
    · rintro j y ac σ' hy ⟨rfl, rfl⟩
      rw [List.getElem?_map] at hy
      obtain ⟨m, e2, rfl⟩ := Option.map_eq_some_iff.mp hy
      intro A env s v a1 a2 a3 a4 a5
      refine wpAny_mono (w2 m σ' A env s v a1 a2 a3 a4 a5) (fun _ s' p => ?_) fun _ _ z => z
      obtain ⟨ρ3, σ4, f4, st4, hE, rfl, w3⟩ := p
      refine ⟨ρ3, σ4, f4, st4, hE, WI_nil (andT (WE_mono w3 fun u σ5 h => ?_))⟩
      obtain ⟨rfl, rfl⟩ := h
      refine ⟨rfl, ?_⟩
      rw [List.take_add_one (i := j), e2]; simp
    · rintro ac σ' ⟨rfl, rfl⟩
      refine ⟨rfl, ?_⟩
      rw [List.length_map, List.take_length]
  · rintro ac σ' ⟨rfl, rfl⟩
    rw [List.length_map, List.take_length]
    exact fin
theorem Nm.le : ∀ {rs : List Rg} {B : Int}, Nm rs → (∀ n, inR rs n → n ≤ B) → ∀ q ∈ rs, 0 ≤ q.1 ∧ q.1 ≤ q.2 ∧ q.2 ≤ B := fun {rs B} h hB q hq =>
  have a := h.memOk hq
  ⟨a.1, a.2, hB _ ⟨q, hq, a.2, Int.le_refl _⟩⟩
theorem inR_take {rs : List Rg} {m : Nat} {n : Int} (h : inR (rs.take m) n) : inR rs n := by
  obtain ⟨q, hq, r⟩ := h; exact ⟨q, List.mem_of_mem_take hq, r⟩
theorem nums_rev_len : ∀ rs : List Rg, (numsOf rs.reverse).length = (numsOf rs).length
  | [] => rfl
  | q :: r => by
    have e : numsOf (q :: r) = numsOf [q] ++ numsOf r := nums_append [q] r
    rw [List.reverse_cons, nums_append, e, List.length_append, List.length_append, nums_rev_len r]; omega
theorem c_tell (P : PC c fI fL fV) {w b ca : Addr} {S : St} {a : Ad} {A T : Nat} {room : Int} {Q : MV → MS → Prop} (X : Hold σ w b ca S a) (I : Inv A T S) (hT : T ≤ 300)
    (h0 : ∀ σ', Hold σ' w b ca S a → (room = 400 → S.ranges = []) → Q (.bool true) σ')
    (h1 : ∀ σ' q r, Hold σ' w b ca { S with acks := S.acks ++ [(enc (q :: r)).toArray] } a → AckOk S.came (enc (q :: r)).toArray → (room = 400 → q :: r = S.ranges) → Q (.bool true) σ') : CC c (n + 4) "_law_tell" [.ref w, .int room] σ Q := by
  have F := P.fn 38 (by decide)
  refine CC_def (ns := ["world", "room"]) P.G F (fun _ _ _ => len2 fun _ _ => rfl) (by decide +kernel) (by decide +kernel) rfl ?_ rfl rfl rfl
  apply CS_cons
  refine C1S.of ?_
  apply S_if
  repeat k_subL
  refine ⟨w, _, _, rfl, X.W.hw, by k_places, ?_⟩
  repeat k_subL
  refine ⟨by simp, fun p hp => ?_⟩
  have gp : Grow σ (upd σ p (.list [])) := .new hp
  have X1 := X.grow gp
  repeat k_subL
  refine o_eqNil (.inl X1.W.hr) (.inl upd_eq) ?_
  repeat k_subL
  cases hr : S.ranges with
  | nil =>
    refine ⟨fun _ => ?_, fun z => by simp at z⟩
    repeat k_subL
    exact h0 _ X1 fun _ => hr
  | cons q r =>
    refine ⟨fun z => by simp at z, fun _ => ?_⟩
    have hN : Nm (q :: r) := hr ▸ I.nm
    have hc : ∀ n, inR (q :: r) n → n ∈ S.came := fun n hn => I.keptC n ((I.rk n).mp (hr ▸ hn))
    have hq := I.rgBig hN hc
    have few := I.few hN hc
    have hrl : r.length ≤ 40 := by have := few.2; simp at this; omega
    have hk1 : (upd σ p (.list [])) a.r = some (.list ((q :: r).map rgV)) := by have := X1.W.hr; rwa [hr] at this
    have vq := vsz_or q.2
    have vd := vsz_or (q.2 - q.1)
    repeat k_subL
    refine CE.of (WE_call P.G (by decide +kernel) (P.fn 23 (by decide)) (fun _ => rfl) ?_)
    repeat k_subL
    refine ⟨w, _, _, rfl, X1.W.hw, by k_places, ?_⟩
    repeat k_subL
    refine w_fitting P hk1 (by omega) hN hq (fun z => ?_) (fun m hm hlen h400 => ?_)
    · intro σ2 t g2 t0 ht
      have X2 := X1.grow g2
      repeat k_subL
      refine CT.of ?_
      repeat k_subL
      refine ⟨by simp, fun p2 hp2 => ?_⟩
      have X3 := X2.grow (Grow.new (mo := .list []) hp2)
      repeat k_subL
      have tp : t ≠ p2 := fun e => by rw [e, hp2] at ht; cases ht
      refine o_eqNil (xs := []) (.inl (upd_nn ht tp)) (.inl upd_eq) ?_
      repeat k_subL
      refine ⟨fun _ => ?_, fun z => by simp at z⟩
      repeat k_subL
      refine CE_built P.G (by decide +kernel) P.bLen (fun _ => ⟨rfl, rfl⟩) ?_
      repeat k_subL
      refine CE_call P.G (by decide +kernel) (P.fn 22 (by decide)) (fun _ => rfl) ?_
      refine CL.of ?_
      repeat k_subL
      refine WE_sliceL (fun _ _ => ⟨_, rfl⟩) ?_
      repeat k_subL
      refine ⟨w, _, _, rfl, X3.W.hw, by k_places, ?_⟩
      repeat k_subL
      have hk3 := X3.W.hr
      rw [hr] at hk3
      refine ⟨_, _, _, rfl, .inl hk3, by simp; omega, by simp, fun h' items f => pickUpto f 1 _ rfl, fun sl hsl => ?_⟩
      repeat k_subL
      have X4 := X3.grow (Grow.new (mo := .list (((q :: r).map rgV).take 1)) hsl)
      refine c_put_ranges P (q := q) (r := []) (.inl upd_eq) (by simp) ⟨hN.1, hN.2.1, (fun _ h => nomatch h), trivial⟩ hq fun σ5 g5 => ?_
      have el := enc_len (q := q) (r := [])
      have e0 : vsz ((0 : Nat) : Int) = 1 := by decide
      simp only [List.length_nil, gps, psz, List.map_nil, List.sum_nil] at el
      rw [e0] at el
      repeat k_subL
      refine b_lenB (by simp; omega) ?_
      repeat k_subL
      have e : decide ((((enc [q]).toArray.size : Nat) : Int) > room) = true := decide_eq_true (by rw [List.size_toArray]; omega)
      rw [e]
      exact h0 _ (X4.grow g5) fun e => by omega
    · intro σ2 t g2 t0 ht
      have X2 := X1.grow g2
      rw [List.take_succ_cons] at ht hlen
      generalize htl : r.take m = tl at ht hlen
      have hT1 : Nm (q :: tl) := by have := hN.take (m + 1); rwa [List.take_succ_cons, htl] at this
      have hTc : ∀ n, inR (q :: tl) n → n ∈ S.came := fun n hn => hc n (by
        have : inR ((q :: r).take (m + 1)) n := by rw [List.take_succ_cons, htl]; exact hn
        exact inR_take this)
      have htll : tl.length ≤ 40 := by rw [← htl, List.length_take]; omega
      have fewT := (I.few hT1 hTc).1
      have all : room = 400 → q :: tl = S.ranges := fun e => by rw [hr, ← htl, h400 e, List.take_length]
      repeat k_subL
      refine CT.of ?_
      repeat k_subL
      refine ⟨by simp, fun p2 hp2 => ?_⟩
      have X3 := X2.grow (Grow.new (mo := .list []) hp2)
      have tp : t ≠ p2 := fun e => by rw [e, hp2] at ht; cases ht
      have ht3 := upd_nn (o := .list []) ht tp
      repeat k_subL
      refine o_eqNil (.inl ht3) (.inl upd_eq) ?_
      repeat k_subL
      refine ⟨fun z => by simp at z, fun _ => ?_⟩
      generalize upd σ2 p2 (.list []) = σ3 at X3 ht3
      obtain ⟨pre, y, hy⟩ : ∃ pre y, q :: tl = pre ++ [y] := ⟨(q :: tl).dropLast, (q :: tl).getLast (by simp), (List.dropLast_concat_getLast (by simp)).symm⟩
      have ht4 := ht3
      rw [hy, List.map_append] at ht4
      have hpl : pre.length ≤ 40 := by have := congrArg List.length hy; simp at this; omega
      repeat k_subL
      refine g_listLast (.inl ht4) (by simp; omega) ?_
      repeat k_subL
      refine CS_cons (C1S.of ?_)
      refine S_assignComp (fn := []) (by decide +kernel) (fun _ _ => rfl) (fun env he => by cases env; cases he; rfl) (by decide +kernel) ?_
      refine WE_sliceL (fun _ _ => ⟨_, rfl⟩) ?_
      repeat k_subL
      refine ⟨t, _, _, rfl, .inl ht3, by simp; omega, by simp, fun h' items f => pickRev1 f, fun sl hsl => ?_⟩
      have g4 : Grow σ3 _ := Grow.new (mo := .list ((q :: tl).map rgV).reverse) hsl
      have X4 := X3.grow g4
      refine WCo_nums (rs := (q :: tl).reverse) (by decide +kernel) (fun _ _ => rfl) (.inl (by rw [upd_eq, List.map_reverse])) (by rw [nums_rev_len]; omega) ?_ ?_ ?_
      · intro z hz
        exact Nm.le (B := 20000) hT1 (fun n hn => by have := (I.cameBig (hTc n hn)).2; omega) z (List.mem_reverse.mp hz)
      · intro z σ'
        repeat k_subL
        refine ⟨rfl, ?_, fun m σ3 => ?_⟩
        · repeat k_subL
          refine b_range2 ?_
          exact ⟨rfl, rfl⟩
        · repeat k_subL
          refine ⟨rfl, ?_⟩
          repeat k_subL
          exact ⟨rfl, rfl⟩
      intro nk hnk
      have g5 := g4.turn (g4.none hnk) (mo := .list ((numsOf (q :: tl).reverse).map MV.int))
      have X5 := X3.grow g5
      have hnk5 : (upd (upd σ3 sl (.list ((q :: tl).map rgV).reverse)) nk (.list ((numsOf (q :: tl).reverse).map MV.int))) nk = some (.list ((numsOf (q :: tl).reverse).map MV.int)) := upd_eq
      have ht5 := g5 _ _ ht3
      generalize (upd (upd σ3 sl (.list ((q :: tl).map rgV).reverse)) nk (.list ((numsOf (q :: tl).reverse).map MV.int))) = σ5 at X5 hnk5 ht5
      repeat k_subL
      refine CE_call P.G (by decide +kernel) (P.fn 22 (by decide)) (fun _ => rfl) ?_
      refine CL.of ?_
      repeat k_subL
      refine c_put_ranges P (q := q) (r := tl) (.inl ht5) (by omega) hT1 hq fun σ6 g6 => ?_
      have X6 := X5.grow g6
      have hnk6 := g6 _ _ hnk5
      repeat k_subL
      refine CS_cons (C1S.of (S_expr (fun _ => rfl) ?_))
      refine WE_append (fun _ => rfl) (fun _ => rfl) rfl ?_
      repeat k_subL
      refine ⟨w, _, _, rfl, X6.W.hw, by k_places, ?_⟩
      refine ⟨_, rfl, ⟨_, X6.W.hac⟩, ?_⟩
      repeat k_subL
      have hal := I.acksL
      refine ⟨_, X6.W.hac, by simp; omega, rfl, ?_⟩
      have X7 := X6.atAcks (S.acks ++ [(enc (q :: tl)).toArray])
      have ec : (S.acks ++ [(enc (q :: tl)).toArray]).map MV.bytes = List.map MV.bytes S.acks ++ [MV.bytes (enc (q :: tl)).toArray] := by simp
      rw [ec] at X7
      have nac : nk ≠ a.ac := fun e => by
        have h1 := X5.W.hac
        rw [← e, hnk5] at h1
        have h2 := congrArg (fun o => match o with | some (MO.list xs) => xs | _ => []) h1
        have h3 : (numsOf (q :: tl).reverse).map MV.int = S.acks.map MV.bytes := h2
        have h4 : q.2 ∈ numsOf (q :: tl).reverse := mem_nums.mpr ⟨q, by simp, hT1.2.1, Int.le_refl _⟩
        cases hA : S.acks with
        | nil => rw [hA] at h3; rw [List.map_eq_nil_iff.mp h3] at h4; cases h4
        | cons x xs =>
          rw [hA] at h3
          cases hB : numsOf (q :: tl).reverse with
          | nil => rw [hB] at h4; cases h4
          | cons z zs => rw [hB] at h3; simp at h3
      have hnk7 := upd_nn (o := .list (List.map MV.bytes S.acks ++ [MV.bytes (enc (q :: tl)).toArray])) hnk6 nac
      generalize (upd σ6 a.ac (.list (List.map MV.bytes S.acks ++ [MV.bytes (enc (q :: tl)).toArray]))) = σ7 at X7 hnk7
      repeat k_subL
      refine CE.of ?_
      repeat k_subL
      refine WE_comp (fn := ["least"]) (by decide +kernel) (fun _ _ => rfl) ?_
      repeat k_subL
      refine ⟨w, _, _, rfl, X7.W.hw, by k_places, ?_⟩
      refine WCo_1 ["least"] [.int y.1] (S.kept.map MV.int) (fun i ac σ' => σ' = σ7 ∧ ac = ((S.kept.take i).filter fun n => decide (n ≥ y.1)).map MV.int) (by decide +kernel) (.cons (by k_places) .nil) ⟨rfl, rfl⟩ ?_ ?_ ?_
      · rintro i ac σ' ⟨rfl, rfl⟩
        have := List.length_filter_le (fun n => decide (n ≥ y.1)) (S.kept.take i)
        have := I.keptFew
        exact ⟨.inl X7.W.hk, by simp at *; omega⟩
      · rintro i u ac σ' hu ⟨rfl, rfl⟩
        rw [List.getElem?_map] at hu
        obtain ⟨v, e1, rfl⟩ := Option.map_eq_some_iff.mp hu
        repeat k_subL
        rw [List.take_add_one, e1]
        refine ⟨fun z1 => ?_, fun z1 => ?_⟩
        · repeat k_subL
          have z2 : y.1 ≤ v := by simpa using z1
          exact ⟨rfl, by simp [List.filter_append, z2]⟩
        · have z2 : ¬ y.1 ≤ v := by simpa using z1
          exact ⟨rfl, by simp [List.filter_append, z2]⟩
      rintro ac σ' ⟨rfl, rfl⟩
      intro lk1 hlk1
      rw [List.length_map, List.take_length]
      repeat k_subL
      have keptF : (S.kept.filter fun n => decide (n ≥ y.1)).length < 64 := by
        have := List.length_filter_le (fun n => decide (n ≥ y.1)) S.kept
        have := I.keptFew
        omega
      refine b_sorted (ns := S.kept.filter fun n => decide (n ≥ y.1)) (.inl upd_eq) keptF fun ns' s1 hperm hsort hs1 => ?_
      repeat k_subL
      have g8 : Grow σ' _ := (Grow.new (mo := .list ((S.kept.filter fun n => decide (n ≥ y.1)).map MV.int)) hlk1).trans (Grow.new (mo := .list (ns'.map MV.int)) hs1)
      refine o_eqL (ns := numsOf (q :: tl).reverse) (ms := ns') (.inl (g8 _ _ hnk7)) (.inl upd_eq) ?_
      have hall : S.ranges = pre ++ y :: r.drop m := by
        rw [hr]
        have e : q :: r = (q :: tl) ++ r.drop m := by rw [← htl, List.cons_append, List.take_append_drop]
        rw [e, hy, List.append_assoc]; rfl
      have te : numsOf (q :: tl).reverse = ns' := by
        rw [hy]
        exact tell_eq (hall ▸ I.nm) I.keptN (fun n => by rw [← hall]; exact I.rk n) hperm hsort
      rw [te, decide_eq_true rfl]
      repeat k_subL
      refine b_lenB (by have := enc_len (q := q) (r := tl); have := vsz_or q.2; have := vsz_or (q.2 - q.1); have := vsz_or (tl.length : Nat); have := (psz_le (gps q.1 tl)).2; rw [gps_length] at this; rw [List.size_toArray]; omega) ?_
      repeat k_subL
      have e : decide ((((enc (q :: tl)).toArray.size : Nat) : Int) ≤ room) = true := decide_eq_true (by rw [List.size_toArray]; omega)
      rw [e]
      exact h1 _ q tl (X7.grow g8) ⟨q, tl, hT1, hTc, rfl⟩ all
theorem rangeItems0 {σ : MS} {m : Nat} (h1 : m ≤ 20000) : Items σ (.rng 0 (m : Int) 1) ((List.range m).map fun i : Nat => MV.int (i : Int)) := by
  have f : ∀ z : Int, -20001 ≤ z → z ≤ 20001 → Builtin.Range.rangeFitsLong z = true := fun z a b => by unfold Builtin.Range.rangeFitsLong; simp; omega
  have e : Builtin.Range.rangeSize 0 (m : Int) 1 = (m : Int) := by
    unfold Builtin.Range.rangeSize
    rw [if_pos (by decide)]
    split
    · rw [Int.ediv_one]; omega
    · omega
  refine ⟨?_, ?_⟩
  · unfold Builtin.Range.small
    rw [e]
    simp only [f 0 (by decide) (by decide), f (m : Int) (by omega) (by omega), f 1 (by decide) (by decide)]
    simp [f (m : Int) (by omega) (by omega)]
  · rw [e, Int.toNat_natCast]
    apply List.map_congr_left
    intro i _
    show MV.int _ = MV.int _
    congr 1; omega
/-- [n for n in L if TEST], TEST without effect -/
theorem WCo_filter {sc : Scope} {ρ : List (Str × MV)} {elt tg it test : Expr} {scope : Scope} {cpos : Pos} {k : Addr} {ns : List Int} {Q : List MV → MS → Prop} (fn : List Str) (vs : List MV) (p : Int → Bool) (ok : compOk scope sc fn = true) (hl : LkAll ρ fn vs)
    (hk : LAt σ k (ns.map MV.int)) (hz : ns.length ≤ 100000)
    (t : ∀ m ∈ ns, WAL c n (relabelS scope sc) (fn.zip vs) σ tg (.int m) fun ρ2 σ2 => Ext (fn.zip vs) ρ2 ∧ σ2 = σ ∧ WB c n (relabelS scope sc) ρ2 σ test fun ok σ3 => ok = p m ∧ σ3 = σ ∧ (p m = true → WE c n (relabelS scope sc) ρ2 σ elt fun w σ4 => w = .int m ∧ σ4 = σ))
    (fin : Q ((ns.filter p).map MV.int) σ) : WCo c n sc ρ σ (.ListComp elt [⟨tg, it, [test], 0⟩] scope cpos) scope (.ref k) Q := by
  refine WCo_1 fn vs (ns.map MV.int) (fun i ac σ' => σ' = σ ∧ ac = ((ns.take i).filter p).map MV.int) ok hl ⟨rfl, rfl⟩ ?_ ?_ ?_
  · rintro i ac σ' ⟨rfl, rfl⟩
    have := List.length_filter_le p (ns.take i)
    have : (ns.take i).length ≤ ns.length := by rw [List.length_take]; omega
    exact ⟨hk, by rw [List.length_map]; omega⟩
  · rintro i y ac σ' hy ⟨rfl, rfl⟩
    rw [List.getElem?_map] at hy
    obtain ⟨m, e1, rfl⟩ := Option.map_eq_some_iff.mp hy
    intro A env s v a1 a2 a3 a4 a5
    refine wpAny_mono (t m (List.mem_of_getElem? e1) A env s v a1 a2 a3 a4 a5) (fun _ s' q => ?_) fun _ _ z => z
    obtain ⟨ρ2, σ2, f2, st2, hE, rfl, w1⟩ := q
    refine ⟨ρ2, σ2, f2, st2, hE, WI_one ?_⟩
    intro A env s a1 a2 a3 a4
    refine wpAny_mono (w1 A env s a1 a2 a3 a4) (fun _ s' q => ?_) fun _ _ z => z
    obtain ⟨u, σ3, hu, st3, rfl, rfl, w2⟩ := q
    rw [List.take_add_one (i := i), e1]
    refine ⟨_, _, hu, st3, fun z => WE_mono (w2 z) fun w σ4 q => ?_, fun z => ⟨rfl, ?_⟩⟩
    · obtain ⟨rfl, rfl⟩ := q
      exact ⟨rfl, by simp [List.filter_append, z]⟩
    · simp [List.filter_append, z]
  · rintro ac σ' ⟨rfl, rfl⟩
    rw [List.length_map, List.take_length]
    exact fin
/-- the reader -/
def RdAt (σ : MS) (k dx : Addr) (d : Array UInt8) (p : List UInt8) : Prop := σ k = some (.inst dx [("data", .bytes d), ("at", .int (p.length : Nat))])
theorem encp_split {ps : List Rg} {i : Nat} {p : Rg} (h : ps[i]? = some p) : encp ps = encp (ps.take i) ++ vi p.1 ++ vi p.2 ++ encp (ps.drop (i + 1)) := by
  have e : ps = ps.take i ++ p :: ps.drop (i + 1) := by rw [← drop_at h, List.take_append_drop]
  have e2 : encp (p :: ps.drop (i + 1)) = vi p.1 ++ vi p.2 ++ encp (ps.drop (i + 1)) := by simp [encp]
  conv => lhs; rw [e]
  rw [encp_append, e2, List.append_assoc, List.append_assoc, List.append_assoc]
theorem w_hear (P : PC c fI fL fV) {w b ca : Addr} {S : St} {a : Ad} {A T : Nat} {q : Rg} {r : List Rg} {Q : MV → MS → Prop} (X : Hold σ w b ca S a) (I : Inv A T S) (hT : T ≤ 300) (hN : Nm (q :: r)) (hc : ∀ n, inR (q :: r) n → n ∈ S.came)
    (h : ∀ σ' a', Hold σ' w b ca (S.hears q r) a' → a'.ac = a.ac → Q (.bool true) σ') : WC c (n + 4) "_law_hear" [.ref w, .bytes (enc (q :: r)).toArray] σ Q := by
  have F := P.fn 39 (by decide)
  refine WC_def (ns := ["world", "data"]) P.G F (fun _ _ _ => len2 fun _ _ => rfl) (by decide +kernel) (by decide +kernel) rfl ?_ rfl rfl rfl
  have few := I.few hN hc
  have hrl : r.length ≤ 40 := by have := few.2; simp at this; omega
  obtain ⟨n1, n2, n3, n4⟩ := id hN
  have hq := I.rgBig hN hc
  have hgo := gps_ok r q.1 q.1 (Int.le_refl _) n4 n3
  have hel := enc_len (q := q) (r := r)
  have vq := vsz_or q.2
  have vd := vsz_or (q.2 - q.1)
  have vl := vsz_or (r.length : Nat)
  have hps := (psz_le (gps q.1 r)).2
  rw [gps_length] at hps
  generalize hD : (enc (q :: r)).toArray = d
  have hdz : d.size ≤ 100000 := by rw [← hD, List.size_toArray]; omega
  have hdl : d.toList = vi q.2 ++ vi 5 ++ vi (r.length : Nat) ++ vi (q.2 - q.1) ++ encp (gps q.1 r) := by rw [← hD]; rfl
  generalize hP5 : vi q.2 ++ vi 5 ++ vi (r.length : Nat) ++ vi (q.2 - q.1) = p5 at hdl
  apply WS_cons
  apply S_assign
  · intro _ _; rfl
  · intro _ _; rfl
  · intro _; rfl
  refine WE_make P.G P.rd (by decide +kernel) (fun _ => rfl) ?_
  repeat k_subL
  intro k dx hk hdx hne
  refine w_init P upd_eq ?_
  refine ⟨rfl, ?_⟩
  have g0 : Grow σ (upd (upd (upd (upd σ dx (.aux k)) k (.inst dx [])) k (.inst dx [("data", .bytes d)])) k (.inst dx [("data", .bytes d), ("at", .int 0)])) := (((Grow.new hdx).turn hk).turn hk).turn hk
  have r0 : RdAt (upd (upd (upd (upd σ dx (.aux k)) k (.inst dx [])) k (.inst dx [("data", .bytes d)])) k (.inst dx [("data", .bytes d), ("at", .int 0)])) k dx d [] := upd_eq
  generalize (upd (upd (upd (upd σ dx (.aux k)) k (.inst dx [])) k (.inst dx [("data", .bytes d)])) k (.inst dx [("data", .bytes d), ("at", .int 0)])) = σ0 at g0 r0
  repeat k_subL
  refine WE_varint P (pre := []) (post := vi 5 ++ vi (r.length : Nat) ++ vi (q.2 - q.1) ++ encp (gps q.1 r)) (m := q.2) rfl (by k_places) r0 (by rw [hdl, ← hP5]; simp) hdz (by omega) hq ?_
  have g1 := g0.turn hk (mo := .inst dx [("data", .bytes d), ("at", .int ([] ++ vi q.2).length)])
  have r1 : RdAt (upd σ0 k (.inst dx [("data", .bytes d), ("at", .int ([] ++ vi q.2).length)])) k dx d ([] ++ vi q.2) := upd_eq
  generalize (upd σ0 k (.inst dx [("data", .bytes d), ("at", .int ([] ++ vi q.2).length)])) = σ1 at g1 r1
  repeat k_subL
  refine WE_varint P (pre := [] ++ vi q.2) (post := vi (r.length : Nat) ++ vi (q.2 - q.1) ++ encp (gps q.1 r)) (m := 5) rfl (by k_places) r1 (by rw [hdl, ← hP5]; simp) hdz (by omega) (by omega) ?_
  have g2 := g1.turn hk (mo := .inst dx [("data", .bytes d), ("at", .int ([] ++ vi q.2 ++ vi 5).length)])
  have r2 : RdAt (upd σ1 k (.inst dx [("data", .bytes d), ("at", .int ([] ++ vi q.2 ++ vi 5).length)])) k dx d ([] ++ vi q.2 ++ vi 5) := upd_eq
  generalize (upd σ1 k (.inst dx [("data", .bytes d), ("at", .int ([] ++ vi q.2 ++ vi 5).length)])) = σ2 at g2 r2
  repeat k_subL
  refine WE_varint P (pre := [] ++ vi q.2 ++ vi 5) (post := vi (q.2 - q.1) ++ encp (gps q.1 r)) (m := (r.length : Nat)) rfl (by k_places) r2 (by rw [hdl, ← hP5]; simp) hdz (by omega) (by omega) ?_
  have g3 := g2.turn hk (mo := .inst dx [("data", .bytes d), ("at", .int ([] ++ vi q.2 ++ vi 5 ++ vi (r.length : Nat)).length)])
  have r3 : RdAt (upd σ2 k (.inst dx [("data", .bytes d), ("at", .int ([] ++ vi q.2 ++ vi 5 ++ vi (r.length : Nat)).length)])) k dx d ([] ++ vi q.2 ++ vi 5 ++ vi (r.length : Nat)) := upd_eq
  generalize (upd σ2 k (.inst dx [("data", .bytes d), ("at", .int ([] ++ vi q.2 ++ vi 5 ++ vi (r.length : Nat)).length)])) = σ3 at g3 r3
  repeat k_subL
  refine WE_varint P (pre := [] ++ vi q.2 ++ vi 5 ++ vi (r.length : Nat)) (post := encp (gps q.1 r)) (m := q.2 - q.1) rfl (by k_places) r3 (by rw [hdl, ← hP5]; simp) hdz (by omega) (by omega) ?_
  have e5 : [] ++ vi q.2 ++ vi 5 ++ vi (r.length : Nat) ++ vi (q.2 - q.1) = p5 := by rw [← hP5]; rfl
  rw [e5]
  have g4 := g3.turn hk (mo := .inst dx [("data", .bytes d), ("at", .int p5.length)])
  have r4 : RdAt (upd σ3 k (.inst dx [("data", .bytes d), ("at", .int p5.length)])) k dx d p5 := upd_eq
  generalize (upd σ3 k (.inst dx [("data", .bytes d), ("at", .int p5.length)])) = σ4 at g4 r4
  repeat k_subL
  refine WS_cons (S_assignComp (fn := ["reader"]) (by decide +kernel) (fun _ _ => rfl) (fun env he => by cases env; cases he; rfl) (by decide +kernel) ?_)
  repeat k_subL
  refine b_range1 ?_
  refine WCo_1 ["reader"] [.ref k] ((List.range r.length).map fun i : Nat => MV.int (i : Int)) (fun i ac σ' => Grow σ σ' ∧ RdAt σ' k dx d (p5 ++ encp ((gps q.1 r).take i)) ∧ ac = ((gps q.1 r).take i).map rgV) (by decide +kernel) (.cons (by k_places) .nil) ⟨g4, by simpa [encp] using r4, rfl⟩ ?_ ?_ ?_
  · rintro i ac σ' ⟨_, _, rfl⟩
    exact ⟨rangeItems0 (by omega), by rw [List.length_map, List.length_take, gps_length]; omega⟩
  · rintro i y ac σ' hy ⟨g, rd, rfl⟩
    have hi : i < r.length := by have := (List.getElem?_eq_some_iff.mp hy).1; simpa using this
    have hi2 : i < (gps q.1 r).length := by rw [gps_length]; exact hi
    have e1 : (gps q.1 r)[i]? = some (gps q.1 r)[i] := by simp [hi2]
    generalize (gps q.1 r)[i] = p at e1
    have hp := hgo p (List.mem_of_getElem? e1)
    have es := encp_split e1
    rw [List.getElem?_map] at hy
    obtain ⟨z, _, rfl⟩ := Option.map_eq_some_iff.mp hy
    repeat k_subL
    refine WE_varint P (pre := p5 ++ encp ((gps q.1 r).take i)) (post := vi p.2 ++ encp ((gps q.1 r).drop (i + 1))) (m := p.1) rfl (by k_places) rd (by rw [hdl, es]; simp only [List.append_assoc]) hdz (by omega) (by omega) ?_
    repeat k_subL
    refine WE_varint P (pre := p5 ++ encp ((gps q.1 r).take i) ++ vi p.1) (post := encp ((gps q.1 r).drop (i + 1))) (m := p.2) rfl (by k_places) upd_eq (by rw [hdl, es]; simp only [List.append_assoc]) hdz (by omega) (by omega) ?_
    repeat k_subL
    have e2 : encp ((gps q.1 r).take (i + 1)) = encp ((gps q.1 r).take i) ++ vi p.1 ++ vi p.2 := by rw [List.take_add_one (i := i), e1, encp_append]; simp [encp]
    refine ⟨(g.turn hk).turn hk, ?_, by rw [List.take_add_one (i := i), e1, List.map_append]; rfl⟩
    rw [e2]
    have e3 : p5 ++ (encp ((gps q.1 r).take i) ++ vi p.1 ++ vi p.2) = p5 ++ encp ((gps q.1 r).take i) ++ vi p.1 ++ vi p.2 := by simp only [List.append_assoc]
    rw [e3]
    exact upd_eq
  rintro ac σ5 ⟨g5, r5, rfl⟩
  intro pr hpr
  rw [List.length_map, List.length_range] at r5 ⊢
  have et : (gps q.1 r).take r.length = gps q.1 r := by rw [← gps_length r q.1, List.take_length]
  rw [et] at r5 ⊢
  have g6 := g5.turn (g5.none hpr) (mo := .list ((gps q.1 r).map rgV))
  have kpr : k ≠ pr := fun e => by have := r5; unfold RdAt at this; rw [e, hpr] at this; cases this
  have r6 : RdAt (upd σ5 pr (.list ((gps q.1 r).map rgV))) k dx d (p5 ++ encp (gps q.1 r)) := upd_nn r5 kpr
  have hp6 : (upd σ5 pr (.list ((gps q.1 r).map rgV))) pr = some (.list ((gps q.1 r).map rgV)) := upd_eq
  generalize upd σ5 pr (.list ((gps q.1 r).map rgV)) = σ6 at g6 r6 hp6
  repeat k_subL
  refine WE_call P.G (by decide +kernel) (P.fn 21 (by decide)) (fun _ => rfl) ?_
  repeat k_subL
  refine w_ranges_of P (.inl hp6) (by omega) hN fun σ7 td g67 htd0 htd => ?_
  have g7 := g6.trans g67
  have r7 : RdAt σ7 k dx d (p5 ++ encp (gps q.1 r)) := g67 _ _ r6
  repeat k_subL
  refine WS_cons (S_assign (fun env he => by cases env; cases he; rfl) (fun env he => by cases env; cases he; rfl) (fun _ => rfl) ?_)
  refine WE_comp (fn := []) (by decide +kernel) (fun _ _ => rfl) ?_
  repeat k_subL
  refine WCo_nums (rs := q :: r) (by decide +kernel) (fun _ _ => rfl) (.inl htd) (by omega) ?_ ?_ ?_
  · exact Nm.le (B := 20000) hN (fun n hn => by have := (I.cameBig (hc n hn)).2; omega)
  · intro z σ'
    repeat k_subL
    refine ⟨rfl, ?_, fun m σ3 => ?_⟩
    · repeat k_subL
      refine b_range2 ?_
      exact ⟨rfl, rfl⟩
    · repeat k_subL
      refine ⟨rfl, ?_⟩
      repeat k_subL
      exact ⟨rfl, rfl⟩
  intro nk hnk
  have g78 : Grow σ7 (upd σ7 nk (.list ((numsOf (q :: r)).map MV.int))) := .new hnk
  have hnk8 : (upd σ7 nk (.list ((numsOf (q :: r)).map MV.int))) nk = some (.list ((numsOf (q :: r)).map MV.int)) := upd_eq
  generalize upd σ7 nk (.list ((numsOf (q :: r)).map MV.int)) = σ8 at g78 hnk8
  have g8 := g7.trans g78
  have r8 : RdAt σ8 k dx d (p5 ++ encp (gps q.1 r)) := g78 _ _ r7
  have htd8 := g78 _ _ htd
  repeat k_subL
  refine ⟨fun _ => ?_, fun z => by simp at z⟩
  repeat k_subL
  refine WE_meth P.G P.rd P.left P.leftF P.leftK rfl ?_
  repeat k_subL
  refine ⟨k, dx, _, rfl, r8, lk_no (by decide +kernel) (lk_no (by decide +kernel) rfl), w_left P r8 hdz ?_⟩
  have e0 : ((d.size : Nat) : Int) - ((p5 ++ encp (gps q.1 r)).length : Nat) = 0 := by rw [← hdl, Array.length_toList]; omega
  rw [e0]
  repeat k_subL
  refine ⟨fun _ => ?_, fun z => by simp at z⟩
  repeat k_subL
  refine WE_call P.G (by decide +kernel) (P.fn 29 (by decide)) (fun _ => rfl) ?_
  repeat k_subL
  refine w_largest_of P (q := q) (rs := r) (.inl htd8) (by simp; omega) ?_
  repeat k_subL
  have hqn : q.2 ∈ numsOf (q :: r) := mem_nums.mpr hN.hiLow
  refine b_maxL (ns := numsOf (q :: r)) (.inl hnk8) (fun e => by rw [e] at hqn; cases hqn) fun mx hm1 hm2 => ?_
  have emx : mx = q.2 := by
    have h1 := hm2 _ hqn
    have h2 := mem_nums.mp hm1
    rw [inR_cons] at h2
    rcases h2 with h2 | ⟨p, hp, h2⟩
    · omega
    · have := n3 p hp; omega
  rw [emx]
  repeat k_subL
  refine ⟨fun z => by simp at z, fun _ => ?_⟩
  have X8 := X.grow g8
  repeat k_subL
  refine WE_comp (fn := ["world"]) (by decide +kernel) (fun _ _ => rfl) ?_
  repeat k_subL
  refine WCo_filter ["world"] [.ref w] (fun m => !decide (m ∈ S.came)) (by decide +kernel) (.cons (by k_places) .nil) (.inl hnk8) (by omega) (fun m hm => ?_) ?_
  · repeat k_subL
    refine ⟨rfl, ?_⟩
    repeat k_subL
    refine ⟨w, _, _, rfl, X8.W.hw, by k_places, ?_⟩
    refine o_notin (ns := S.came) (.inl X8.W.hcm) ?_
    repeat k_subL
    refine ⟨rfl, rfl, fun _ => ?_⟩
    repeat k_subL
    exact ⟨rfl, rfl⟩
  have ef : ((numsOf (q :: r)).filter fun m => !decide (m ∈ S.came)) = [] := by
    rw [List.filter_eq_nil_iff]
    intro x hx
    simpa using hc x (mem_nums.mp hx)
  rw [ef]
  intro y1 hy1
  repeat k_subL
  refine ⟨by simp, fun y2 hy2 => ?_⟩
  have y12 : y1 ≠ y2 := fun e => by rw [e, upd_eq] at hy2; cases hy2
  repeat k_subL
  refine o_neNil (xs := []) (.inl (upd_nn upd_eq y12)) (.inl upd_eq) ?_
  repeat k_subL
  refine ⟨fun z => by simp at z, fun _ => ?_⟩
  have g9' : Grow σ8 (upd (upd σ8 y1 (.list (List.map MV.int []))) y2 (.list [])) := (Grow.new hy1).trans (Grow.new hy2)
  have g9 := g8.trans g9'
  have htd9 := g9' _ _ htd8
  have hnk9 := g9' _ _ hnk8
  generalize (upd (upd σ8 y1 (.list (List.map MV.int []))) y2 (.list [])) = σ9 at g9 htd9 hnk9
  have X9 := X.grow g9
  repeat k_subL
  refine WE_call P.G (by decide +kernel) (P.fn 31 (by decide)) (fun _ => rfl) ?_
  repeat k_subL
  refine ⟨w, _, _, rfl, X9.W.hw, by k_places, ?_⟩
  repeat k_subL
  have hof := I.outFew
  refine w_newly_acked P (ns := S.out) (rs := q :: r) (.inl X9.W.ho) (.inl htd9) (by simp; omega) (by omega) I.outS fun σ10 gn g10' hgn0 hgn => ?_
  have g10 := g9.trans g10'
  have X10 := X.grow g10
  have hnk10 := g10' _ _ hnk9
  repeat k_subL
  refine WE_comp (fn := ["numbers"]) (by decide +kernel) (fun _ _ => rfl) ?_
  repeat k_subL
  refine ⟨w, _, _, rfl, X10.W.hw, by k_places, ?_⟩
  refine WCo_filter (ns := S.out) ["numbers"] [.ref nk] (fun m => decide (m ∈ numsOf (q :: r))) (by decide +kernel) (.cons (by k_places) .nil) (.inl X10.W.ho) (by omega) (fun m hm => ?_) ?_
  · repeat k_subL
    refine ⟨rfl, ?_⟩
    repeat k_subL
    refine o_in (ns := numsOf (q :: r)) (.inl hnk10) ?_
    repeat k_subL
    refine ⟨rfl, rfl, fun _ => ?_⟩
    repeat k_subL
    exact ⟨rfl, rfl⟩
  have ef2 : (S.out.filter fun m => decide (m ∈ numsOf (q :: r))) = S.out.filter (hasN (q :: r)) := by
    apply List.filter_congr
    intro x _
    rw [Bool.eq_iff_iff, decide_eq_true_iff, hasN_iff, mem_nums]
  rw [ef2]
  intro z1 hz1
  have g11' : Grow σ10 (upd σ10 z1 (.list ((S.out.filter (hasN (q :: r))).map MV.int))) := .new hz1
  have g11 := g10.trans g11'
  have hgn1 := g11' _ _ hgn
  have hnk11 := g11' _ _ hnk10
  have hz11 : (upd σ10 z1 (.list ((S.out.filter (hasN (q :: r))).map MV.int))) z1 = _ := upd_eq
  generalize (upd σ10 z1 (.list ((S.out.filter (hasN (q :: r))).map MV.int))) = σ11 at g11 hgn1 hnk11 hz11
  refine o_neL (.inl hgn1) (.inl hz11) ?_
  rw [decide_eq_true rfl]
  repeat k_subL
  have X11 := X.grow g11
  refine WE_comp (fn := ["gone"]) (by decide +kernel) (fun _ _ => rfl) ?_
  repeat k_subL
  refine ⟨w, _, _, rfl, X11.W.hw, by k_places, ?_⟩
  refine WCo_filter (ns := S.out) ["gone"] [.ref gn] (fun m => !decide (m ∈ S.out.filter (hasN (q :: r)))) (by decide +kernel) (.cons (by k_places) .nil) (.inl X11.W.ho) (by omega) (fun m hm => ?_) ?_
  · repeat k_subL
    refine ⟨rfl, ?_⟩
    repeat k_subL
    refine o_notin (ns := S.out.filter (hasN (q :: r))) (.inl hgn1) ?_
    repeat k_subL
    refine ⟨rfl, rfl, fun _ => ?_⟩
    repeat k_subL
    exact ⟨rfl, rfl⟩
  intro no hno
  refine A_key ?_
  repeat k_subL
  have g12' : Grow σ11 _ := Grow.new (mo := .list ((S.out.filter fun m => !decide (m ∈ S.out.filter (hasN (q :: r)))).map MV.int)) hno
  refine ⟨w, _, wEs { S with out := S.out.filter fun m => !decide (m ∈ S.out.filter (hasN (q :: r))) } { a with o := no }, rfl, g12' _ _ X11.W.hw, by simp, by k_memK, ?_⟩
  have X12 := X11.newOut (xs := S.out.filter fun m => !decide (m ∈ S.out.filter (hasN (q :: r)))) g12' hno upd_eq
  have nw : nk ≠ w := fun e => by
    have h1 := X11.W.hw
    rw [← e, hnk11] at h1
    cases h1
  have hnk12 := upd_nn (o := .dict (wEs { S with out := S.out.filter fun m => !decide (m ∈ S.out.filter (hasN (q :: r))) } { a with o := no })) (g12' _ _ hnk11) nw
  generalize (upd (upd σ11 no (.list ((S.out.filter fun m => !decide (m ∈ S.out.filter (hasN (q :: r)))).map MV.int))) w (.dict (wEs { S with out := S.out.filter fun m => !decide (m ∈ S.out.filter (hasN (q :: r))) } { a with o := no }))) = σ12 at X12 hnk12
  repeat k_subL
  refine ⟨w, _, _, rfl, X12.W.hw, by k_places, ?_⟩
  repeat k_subL
  have htl := I.toldL
  refine o_addL (xs := S.told.map MV.int) (ys := (numsOf (q :: r)).map MV.int) X12.W.htd hnk12 (by simp; omega) fun tn htn => ?_
  have g13' : Grow σ12 _ := Grow.new (mo := .list (S.told.map MV.int ++ (numsOf (q :: r)).map MV.int)) htn
  refine A_key ?_
  repeat k_subL
  refine ⟨w, _, wEs { S with out := S.out.filter fun m => !decide (m ∈ S.out.filter (hasN (q :: r))), told := S.told ++ numsOf (q :: r) } { a with o := no, td := tn }, rfl, g13' _ _ X12.W.hw, by simp, by k_memK, ?_⟩
  have X13 := X12.newTold (xs := S.told ++ numsOf (q :: r)) g13' htn (by rw [upd_eq, List.map_append])
  generalize (upd (upd σ12 tn (.list (S.told.map MV.int ++ (numsOf (q :: r)).map MV.int))) w (.dict (wEs { S with out := S.out.filter fun m => !decide (m ∈ S.out.filter (hasN (q :: r))), told := S.told ++ numsOf (q :: r) } { a with o := no, td := tn }))) = σ13 at X13
  repeat k_subL
  refine ⟨w, _, _, rfl, X13.W.hw, by k_places, ?_⟩
  repeat k_subL
  have fin : ∀ σ' , Hold σ' w b ca (S.hears q r) { a with o := no, td := tn } → Q (.bool true) σ' := fun σ' X' => h σ' _ X' rfl
  cases hs : S.acked with
  | none =>
    refine ⟨fun _ => ?_, fun z => by cases z⟩
    repeat k_subL
    refine A_key ?_
    repeat k_subL
    refine ⟨w, _, wEs { S with out := S.out.filter fun m => !decide (m ∈ S.out.filter (hasN (q :: r))), told := S.told ++ numsOf (q :: r), acked := some q.2 } { a with o := no, td := tn }, rfl, X13.W.hw, by simp, by k_memK, ?_⟩
    have X14 := X13.setAcked (some q.2)
    repeat k_subL
    refine fin _ ?_
    unfold St.hears
    rw [hs]
    exact X14
  | some y =>
    refine ⟨fun z => (by cases z), fun _ => ?_⟩
    repeat k_subL
    refine ⟨w, _, _, rfl, X13.W.hw, by k_places, ?_⟩
    show WL _ _ _ _ _ _ _ _
    rw [show oI S.acked = MV.int y by rw [hs]]
    repeat k_subL
    refine A_key ?_
    repeat k_subL
    refine ⟨w, _, wEs { S with out := S.out.filter fun m => !decide (m ∈ S.out.filter (hasN (q :: r))), told := S.told ++ numsOf (q :: r), acked := some (max y q.2) } { a with o := no, td := tn }, rfl, X13.W.hw, by simp, by k_memK, ?_⟩
    have X14 := X13.setAcked (some (max y q.2))
    repeat k_subL
    refine fin _ ?_
    unfold St.hears
    rw [hs]
    exact X14
theorem map_eraseIdx {α β : Type} (f : α → β) : ∀ (l : List α) (i : Nat), (l.map f).eraseIdx i = (l.eraseIdx i).map f
  | [], _ => by simp
  | x :: r, 0 => by simp
  | x :: r, i + 1 => by simp [map_eraseIdx f r i]
theorem c_step (P : PC c fI fL fV) {w b ca : Addr} {S : St} {a : Ad} {A T : Nat} {f : Int} {Q : MV → MS → Prop} (X : Hold σ w b ca S a) (I : Inv A T S) (hA : A + 1 ≤ 40) (hT : T ≤ 200)
    (h : ∀ σ' S' a', Hold σ' w b ca S' a' → Inv (A + 1) (T + 2) S' → Q (.bool true) σ') : CC c (n + 5) "_law_step" [.ref w, .ref b, .int f] σ Q := by
  have F := P.fn 40 (by decide)
  refine CC_def (ns := ["world", "box", "form"]) P.G F (fun _ _ _ => len3 fun _ _ _ => rfl) (by decide +kernel) (by decide +kernel) rfl ?_ rfl rfl rfl
  have up2 : ∀ {t : Nat} {S' : St}, Inv A t S' → t ≤ T + 2 → Inv (A + 1) (T + 2) S' := fun I ht => I.mono (Nat.le_succ A) hA ht
  generalize hρ : (["world", "box", "form"] : List Str).zip [MV.ref w, .ref b, .int f] = ρ0
  have e1 : lk ρ0 "world" = some (.ref w) := by rw [← hρ]; k_places
  have e2 : lk ρ0 "box" = some (.ref b) := by rw [← hρ]; k_places
  have e3 : lk ρ0 "form" = some (.int f) := by rw [← hρ]; k_places
  have k8 : ∀ ρ' σ1 S1 a1, Hold σ1 w b ca S1 a1 → Inv A T S1 → CS c (n + 4) (scS (stI 40)) ρ' σ1 ((boS (stI 40)).drop 5) (endQ Q) := by
    intro ρ' σ1 S1 a1 X1 I1
    apply CS_cons; apply C_return
    refine CE.of (WE_bool ?_)
    exact h _ _ _ X1 (up2 I1 (by omega))
  have k7 : ∀ σ1, Hold σ1 w b ca S a → CS c (n + 4) (scS (stI 40)) ρ0 σ1 ((boS (stI 40)).drop 4) (endQ Q) := by
    intro σ1 X1
    apply CS_cons; apply C_if
    refine CT.of ?_
    repeat k_subL
    refine ⟨fun z => ?_, fun _ => ?_⟩
    · repeat k_subL
      refine WE_call P.G (by decide +kernel) (P.fn 35 (by decide)) (fun _ => rfl) ?_
      repeat k_subL
      refine w_take P X1 (by decide) fun σ2 v X2 fr v0 v1 => ?_
      repeat k_subL
      refine ⟨fun z => ?_, fun _ => ?_⟩
      · refine CS.of ?_
        apply WS_cons
        apply S_assign
        · intro _ _; rfl
        · intro _ _; rfl
        · intro _; rfl
        refine WE_call P.G (by decide +kernel) (P.fn 35 (by decide)) (fun _ => rfl) ?_
        repeat k_subL
        refine ⟨w, _, _, rfl, X2.W.hw, by k_places, ?_⟩
        repeat k_subL
        refine w_take P X2 (by have := I.next0; omega) fun σ3 low X3 fr3 l0 l1 => ?_
        repeat k_subL
        refine WE_call P.G (by decide +kernel) (P.fn 32 (by decide)) (fun _ => rfl) ?_
        repeat k_subL
        refine ⟨w, _, _, rfl, X3.W.hw, by k_places, ?_⟩
        repeat k_subL
        have few := I.rangesFew
        refine w_prune P (.inl X3.W.hr) (by omega) fun σ4 p g4 hp0 hp => ?_
        refine A_key ?_
        repeat k_subL
        refine ⟨w, _, wEs { S with ranges := prn low S.ranges } { a with r := p }, rfl, g4 _ _ X3.W.hw, by simp, by k_memK, ?_⟩
        have X5 := X3.newRanges (xs := prn low S.ranges) g4 hp0 hp
        repeat k_subL
        refine WE_comp (fn := ["low"]) (by decide +kernel) (fun _ _ => rfl) ?_
        repeat k_subL
        refine ⟨w, _, _, rfl, X5.W.hw, by k_places, ?_⟩
        have kf := I.keptFew
        refine WCo_filter (ns := S.kept) ["low"] [.int low] (fun m => decide (m ≥ low)) (by decide +kernel) (.cons (by k_places) .nil) (.inl X5.W.hk) (by omega) (fun m hm => ?_) ?_
        · repeat k_subL
          refine ⟨rfl, ?_⟩
          repeat k_subL
          refine ⟨rfl, rfl, fun _ => ?_⟩
          repeat k_subL
          exact ⟨rfl, rfl⟩
        intro q hq
        refine A_key ?_
        repeat k_subL
        have g6 := Grow.new (mo := .list ((S.kept.filter fun m => decide (m ≥ low)).map MV.int)) hq
        refine ⟨w, _, wEs (S.prunes low) { a with r := p, k := q }, rfl, g6 _ _ X5.W.hw, by simp, by k_memK, ?_⟩
        have X7 := X5.newKept (xs := S.kept.filter fun m => decide (m ≥ low)) g6 hq upd_eq
        refine WS_nil ?_
        exact k8 _ _ (S.prunes low) _ X7 (I.prunes low)
      · refine CS.of (WS_nil ?_)
        exact k8 _ _ _ _ X2 I
    · refine ⟨fun z => (by cases z), fun _ => ?_⟩
      refine CS_nil ?_
      exact k8 _ _ _ _ X1 I
  have k6 : ∀ σ1, Hold σ1 w b ca S a → CS c (n + 4) (scS (stI 40)) ρ0 σ1 ((boS (stI 40)).drop 3) (endQ Q) := by
    intro σ1 X1
    apply CS_cons; apply C_if
    refine CT.of ?_
    repeat k_subL
    refine ⟨fun z => ?_, fun _ => ?_⟩
    · repeat k_subL
      refine ⟨w, _, _, rfl, X1.W.hw, by k_places, ?_⟩
      repeat k_subL
      refine ⟨by simp, fun y hy => ?_⟩
      have X2 := X1.grow (Grow.new (mo := .list []) hy)
      repeat k_subL
      refine o_neNil (.inl X2.W.hac) (.inl upd_eq) ?_
      repeat k_subL
      generalize upd σ1 y (.list []) = σ2 at X2
      refine ⟨fun z => ?_, fun _ => ?_⟩
      · have hne : 0 < S.acks.length := by
          cases hA : S.acks with
          | nil => rw [hA] at z; simp at z
          | cons => simp
        repeat k_subL
        refine CE.of (WE_call P.G (by decide +kernel) (P.fn 39 (by decide)) (fun _ => rfl) ?_)
        repeat k_subL
        refine WE_pop (fun _ => rfl) (fun _ => rfl) rfl ?_
        repeat k_subL
        refine ⟨w, _, _, rfl, X2.W.hw, by k_places, ?_⟩
        refine ⟨_, rfl, ⟨_, X2.W.hac⟩, ?_⟩
        refine WE_call P.G (by decide +kernel) (P.fn 35 (by decide)) (fun _ => rfl) ?_
        repeat k_subL
        refine ⟨w, _, _, rfl, X2.W.hw, by k_places, ?_⟩
        repeat k_subL
        have hal := I.acksL
        refine b_lenL (.inl X2.W.hac) (by simp; omega) ?_
        repeat k_subL
        rw [List.length_map]
        refine w_take P X2 (by omega) fun σ3 v X3 fr v0 v1 => ?_
        have hv : v.toNat < S.acks.length := by omega
        refine ⟨_, v, .bytes S.acks[v.toNat], rfl, X3.W.hac, by simp; omega, v0, by simp [hv], ?_⟩
        rw [map_eraseIdx]
        have X4 := X3.atAcks (S.acks.eraseIdx v.toNat)
        obtain ⟨q, r, hN, hc, he⟩ := I.acks S.acks[v.toNat] (List.getElem_mem hv)
        rw [he]
        repeat k_subL
        refine w_hear P X4 (I.dropAck v.toNat) (by omega) hN hc fun σ5 a5 X5 _ => ?_
        exact h _ _ _ X5 (up2 ((I.dropAck v.toNat).hears hN hc) (by omega))
      · refine CS_nil ?_
        exact k7 _ X2
    · refine ⟨fun z => (by cases z), fun _ => ?_⟩
      refine CS_nil ?_
      exact k7 _ X1
  have k5 : ∀ σ1, Hold σ1 w b ca S a → CS c (n + 4) (scS (stI 40)) ρ0 σ1 ((boS (stI 40)).drop 2) (endQ Q) := by
    intro σ1 X1
    apply CS_cons; apply C_if
    refine CT.of ?_
    repeat k_subL
    refine ⟨fun z => ?_, fun _ => ?_⟩
    · repeat k_subL
      refine CE_call P.G (by decide +kernel) (P.fn 38 (by decide)) (fun _ => rfl) ?_
      refine CL.of ?_
      repeat k_subL
      refine WE_call P.G (by decide +kernel) (P.fn 35 (by decide)) (fun _ => rfl) ?_
      repeat k_subL
      refine w_take P X1 (by decide) fun σ2 v X2 fr v0 v1 => ?_
      repeat k_subL
      refine c_tell P X2 I (by omega) (fun σ3 X3 _ => ?_) (fun σ3 q r X3 hA _ => ?_)
      · exact h _ _ _ X3 (up2 I (by omega))
      · exact h _ _ _ X3 (up2 (I.tells hA) (by omega))
    · refine CS_nil ?_
      exact k6 _ X1
  have k3 : ∀ σ1, Hold σ1 w b ca S a → CS c (n + 4) (scS (stI 40)) ρ0 σ1 ((boS (stI 40)).drop 1) (endQ Q) := by
    intro σ1 X1
    apply CS_cons; apply C_if
    refine CT.of ?_
    repeat k_subL
    refine ⟨fun z => ?_, fun _ => ?_⟩
    · repeat k_subL
      refine ⟨w, _, _, rfl, X1.W.hw, by k_places, ?_⟩
      repeat k_subL
      refine ⟨by simp, fun y hy => ?_⟩
      have X2 := X1.grow (Grow.new (mo := .list []) hy)
      repeat k_subL
      refine o_neNil (.inl X2.W.hl) (.inl upd_eq) ?_
      repeat k_subL
      generalize upd σ1 y (.list []) = σ2 at X2
      refine ⟨fun z => ?_, fun _ => ?_⟩
      · have hne : 0 < S.late.length := by
          cases hA : S.late with
          | nil => rw [hA] at z; simp at z
          | cons => simp
        refine CS.of ?_
        apply WS_cons
        apply S_assign
        · intro _ _; rfl
        · intro _ _; rfl
        · intro _; rfl
        refine WE_pop (fun _ => rfl) (fun _ => rfl) rfl ?_
        repeat k_subL
        refine ⟨w, _, _, rfl, X2.W.hw, by k_places, ?_⟩
        refine ⟨_, rfl, ⟨_, X2.W.hl⟩, ?_⟩
        refine WE_call P.G (by decide +kernel) (P.fn 35 (by decide)) (fun _ => rfl) ?_
        repeat k_subL
        refine ⟨w, _, _, rfl, X2.W.hw, by k_places, ?_⟩
        repeat k_subL
        have hal := I.lateL
        refine b_lenL (.inl X2.W.hl) (by simp; omega) ?_
        repeat k_subL
        rw [List.length_map]
        refine w_take P X2 (by omega) fun σ3 v X3 fr v0 v1 => ?_
        have hv : v.toNat < S.late.length := by omega
        refine ⟨_, v, ltV S.late[v.toNat], rfl, X3.W.hl, by simp; omega, v0, by simp [hv], ?_⟩
        rw [map_eraseIdx]
        have X4 := X3.atLate (S.late.eraseIdx v.toNat)
        have hL := I.late S.late[v.toNat] (List.getElem_mem hv)
        repeat k_subL
        refine WE_call P.G (by decide +kernel) (P.fn 36 (by decide)) (fun _ => rfl) ?_
        repeat k_subL
        refine w_come P X4 (I.dropLate v.toNat) (by omega) hL fun σ5 S5 a5 X5 I5 _ _ _ _ => ?_
        exact h _ _ _ X5 (up2 I5 (by omega))
      · refine CS_nil ?_
        exact k5 _ X2
    · refine ⟨fun z => (by cases z), fun _ => ?_⟩
      refine CS_nil ?_
      exact k5 _ X1
  apply CS_cons; apply C_if
  refine CT.of ?_
  repeat k_subL
  refine ⟨fun z => ?_, fun _ => ?_⟩
  · repeat k_subL
    refine CE_call P.G (by decide +kernel) (P.fn 37 (by decide)) (fun _ => rfl) ?_
    refine CL.of ?_
    repeat k_subL
    refine WE_call P.G (by decide +kernel) (P.fn 35 (by decide)) (fun _ => rfl) ?_
    repeat k_subL
    refine w_take P X (by decide) fun σ2 v X2 fr v0 v1 => ?_
    repeat k_subL
    exact c_send P X2 I hA (by omega) v0 v1 h
  · refine CS_nil ?_
    exact k3 _ X
theorem ne_of {σ : MS} {x y : Addr} {m : MO} (h1 : σ x = some m) (h2 : σ y = none) : @Ne Nat x y := fun e => by
  have e : x = y := e
  rw [e, h2] at h1; cases h1
abbrev S0 : St := ⟨0, none, [], [], none, [], [], [], [], [], []⟩
theorem inv0 : Inv 0 0 S0 :=
  { next0 := by decide, nextL := by decide, sentL := by decide, sentS := .nil, sentB := fun x h => (nomatch h), outE := rfl, toldC := fun x h => (nomatch h), cameS := fun x h => (nomatch h), exp0 := by decide, expN := by decide,
    ack := fun x h => (nomatch h), keptN := .nil, keptC := fun x h => (nomatch h), nm := trivial, rk := fun n => ⟨fun h => (inR_nil h).elim, fun h => (nomatch h)⟩, late := fun p h => (nomatch h), acks := fun p h => (nomatch h),
    lateL := by decide, cameL := by decide, acksL := by decide, toldL := by decide, aL := by decide }
abbrev tQ : MF → List (Str × MV) → MS → Prop := endQ fun v _ => v = .bool true
theorem law8 (P : PC c fI fL fV) {w b ca : Addr} {S : St} {a : Ad} {A T : Nat} {ρ : List (Str × MV)} (X : Hold σ w b ca S a) (I : Inv A T S) (hk : ∀ m ∈ S.kept, m ∈ S.told) (e1 : lk ρ "world" = some (.ref w)) : WS c n (scS (stI 41)) ρ σ ((boS (stI 41)).drop 8) tQ := by
  apply WS_cons; apply S_if
  iterate 1 k_subL
  refine WE_comp (fn := ["world"]) (by decide +kernel) (fun _ _ => rfl) ?_
  repeat k_subL
  refine ⟨w, _, _, rfl, X.W.hw, by k_places, ?_⟩
  have kf := I.keptFew
  refine WCo_filter (ns := S.kept) ["world"] [.ref w] (fun m => !decide (m ∈ S.told)) (by decide +kernel) (.cons e1 .nil) (.inl X.W.hk) (by omega) (fun m hm => ?_) ?_
  · repeat k_subL
    refine ⟨rfl, ?_⟩
    repeat k_subL
    refine ⟨w, _, _, rfl, X.W.hw, by k_places, ?_⟩
    refine o_notin (ns := S.told) (.inl X.W.htd) ?_
    repeat k_subL
    refine ⟨rfl, rfl, fun _ => ?_⟩
    repeat k_subL
    exact ⟨rfl, rfl⟩
  have ef : (S.kept.filter fun m => !decide (m ∈ S.told)) = [] := by
    rw [List.filter_eq_nil_iff]
    intro x hx
    simpa using hk x hx
  rw [ef]
  intro y1 hy1
  repeat k_subL
  refine ⟨by simp, fun y2 hy2 => ?_⟩
  have y12 : y1 ≠ y2 := fun e => by rw [e, upd_eq] at hy2; cases hy2
  repeat k_subL
  refine o_neNil (xs := []) (.inl (upd_nn upd_eq y12)) (.inl upd_eq) ?_
  repeat k_subL
  refine ⟨fun z => by simp at z, fun _ => ?_⟩
  have X1 := X.grow ((Grow.new (mo := .list (List.map MV.int [])) hy1).trans (Grow.new (mo := .list []) hy2))
  generalize (upd (upd σ y1 (.list (List.map MV.int []))) y2 (.list [])) = σ1 at X1
  repeat k_subL
  refine ⟨w, _, _, rfl, X1.W.hw, by k_places, ?_⟩
  refine WE_comp (fn := ["world"]) (by decide +kernel) (fun _ _ => rfl) ?_
  repeat k_subL
  refine ⟨w, _, _, rfl, X1.W.hw, by k_places, ?_⟩
  have sl := I.sentL
  have al := I.aL
  refine WCo_filter (ns := S.sent) ["world"] [.ref w] (fun m => !decide (m ∈ S.told)) (by decide +kernel) (.cons e1 .nil) (.inl X1.W.hsn) (by omega) (fun m hm => ?_) ?_
  · repeat k_subL
    refine ⟨rfl, ?_⟩
    repeat k_subL
    refine ⟨w, _, _, rfl, X1.W.hw, by k_places, ?_⟩
    refine o_notin (ns := S.told) (.inl X1.W.htd) ?_
    repeat k_subL
    refine ⟨rfl, rfl, fun _ => ?_⟩
    repeat k_subL
    exact ⟨rfl, rfl⟩
  rw [← I.outE]
  intro z1 hz1
  refine o_eqL (ns := S.out) (ms := S.out) (.inl ((Grow.new hz1) _ _ X1.W.ho)) (.inl upd_eq) ?_
  rw [decide_eq_true rfl]
  repeat k_subL
  exact rfl
theorem law7 (P : PC c fI fL fV) {w b ca : Addr} {S : St} {a : Ad} {A T : Nat} {ρ : List (Str × MV)} (X : Hold σ w b ca S a) (I : Inv A T S) (hT : T ≤ 100) (e1 : lk ρ "world" = some (.ref w))
    (hlast : S.kept = [] ∨ ∃ acks0 q r, S.acks = acks0 ++ [(enc (q :: r)).toArray] ∧ Nm (q :: r) ∧ (∀ m, inR (q :: r) m → m ∈ S.came) ∧ ∀ m ∈ S.kept, inR (q :: r) m) : WS c (n + 5) (scS (stI 41)) ρ σ ((boS (stI 41)).drop 7) tQ := by
  refine WS_cons (S_for (fun _ _ => rfl) ?_)
  repeat k_subL
  refine ⟨w, _, _, rfl, X.W.hw, by k_places, ?_⟩
  have hal := I.acksL
  refine ⟨S.acks.map MV.bytes, fun i ρ' σ' => ∃ S' a', Hold σ' w b ca S' a' ∧ Inv A (T + i) S' ∧ S'.acks = S.acks ∧ a'.ac = a.ac ∧ S'.kept = S.kept ∧ S'.came = S.came ∧ (i = S.acks.length → ∀ m ∈ S.kept, m ∈ S'.told) ∧ lk ρ' "world" = some (.ref w),
    ⟨S, a, X, I, rfl, rfl, rfl, rfl, fun e => ?_, e1⟩, ?_, ?_, ?_⟩
  · rcases hlast with h | ⟨_, _, _, h, _⟩
    · rw [h]; intro m hm; cases hm
    · rw [h] at e; simp at e
  · rintro i ρ' σ' ⟨S', a', X', I', h1, h2, _⟩
    have := X'.W.hac
    rw [h1, h2] at this
    exact .inl this
  · rintro i y ρ' σ' hy ⟨S', a', X', I', h1, h2, h3, h4, h5, e1'⟩
    rw [List.getElem?_map] at hy
    obtain ⟨d, hd, rfl⟩ := Option.map_eq_some_iff.mp hy
    obtain ⟨hi, hdi⟩ := List.getElem?_eq_some_iff.mp hd
    obtain ⟨q, r, hN, hc, he, hcov⟩ : ∃ q r, Nm (q :: r) ∧ (∀ m, inR (q :: r) m → m ∈ S'.came) ∧ d = (enc (q :: r)).toArray ∧ (i + 1 = S.acks.length → ∀ m ∈ S.kept, inR (q :: r) m) := by
      obtain ⟨q, r, g1, g2, g3⟩ := I.acks d (List.mem_of_getElem? hd)
      rcases hlast with h | ⟨acks0, q', r', k1, k2, k3, k4⟩
      · exact ⟨q, r, g1, fun m hm => h4 ▸ g2 m hm, g3, fun _ m hm => by rw [h] at hm; cases hm⟩
      · by_cases hl : i + 1 = S.acks.length
        · refine ⟨q', r', k2, fun m hm => h4 ▸ k3 m hm, ?_, fun _ => k4⟩
          have hl2 : i = acks0.length := by rw [k1] at hl; simp at hl; exact hl
          rw [k1, hl2] at hd
          simp at hd
          exact hd.symm
        · exact ⟨q, r, g1, fun m hm => h4 ▸ g2 m hm, g3, fun e => absurd e hl⟩
    rw [he]
    iterate 1 k_subL
    apply WS_cons; apply S_if
    repeat k_subL
    refine WE_call P.G (by decide +kernel) (P.fn 39 (by decide)) (fun _ => rfl) ?_
    repeat k_subL
    refine w_hear P X' I' (by omega) hN hc fun σ2 a2 X2 ea => ?_
    have I2 := I'.hears hN hc
    repeat k_subL
    refine ⟨S'.hears q r, a2, X2, I2, h1, ea.trans h2, h3, h4, fun e m hm => ?_, by k_places⟩
    exact List.mem_append_right _ (mem_nums.mpr (hcov e m hm))
  · rintro ρ' σ' ⟨S', a', X', I', h1, h2, h3, h4, h5, e1'⟩
    rw [List.length_map] at h5
    exact law8 P X' I' (by rw [h3]; exact h5 rfl) e1'
theorem law6 (P : PC c fI fL fV) {w b ca : Addr} {S : St} {a : Ad} {A T : Nat} {ρ : List (Str × MV)} (X : Hold σ w b ca S a) (I : Inv A T S) (hT : T ≤ 90) (e1 : lk ρ "world" = some (.ref w)) : CS c (n + 5) (scS (stI 41)) ρ σ ((boS (stI 41)).drop 6) tQ := by
  apply CS_cons; apply C_if
  repeat k_subL
  refine CE_call P.G (by decide +kernel) (P.fn 38 (by decide)) (fun _ => rfl) ?_
  refine CL.of ?_
  repeat k_subL
  refine c_tell P X I (by omega) (fun σ3 X3 hr => ?_) (fun σ3 q r X3 hA hr => ?_)
  · repeat k_subL
    refine CS.of (law7 P X3 I (by omega) e1 (.inl ?_))
    cases hk : S.kept with
    | nil => rfl
    | cons x xs => exact absurd ((I.rk x).mpr (by rw [hk]; exact .head _)) (by rw [hr rfl]; exact inR_nil)
  · have er := hr rfl
    repeat k_subL
    refine CS.of (law7 P X3 (I.tells hA) (by omega) e1 (.inr ⟨S.acks, q, r, rfl, er ▸ I.nm, fun m hm => I.keptC m ((I.rk m).mp (er ▸ hm)), fun m hm => ?_⟩))
    have := (I.rk m).mpr hm
    rwa [← er] at this
theorem law5 (P : PC c fI fL fV) {w b ca : Addr} {S : St} {a : Ad} {A T : Nat} {ρ : List (Str × MV)} (X : Hold σ w b ca S a) (I : Inv A T S) (hT : T ≤ 30) (e1 : lk ρ "world" = some (.ref w)) : CS c (n + 5) (scS (stI 41)) ρ σ ((boS (stI 41)).drop 5) tQ := by
  refine CS_cons (C_for (fun _ _ => rfl) ?_)
  repeat k_subL
  refine ⟨w, _, _, rfl, X.W.hw, by k_places, ?_⟩
  have hal := I.lateL
  refine ⟨S.late.map ltV, fun i ρ' σ' => ∃ S' a', Hold σ' w b ca S' a' ∧ Inv A (T + i) S' ∧ S'.late = S.late ∧ a'.l = a.l ∧ lk ρ' "world" = some (.ref w), ⟨S, a, X, I, rfl, rfl, e1⟩, ?_, ?_, ?_⟩
  · rintro i ρ' σ' ⟨S', a', X', I', h1, h2, _⟩
    have := X'.W.hl
    rw [h1, h2] at this
    exact .inl this
  · rintro i y ρ' σ' hy ⟨S', a', X', I', h1, h2, e1'⟩
    rw [List.getElem?_map] at hy
    obtain ⟨⟨m, d⟩, hd, rfl⟩ := Option.map_eq_some_iff.mp hy
    obtain ⟨hi, hdi⟩ := List.getElem?_eq_some_iff.mp hd
    have hL := I'.late (m, d) (by rw [h1]; exact List.mem_of_getElem? hd)
    iterate 6 k_subL
    refine CS.of ?_
    apply WS_cons; apply S_if
    repeat k_subL
    refine WE_call P.G (by decide +kernel) (P.fn 36 (by decide)) (fun _ => rfl) ?_
    repeat k_subL
    refine w_come P X' I' (by omega) hL fun σ2 S2 a2 X2 I2 g1 g2 g3 g4 => ?_
    repeat k_subL
    exact ⟨S2, a2, X2, I2, g1.trans h1, g3.trans h2, by k_places⟩
  · rintro ρ' σ' ⟨S', a', X', I', h1, h2, e1'⟩
    rw [List.length_map] at I'
    exact law6 P X' I' (by omega) e1'
theorem law4 (P : PC c fI fL fV) {w b ca : Addr} {S : St} {a : Ad} {ρ : List (Str × MV)} (X : Hold σ w b ca S a) (I : Inv 1 2 S) (e1 : lk ρ "world" = some (.ref w)) (e2 : lk ρ "box" = some (.ref b)) : CS c (n + 5) (scS (stI 41)) ρ σ ((boS (stI 41)).drop 4) tQ := by
  refine CS_cons (C_for (fun _ _ => rfl) ?_)
  repeat k_subL
  refine WE_call P.G (by decide +kernel) (P.fn 35 (by decide)) (fun _ => rfl) ?_
  repeat k_subL
  refine w_take P X (by decide) fun σ1 v X1 fr v0 v1 => ?_
  repeat k_subL
  refine b_range1 ?_
  have ev : 4 + v = (((4 + v).toNat : Nat) : Int) := by omega
  rw [ev]
  have hv : (4 + v).toNat ≤ 13 := by omega
  generalize (4 + v).toNat = m at hv
  refine ⟨(List.range m).map fun i : Nat => MV.int (i : Int), fun i ρ' σ' => ∃ S' a', Hold σ' w b ca S' a' ∧ Inv (1 + i) (2 + 2 * i) S' ∧ lk ρ' "world" = some (.ref w) ∧ lk ρ' "box" = some (.ref b), ⟨S, a, X1, I, e1, e2⟩, ?_, ?_, ?_⟩
  · rintro i ρ' σ' _
    exact rangeItems0 (by omega)
  · rintro i y ρ' σ' hy ⟨S', a', X', I', e1', e2'⟩
    rw [List.getElem?_map] at hy
    obtain ⟨z, hz, rfl⟩ := Option.map_eq_some_iff.mp hy
    have hi : i < m := by have := (List.getElem?_eq_some_iff.mp hz).1; simpa using this
    iterate 1 k_subL
    apply CS_cons; apply C_if
    repeat k_subL
    refine CE_call P.G (by decide +kernel) (P.fn 40 (by decide)) (fun _ => rfl) ?_
    refine CL.of ?_
    repeat k_subL
    refine WE_call P.G (by decide +kernel) (P.fn 35 (by decide)) (fun _ => rfl) ?_
    repeat k_subL
    refine w_take P X' (by decide) fun σ2 f X2 fr f0 f1 => ?_
    repeat k_subL
    refine c_step P X2 I' (by omega) (by omega) fun σ3 S3 a3 X3 I3 => ?_
    repeat k_subL
    exact ⟨S3, a3, X3, I3.mono (by omega) (by omega) (by omega), by k_places, by k_places⟩
  · rintro ρ' σ' ⟨S', a', X', I', e1', e2'⟩
    rw [List.length_map, List.length_range] at I'
    exact law5 P X' I' (by omega) e1'
theorem law3 (P : PC c fI fL fV) {w b ca : Addr} {a : Ad} {ρ : List (Str × MV)} (X : Hold σ w b ca S0 a) (e1 : lk ρ "world" = some (.ref w)) (e2 : lk ρ "box" = some (.ref b)) : CS c (n + 5) (scS (stI 41)) ρ σ ((boS (stI 41)).drop 3) tQ := by
  apply CS_cons; apply C_if
  repeat k_subL
  refine CE_call P.G (by decide +kernel) (P.fn 37 (by decide)) (fun _ => rfl) ?_
  refine CL.of ?_
  repeat k_subL
  refine c_send P X inv0 (by decide) (by decide) (by decide) (by decide) fun σ3 S3 a3 X3 I3 => ?_
  repeat k_subL
  exact law4 P X3 I3 e1 e2
theorem c_law (P : PC c fI fL fV) {s : Addr} {ns : List Int} (hs : LAt σ s (ns.map MV.int)) (hz : ns.length ≤ 100) : CC c (n + 6) "law" [.ref s] σ fun v _ => v = .bool true := by
  have F := P.fn 41 (by decide)
  refine CC_def (ns := ["script"]) P.G F (fun _ _ _ => len1 fun _ => rfl) (by decide +kernel) (by decide +kernel) rfl ?_ rfl rfl rfl
  apply CS_cons
  refine C1S.of ?_
  apply S_assign
  · intro _ _; rfl
  · intro _ _; rfl
  · intro _; rfl
  refine WE_call P.G (by decide +kernel) (P.fn 34 (by decide)) (fun _ => rfl) ?_
  repeat k_subL
  refine w_box P hs hz fun τ0 b ca cs rr gz hb0 hca0 vb0 vca0 hcs => ?_
  have n_b_ca : @Ne Nat b ca := fun e => by
    have e : b = ca := e
    rw [e, vca0] at vb0
    have h2 := congrArg (fun o => match o with | some (MO.list xs) => xs | _ => []) vb0
    have h3 : cs.map MV.int = [MV.ref ca, .int 0, .int rr] := h2
    cases cs with
    | nil => cases h3
    | cons x xs => simp at h3
  iterate 2 k_subL
  refine CS_cons ?_
  --A
  refine C1S.of ?_
  --B
  refine S_assign ?_ ?_ ?_ ?_
  --C
  · intro env he; rfl
  --D
  · intro env he; rfl
  --E
  · intro env; rfl
  --F
  refine WE_dict ?_ ?_ ?_ ?_ ?_
  --G
  · rfl
  · rfl
  · simp
  · simp
  --H
  refine WK_cons ?_
  --I
  iterate 1 k_subL
  --J
  refine WK_cons ?_
  iterate 1 k_subL
  refine WK_cons ?_
  iterate 2 k_subL
  refine ⟨by simp, fun o ho => ?_⟩
  have gg0 : Grow τ0 (upd τ0 o (.list [])) := .new ho
  have n_b_o := ne_of vb0 ho
  have n_ca_o := ne_of vca0 ho
  have vb1 := gg0 _ _ vb0
  have vca1 := gg0 _ _ vca0
  have vo1 : (upd τ0 o (.list [])) o = some (.list []) := upd_eq
  generalize upd τ0 o (.list []) = τ1 at gg0 vb1 vca1 vo1
  refine WK_cons ?_
  iterate 2 k_subL
  refine ⟨by simp, fun l hl => ?_⟩
  have gg1 : Grow τ1 (upd τ1 l (.list [])) := .new hl
  have n_b_l := ne_of vb1 hl
  have n_ca_l := ne_of vca1 hl
  have n_o_l := ne_of vo1 hl
  have vb2 := gg1 _ _ vb1
  have vca2 := gg1 _ _ vca1
  have vo2 := gg1 _ _ vo1
  have vl2 : (upd τ1 l (.list [])) l = some (.list []) := upd_eq
  generalize upd τ1 l (.list []) = τ2 at gg1 vb2 vca2 vo2 vl2
  refine WK_cons ?_
  iterate 1 k_subL
  refine WK_cons ?_
  iterate 2 k_subL
  refine ⟨by simp, fun r hr => ?_⟩
  have gg2 : Grow τ2 (upd τ2 r (.list [])) := .new hr
  have n_b_r := ne_of vb2 hr
  have n_ca_r := ne_of vca2 hr
  have n_o_r := ne_of vo2 hr
  have n_l_r := ne_of vl2 hr
  have vb3 := gg2 _ _ vb2
  have vca3 := gg2 _ _ vca2
  have vo3 := gg2 _ _ vo2
  have vl3 := gg2 _ _ vl2
  have vr3 : (upd τ2 r (.list [])) r = some (.list []) := upd_eq
  generalize upd τ2 r (.list []) = τ3 at gg2 vb3 vca3 vo3 vl3 vr3
  refine WK_cons ?_
  iterate 2 k_subL
  refine ⟨by simp, fun k hk => ?_⟩
  have gg3 : Grow τ3 (upd τ3 k (.list [])) := .new hk
  have n_b_k := ne_of vb3 hk
  have n_ca_k := ne_of vca3 hk
  have n_o_k := ne_of vo3 hk
  have n_l_k := ne_of vl3 hk
  have n_r_k := ne_of vr3 hk
  have vb4 := gg3 _ _ vb3
  have vca4 := gg3 _ _ vca3
  have vo4 := gg3 _ _ vo3
  have vl4 := gg3 _ _ vl3
  have vr4 := gg3 _ _ vr3
  have vk4 : (upd τ3 k (.list [])) k = some (.list []) := upd_eq
  generalize upd τ3 k (.list []) = τ4 at gg3 vb4 vca4 vo4 vl4 vr4 vk4
  refine WK_cons ?_
  iterate 2 k_subL
  refine ⟨by simp, fun cm hcm => ?_⟩
  have gg4 : Grow τ4 (upd τ4 cm (.list [])) := .new hcm
  have n_b_cm := ne_of vb4 hcm
  have n_ca_cm := ne_of vca4 hcm
  have n_o_cm := ne_of vo4 hcm
  have n_l_cm := ne_of vl4 hcm
  have n_r_cm := ne_of vr4 hcm
  have n_k_cm := ne_of vk4 hcm
  have vb5 := gg4 _ _ vb4
  have vca5 := gg4 _ _ vca4
  have vo5 := gg4 _ _ vo4
  have vl5 := gg4 _ _ vl4
  have vr5 := gg4 _ _ vr4
  have vk5 := gg4 _ _ vk4
  have vcm5 : (upd τ4 cm (.list [])) cm = some (.list []) := upd_eq
  generalize upd τ4 cm (.list []) = τ5 at gg4 vb5 vca5 vo5 vl5 vr5 vk5 vcm5
  refine WK_nil ?_
  refine ⟨by show List.Nodup [("next" : Str), "acked", "out", "late", "seen", "ranges", "kept", "came"]; decide +kernel, fun w hw => ?_⟩
  have gg5 : Grow τ5 (upd τ5 w (.dict [("next", .int 0), ("acked", .none), ("out", .ref o), ("late", .ref l), ("seen", .none), ("ranges", .ref r), ("kept", .ref k), ("came", .ref cm)])) := .new hw
  have n_b_w := ne_of vb5 hw
  have n_ca_w := ne_of vca5 hw
  have n_o_w := ne_of vo5 hw
  have n_l_w := ne_of vl5 hw
  have n_r_w := ne_of vr5 hw
  have n_k_w := ne_of vk5 hw
  have n_cm_w := ne_of vcm5 hw
  have vb6 := gg5 _ _ vb5
  have vca6 := gg5 _ _ vca5
  have vo6 := gg5 _ _ vo5
  have vl6 := gg5 _ _ vl5
  have vr6 := gg5 _ _ vr5
  have vk6 := gg5 _ _ vk5
  have vcm6 := gg5 _ _ vcm5
  have vw6 : (upd τ5 w (.dict [("next", .int 0), ("acked", .none), ("out", .ref o), ("late", .ref l), ("seen", .none), ("ranges", .ref r), ("kept", .ref k), ("came", .ref cm)])) w = some (.dict [("next", .int 0), ("acked", .none), ("out", .ref o), ("late", .ref l), ("seen", .none), ("ranges", .ref r), ("kept", .ref k), ("came", .ref cm)]) := upd_eq
  generalize upd τ5 w (.dict [("next", .int 0), ("acked", .none), ("out", .ref o), ("late", .ref l), ("seen", .none), ("ranges", .ref r), ("kept", .ref k), ("came", .ref cm)]) = τ6 at gg5 vb6 vca6 vo6 vl6 vr6 vk6 vcm6 vw6
  iterate 2 k_subL
  refine CS_cons ?_
  refine C1S.of ?_
  refine S_assign ?_ ?_ ?_ ?_
  · intro env he; rfl
  · intro env he
    have hb : env.blockKind = .function := by unfold Env.blockKind; rw [he]; rfl
    unfold swappedStores
    dsimp only
    rw [hb]; rfl
  · intro env; rfl
  --K
  iterate 4 k_subL
  refine ⟨by simp, fun ac hac => ?_⟩
  have gg6 : Grow τ6 (upd τ6 ac (.list [])) := .new hac
  have n_b_ac := ne_of vb6 hac
  have n_ca_ac := ne_of vca6 hac
  have n_o_ac := ne_of vo6 hac
  have n_l_ac := ne_of vl6 hac
  have n_r_ac := ne_of vr6 hac
  have n_k_ac := ne_of vk6 hac
  have n_cm_ac := ne_of vcm6 hac
  have n_w_ac := ne_of vw6 hac
  have vb7 := gg6 _ _ vb6
  have vca7 := gg6 _ _ vca6
  have vo7 := gg6 _ _ vo6
  have vl7 := gg6 _ _ vl6
  have vr7 := gg6 _ _ vr6
  have vk7 := gg6 _ _ vk6
  have vcm7 := gg6 _ _ vcm6
  have vw7 := gg6 _ _ vw6
  have vac7 : (upd τ6 ac (.list [])) ac = some (.list []) := upd_eq
  generalize upd τ6 ac (.list []) = τ7 at gg6 vb7 vca7 vo7 vl7 vr7 vk7 vcm7 vw7 vac7
  iterate 3 k_subL
  refine ⟨by simp, fun td htd => ?_⟩
  have gg7 : Grow τ7 (upd τ7 td (.list [])) := .new htd
  have n_b_td := ne_of vb7 htd
  have n_ca_td := ne_of vca7 htd
  have n_o_td := ne_of vo7 htd
  have n_l_td := ne_of vl7 htd
  have n_r_td := ne_of vr7 htd
  have n_k_td := ne_of vk7 htd
  have n_cm_td := ne_of vcm7 htd
  have n_w_td := ne_of vw7 htd
  have n_ac_td := ne_of vac7 htd
  have vb8 := gg7 _ _ vb7
  have vca8 := gg7 _ _ vca7
  have vo8 := gg7 _ _ vo7
  have vl8 := gg7 _ _ vl7
  have vr8 := gg7 _ _ vr7
  have vk8 := gg7 _ _ vk7
  have vcm8 := gg7 _ _ vcm7
  have vw8 := gg7 _ _ vw7
  have vac8 := gg7 _ _ vac7
  have vtd8 : (upd τ7 td (.list [])) td = some (.list []) := upd_eq
  generalize upd τ7 td (.list []) = τ8 at gg7 vb8 vca8 vo8 vl8 vr8 vk8 vcm8 vw8 vac8 vtd8
  iterate 3 k_subL
  refine ⟨by simp, fun sn hsn => ?_⟩
  have gg8 : Grow τ8 (upd τ8 sn (.list [])) := .new hsn
  have n_b_sn := ne_of vb8 hsn
  have n_ca_sn := ne_of vca8 hsn
  have n_o_sn := ne_of vo8 hsn
  have n_l_sn := ne_of vl8 hsn
  have n_r_sn := ne_of vr8 hsn
  have n_k_sn := ne_of vk8 hsn
  have n_cm_sn := ne_of vcm8 hsn
  have n_w_sn := ne_of vw8 hsn
  have n_ac_sn := ne_of vac8 hsn
  have n_td_sn := ne_of vtd8 hsn
  have vb9 := gg8 _ _ vb8
  have vca9 := gg8 _ _ vca8
  have vo9 := gg8 _ _ vo8
  have vl9 := gg8 _ _ vl8
  have vr9 := gg8 _ _ vr8
  have vk9 := gg8 _ _ vk8
  have vcm9 := gg8 _ _ vcm8
  have vw9 := gg8 _ _ vw8
  have vac9 := gg8 _ _ vac8
  have vtd9 := gg8 _ _ vtd8
  have vsn9 : (upd τ8 sn (.list [])) sn = some (.list []) := upd_eq
  generalize upd τ8 sn (.list []) = τ9 at gg8 vb9 vca9 vo9 vl9 vr9 vk9 vcm9 vw9 vac9 vtd9 vsn9
  --L
  iterate 4 k_subL
  refine A_key ?_
  iterate 1 k_subL
  refine ⟨w, _, [("next", .int 0), ("acked", .none), ("out", .ref o), ("late", .ref l), ("seen", .none), ("ranges", .ref r), ("kept", .ref k), ("came", .ref cm), ("acks", .ref ac)], rfl, vw9, by simp, by k_memK, ?_⟩
  iterate 1 k_subL
  refine A_key ?_
  iterate 1 k_subL
  refine ⟨w, _, [("next", .int 0), ("acked", .none), ("out", .ref o), ("late", .ref l), ("seen", .none), ("ranges", .ref r), ("kept", .ref k), ("came", .ref cm), ("acks", .ref ac), ("told", .ref td)], rfl, upd_eq, by simp, by k_memK, ?_⟩
  iterate 1 k_subL
  refine A_key ?_
  iterate 1 k_subL
  refine ⟨w, _, wEs S0 ⟨o, l, r, k, cm, ac, td, sn⟩, rfl, upd_eq, by simp, by k_memK, ?_⟩
  iterate 2 k_subL
  --N
  have X0 : Hold (upd (upd (upd τ9 w (.dict [("next", .int 0), ("acked", .none), ("out", .ref o), ("late", .ref l), ("seen", .none), ("ranges", .ref r), ("kept", .ref k), ("came", .ref cm), ("acks", .ref ac)])) w (.dict [("next", .int 0), ("acked", .none), ("out", .ref o), ("late", .ref l), ("seen", .none), ("ranges", .ref r), ("kept", .ref k), ("came", .ref cm), ("acks", .ref ac), ("told", .ref td)])) w (.dict (wEs S0 ⟨o, l, r, k, cm, ac, td, sn⟩))) w b ca S0 ⟨o, l, r, k, cm, ac, td, sn⟩ := by
    have u3 : ∀ {x : Addr} {m : MO}, τ9 x = some m → @Ne Nat x w → (upd (upd (upd τ9 w (.dict [("next", .int 0), ("acked", .none), ("out", .ref o), ("late", .ref l), ("seen", .none), ("ranges", .ref r), ("kept", .ref k), ("came", .ref cm), ("acks", .ref ac)])) w (.dict [("next", .int 0), ("acked", .none), ("out", .ref o), ("late", .ref l), ("seen", .none), ("ranges", .ref r), ("kept", .ref k), ("came", .ref cm), ("acks", .ref ac), ("told", .ref td)])) w (.dict (wEs S0 ⟨o, l, r, k, cm, ac, td, sn⟩))) x = some m := fun e h => upd_nn (upd_nn (upd_nn e h) h) h
    refine ⟨⟨upd_eq, u3 vo9 n_o_w, u3 vl9 n_l_w, u3 vr9 n_r_w, u3 vk9 n_k_w, u3 vcm9 n_cm_w, u3 vac9 n_w_ac.symm, u3 vtd9 n_w_td.symm, u3 vsn9 n_w_sn.symm, ?_⟩, ⟨0, rr, u3 vb9 n_b_w, Int.le_refl _⟩, ⟨cs, u3 vca9 n_ca_w, hcs⟩, ?_⟩
    · unfold Apart; dsimp only; and_intros <;> first | assumption | exact Ne.symm (by assumption)
    · intro x hx
      simp only [allA, List.mem_cons, List.not_mem_nil, or_false] at hx
      rcases hx with rfl | rfl | rfl | rfl | rfl | rfl | rfl | rfl | rfl <;> exact ⟨Ne.symm (by assumption), Ne.symm (by assumption)⟩
  refine law3 P X0 ?_ ?_
  · k_places
  · k_places
end Mine
end
section
open PySem PySem.W PyProof.Rows PySem.Calls
set_option maxRecDepth 100000
set_option maxHeartbeats 8000000
namespace Mine
theorem fn_of {c : Cx} {loose : List Str} {mean : ExcName → Option Value} (T : Top view loose mean c.mg c.mb c.h₀) {i : Nat} (j : Nat)
    (e : ((recsOf view)[j]?.map fun d => (d.name, d.params, d.body, d.scope)) = some (nmS (stI i), arS (stI i), boS (stI i), scS (stI i))) : FnI c i := by
  obtain ⟨d, hd, h⟩ := Option.map_eq_some_iff.mp e
  obtain ⟨a, o, pm, code, doc, q⟩ := T.fn d (List.mem_of_getElem? hd)
  obtain ⟨e1, h⟩ := Prod.mk.inj h
  obtain ⟨e2, h⟩ := Prod.mk.inj h
  obtain ⟨e3, e4⟩ := Prod.mk.inj h
  rw [e1, e2, e3, e4] at q
  exact ⟨a, o, pm, code, doc, q⟩
theorem bt_of {c : Cx} {loose : List Str} {mean : ExcName → Option Value} (T : Top view loose mean c.mg c.mb c.h₀) (X : c.K.In c.h₀) {b : Str} {v : Value} (e : nsIn c.K mainGlobals b = some none) (h : bootBuiltins b = some v) (n : b ≠ "__name__") : Bt c b v :=
  ⟨mg_none_of X T.g e, (T.builtins b n).trans h⟩
def oAt (K : Frag) (a : Addr) : Obj := (K.lookup a).getD default
theorem oAt_in {K : Frag} {h : Heap} (X : K.In h) {a : Addr} (e : (K.lookup a).isSome = true) : h.get? a = some (oAt K a) := by
  obtain ⟨o, ho⟩ := Option.isSome_iff_exists.mp e
  rw [X _ _ ho]; unfold oAt; rw [ho]; rfl
theorem boot_ba : bootBuiltins "bytearray" = some (.type "bytearray") := by decide +kernel
def tkAt (K : Frag) (x : Str) : Tok := match nsIn K mainGlobals x with
  | some (some (.int _ t)) => t
  | _ => default
def fdAt (K : Frag) (a : Addr) : FuncData := match (oAt K a).data with
  | .func fd => fd
  | _ => default
def isFd (K : Frag) (a : Addr) : Bool := match (oAt K a).data with
  | .func _ => true
  | _ => false
theorem meth_of {c : Cx} {a : Addr} {ns : List Str} {body : List Stmt} {scope : Scope} (X : c.K.In c.h₀) (e : (c.K.lookup a).isSome = true) (f : isFd c.K a = true) (h1 : (fdAt c.K a).scope = scope) (h2 : (fdAt c.K a).body = .stmts body) (h3 : (fdAt c.K a).closure = [])
    (h4 : (fdAt c.K a).globals = mainGlobals) (h5 : (fdAt c.K a).builtins = builtinsNs) (h6 : codeIn c.K (fdAt c.K a).code (fdAt c.K a).qualname = true) (h7 : ∀ vs : List Value, vs.length = ns.length → bindArgs (fdAt c.K a) ⟨vs, []⟩ = pure (ns.zip vs)) : MethAt c a ns body scope := by
  refine ⟨_, fdAt c.K a, oAt_in X e, ?_, h1, h2, h3, h4, h5, codeRec_of X h6, h7⟩
  unfold isFd at f
  unfold fdAt
  split at f
  · rename_i fd q; rw [q]
  · cases f
set_option maxHeartbeats 32000000 in
theorem pc_of {w : World} {s₁ : Shared} {mg mb : Str → Option Value} {loose : List Str} {mean : ExcName → Option Value} (T : Top view loose mean mg mb s₁.heap) (KX : (KR w.params).In s₁.heap) :
    PC ⟨PySem.Challenge.pw_nz0348_01, w, s₁.heap, mg, mb, s₁.os, KR w.params, 198⟩ 160 167 195 where
  G := ⟨T.g, T.b, T.nolimit, KX⟩
  fn := fun i hi => by
    simp only [List.mem_cons, List.not_mem_nil, or_false] at hi
    rcases hi with rfl | rfl | rfl | rfl | rfl | rfl | rfl | rfl | rfl | rfl | rfl | rfl | rfl | rfl | rfl | rfl | rfl | rfl | rfl | rfl | rfl | rfl | rfl | rfl | rfl | rfl
    · exact fn_of T 1 (by kernel_rfl)
    · exact fn_of T 2 (by kernel_rfl)
    · exact fn_of T 3 (by kernel_rfl)
    · exact fn_of T 4 (by kernel_rfl)
    · exact fn_of T 5 (by kernel_rfl)
    · exact fn_of T 6 (by kernel_rfl)
    · exact fn_of T 7 (by kernel_rfl)
    · exact fn_of T 8 (by kernel_rfl)
    · exact fn_of T 9 (by kernel_rfl)
    · exact fn_of T 10 (by kernel_rfl)
    · exact fn_of T 11 (by kernel_rfl)
    · exact fn_of T 12 (by kernel_rfl)
    · exact fn_of T 13 (by kernel_rfl)
    · exact fn_of T 14 (by kernel_rfl)
    · exact fn_of T 15 (by kernel_rfl)
    · exact fn_of T 16 (by kernel_rfl)
    · exact fn_of T 17 (by kernel_rfl)
    · exact fn_of T 18 (by kernel_rfl)
    · exact fn_of T 19 (by kernel_rfl)
    · exact fn_of T 20 (by kernel_rfl)
    · exact fn_of T 21 (by kernel_rfl)
    · exact fn_of T 22 (by kernel_rfl)
    · exact fn_of T 23 (by kernel_rfl)
    · exact fn_of T 24 (by kernel_rfl)
    · exact fn_of T 25 (by kernel_rfl)
    · exact fn_of T 26 (by kernel_rfl)
  bLen := bt_of T KX (by kernel_rfl) (by boot_fast) (by decide)
  bAbs := bt_of T KX (by kernel_rfl) (by boot_fast) (by decide)
  bSum := bt_of T KX (by kernel_rfl) (by boot_fast) (by decide)
  bAny := bt_of T KX (by kernel_rfl) (by boot_fast) (by decide)
  bMax := bt_of T KX (by kernel_rfl) (by boot_fast) (by decide)
  bMin := bt_of T KX (by kernel_rfl) (by boot_fast) (by decide)
  bSorted := bt_of T KX (by kernel_rfl) (by boot_fast) (by decide)
  bRange := bt_of T KX (by kernel_rfl) (by boot_fast) (by decide)
  bList := bt_of T KX (by kernel_rfl) (by boot_fast) (by decide)
  bBytes := bt_of T KX (by kernel_rfl) (by boot_fast) (by decide)
  bBa := bt_of T KX (by kernel_rfl) boot_ba (by decide)
  sizes := by
    have e : (KR w.params).lookup 62 = some (oAt (KR w.params) 62) := by kernel_rfl
    exact ⟨62, _, _, mg_of KX T.g (by kernel_rfl), KX _ _ e, .cons rfl (.cons rfl (.cons rfl (.cons rfl .nil)))⟩
  most := ⟨tkAt (KR w.params) "MOST_OCTETS", mg_of KX T.g (by kernel_rfl)⟩
  rd := ⟨mg_of KX T.g (by kernel_rfl), by kernel_rfl, by kernel_rfl, by kernel_rfl, by kernel_rfl, by kernel_rfl, by kernel_rfl, by kernel_rfl, by kernel_rfl⟩
  mI := meth_of KX (by kernel_rfl) (by kernel_rfl) (by kernel_rfl) (by kernel_rfl) (by kernel_rfl) (by kernel_rfl) (by kernel_rfl) (by kernel_rfl) (len2 fun _ _ => by kernel_rfl)
  mL := meth_of KX (by kernel_rfl) (by kernel_rfl) (by kernel_rfl) (by kernel_rfl) (by kernel_rfl) (by kernel_rfl) (by kernel_rfl) (by kernel_rfl) (len1 fun _ => by kernel_rfl)
  mV := meth_of KX (by kernel_rfl) (by kernel_rfl) (by kernel_rfl) (by kernel_rfl) (by kernel_rfl) (by kernel_rfl) (by kernel_rfl) (by kernel_rfl) (len1 fun _ => by kernel_rfl)
  data := by kernel_rfl
  at_ := by kernel_rfl
  left := by kernel_rfl
  varint := by kernel_rfl
  leftF := by kernel_rfl
  varintF := by kernel_rfl
  leftK := by kernel_rfl
  varintK := by kernel_rfl
end Mine
end
section
open PySem PySem.W PyProof.Rows PySem.Calls
set_option maxRecDepth 100000
set_option maxHeartbeats 8000000
namespace Mine
theorem wpC_caller_room : Room callerA 12 := ⟨rfl, by decide, by decide⟩
theorem holds_of (L : ∀ (c : Cx) (fI fL fV : Addr) (σ : MS) (k : Addr) (ns : List Int), PC c fI fL fV → σ k = some (.froz (ns.map MV.int)) → ns.length ≤ 100 → CC c 12 "law" [.ref k] σ fun v _ => v = .bool true) :
    PySem.Challenge.rw_nz0348_01.Holds := hd (by
  intro w s₀ s₁ mg mb G Y fa o pm cd doc dV kV ho hd hcd hD hmg hg args vals as hpre hlay hrd hwl hlo
  have KX := kIn_of Y
  refine Ground.open G ?_
  intro T B D TE TW
  have P := pc_of T KX
  wrow_args hpre hlay hrd hwl hlo
  rename_i ns _ _ _ _ _ _ _ k vs _ hL _ _ _ hI _ _ _
  have R : Rel (⟨PySem.Challenge.pw_nz0348_01, w, s₁.heap, mg, mb, s₁.os, KR w.params, 198⟩ : Cx) (fun j => if j = k then some (.froz (ns.map MV.int)) else none) s₁.heap := by
    refine ⟨fun _ _ e => e, fun j mo e => ?_, fun j mo e nf => ?_, fun j dx es e => ?_⟩
    · by_cases q : j = k
      · rw [if_pos q] at e; cases e; subst q; exact ⟨_, hL, by rw [List.toList_toArray]; exact F2.ofInts hI⟩
      · rw [if_neg q] at e; cases e
    · by_cases q : j = k
      · rw [if_pos q] at e; cases e; exact absurd rfl (nf _)
      · rw [if_neg q] at e; cases e
    · by_cases q : j = k
      · rw [if_pos q] at e; cases e
      · rw [if_neg q] at e; cases e
  have key := L _ 160 167 195 (fun j => if j = k then some (.froz (ns.map MV.int)) else none) k ns P (if_pos rfl) (by omega) callerA s₁ [.ref k] fa hmg wpC_caller_room R (.cons vRef .nil)
  refine wpC_mono key fun v s' q => ?_
  obtain ⟨u, σ', r, st, hu⟩ := q
  subst hu
  obtain rfl := r.bool
  refine GoodW.toG ⟨.inl ⟨.bool true, .bool true, [], rfl, raisesW_false (by wrow_none_raised), .bool true, by wrow_post, fun _ => ⟨.nil, fun _ h => nomatch h⟩⟩, st.rel.base, st.os, st.gens.trans hg⟩)
end Mine
end
theorem PySem.Challenge.cw_nz0348_01_holds : PySem.Challenge.rw_nz0348_01.Holds := by
  exact Mine.holds_of fun c fI fL fV σ k ns P hk hz => Mine.c_law (n := 6) P (.inr hk) hz
