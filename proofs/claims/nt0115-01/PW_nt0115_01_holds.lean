import PyProof.Rows.All
import Open.Head
import OpenK.KMake
import KE.KBytesWalk
import KE.BytesMake
import KE.KIsBytes
import KE.BitLaws
import PyProof.InstStoreFacts
import PyProof.StationsW
import PyProof.ExcBaseAll.Exception
import PySem.Challenge.RW_nt0115_01
open PySem PySem.W PyProof.Rows PySem.Calls
set_option Elab.async false
set_option maxRecDepth 100000
set_option maxHeartbeats 4000000
set_option autoImplicit false
set_option linter.unusedVariables false
set_option linter.unusedSimpArgs false
set_option linter.unnecessarySimpa false
set_option genSizeOf false
namespace Nt
inductive PV where
  | unb | none | bool (b : Bool) | int (i : Int) | str (s : Str) | bytes (b : Array UInt8)
  | list (xs : List PV) | tup (xs : List PV) | rng (lo hi : Int)
  | obj (k g : PV)
  | barr (b : Array UInt8)
  | pool
  | own (xs : List PV) | ownb (b : Array UInt8)
deriving Inhabited
noncomputable abbrev Bm := Addr → Option Obj
/-- what is told of a Part: an object of the class at C with its dict at d -/
structure IsPart (B : Bm) (C : Addr) (a : Addr) (kv gv : Value) : Prop where
  ex : ∃ d es ep, B a = some { cls := .ref C, dict := some d, data := .plain } ∧ B d = some { cls := .type "dict", data := .dict es ep } ∧ StrKeys es ∧
    nsFind es (Str.ofString "kind") = some kv ∧ nsFind es (Str.ofString "sign") = some gv ∧ nsFind es (Str.ofString "takes") = none
structure Cfg where
  P : Option Addr
  C : Addr
inductive Rd (g : Cfg) (B : Bm) : Value → PV → Prop
  | none : Rd g B .none .none
  | bool (b : Bool) : Rd g B (.bool b) (.bool b)
  | int (i : Int) (t : Tok) : Rd g B (.int i t) (.int i)
  | str (s : Str) (t : Tok) : Rd g B (.str s t) (.str s)
  | bytes (b : Array UInt8) (t : Tok) : Rd g B (.bytes b t) (.bytes b)
  | list {a : Addr} {vs : Array Value} {n : Nat} {xs : List PV} (ha : B a = some { cls := .type "list", data := .seq vs n }) (hl : vs.toList.length = xs.length)
      (hi : ∀ (i : Nat) v x, vs.toList[i]? = some v → xs[i]? = some x → Rd g B v x) : Rd g B (.ref a) (.list xs)
  | tup {a : Addr} {vs : Array Value} {n : Nat} {xs : List PV} (ha : B a = some { cls := .type "tuple", data := .seq vs n }) (hl : vs.toList.length = xs.length)
      (hi : ∀ (i : Nat) v x, vs.toList[i]? = some v → xs[i]? = some x → Rd g B v x) : Rd g B (.ref a) (.tup xs)
  | rng {a : Addr} {lo hi : Int} {t u v : Tok} (ha : B a = some { cls := .type "range", data := .fields #[.int lo t, .int hi u, .int 1 v] }) : Rd g B (.ref a) (.rng lo hi)
  | obj {a : Addr} {kv gv : Value} {k s : PV} (ha : IsPart B g.C a kv gv) (hk : Rd g B kv k) (hg : Rd g B gv s) : Rd g B (.ref a) (.obj k s)
  | barr {a : Addr} {b : Array UInt8} (ha : B a = some { cls := .type "bytearray", data := .bytearray b }) : Rd g B (.ref a) (.barr b)
  | pool {a : Addr} (ha : g.P = some a) : Rd g B (.ref a) .pool
/-- lists of values read as lists of trees -/
noncomputable def RdL (g : Cfg) (B : Bm) (vs : List Value) (xs : List PV) : Prop := vs.length = xs.length ∧ ∀ (i : Nat) v x, vs[i]? = some v → xs[i]? = some x → Rd g B v x
noncomputable def Sub (B B' : Bm) : Prop := ∀ a o, B a = some o → B' a = some o
theorem Sub.refl (B : Bm) : Sub B B := fun _ _ e => e
theorem Sub.trans {B B' B'' : Bm} (x : Sub B B') (y : Sub B' B'') : Sub B B'' := fun a o e => y a o (x a o e)
theorem IsPart.mono {B B' : Bm} (s : Sub B B') {C a : Addr} {kv gv : Value} (x : IsPart B C a kv gv) : IsPart B' C a kv gv :=
  let ⟨d, es, ep, h1, h2, h3⟩ := x.ex; ⟨d, es, ep, s _ _ h1, s _ _ h2, h3⟩
theorem Rd.mono {g : Cfg} {B B' : Bm} (s : Sub B B') {v : Value} {x : PV} (h : Rd g B v x) : Rd g B' v x := by
  induction h with
  | none => exact .none
  | bool b => exact .bool b
  | int i t => exact .int i t
  | str x t => exact .str x t
  | bytes b t => exact .bytes b t
  | list ha hl _ ih => exact .list (s _ _ ha) hl ih
  | tup ha hl _ ih => exact .tup (s _ _ ha) hl ih
  | rng ha => exact .rng (s _ _ ha)
  | obj ha _ _ ih1 ih2 => exact .obj (ha.mono s) ih1 ih2
  | barr ha => exact .barr (s _ _ ha)
  | pool ha => exact .pool ha
theorem RdL.mono {g : Cfg} {B B' : Bm} (s : Sub B B') {vs : List Value} {xs : List PV} (h : RdL g B vs xs) : RdL g B' vs xs :=
  ⟨h.1, fun i v x e1 e2 => (h.2 i v x e1 e2).mono s⟩
theorem RdL.nil {g : Cfg} {B : Bm} : RdL g B [] [] := ⟨rfl, fun i v x e => by simp at e⟩
theorem RdL.cons {g : Cfg} {B : Bm} {v : Value} {x : PV} {vs : List Value} {xs : List PV} (h : Rd g B v x) (hs : RdL g B vs xs) : RdL g B (v :: vs) (x :: xs) := by
  refine ⟨by simp [hs.1], fun i w y e1 e2 => ?_⟩
  cases i with
  | zero => simp at e1 e2; subst e1; subst e2; exact h
  | succ i => simp at e1 e2; exact hs.2 i w y e1 e2
theorem RdL.snoc {g : Cfg} {B : Bm} {v : Value} {x : PV} {vs : List Value} {xs : List PV} (hs : RdL g B vs xs) (h : Rd g B v x) : RdL g B (vs ++ [v]) (xs ++ [x]) := by
  refine ⟨by simp [hs.1], fun i w y e1 e2 => ?_⟩
  rcases Nat.lt_trichotomy i vs.length with hi | hi | hi
  · rw [List.getElem?_append_left hi] at e1
    rw [List.getElem?_append_left (hs.1 ▸ hi)] at e2
    exact hs.2 i w y e1 e2
  · subst hi
    have h2 := hs.1
    rw [h2] at e2
    simp at e1 e2
    subst e1; subst e2; exact h
  · rw [List.getElem?_eq_none (by simp; omega)] at e1; cases e1
theorem RdL.head {g : Cfg} {B : Bm} {v : Value} {x : PV} {vs : List Value} {xs : List PV} (h : RdL g B (v :: vs) (x :: xs)) : Rd g B v x := h.2 0 v x rfl rfl
theorem RdL.tail {g : Cfg} {B : Bm} {v : Value} {x : PV} {vs : List Value} {xs : List PV} (h : RdL g B (v :: vs) (x :: xs)) : RdL g B vs xs :=
  ⟨by simpa using h.1, fun i w y e1 e2 => h.2 (i + 1) w y (by simpa using e1) (by simpa using e2)⟩
theorem RdL.nil_inv {g : Cfg} {B : Bm} {vs : List Value} (h : RdL g B vs []) : vs = [] := by simpa using h.1
theorem RdL.cons_inv {g : Cfg} {B : Bm} {vs : List Value} {x : PV} {xs : List PV} (h : RdL g B vs (x :: xs)) : ∃ v vs', vs = v :: vs' ∧ Rd g B v x ∧ RdL g B vs' xs := by
  cases vs with
  | nil => have := h.1; simp at this
  | cons v vs => exact ⟨v, vs, rfl, h.head, h.tail⟩
theorem RdL.get {g : Cfg} {B : Bm} {vs : List Value} {xs : List PV} (h : RdL g B vs xs) {i : Nat} {x : PV} (e : xs[i]? = some x) : ∃ v, vs[i]? = some v ∧ Rd g B v x := by
  obtain ⟨hi, _⟩ := List.getElem?_eq_some_iff.mp e
  have hj : i < vs.length := h.1 ▸ hi
  exact ⟨vs[i], by simp [hj], h.2 i _ x (by simp [hj]) e⟩
noncomputable def Keep (B : Bm) (h : Heap) : Prop := ∀ a o, B a = some o → h.get? a = some o
noncomputable def listO (vs : Array Value) (n : Nat) : Obj := { cls := .type "list", data := .seq vs n }
noncomputable abbrev Pl := Int × Int
noncomputable def PoolAt (g : Cfg) (p : Pl) (h : Heap) : Prop := ∀ a, g.P = some a → ∃ (t u : Tok) (n : Nat), h.get? a = some (listO #[.int p.1 t, .int p.2 u] n)
/-- an object of before: as it stood, or a dict's (a frame's) slots moved -/
noncomputable def Same (h' : Heap) (a : Addr) (o : Obj) : Prop := h'.get? a = some o ∨ ((∃ es n, o.data = .dict es n) ∧ ∃ sl, h'.get? a = some { o with slots := sl })
theorem Same.ex {h' : Heap} {a : Addr} {o : Obj} (x : Same h' a o) : ∃ o', h'.get? a = some o' ∧ o'.data = o.data := by
  rcases x with x | ⟨_, sl, x⟩
  · exact ⟨o, x, rfl⟩
  · exact ⟨_, x, rfl⟩
theorem Same.exact {h' : Heap} {a : Addr} {o : Obj} (x : Same h' a o) (n : ∀ es ep, o.data ≠ .dict es ep) : h'.get? a = some o := by
  rcases x with x | ⟨⟨es, ep, e⟩, _⟩
  · exact x
  · exact absurd e (n es ep)
theorem Same.trans {h' h'' : Heap} {a : Addr} {o : Obj} (x : Same h' a o) (y : ∀ o', h'.get? a = some o' → Same h'' a o') : Same h'' a o := by
  rcases x with x | ⟨d, sl, x⟩
  · exact y o x
  · rcases y _ x with z | ⟨_, sl', z⟩
    · exact .inr ⟨d, sl, z⟩
    · exact .inr ⟨d, sl', z⟩
theorem Same.map {h' h'' : Heap} {a : Addr} {o : Obj} (x : Same h' a o) (y : ∀ o', h'.get? a = some o' → h''.get? a = some o') : Same h'' a o := x.trans fun o' e => .inl (y o' e)
structure Evo (g : Cfg) (B : Bm) (h : Heap) (p' : Pl) (B' : Bm) (h' : Heap) : Prop where
  mono : Sub B B'
  new : ∀ a o, B' a = some o → B a = some o ∨ h.get? a = none
  keep : Keep B' h'
  old : ∀ a o, h.get? a = some o → g.P ≠ some a → Same h' a o
  there : ∀ a o, h.get? a = some o → ∃ o', h'.get? a = some o'
  pool : PoolAt g p' h'
theorem Evo.refl {g : Cfg} {B : Bm} {h : Heap} {p : Pl} (k : Keep B h) (q : PoolAt g p h) : Evo g B h p B h :=
  ⟨Sub.refl B, fun _ _ e => .inl e, k, fun _ _ e _ => .inl e, fun _ o e => ⟨o, e⟩, q⟩
theorem Evo.trans {g : Cfg} {B B' B'' : Bm} {h h' h'' : Heap} {p p' : Pl} (x : Evo g B h p B' h') (y : Evo g B' h' p' B'' h'') : Evo g B h p' B'' h'' where
  mono := x.mono.trans y.mono
  new := fun a o e => by
    rcases y.new a o e with e1 | e1
    · exact x.new a o e1
    · right
      cases q : h.get? a with
      | none => rfl
      | some o' => obtain ⟨o'', e2⟩ := x.there a o' q; rw [e2] at e1; cases e1
  keep := y.keep
  old := fun a o e n => (x.old a o e n).trans fun o' e' => y.old a o' e' n
  there := fun a o e => let ⟨o', e'⟩ := x.there a o e; y.there a o' e'
  pool := y.pool
/-- a heap that keeps all -/
noncomputable def Grow (h h' : Heap) : Prop := ∀ a o, h.get? a = some o → h'.get? a = some o
theorem Grow.push (h : Heap) (o : Obj) : Grow h (h.push o) := fun _ _ e => Heap.get?_push_of_some o e
theorem Grow.trans {h h' h'' : Heap} (x : Grow h h') (y : Grow h' h'') : Grow h h'' := fun a o e => y a o (x a o e)
theorem PoolAt.grow {g : Cfg} {p : Pl} {h h' : Heap} (q : PoolAt g p h) (k : Grow h h') : PoolAt g p h' := fun a e => let ⟨t, u, n, e'⟩ := q a e; ⟨t, u, n, k _ _ e'⟩
theorem Evo.grow {g : Cfg} {B : Bm} {h h' : Heap} {p : Pl} (k : Keep B h) (q : PoolAt g p h) (x : Grow h h') : Evo g B h p B h' :=
  ⟨Sub.refl B, fun _ _ e => .inl e, fun a o e => x a o (k a o e), fun a o e _ => .inl (x a o e), fun a o e => ⟨o, x a o e⟩, q.grow x⟩
/-- a new object joins the kept part -/
noncomputable def Bm.add (B : Bm) (a : Addr) (o : Obj) : Bm := fun b => if b = a then some o else B b
theorem Bm.sub_add {B : Bm} {a : Addr} {o : Obj} (h : B a = none) : Sub B (B.add a o) := fun b o' e => by
  unfold Bm.add
  by_cases q : b = a
  · subst q; rw [h] at e; cases e
  · rw [if_neg q]; exact e
theorem Bm.add_self {B : Bm} {a : Addr} {o : Obj} : (B.add a o) a = some o := by simp [Bm.add]
theorem Heap.get_size (h : Heap) : h.get? h.objs.size = none := by
  cases q : h.get? h.objs.size with
  | none => rfl
  | some o => exact absurd (Heap.lt_size q) (Nat.lt_irrefl _)
theorem Keep.fresh {B : Bm} {h : Heap} (k : Keep B h) {a : Addr} (e : h.get? a = none) : B a = none := by
  cases q : B a with
  | none => rfl
  | some o => rw [k a o q] at e; cases e
/-- alloc of an object that joins the kept part -/
theorem Evo.alloc {g : Cfg} {B : Bm} {h : Heap} {p : Pl} (k : Keep B h) (q : PoolAt g p h) (o : Obj) (hf : o.isFreed = false) : Evo g B h p (B.add h.objs.size o) (h.push o) where
  mono := Bm.sub_add (k.fresh (Heap.get_size h))
  new := fun a o' e => by
    unfold Bm.add at e
    by_cases z : a = h.objs.size
    · subst z; exact .inr (Heap.get_size h)
    · rw [if_neg z] at e; exact .inl e
  keep := fun a o' e => by
    unfold Bm.add at e
    by_cases z : a = h.objs.size
    · subst z; rw [if_pos rfl] at e; cases e; exact Heap.get?_push_size _ hf
    · rw [if_neg z] at e; exact Heap.get?_push_of_some _ (k a o' e)
  old := fun a o' e _ => .inl (Heap.get?_push_of_some _ e)
  there := fun a o' e => ⟨o', Heap.get?_push_of_some _ e⟩
  pool := q.grow (Grow.push h o)
/-- the room for d calls more -/
structure Room (d : Nat) (A : Around) : Prop where
  handled : A.handled = none
  guards : A.guards = some []
  depth : A.depth + d + 8 < recursionLimit
  units : A.units + 8 * d + 140 < cLine
/-- the frames on the stack are known -/
noncomputable def FF (g : Cfg) (B : Bm) (A : Around) (h : Heap) : Prop := ∃ l, A.frames = some l ∧ ∀ env ∈ l, env.scope.kind ≠ .module ∧ ∃ L o es n, env.frame = some L ∧ h.get? L = some o ∧ o.data = .dict es n ∧ B L = none ∧ g.P ≠ some L
theorem FF.evo {g : Cfg} {B B' : Bm} {A : Around} {h h' : Heap} {p' : Pl} (x : FF g B A h) (y : Evo g B h p' B' h') : FF g B' A h' := by
  obtain ⟨l, e, H⟩ := x
  refine ⟨l, e, fun env m => ?_⟩
  obtain ⟨k, L, o, es, n, hf, ho, hd, hb, hp⟩ := H env m
  obtain ⟨o', ho', hd'⟩ := (y.old L o ho hp).ex
  refine ⟨k, L, o', es, n, hf, ho', hd'.trans hd, ?_, hp⟩
  cases q : B' L with
  | none => rfl
  | some ob =>
    rcases y.new L ob q with z | z
    · rw [hb] at z; cases z
    · rw [ho] at z; cases z
theorem Room.mono {d d' : Nat} {A : Around} (r : Room d A) (h : d' ≤ d) : Room d' A := ⟨r.handled, r.guards, by have := r.depth; omega, by have := r.units; omega⟩
theorem Room.in1 {d : Nat} {A : Around} (r : Room (d + 1) A) : Room d A.in1 := ⟨r.handled, r.guards, by have := r.depth; show A.depth + d + 8 < _; omega, by have := r.units; show A.units + 1 + 8 * d + 140 < _; omega⟩
theorem Room.deeper {d : Nat} {A : Around} {env : Env} (r : Room (d + 1) A) : Room d (A.deeper env) :=
  ⟨r.handled, r.guards, by have := r.depth; show A.depth + 1 + d + 8 < _; omega, by have := r.units; show A.units + 3 + 8 * d + 140 < _; omega⟩
inductive VK where | loc | cell | cap
deriving DecidableEq
structure Act where
  env : Env
  h0 : Heap
  names : List (Str × NameKind)
  vars : List (Str × VK)
  F : List Addr
structure EnvOk (c : Act) : Prop where
  kind : c.env.scope.kind = .function
  glob : c.env.globals = mainGlobals
  blt : c.env.builtins = builtinsNs
  loc : ∀ (i : Nat) x, c.vars[i]? = some (x, .loc) → c.env.kindOf x = some .local
  cell : ∀ (i : Nat) x, c.vars[i]? = some (x, .cell) → c.env.kindOf x = some .cell
  cap : ∀ (i : Nat) x, c.vars[i]? = some (x, .cap) → (c.env.kindOf x = some .cell ∨ c.env.kindOf x = some .free) ∧ (x == ("__classdict__" : Str)) = false
  gname : ∀ x, c.names.lookup x = some .globalImplicit → c.env.kindOf x = some .globalImplicit
  inj : ∀ x y a, c.env.cells.lookup x = some a → c.env.cells.lookup y = some a → x = y
  nodup : ∀ (i j : Nat) x k k', c.vars[i]? = some (x, k) → c.vars[j]? = some (x, k') → i = j
  nodbg : ∀ (i : Nat) x k, c.vars[i]? = some (x, k) → (x == ("__debug__" : Str)) = false
  fr : ∀ a ∈ c.F, ∃ o es n, c.h0.get? a = some o ∧ o.data = .dict es n
noncomputable def PV.isOwn : PV → Bool
  | .own _ => true
  | .ownb _ => true
  | _ => false
noncomputable def Val (g : Cfg) (B : Bm) (v? : Option Value) : PV → Prop
  | .unb => v? = none
  | z => ∃ v, v? = some v ∧ Rd g B v z
noncomputable def barO (b : Array UInt8) : Obj := { cls := .type "bytearray", data := .bytearray b }
noncomputable def LocOk (g : Cfg) (B : Bm) (h : Heap) (pr : List Addr) (o : Addr) (v? : Option Value) : PV → Prop
  | .own xs => v? = some (.ref o) ∧ o ∈ pr ∧ ∃ vs n, h.get? o = some (listO vs n) ∧ RdL g B vs.toList xs
  | .ownb b => v? = some (.ref o) ∧ o ∈ pr ∧ h.get? o = some (barO b)
  | z => Val g B v? z
theorem Val.mono {g : Cfg} {B B' : Bm} (s : Sub B B') {v? : Option Value} {z : PV} (h : Val g B v? z) : Val g B' v? z := by
  cases z <;> first | exact h | (obtain ⟨v, e, r⟩ := h; exact ⟨v, e, r.mono s⟩)
theorem LocOk.of_val {g : Cfg} {B : Bm} {h : Heap} {pr : List Addr} {o : Addr} {v? : Option Value} {z : PV} (x : Val g B v? z) : LocOk g B h pr o v? z := by
  cases z <;> first | exact x | (obtain ⟨v, e, r⟩ := x; cases r)
theorem LocOk.val {g : Cfg} {B : Bm} {h : Heap} {pr : List Addr} {o : Addr} {v? : Option Value} {z : PV} (x : LocOk g B h pr o v? z) (n : z.isOwn = false) : Val g B v? z := by
  cases z <;> first | exact x | cases n
theorem LocOk.up {g : Cfg} {B B' : Bm} {h h' : Heap} {pr pr' : List Addr} {o : Addr} {v? : Option Value} {z : PV} (x : LocOk g B h pr o v? z) (s : Sub B B')
    (hk : z.isOwn = true → ∀ ob, h.get? o = some ob → h'.get? o = some ob) (hp : z.isOwn = true → o ∈ pr → o ∈ pr') : LocOk g B' h' pr' o v? z := by
  cases z with
  | own xs => obtain ⟨e, m, vs, n, hv, r⟩ := x; exact ⟨e, hp rfl m, vs, n, hk rfl _ hv, r.mono s⟩
  | ownb b => obtain ⟨e, m, hv⟩ := x; exact ⟨e, hp rfl m, hk rfl _ hv⟩
  | unb => exact x
  | _ => obtain ⟨v, e, r⟩ := x; exact ⟨v, e, r.mono s⟩
theorem LocOk.data {g : Cfg} {B : Bm} {h : Heap} {pr : List Addr} {o : Addr} {v? : Option Value} {z : PV} (x : LocOk g B h pr o v? z) (n : z.isOwn = true) :
    ∃ ob, h.get? o = some ob ∧ (∀ es ep, ob.data ≠ .dict es ep) ∧ ∀ cv, ob.data ≠ .cell cv := by
  cases z with
  | own xs => obtain ⟨_, _, vs, n, hv, _⟩ := x; exact ⟨_, hv, fun _ _ e => by simp [listO] at e, fun _ e => by simp [listO] at e⟩
  | ownb b => obtain ⟨_, _, hv⟩ := x; exact ⟨_, hv, fun _ _ e => by simp [barO] at e, fun _ e => by simp [barO] at e⟩
  | _ => cases n
structure Locs (g : Cfg) (c : Act) (pr : List Addr) (B : Bm) (ρ : List PV) (h : Heap) (m : Str → Option Value) (ow : Nat → Addr) : Prop where
  ns : h.Ns c.env.locals m
  loc : ∀ (i : Nat) x z, c.vars[i]? = some (x, .loc) → ρ[i]? = some z → LocOk g B h pr (ow i) (m x) z
  apart : ∀ (i j : Nat) zi zj, ρ[i]? = some zi → ρ[j]? = some zj → zi.isOwn = true → zj.isOwn = true → ow i = ow j → i = j
structure Inv (b0 : Heap) (g : Cfg) (c : Act) (pr : List Addr) (B : Bm) (ρ : List PV) (p : Pl) (h : Heap) : Prop where
  ok : EnvOk c
  base : ∀ a o, b0.get? a = some o → B a = some o
  keep : Keep B h
  pool : PoolAt g p h
  old : ∀ a o, c.h0.get? a = some o → g.P ≠ some a → Same h a o
  thereO : ∀ a o, c.h0.get? a = some o → ∃ o', h.get? a = some o'
  prv : ∀ a ∈ pr, c.h0.get? a = none ∧ B a = none ∧ g.P ≠ some a ∧ ∃ o, h.get? a = some o
  Lpr : c.env.locals ∈ pr
  locs : ∃ m ow, Locs g c pr B ρ h m ow
  cel : ∀ (i : Nat) x k z, c.vars[i]? = some (x, k) → k ≠ .loc → ρ[i]? = some z → ∃ a v?, c.env.cells.lookup x = some a ∧ h.IsCell a v? ∧ Val g B v? z ∧ (k = .cell → a ∈ pr) ∧ g.P ≠ some a
  len : ρ.length = c.vars.length
  pB : ∀ a, g.P = some a → B a = none
  nf : ∀ a ∈ c.F, B a = none ∧ g.P ≠ some a
structure RoomC (d : Nat) (c : Act) (A : Around) : Prop extends Room d A where
  frm : ∃ l, A.frames = some l ∧ ∀ env ∈ l, env.scope.kind ≠ .module ∧ ∃ L, env.frame = some L ∧ (L = c.env.locals ∨ L ∈ c.F)
structure SEvo (g : Cfg) (pr : List Addr) (B : Bm) (h : Heap) (pr' : List Addr) (B' : Bm) (h' : Heap) : Prop where
  mono : Sub B B'
  new : ∀ a o, B' a = some o → B a = some o ∨ h.get? a = none ∨ a ∈ pr
  old : ∀ a o, h.get? a = some o → a ∉ pr → g.P ≠ some a → Same h' a o
  there : ∀ a o, h.get? a = some o → ∃ o', h'.get? a = some o'
  prn : ∀ a ∈ pr', a ∈ pr ∨ h.get? a = none
theorem SEvo.refl (g : Cfg) (pr : List Addr) (B : Bm) (h : Heap) : SEvo g pr B h pr B h := ⟨Sub.refl B, fun _ _ e => .inl e, fun _ _ e _ _ => .inl e, fun _ o e => ⟨o, e⟩, fun _ m => .inl m⟩
theorem SEvo.gone {g : Cfg} {pr pr' : List Addr} {B B' : Bm} {h h' : Heap} (x : SEvo g pr B h pr' B' h') {a : Addr} (e : h'.get? a = none) : h.get? a = none := by
  cases q : h.get? a with
  | none => rfl
  | some o => obtain ⟨o', e'⟩ := x.there a o q; rw [e] at e'; cases e'
theorem SEvo.trans {g : Cfg} {pr pr' pr'' : List Addr} {B B' B'' : Bm} {h h' h'' : Heap} (x : SEvo g pr B h pr' B' h') (y : SEvo g pr' B' h' pr'' B'' h'') : SEvo g pr B h pr'' B'' h'' where
  mono := x.mono.trans y.mono
  new := fun a o e => by
    rcases y.new a o e with e1 | e1 | e1
    · exact x.new a o e1
    · exact .inr (.inl (x.gone e1))
    · rcases x.prn a e1 with e2 | e2
      · exact .inr (.inr e2)
      · exact .inr (.inl e2)
  old := fun a o e n n' => (x.old a o e n n').trans fun o' e' => y.old a o' e' (fun m => by
    rcases x.prn a m with e2 | e2
    · exact n e2
    · rw [e] at e2; cases e2) n'
  there := fun a o e => let ⟨o', e'⟩ := x.there a o e; y.there a o' e'
  prn := fun a m => by
    rcases y.prn a m with e | e
    · exact x.prn a e
    · exact .inr (x.gone e)
theorem Evo.toS {g : Cfg} {B B' : Bm} {h h' : Heap} {p' : Pl} (x : Evo g B h p' B' h') (pr : List Addr) : SEvo g pr B h pr B' h' :=
  ⟨x.mono, fun a o e => (x.new a o e).elim .inl fun z => .inr (.inl z), fun a o e _ n => x.old a o e n, x.there, fun _ m => .inl m⟩
section
variable {b0 : Heap} {g : Cfg} {c : Act} {pr : List Addr} {B : Bm} {ρ : List PV} {p : Pl} {h : Heap}
theorem Locs.evo {B' : Bm} {h' : Heap} {m : Str → Option Value} {ow : Nat → Addr} (L : Locs g c pr B ρ h m ow) (s : Sub B B') (k : ∀ a o, h.get? a = some o → g.P ≠ some a → Same h' a o)
    (hp : ∀ a ∈ pr, g.P ≠ some a) (hL : c.env.locals ∈ pr) : Locs g c pr B' ρ h' m ow where
  ns := by
    obtain ⟨oL, es, ep, hL0, hd, hk, hf⟩ := L.ns
    obtain ⟨o', ho', hd'⟩ := (k _ oL hL0 (hp _ hL)).ex
    exact ⟨o', es, ep, ho', hd'.trans hd, hk, hf⟩
  loc := fun i x z e1 e2 => (L.loc i x z e1 e2).up s (fun n ob e => (k _ ob e (by
    have q := L.loc i x z e1 e2
    cases z with
    | own xs => exact hp _ q.2.1
    | ownb b => exact hp _ q.2.1
    | _ => cases n)).exact (by
    obtain ⟨ob', e', nd, _⟩ := (L.loc i x z e1 e2).data n
    rw [e] at e'; cases e'; exact nd)) fun _ m => m
  apart := L.apart
theorem Ns.same {a : Addr} {m : Str → Option Value} {h h' : Heap} (x : h.Ns a m) (k : ∀ o, h.get? a = some o → Same h' a o) : h'.Ns a m := by
  obtain ⟨oL, es, ep, hL0, hd, hk, hf⟩ := x
  obtain ⟨o', ho', hd'⟩ := (k oL hL0).ex
  exact ⟨o', es, ep, ho', hd'.trans hd, hk, hf⟩
theorem Inv.evo (I : Inv b0 g c pr B ρ p h) {B' : Bm} {h' : Heap} {p' : Pl} (x : Evo g B h p' B' h') : Inv b0 g c pr B' ρ p' h' where
  ok := I.ok
  base := fun a o e => x.mono a o (I.base a o e)
  keep := x.keep
  pool := x.pool
  old := fun a o e n => (I.old a o e n).trans fun o' e' => x.old a o' e' n
  thereO := fun a o e => let ⟨o', e'⟩ := I.thereO a o e; x.there a o' e'
  prv := fun a m => by
    obtain ⟨h1, h2, h3, o₁, h4⟩ := I.prv a m
    refine ⟨h1, ?_, h3, x.there a o₁ h4⟩
    cases q : B' a with
    | none => rfl
    | some o =>
      rcases x.new a o q with e | e
      · rw [h2] at e; cases e
      · rw [h4] at e; cases e
  Lpr := I.Lpr
  locs := let ⟨m, ow, L⟩ := I.locs; ⟨m, ow, L.evo x.mono x.old (fun a m => (I.prv a m).2.2.1) I.Lpr⟩
  cel := fun i n k z e1 e2 e3 => by
    obtain ⟨a, v?, h1, ⟨o, ho, hd⟩, h3, h4, h5⟩ := I.cel i n k z e1 e2 e3
    exact ⟨a, v?, h1, ⟨o, (x.old a o ho h5).exact (fun _ _ e => by rw [hd] at e; cases e), hd⟩, h3.mono x.mono, h4, h5⟩
  len := I.len
  pB := fun a e => by
    obtain ⟨t, u, n, e'⟩ := I.pool a e
    cases q : B' a with
    | none => rfl
    | some o =>
      rcases x.new a o q with z | z
      · rw [I.pB a e] at z; cases z
      · rw [e'] at z; cases z
  nf := fun a m => by
    obtain ⟨h1, h2⟩ := I.nf a m
    obtain ⟨o, _, _, ho, _⟩ := I.ok.fr a m
    obtain ⟨o1, ho1⟩ := I.thereO a o ho
    refine ⟨?_, h2⟩
    cases q : B' a with
    | none => rfl
    | some ob =>
      rcases x.new a ob q with z | z
      · rw [h1] at z; cases z
      · rw [ho1] at z; cases z
theorem Inv.frs (I : Inv b0 g c pr B ρ p h) : ∀ a ∈ c.env.locals :: c.F, (∃ o es n, h.get? a = some o ∧ o.data = .dict es n) ∧ B a = none ∧ g.P ≠ some a := fun a m => by
  rcases List.mem_cons.mp m with rfl | m
  · obtain ⟨m, ow, L⟩ := I.locs
    obtain ⟨oL, es, ep, hL0, hd, _⟩ := L.ns
    obtain ⟨_, h2, h3, _⟩ := I.prv _ I.Lpr
    exact ⟨⟨oL, es, ep, hL0, hd⟩, h2, h3⟩
  · obtain ⟨h1, h2⟩ := I.nf a m
    obtain ⟨o, es, ep, ho, hd⟩ := I.ok.fr a m
    obtain ⟨o', ho', hd'⟩ := (I.old a o ho h2).ex
    exact ⟨⟨o', es, ep, ho', hd'.trans hd⟩, h1, h2⟩
theorem Inv.ff (I : Inv b0 g c pr B ρ p h) {d : Nat} {A : Around} (R : RoomC d c A) : FF g B A h := by
  obtain ⟨l, e, H⟩ := R.frm
  refine ⟨l, e, fun env m => ?_⟩
  obtain ⟨k, L, hf, hL⟩ := H env m
  obtain ⟨⟨o, es, n, h1, h2⟩, h3, h4⟩ := I.frs L (hL.elim (fun e => e ▸ List.mem_cons_self) fun m => List.mem_cons_of_mem _ m)
  exact ⟨k, L, o, es, n, hf, h1, h2, h3, h4⟩
theorem Inv.kindOf_load (I : Inv b0 g c pr B ρ p h) {M : Model} {A : Around} {E : Value → Shared → Prop} {s : Shared} (hs : s.heap = h) {i : Nat} {x : Str} {k : VK} {z : PV}
    (e1 : c.vars[i]? = some (x, k)) (e2 : ρ[i]? = some z) (n : z.isOwn = false) (nu : z ≠ .unb) {Q : Value → Shared → Prop} (hQ : ∀ v, Rd g B v z → Q v s) : wpAny M A (loadName c.env x) Q E s := by
  subst hs
  have key : ∀ v?, Val g B v? z → ∃ v, v? = some v ∧ Rd g B v z := fun v? hv => by cases z <;> first | exact hv | exact absurd rfl nu
  cases k with
  | loc =>
    obtain ⟨m, ow, L⟩ := I.locs
    obtain ⟨v, e, r⟩ := key _ ((L.loc i x z e1 e2).val n)
    exact wpAny_loadName_local I.ok.kind (I.ok.loc i x e1) L.ns e (hQ v r)
  | cell =>
    obtain ⟨a, v?, h1, h2, h3, h4, h5⟩ := I.cel i x _ z e1 (by decide) e2
    obtain ⟨v, e, r⟩ := key _ h3
    subst e
    exact wpAny_loadName_cell I.ok.kind (I.ok.cell i x e1) h1 h2 (hQ v r)
  | cap =>
    obtain ⟨a, v?, h1, h2, h3, h4, h5⟩ := I.cel i x _ z e1 (by decide) e2
    obtain ⟨v, e, r⟩ := key _ h3
    subst e
    obtain ⟨hk, hcd⟩ := I.ok.cap i x e1
    rcases hk with hk | hk
    · exact wpAny_loadName_cell I.ok.kind hk h1 h2 (hQ v r)
    · exact wpAny_loadName_free I.ok.kind hk h1 h2 (hQ v r) hcd
theorem Inv.var (I : Inv b0 g c pr B ρ p h) {M : Model} {A : Around} {E : Value → Shared → Prop} {s : Shared} (hs : s.heap = h) {i : Nat} {x : Str} {k : VK} {z : PV} {pos : Pos}
    (e1 : c.vars[i]? = some (x, k)) (e2 : ρ[i]? = some z) (n : z.isOwn = false) (nu : z ≠ .unb) {Q : Value → Shared → Prop} (hQ : ∀ v, Rd g B v z → Q v s) : wpAny M A (eval (.Name x pos) c.env) Q E s :=
  wpAny_Name (I.kindOf_load hs e1 e2 n nu hQ) (I.ok.nodbg i x k e1)
theorem getElem?_set' {α : Type} {l : List α} {i j : Nat} {a b : α} (e : (l.set i a)[j]? = some b) : (i = j ∧ b = a) ∨ (i ≠ j ∧ l[j]? = some b) := by
  rw [List.getElem?_set] at e
  by_cases q : i = j
  · rw [if_pos q] at e
    split at e
    · exact .inl ⟨q, (Option.some.inj e).symm⟩
    · cases e
  · rw [if_neg q] at e
    exact .inr ⟨q, e⟩
/-- a store of a value (not an owned one) into a name -/
theorem Inv.store (I : Inv b0 g c pr B ρ p h) {M : Model} {A : Around} {E : Value → Shared → Prop} {s : Shared} (hs : s.heap = h) {i : Nat} {x : Str} {k : VK} {z : PV} {v : Value}
    (e1 : c.vars[i]? = some (x, k)) (nk : k ≠ .cap) (r : Rd g B v z) {Q : Unit → Shared → Prop}
    (hQ : ∀ h' tk, Inv b0 g c pr B (ρ.set i z) p h' → SEvo g pr B h pr B h' → Q () { s with heap := h', toks := tk }) : wpAny M A (storeName c.env x v) Q E s := by
  subst hs
  have no : z.isOwn = false := by cases r <;> rfl
  have hV : Val g B (some v) z := by cases r <;> exact ⟨_, rfl, by constructor <;> assumption⟩
  obtain ⟨m, ow, L⟩ := I.locs
  have Lne : ∀ {o : Addr} {ob : Obj}, s.heap.get? o = some ob → (∀ es ep, ob.data ≠ .dict es ep) → o ≠ c.env.locals := fun {o ob} e nd q => by
    obtain ⟨oL, es, ep, hL, hd, _⟩ := L.ns
    rw [q, hL] at e; cases e; exact nd _ _ hd
  have common : ∀ (h' : Heap) (a : Addr), a ∈ pr → Heap.SameBut a s.heap h' → (∀ o, s.heap.get? a = some o → ∃ o', h'.get? a = some o') →
      (∃ m' ow', Locs g c pr B (ρ.set i z) h' m' ow') →
      (∀ (i' : Nat) x' k' z', c.vars[i']? = some (x', k') → k' ≠ .loc → (ρ.set i z)[i']? = some z' → ∃ a v?, c.env.cells.lookup x' = some a ∧ h'.IsCell a v? ∧ Val g B v? z' ∧ (k' = .cell → a ∈ pr) ∧ g.P ≠ some a) →
      Inv b0 g c pr B (ρ.set i z) p h' ∧ SEvo g pr B s.heap pr B h' := fun h' a ha hsb hat hl hc => by
    obtain ⟨p1, p2, p3, o4, p4⟩ := I.prv a ha
    have far : ∀ b o, b ≠ a → s.heap.get? b = some o → h'.get? b = some o := fun b o n e => (hsb.2 b n).trans e
    have there : ∀ b o, s.heap.get? b = some o → ∃ o', h'.get? b = some o' := fun b o e => by
      by_cases q : b = a
      · subst q; exact hat o e
      · exact ⟨o, far b o q e⟩
    refine ⟨⟨I.ok, I.base, fun b o e => far b o (fun q => by rw [q, p2] at e; cases e) (I.keep b o e), fun b e => ?_, fun b o e n => (I.old b o e n).map fun o' e' => far b o' (fun q => by rw [q, p1] at e; cases e) e',
      fun b o e => let ⟨o', e'⟩ := I.thereO b o e; there b o' e', fun b m => let ⟨q1, q2, q3, o5, q4⟩ := I.prv b m; ⟨q1, q2, q3, there b o5 q4⟩, I.Lpr, hl, hc, by rw [List.length_set]; exact I.len, I.pB, I.nf⟩,
      ⟨Sub.refl B, fun _ _ e => .inl e, fun b o e n _ => .inl (far b o (fun q => n (q ▸ ha)) e), there, fun _ m => .inl m⟩⟩
    obtain ⟨t, u, n, e'⟩ := I.pool b e
    exact ⟨t, u, n, far b _ (fun q => p3 (q ▸ e)) e'⟩
  cases k with
  | cap => exact absurd rfl nk
  | loc =>
    refine wpAny_storeName_local (I.ok.loc i x e1) L.ns (fun h' hn hsb => ?_) (by rw [I.ok.kind]; rfl)
    have H := common h' c.env.locals I.Lpr hsb (fun o _ => let ⟨oL, _, _, hL, _⟩ := hn; ⟨oL, hL⟩)
      ⟨_, ow, hn, fun j y zj q1 q2 => ?_, fun j1 j2 z1 z2 q1 q2 o1 o2 e => ?_⟩ fun j y kj zj q1 nl q2 => ?_
    · exact hQ h' _ H.1 H.2
    · rcases getElem?_set' q2 with ⟨rfl, rfl⟩ | ⟨ne, q2⟩
      · rw [e1] at q1; cases q1
        rw [if_pos rfl]
        exact LocOk.of_val hV
      · have hxy : y ≠ x := fun q => ne (I.ok.nodup i j x _ _ e1 (q ▸ q1))
        rw [if_neg hxy]
        refine (L.loc j y zj q1 q2).up (Sub.refl B) (fun no' ob e => ?_) fun _ m => m
        obtain ⟨ob', e', nd, _⟩ := (L.loc j y zj q1 q2).data no'
        rw [e] at e'; cases e'
        exact (hsb.2 _ (Lne e nd)).trans e
    · rcases getElem?_set' q1 with ⟨_, rfl⟩ | ⟨_, q1⟩
      · rw [no] at o1; cases o1
      · rcases getElem?_set' q2 with ⟨_, rfl⟩ | ⟨_, q2⟩
        · rw [no] at o2; cases o2
        · exact L.apart j1 j2 z1 z2 q1 q2 o1 o2 e
    · have ne : i ≠ j := fun q => by subst q; rw [e1] at q1; cases q1; exact nl rfl
      rcases getElem?_set' q2 with ⟨q, _⟩ | ⟨_, q2⟩
      · exact absurd q ne
      · obtain ⟨a, v?, h1, ⟨oc, hc, hcd⟩, h3, h4, h5⟩ := I.cel j y kj zj q1 nl q2
        exact ⟨a, v?, h1, ⟨oc, (hsb.2 a (Lne hc fun es ep q => by rw [hcd] at q; cases q)).trans hc, hcd⟩, h3, h4, h5⟩
  | cell =>
    have hi : i < ρ.length := by rw [I.len]; exact (List.getElem?_eq_some_iff.mp e1).1
    obtain ⟨a, v?, h1, h2, h3, h4, h5⟩ := I.cel i x _ ρ[i] e1 (by decide) (by simp [hi])
    refine wpAny_storeName_cell I.ok.kind (I.ok.cell i x e1) h1 h2 fun h' hc hsb => ?_
    have haL : c.env.locals ≠ a := fun q => by
      obtain ⟨oL, es, ep, hL, hd, _⟩ := L.ns
      obtain ⟨oc, ho, hcd⟩ := h2
      rw [q, ho] at hL; cases hL; rw [hd] at hcd; cases hcd
    have H := common h' a (h4 rfl) hsb (fun o _ => let ⟨oc, hc', _⟩ := hc; ⟨oc, hc'⟩)
      ⟨m, ow, L.ns.sameBut hsb haL, fun j y zj q1 q2 => ?_, fun j1 j2 z1 z2 q1 q2 o1 o2 e => ?_⟩ fun j y kj zj q1 nl q2 => ?_
    · exact hQ h' _ H.1 H.2
    · rcases getElem?_set' q2 with ⟨rfl, rfl⟩ | ⟨ne, q2⟩
      · rw [e1] at q1; cases q1
      · refine (L.loc j y zj q1 q2).up (Sub.refl B) (fun no' ob e => ?_) fun _ m => m
        obtain ⟨ob', e', _, nc⟩ := (L.loc j y zj q1 q2).data no'
        rw [e] at e'; cases e'
        refine (hsb.2 _ fun q => ?_).trans e
        obtain ⟨oc, ho, hcd⟩ := h2
        rw [q, ho] at e; cases e; exact nc _ hcd
    · rcases getElem?_set' q1 with ⟨_, rfl⟩ | ⟨_, q1⟩
      · rw [no] at o1; cases o1
      · rcases getElem?_set' q2 with ⟨_, rfl⟩ | ⟨_, q2⟩
        · rw [no] at o2; cases o2
        · exact L.apart j1 j2 z1 z2 q1 q2 o1 o2 e
    · rcases getElem?_set' q2 with ⟨rfl, rfl⟩ | ⟨ne, q2⟩
      · rw [e1] at q1; cases q1
        exact ⟨a, some v, h1, hc, hV, h4, h5⟩
      · obtain ⟨a', v', q3, hc', q4, q5, q6⟩ := I.cel j y kj zj q1 nl q2
        refine ⟨a', v', q3, hc'.sameBut hsb fun q => ?_, q4, q5, q6⟩
        have := I.ok.inj x y a h1 (q ▸ q3)
        exact ne (I.ok.nodup i j x _ _ e1 (this ▸ q1))
/-- a store of a fresh list (owned) into a local name -/
theorem Inv.storeOwn (I : Inv b0 g c pr B ρ p h) {M : Model} {A : Around} {E : Value → Shared → Prop} {s : Shared} (hs : s.heap = h) {i : Nat} {x : Str} {z : PV} {a : Addr}
    (e1 : c.vars[i]? = some (x, .loc)) (hz : z.isOwn = true) (ha0 : c.h0.get? a = none) (haB : B a = none) (haP : g.P ≠ some a) (hap : a ∉ pr)
    (hL : LocOk g B h (a :: pr) a (some (.ref a)) z) {Q : Unit → Shared → Prop}
    (hQ : ∀ h' tk, Inv b0 g c (a :: pr) B (ρ.set i z) p h' → (∀ b o, b ∉ pr → h.get? b = some o → h'.get? b = some o) → (∀ b o, h.get? b = some o → ∃ o', h'.get? b = some o') → Q () { s with heap := h', toks := tk }) :
    wpAny M A (storeName c.env x (.ref a)) Q E s := by
  subst hs
  obtain ⟨m, ow, L⟩ := I.locs
  have Lne : ∀ {o : Addr} {ob : Obj}, s.heap.get? o = some ob → (∀ es ep, ob.data ≠ .dict es ep) → o ≠ c.env.locals := fun {o ob} e nd q => by
    obtain ⟨oL, es, ep, hL, hd, _⟩ := L.ns
    rw [q, hL] at e; cases e; exact nd _ _ hd
  obtain ⟨oa, hoa, nda, _⟩ := hL.data hz
  refine wpAny_storeName_local (I.ok.loc i x e1) L.ns (fun h' hn hsb => ?_) (by rw [I.ok.kind]; rfl)
  obtain ⟨p1, p2, p3, o4, p4⟩ := I.prv _ I.Lpr
  have far : ∀ b o, b ≠ c.env.locals → s.heap.get? b = some o → h'.get? b = some o := fun b o n e => (hsb.2 b n).trans e
  have there : ∀ b o, s.heap.get? b = some o → ∃ o', h'.get? b = some o' := fun b o e => by
    by_cases q : b = c.env.locals
    · subst q; exact let ⟨oL, _, _, hL, _⟩ := hn; ⟨oL, hL⟩
    · exact ⟨o, far b o q e⟩
  refine hQ h' _ ⟨I.ok, I.base, fun b o e => far b o (fun q => by rw [q, p2] at e; cases e) (I.keep b o e), fun b e => ?_, fun b o e n => (I.old b o e n).map fun o' e' => far b o' (fun q => by rw [q, p1] at e; cases e) e',
      fun b o e => let ⟨o', e'⟩ := I.thereO b o e; there b o' e', fun b mm => ?_, .tail _ I.Lpr, ⟨_, fun j => if j = i then a else ow j, hn, fun j y zj q1 q2 => ?_, fun j1 j2 z1 z2 q1 q2 o1 o2 e => ?_⟩, fun j y kj zj q1 nl q2 => ?_, by rw [List.length_set]; exact I.len, I.pB, I.nf⟩
      (fun b o n e => far b o (fun q => n (q ▸ I.Lpr)) e) there
  · obtain ⟨t, u, n, e'⟩ := I.pool b e
    exact ⟨t, u, n, far b _ (fun q => p3 (q ▸ e)) e'⟩
  · rcases List.mem_cons.mp mm with rfl | mm
    · exact ⟨ha0, haB, haP, there _ _ hoa⟩
    · obtain ⟨q1, q2, q3, o5, q4⟩ := I.prv b mm
      exact ⟨q1, q2, q3, there b o5 q4⟩
  · rcases getElem?_set' q2 with ⟨rfl, rfl⟩ | ⟨ne, q2⟩
    · rw [e1] at q1; cases q1
      rw [if_pos rfl]
      try dsimp only
      rw [if_pos rfl]
      exact hL.up (Sub.refl B) (fun _ ob e => (hsb.2 _ (Lne hoa nda)).trans e) fun _ m => m
    · have hxy : y ≠ x := fun q => ne (I.ok.nodup i j x _ _ e1 (q ▸ q1))
      rw [if_neg hxy]
      try dsimp only
      rw [if_neg (Ne.symm ne)]
      refine (L.loc j y zj q1 q2).up (Sub.refl B) (fun no' ob e => ?_) fun _ m => .tail _ m
      obtain ⟨ob', e', nd, _⟩ := (L.loc j y zj q1 q2).data no'
      rw [e] at e'; cases e'
      exact (hsb.2 _ (Lne e nd)).trans e
  · have isLoc : ∀ (j : Nat) zj, ρ[j]? = some zj → zj.isOwn = true → ow j ∈ pr := fun j zj q o => by
      have hj : j < c.vars.length := I.len ▸ (List.getElem?_eq_some_iff.mp q).1
      cases hv : c.vars[j] with
      | mk y k =>
        have hv' : c.vars[j]? = some (y, k) := by simp [hj, hv]
        cases k with
        | loc =>
          have := L.loc j y zj hv' q
          cases zj with
          | own xs => exact this.2.1
          | ownb b => exact this.2.1
          | _ => cases o
        | _ =>
          obtain ⟨a, v?, h1, h2, h3, _⟩ := I.cel j y _ zj hv' (by decide) q
          cases zj with
          | own xs => obtain ⟨_, _, r⟩ := h3; cases r
          | ownb b => obtain ⟨_, _, r⟩ := h3; cases r
          | _ => cases o
    try dsimp only at e
    rcases getElem?_set' q1 with ⟨r1, _⟩ | ⟨n1, q1⟩ <;> rcases getElem?_set' q2 with ⟨r2, _⟩ | ⟨n2, q2⟩
    · exact r1.symm.trans r2
    · rw [if_pos r1.symm, if_neg (Ne.symm n2)] at e
      exact absurd (e ▸ isLoc j2 z2 q2 o2) hap
    · rw [if_neg (Ne.symm n1), if_pos r2.symm] at e
      exact absurd (e ▸ isLoc j1 z1 q1 o1) hap
    · rw [if_neg (Ne.symm n1), if_neg (Ne.symm n2)] at e
      exact L.apart j1 j2 z1 z2 q1 q2 o1 o2 e
  · have ne : i ≠ j := fun q => by subst q; rw [e1] at q1; cases q1; exact nl rfl
    rcases getElem?_set' q2 with ⟨q, _⟩ | ⟨_, q2⟩
    · exact absurd q ne
    · obtain ⟨a, v?, h1, ⟨oc, hc, hcd⟩, h3, h4, h5⟩ := I.cel j y kj zj q1 nl q2
      exact ⟨a, v?, h1, ⟨oc, (hsb.2 a (Lne hc fun es ep q => by rw [hcd] at q; cases q)).trans hc, hcd⟩, h3, fun q => .tail _ (h4 q), h5⟩
theorem Inv.ownLoc (I : Inv b0 g c pr B ρ p h) {m : Str → Option Value} {ow : Nat → Addr} (L : Locs g c pr B ρ h m ow) {j : Nat} {zj : PV} (q : ρ[j]? = some zj) (o : zj.isOwn = true) :
    ∃ y, c.vars[j]? = some (y, .loc) ∧ m y = some (.ref (ow j)) ∧ ow j ∈ pr ∧ LocOk g B h pr (ow j) (m y) zj := by
  have hj : j < c.vars.length := I.len ▸ (List.getElem?_eq_some_iff.mp q).1
  cases hv : c.vars[j] with
  | mk y k =>
    have hv' : c.vars[j]? = some (y, k) := by simp [hj, hv]
    cases k with
    | loc =>
      have := L.loc j y zj hv' q
      cases zj with
      | own xs => exact ⟨y, hv', this.1, this.2.1, this⟩
      | ownb b => exact ⟨y, hv', this.1, this.2.1, this⟩
      | _ => cases o
    | _ =>
      obtain ⟨a, v?, h1, h2, h3, _⟩ := I.cel j y _ zj hv' (by decide) q
      cases zj with
      | own xs => obtain ⟨_, _, r⟩ := h3; cases r
      | ownb b => obtain ⟨_, _, r⟩ := h3; cases r
      | _ => cases o
/-- an owned object is given up: it joins the kept part -/
theorem Inv.freezeAt (I : Inv b0 g c pr B ρ p h) {i : Nat} {z z' : PV} (e : ρ[i]? = some z) (ho : z.isOwn = true)
    (hz : ∀ (B' : Bm) o ob v?, B' o = some ob → Sub B B' → LocOk g B h pr o v? z → h.get? o = some ob → Val g B' v? z') (hn : z'.isOwn = false) :
    ∃ pr' B', Inv b0 g c pr' B' (ρ.set i z') p h ∧ SEvo g pr B h pr' B' h := by
  obtain ⟨m, ow, L⟩ := I.locs
  obtain ⟨x, e1, em, hp, hl⟩ := I.ownLoc L e ho
  obtain ⟨ob, hob, nd, nc⟩ := hl.data ho
  obtain ⟨p1, p2, p3, _, _⟩ := I.prv _ hp
  have hs : Sub B (B.add (ow i) ob) := Bm.sub_add p2
  have hi : i < ρ.length := (List.getElem?_eq_some_iff.mp e).1
  have addc : ∀ a o', (B.add (ow i) ob) a = some o' → B a = some o' ∨ (a = ow i ∧ o' = ob) := fun a o' q => by
    unfold Bm.add at q
    by_cases w : a = ow i
    · rw [if_pos w] at q; exact .inr ⟨w, (Option.some.inj q).symm⟩
    · rw [if_neg w] at q; exact .inl q
  have hLo : c.env.locals ≠ ow i := fun q => by
    obtain ⟨oL, es, ep, hL, hd, _⟩ := L.ns
    rw [q, hob] at hL; cases hL; exact nd _ _ hd
  have key : ∀ (j : Nat) zj, (ρ.set i z')[j]? = some zj → zj.isOwn = true → i ≠ j ∧ ρ[j]? = some zj := fun j zj q o => by
    rcases getElem?_set' q with ⟨_, rfl⟩ | q
    · rw [hn] at o; cases o
    · exact q
  refine ⟨pr.filter (· ≠ ow i), B.add (ow i) ob, ⟨I.ok, fun a o q => hs a o (I.base a o q), fun a o q => ?_, I.pool, I.old, I.thereO, fun a q => ?_, ?_, ⟨m, ow, L.ns, fun j y zj q1 q2 => ?_, fun j1 j2 z1 z2 q1 q2 o1 o2 => ?_⟩, fun j y kj zj q1 nl q2 => ?_, by rw [List.length_set]; exact I.len, fun a e => by unfold Bm.add; rw [if_neg (show ¬ a = ow i from fun q => p3 (q ▸ e))]; exact I.pB a e, fun a m => ⟨by unfold Bm.add; rw [if_neg (show ¬ a = ow i from fun q => by obtain ⟨o, _, _, w, _⟩ := I.ok.fr a m; rw [q, p1] at w; cases w)]; exact (I.nf a m).1, (I.nf a m).2⟩⟩,
    ⟨hs, fun a o q => ?_, fun a o q _ _ => .inl q, fun a o q => ⟨o, q⟩, fun a q => .inl (List.mem_filter.mp q).1⟩⟩
  · rcases addc a o q with q | ⟨rfl, rfl⟩
    · exact I.keep a o q
    · exact hob
  · obtain ⟨q1, q2⟩ := List.mem_filter.mp q
    obtain ⟨w1, w2, w3, w4⟩ := I.prv a q1
    refine ⟨w1, ?_, w3, w4⟩
    unfold Bm.add
    rw [if_neg (by simpa using q2)]; exact w2
  · exact List.mem_filter.mpr ⟨I.Lpr, by simpa using hLo⟩
  · rcases getElem?_set' q2 with ⟨rfl, rfl⟩ | ⟨ne, q2⟩
    · rw [e1] at q1; cases q1
      exact LocOk.of_val (hz _ (ow i) ob _ Bm.add_self hs hl hob)
    · refine (L.loc j y zj q1 q2).up hs (fun _ _ q => q) fun oj mm => List.mem_filter.mpr ⟨mm, ?_⟩
      have : ow j ≠ ow i := fun q => ne (L.apart j i zj z q2 e oj ho q).symm
      simpa using this
  · obtain ⟨n1, q1⟩ := key j1 z1 q1 o1
    obtain ⟨n2, q2⟩ := key j2 z2 q2 o2
    exact L.apart j1 j2 z1 z2 q1 q2 o1 o2
  · have ne : i ≠ j := fun q => by subst q; rw [e1] at q1; cases q1; exact nl rfl
    rcases getElem?_set' q2 with ⟨q, _⟩ | ⟨_, q2⟩
    · exact absurd q ne
    · obtain ⟨a, v?, h1, ⟨oc, hc, hcd⟩, h3, h4, h5⟩ := I.cel j y kj zj q1 nl q2
      refine ⟨a, v?, h1, ⟨oc, hc, hcd⟩, h3.mono hs, fun q => List.mem_filter.mpr ⟨h4 q, ?_⟩, h5⟩
      have : a ≠ ow i := fun w => by rw [w, hob] at hc; cases hc; exact nc _ hcd
      simpa using this
  · rcases addc a o q with q | ⟨rfl, rfl⟩
    · exact .inl q
    · exact .inr (.inr hp)
noncomputable def PV.froz : PV → PV
  | .own xs => .list xs
  | .ownb b => .barr b
  | z => z
noncomputable def freeze1 (ρ : List PV) (i : Nat) : List PV := match ρ[i]? with
  | some (.own xs) => ρ.set i (.list xs)
  | some (.ownb b) => ρ.set i (.barr b)
  | _ => ρ
noncomputable def freeze (ρ : List PV) : List Nat → List PV
  | [] => ρ
  | i :: l => freeze (freeze1 ρ i) l
theorem Inv.freeze1 (I : Inv b0 g c pr B ρ p h) (i : Nat) : ∃ pr' B', Inv b0 g c pr' B' (freeze1 ρ i) p h ∧ SEvo g pr B h pr' B' h := by
  unfold Nt.freeze1
  split
  · rename_i xs e
    refine I.freezeAt e rfl (fun B' o ob v? hB s hl hob => ?_) rfl
    obtain ⟨e', _, vs, n, hv, r⟩ := hl
    rw [hob] at hv; cases hv
    exact ⟨_, e', .list hB r.1 fun i v x q1 q2 => (r.2 i v x q1 q2).mono s⟩
  · rename_i b e
    refine I.freezeAt e rfl (fun B' o ob v? hB s hl hob => ?_) rfl
    obtain ⟨e', _, hv⟩ := hl
    rw [hob] at hv; cases hv
    exact ⟨_, e', .barr hB⟩
  · exact ⟨pr, B, I, SEvo.refl ..⟩
theorem Inv.freeze : ∀ (l : List Nat) {pr : List Addr} {B : Bm} {ρ : List PV}, Inv b0 g c pr B ρ p h → ∃ pr' B', Inv b0 g c pr' B' (freeze ρ l) p h ∧ SEvo g pr B h pr' B' h
  | [], pr, B, ρ, I => ⟨pr, B, I, SEvo.refl ..⟩
  | i :: l, pr, B, ρ, I => by
    obtain ⟨pr1, B1, I1, S1⟩ := I.freeze1 i
    obtain ⟨pr2, B2, I2, S2⟩ := Inv.freeze l I1
    exact ⟨pr2, B2, I2, S1.trans S2⟩
/-- an owned object turns -/
theorem Inv.turn (I : Inv b0 g c pr B ρ p h) {m : Str → Option Value} {ow : Nat → Addr} (L : Locs g c pr B ρ h m ow) {i : Nat} {z z' : PV} (e : ρ[i]? = some z) (ho : z.isOwn = true) (ho' : z'.isOwn = true) {x : Str} (e1 : c.vars[i]? = some (x, .loc)) :
    LocOk g B h pr (ow i) (some (.ref (ow i))) z ∧ (∀ {M : Model} {A : Around} {E : Value → Shared → Prop} {s : Shared} (hs : s.heap = h) {Q : Value → Shared → Prop} (_ : Q (.ref (ow i)) s), wpAny M A (loadName c.env x) Q E s) ∧
      ∀ h', Heap.SameBut (ow i) h h' → LocOk g B h' pr (ow i) (some (.ref (ow i))) z' → Inv b0 g c pr B (ρ.set i z') p h' ∧ SEvo g pr B h pr B h' := by
  have he := e
  obtain ⟨x', e1', em, hp, hl⟩ := I.ownLoc L e ho
  rw [e1] at e1'; cases e1'
  obtain ⟨ob, hob, nd, nc⟩ := hl.data ho
  obtain ⟨p1, p2, p3, _, _⟩ := I.prv _ hp
  refine ⟨em ▸ hl, fun {M A E s} hs {Q} hQ => ?_, fun h' hsb hl' => ?_⟩
  · subst hs; exact wpAny_loadName_local I.ok.kind (I.ok.loc i x e1) L.ns em hQ
  have far : ∀ b o, b ≠ ow i → h.get? b = some o → h'.get? b = some o := fun b o n e => (hsb.2 b n).trans e
  obtain ⟨ob', hob', _, _⟩ := hl'.data ho'
  have there : ∀ b o, h.get? b = some o → ∃ o', h'.get? b = some o' := fun b o e => by
    by_cases q : b = ow i
    · subst q; exact ⟨_, hob'⟩
    · exact ⟨o, far b o q e⟩
  have hLo : c.env.locals ≠ ow i := fun q => by
    obtain ⟨oL, es, ep, hL, hd, _⟩ := L.ns
    rw [q, hob] at hL; cases hL; exact nd _ _ hd
  refine ⟨⟨I.ok, I.base, fun b o e => far b o (fun q => by rw [q, p2] at e; cases e) (I.keep b o e), fun b e => ?_, fun b o e n => (I.old b o e n).map fun o' e' => far b o' (fun q => by rw [q, p1] at e; cases e) e',
      fun b o e => let ⟨o', e'⟩ := I.thereO b o e; there b o' e', fun b mm => let ⟨q1, q2, q3, o5, q4⟩ := I.prv b mm; ⟨q1, q2, q3, there b o5 q4⟩, I.Lpr,
      ⟨m, ow, L.ns.sameBut hsb hLo, fun j y zj q1 q2 => ?_, fun j1 j2 z1 z2 q1 q2 o1 o2 w => ?_⟩, fun j y kj zj q1 nl q2 => ?_, by rw [List.length_set]; exact I.len, I.pB, I.nf⟩,
      ⟨Sub.refl B, fun _ _ e => .inl e, fun b o e n _ => .inl (far b o (fun q => n (q ▸ hp)) e), there, fun _ mm => .inl mm⟩⟩
  · obtain ⟨t, u, n, e'⟩ := I.pool b e
    exact ⟨t, u, n, far b _ (fun q => p3 (q ▸ e)) e'⟩
  · rcases getElem?_set' q2 with ⟨rfl, rfl⟩ | ⟨ne, q2⟩
    · rw [e1] at q1; cases q1
      rw [em]; exact hl'
    · refine (L.loc j y zj q1 q2).up (Sub.refl B) (fun oj ob w => far _ ob (fun q => ne (L.apart j i zj z q2 he oj ho q).symm) w) fun _ mm => mm
  · rcases getElem?_set' q1 with ⟨r1, _⟩ | ⟨n1, q1⟩ <;> rcases getElem?_set' q2 with ⟨r2, _⟩ | ⟨n2, q2⟩
    · exact r1.symm.trans r2
    · subst r1; exact L.apart _ _ _ _ e q2 ho o2 w
    · subst r2; exact L.apart _ _ _ _ q1 e o1 ho w
    · exact L.apart j1 j2 z1 z2 q1 q2 o1 o2 w
  · have ne : i ≠ j := fun q => by subst q; rw [e1] at q1; cases q1; exact nl rfl
    rcases getElem?_set' q2 with ⟨q, _⟩ | ⟨_, q2⟩
    · exact absurd q ne
    · obtain ⟨a, v?, h1, ⟨oc, hc, hcd⟩, h3, h4, h5⟩ := I.cel j y kj zj q1 nl q2
      exact ⟨a, v?, h1, ⟨oc, far _ _ (fun w => by rw [w, hob] at hc; cases hc; exact nc _ hcd) hc, hcd⟩, h3, h4, h5⟩
end
/-! weak evaluation: what comes next is a bracketed argument, so that simp only does not go inside -/
class KO (α β : Type) where k : α → Option β
noncomputable def bnd {α β : Type} (x : Option α) [K : KO α β] : Option β := match x with
  | some a => K.k a
  | none => none
class KB (α : Type) where k : Pl → Option α
class KC (α : Type) where k : Pl → Option α
noncomputable def boolK {α : Type} (a b : Option α) : PV → Option α
  | .bool c => match c with
    | true => a
    | false => b
  | _ => none
noncomputable def iteK {α : Type} (b : Option (PV × Pl)) [K : KB α] [L : KC α] : Option α := match b with
  | some x => boolK (K.k x.2) (L.k x.2) x.1
  | none => none
theorem bndS {α β : Type} {x : Option α} {K : KO α β} {r : β} (h : @bnd α β x K = some r) : ∃ a, x = some a ∧ K.k a = some r := by
  cases x with
  | none => cases h
  | some a => exact ⟨a, rfl, h⟩
theorem iteS {α : Type} {b : Option (PV × Pl)} {K : KB α} {L : KC α} {r : α} (h : @iteK α b K L = some r) : ∃ c p, b = some (.bool c, p) ∧ (match c with | true => K.k p | false => L.k p) = some r := by
  cases b with
  | none => cases h
  | some x =>
    obtain ⟨v, p⟩ := x
    cases v with
    | bool c => exact ⟨c, p, rfl, by cases c <;> exact h⟩
    | _ => cases h
/-! a value of a kind, or else -/
section
variable {α : Type}
noncomputable def noneE (f d : Option α) : PV → Option α
  | .none => f
  | _ => d
noncomputable def boolE (f : Bool → Option α) (d : Option α) : PV → Option α
  | .bool b => f b
  | _ => d
noncomputable def intE (f : Int → Option α) (d : Option α) : PV → Option α
  | .int i => f i
  | _ => d
noncomputable def strE (f : Str → Option α) (d : Option α) : PV → Option α
  | .str i => f i
  | _ => d
noncomputable def bytesE (f : Array UInt8 → Option α) (d : Option α) : PV → Option α
  | .bytes i => f i
  | _ => d
noncomputable def listE (f : List PV → Option α) (d : Option α) : PV → Option α
  | .list i => f i
  | _ => d
noncomputable def tupE (f : List PV → Option α) (d : Option α) : PV → Option α
  | .tup i => f i
  | _ => d
noncomputable def rngE (f : Int → Int → Option α) (d : Option α) : PV → Option α
  | .rng i j => f i j
  | _ => d
noncomputable def barrE (f : Array UInt8 → Option α) (d : Option α) : PV → Option α
  | .barr i => f i
  | _ => d
noncomputable def poolE (f d : Option α) : PV → Option α
  | .pool => f
  | _ => d
noncomputable def objE (f : PV → PV → Option α) : PV → Option α
  | .obj a b => f a b
  | _ => none
noncomputable def one (f : PV → Option α) : List PV → Option α
  | [] => none
  | x :: l => match l with
    | [] => f x
    | _ :: _ => none
noncomputable def two (f : PV → PV → Option α) : List PV → Option α
  | [] => none
  | x :: l => one (f x) l
noncomputable def grd (c : Prop) [Decidable c] (r : α) : Option α := if c then some r else none
theorem grd_inv {c : Prop} [Decidable c] {r r' : α} (h : grd c r = some r') : c ∧ r = r' := by
  unfold grd at h
  by_cases q : c
  · rw [if_pos q] at h; exact ⟨q, Option.some.inj h⟩
  · rw [if_neg q] at h; cases h
theorem grd_pos {c : Prop} [Decidable c] {r : α} (h : c) : grd c r = some r := if_pos h
end
/-- built-in calls -/
inductive BI where | len | int | range | ord | chr | max | min | list | bytes | str | abs | sorted
inductive MI where | join | find | split | lower | encode | takes
inductive TI where | int | str | bytes
mutual
inductive E where
  | var (i : Nat) | cst (v : PV) | bin (op : Operator) (a b : E) | neg (a : E) | not (a : E)
  | cmp (op : CmpOp) (a b : E) | cmp2 (o1 o2 : CmpOp) (a b c : E)
  | bop (op : BoolOp) (es : Es) | ite (c a b : E)
  | call (f : Nat) (args : Es) | blt (b : BI) (args : Es) | isi (a : E) (t : TI) | meth (m : MI) (o : E) (args : Es) | repl (o : E) (y z : Str)
  | attr (o : E) (sign : Bool) | idx (o i : E) | slice (o lo hi : E) | rank (a : E)
  | list (es : Es) | tup (es : Es) | comp (elt it : E) (conds : Es) (caps : List Nat)
inductive Es where
  | nil | cons (e : E) (es : Es)
end
mutual
noncomputable def E.vars : E → List Nat
  | .var i => [i] | .cst _ => [] | .bin _ a b => a.vars ++ b.vars | .neg a => a.vars | .not a => a.vars
  | .cmp _ a b => a.vars ++ b.vars | .cmp2 _ _ a b c => a.vars ++ b.vars ++ c.vars
  | .bop _ es => es.vars | .ite c a b => c.vars ++ a.vars ++ b.vars
  | .call _ es => es.vars | .blt _ es => es.vars | .isi a _ => a.vars | .meth _ o es => o.vars ++ es.vars | .repl o _ _ => o.vars
  | .attr o _ => o.vars | .idx o i => o.vars ++ i.vars | .slice o a b => o.vars ++ a.vars ++ b.vars | .rank a => a.vars
  | .list es => es.vars | .tup es => es.vars | .comp _ it _ caps => it.vars ++ caps
noncomputable def Es.vars : Es → List Nat
  | .nil => [] | .cons e es => e.vars ++ es.vars
end
mutual
inductive S where
  | asg (i : Nat) (e : E) | asgT (is : List Nat) (e : E) | pset (k : Nat) (o e : E) | aug (i : Nat) (op : Operator) (e : E)
  | ret (e : E) | ite (c : E) (t f : Ss) | whl (c : E) (b : Ss) | forv (i : Nat) (it : E) (b : Ss) | forT (is : List Nat) (it : E) (b : Ss)
  | app (i : Nat) (e : E) | newl (i : Nat) | newb (i : Nat) | tri (b : Ss) | bad
inductive Ss where
  | nil | cons (s : S) (ss : Ss)
end
noncomputable def lim : Nat := 100000
noncomputable def idxOf (n : Nat) (i : Int) : Option Nat := if 0 ≤ i then (if i < n then some i.toNat else none) else if 0 ≤ i + n then some (i + n).toNat else none
noncomputable def int2 {α : Type} (f : Int → Int → Option α) (x y : PV) : Option α := intE (fun a => intE (fun b => f a b) none y) none x
noncomputable def binOp (op : Operator) (x y : PV) : Option PV := match op with
  | .Add => intE (fun a => intE (fun b => some (.int (a + b))) none y) (strE (fun a => strE (fun b => grd (a.cps.size + b.cps.size ≤ lim) (.str (a ++ b))) none y) (listE (fun a => listE (fun b => grd (a.length + b.length ≤ lim) (.list (a ++ b))) none y) none x) x) x
  | .Sub => int2 (fun a b => some (.int (a - b))) x y
  | .Mult => int2 (fun a b => grd (b.natAbs < 2 ^ 62) (.int (a * b))) x y
  | .FloorDiv => int2 (fun a b => grd (b ≠ 0 ∧ b.natAbs < 1073741824) (.int (a.fdiv b))) x y
  | .Mod => int2 (fun a b => grd (b ≠ 0) (.int (a.fmod b))) x y
  | .Pow => int2 (fun a b => grd (0 ≤ b ∧ b ≤ 1000 ∧ a.natAbs < 2 ^ 62) (.int (a ^ b.toNat))) x y
  | .LShift => int2 (fun a b => grd (0 ≤ b ∧ b ≤ 1000 ∧ a.natAbs < 2 ^ 62) (.int (a * 2 ^ b.toNat))) x y
  | .RShift => int2 (fun a b => grd (0 ≤ b) (.int (a.fdiv (2 ^ b.toNat)))) x y
  | .BitAnd => int2 (fun a b => some (.int (Builtin.bitAnd a b))) x y
  | .BitOr => int2 (fun a b => some (.int (Builtin.bitOr a b))) x y
  | _ => none
noncomputable def eqS (x y : PV) : Option Bool := intE (fun a => intE (fun b => some (a == b)) none y) (strE (fun a => strE (fun b => some (a == b)) (bytesE (fun _ => some false) none y) y) (bytesE (fun a => bytesE (fun b => some (a == b)) none y) none x) x) x
noncomputable def eqPV (x y : PV) : Option Bool := noneE (noneE (some true) none y) (eqS x y) x
noncomputable def eqL (a b : List PV) : Option Bool := if a.length ≠ b.length then some false else match a with
  | [] => some true
  | _ :: _ => one (fun x => one (fun y => eqPV x y) b) a
noncomputable def eqT (x y : PV) : Option Bool := listE (fun a => listE (fun b => eqL a b) none y) (eqS x y) x
noncomputable def neT (x y : PV) : Option Bool := listE (fun a => listE (fun b => (eqL a b).map (!·)) none y) (intE (fun a => intE (fun b => some (a != b)) none y) (strE (fun a => strE (fun b => some (a != b)) none y) (bytesE (fun a => bytesE (fun b => some (!(a == b))) none y) none x) x) x) x
noncomputable def isS : PV → Bool
  | .str _ => true
  | _ => false
noncomputable def beqS (y : Str) : PV → Bool
  | .str z => z == y
  | _ => false
/-- is none | is not none -/
noncomputable def isN (r : Bool) (x y : PV) : Option Bool := noneE (noneE (some r) (intE (fun _ => some (!r)) (strE (fun _ => some (!r)) (bytesE (fun _ => some (!r)) (listE (fun _ => some (!r)) (tupE (fun _ => some (!r)) none x) x) x) x) x) x) none y
noncomputable def cmpOp (op : CmpOp) (x y : PV) : Option Bool := match op with
  | .Eq => eqT x y
  | .NotEq => neT x y
  | .Lt => intE (fun a => intE (fun b => some (decide (a < b))) none y) (strE (fun a => strE (fun b => some (decide (a.cps.toList < b.cps.toList))) none y) (bytesE (fun a => bytesE (fun b => grd (a = b) false) none y) none x) x) x
  | .LtE => intE (fun a => intE (fun b => some (decide (a ≤ b))) none y) (strE (fun a => strE (fun b => some (!decide (b.cps.toList < a.cps.toList))) none y) none x) x
  | .Gt => int2 (fun a b => some (decide (a > b))) x y
  | .GtE => int2 (fun a b => some (decide (a ≥ b))) x y
  | .Is => isN true x y
  | .IsNot => isN false x y
  | .In => strE (fun a => strE (fun b => some (!(Builtin.Str.occurrences b a 0 b.length 1).isEmpty)) (listE (fun xs => grd (xs.all isS = true) (xs.any (beqS a))) none y) y) none x
  | _ => none
noncomputable def truePV (x : PV) : Option Bool := boolE (fun b => some b) (listE (fun xs => grd (xs.length ≤ lim) (!xs.isEmpty)) none x) x
noncomputable def strsOf : List PV → Option (List Str)
  | [] => some []
  | x :: r => strE (fun s => (strsOf r).map (s :: ·)) none x
noncomputable def intsOf : List PV → Option (List Int)
  | [] => some []
  | x :: r => intE (fun s => (intsOf r).map (s :: ·)) none x
noncomputable def upto (lo : Int) : Nat → List PV
  | 0 => []
  | n + 1 => .int lo :: upto (lo + 1) n
noncomputable def seqOf (x : PV) : Option (List PV) := tupE some (listE some none x) x
noncomputable def itemsOf (x : PV) : Option (List PV) := listE some (tupE some (strE (fun s => some (s.cps.toList.map fun c => .str ⟨#[c]⟩)) (bytesE (fun b => some (b.toList.map fun c => .int (c.toNat : Int)))
  (rngE (fun lo hi => grd (lo.natAbs ≤ 10 * lim ∧ hi.natAbs ≤ 10 * lim) (upto lo (hi - lo).toNat)) none x) x) x) x) x
noncomputable def lowNames : List Str := ["substr", "substring", "instr", "replace", "trim", "ltrim", "rtrim", "length", "hex", "quote", "typeof", "upper", "lower", "unicode", "char", "abs", "coalesce", "ifnull", "nullif", "iif", "max", "min", "like", "glob"].map Str.ofString
noncomputable def sortInts (l : List Int) : List Int := l.mergeSort (fun a b => decide (a ≤ b))
noncomputable def bltOp (f : BI) (l : List PV) : Option PV := match f with
  | .len => one (fun x => strE (fun s => grd (s.cps.size ≤ lim) (.int s.cps.size)) (bytesE (fun b => grd (b.size ≤ lim) (.int b.size)) (listE (fun xs => grd (xs.length ≤ lim) (.int xs.length)) none x) x) x) l
  | .int => one (fun x => intE (fun i => some (.int i)) (boolE (fun b => some (.int (if b then 1 else 0))) none x) x) l
  | .range => match l with
    | [] => none
    | x :: r => match r with
      | [] => intE (fun n => grd (n.natAbs ≤ lim) (.rng 0 n)) none x
      | _ :: _ => one (fun y => int2 (fun a b => grd (a.natAbs ≤ lim ∧ b.natAbs ≤ lim) (.rng a b)) x y) r
  | .ord => one (fun x => strE (fun s => match s.cps.toList with
      | [] => none
      | c :: r => match r with
        | [] => some (.int c)
        | _ :: _ => none) none x) l
  | .chr => one (fun x => intE (fun i => grd (0 ≤ i ∧ i ≤ 1114111) (.str ⟨#[i.toNat]⟩)) none x) l
  | .max => two (fun x y => int2 (fun a b => some (.int (if a < b then b else a))) x y) l
  | .min => two (fun x y => int2 (fun a b => some (.int (if b < a then b else a))) x y) l
  | .list => one (fun x => @bnd _ _ (itemsOf x) ⟨fun xs => grd (xs.length ≤ lim) (.list xs)⟩) l
  | .bytes => one (fun x => listE (fun xs => @bnd _ _ (intsOf xs) ⟨fun is => grd (xs.length ≤ lim ∧ is.all (fun i => decide (0 ≤ i ∧ i < 256)) = true) (.bytes (is.map fun i => UInt8.ofNat i.toNat).toArray)⟩)
      (barrE (fun b => grd (b.size ≤ lim) (.bytes b)) none x) x) l
  | .str => one (fun x => intE (fun i => grd (i.natAbs < 10 ^ 30) (.str (Str.ofString (toString i)))) none x) l
  | .abs => one (fun x => intE (fun i => some (.int i.natAbs)) none x) l
  | .sorted => one (fun x => listE (fun xs => @bnd _ _ (intsOf xs) ⟨fun is => grd (xs.length < 64) (.list ((sortInts is).map .int))⟩) none x) l
noncomputable def isiOp (t : TI) (x : PV) : Option Bool := match t with
  | .int => intE (fun _ => some true) (strE (fun _ => some false) (bytesE (fun _ => some false) none x) x) x
  | .str => intE (fun _ => some false) (strE (fun _ => some true) (bytesE (fun _ => some false) none x) x) x
  | .bytes => intE (fun _ => some false) (strE (fun _ => some false) (bytesE (fun _ => some true) none x) x) x
noncomputable def nilO {α : Type} (r : Option α) : List PV → Option α
  | [] => r
  | _ :: _ => none
noncomputable def methOp (mi : MI) (x : PV) (l : List PV) : Option PV := strE (fun s => match mi with
  | .join => one (fun y => listE (fun xs => @bnd _ _ (strsOf xs) ⟨fun ss => grd (JoinOk s ss) (.str (Txt.join s ss))⟩) none y) l
  | .find => one (fun y => strE (fun y => grd (s.cps.size ≤ lim) (.int (Txt.find s y))) none y) l
  | .split => one (fun y => strE (fun y => grd (s.cps.size ≤ lim ∧ y.cps.size ≠ 0 ∧ (Txt.split s y).length ≤ lim) (.list ((Txt.split s y).map .str))) none y) l
  | .lower => nilO (grd (lowNames.contains s = true) (.str s)) l
  | .encode => one (fun y => strE (fun e => grd (e = Str.ofString "utf-8" ∧ s.cps.size ≤ lim ∧ s.cps.all (fun c => !Str.isSurrogate c) = true) (.bytes (s.cps.foldl (fun acc y => acc ++ (Str.utf8Of y).toArray) #[]))) none y) l
  | .takes => none) none x
noncomputable def replOp (x : PV) (y z : Str) : Option PV := strE (fun x => grd (x.cps.size ≤ 1000 ∧ z.cps.size ≤ 10 ∧ y ≠ z) (.str (Txt.replace x y z))) none x
noncomputable def getAt {α β : Type} (c : Prop) [Decidable c] (n : Nat) (i : Int) (get : Nat → Option α) (f : α → β) : Option β := if c then @bnd _ _ (idxOf n i) ⟨fun k => @bnd _ _ (get k) ⟨fun c => some (f c)⟩⟩ else none
noncomputable def idxOp (x y : PV) (p : Pl) : Option PV := intE (fun i =>
  listE (fun xs => getAt (xs.length ≤ lim) xs.length i (fun k => xs[k]?) id) (tupE (fun xs => getAt (xs.length ≤ lim) xs.length i (fun k => xs[k]?) id)
    (strE (fun s => getAt (s.cps.size ≤ lim) s.cps.size i (fun k => s.cps[k]?) (fun c => .str ⟨#[c]⟩)) (bytesE (fun s => getAt (s.size ≤ lim ∧ 0 ≤ i) s.size i (fun k => s[k]?) (fun c => .int (c.toNat : Int)))
      (poolE (if i = 0 then some (.int p.1) else if i = 1 then some (.int p.2) else none) none x) x) x) x) x) none y
noncomputable def rankOp (x : PV) : Option PV := strE (fun s => if s = Str.ofString "null" then some (.int 0) else if s = Str.ofString "integer" then some (.int 1) else if s = Str.ofString "text" then some (.int 2) else if s = Str.ofString "blob" then some (.int 3) else none) none x
noncomputable def bndOf (x : PV) : Option (Option Int) := noneE (some none) (intE (fun i => grd (i.natAbs ≤ lim) (some i)) none x) x
/-- the part of a list that a slice takes -/
noncomputable def cut {α : Type} (xs : List α) (lo hi : Option Int) : List α :=
  (xs.drop (lo.elim 0 (clipAt xs.length))).take (hi.elim xs.length (clipAt xs.length) - lo.elim 0 (clipAt xs.length))
noncomputable def sliceOp (o lo hi : PV) : Option PV := @bnd _ _ (bndOf lo) ⟨fun l => @bnd _ _ (bndOf hi) ⟨fun h =>
  listE (fun xs => grd (xs.length ≤ lim) (.list (cut xs l h))) (strE (fun s => grd (s.cps.size ≤ lim) (.str (Txt.slice s l h))) (bytesE (fun b => grd (b.size ≤ lim) (.bytes (cut b.toList l h).toArray)) none o) o) o⟩⟩
noncomputable def negOp (x : PV) : Option PV := intE (fun i => some (.int (-i))) none x
noncomputable def attrOp (sign : Bool) (x : PV) : Option PV := objE (fun k g => some (match sign with | true => g | false => k)) x
noncomputable abbrev Orc := Nat → List PV → Pl → Option (PV × Pl)
/-- the number of the method takes among the functions -/
noncomputable def fTakes : Nat := 1
noncomputable def vis : PV → Option PV
  | .unb => none
  | .own _ => none
  | .ownb _ => none
  | r => some r
noncomputable def getV (ρ : List PV) (i : Nat) : Option PV := @bnd _ _ (ρ[i]?) ⟨fun v => vis v⟩
noncomputable def getAll (ρ : List PV) : List Nat → Option (List PV)
  | [] => some []
  | i :: r => @bnd _ _ (getV ρ i) ⟨fun v => @bnd _ _ (getAll ρ r) ⟨fun vs => some (v :: vs)⟩⟩
noncomputable def consO {α : Type} (r : Option α) (l : List α) : List α := match r with
  | some v => v :: l
  | none => l
noncomputable def compLoop (f : PV → Pl → Option (Option PV × Pl)) : List PV → Pl → Option (List PV × Pl)
  | [], p => some ([], p)
  | x :: xs, p => @bnd _ _ (f x p) ⟨fun r => @bnd _ _ (compLoop f xs r.2) ⟨fun q => some (consO r.1 q.1, q.2)⟩⟩
noncomputable def out (m : Bool) (r : PV) (p : Pl) : Option (PV × Pl) := match m with
  | false => some (r, p)
  | true => @bnd _ _ (truePV r) ⟨fun b => some (.bool b, p)⟩
/-- a word that is tested | not tested -/
noncomputable def onlyT {α : Type} (m : Bool) (r : Option α) : Option α := match m with
  | true => r
  | false => none
noncomputable def onlyF {α : Type} (m : Bool) (r : Option α) : Option α := match m with
  | true => none
  | false => r
noncomputable def methX (call : Orc) (mi : MI) (x : PV) (vs : List PV) (p : Pl) : Option (PV × Pl) := match mi with
  | .takes => call fTakes (x :: vs) p
  | mi => @bnd _ _ (methOp mi x vs) ⟨fun r => some (r, p)⟩
/-- one turn of a comprehension -/
noncomputable def turnX (c : List PV → Pl → Option (Bool × Pl)) (e : List PV → Pl → Option (PV × Pl)) (cs : List PV) (x : PV) (p : Pl) : Option (Option PV × Pl) :=
  @bnd _ _ (c (x :: cs) p) ⟨fun b => @iteK _ (some (.bool b.1, b.2)) ⟨fun p => @bnd _ _ (e (x :: cs) p) ⟨fun v => some (some v.1, v.2)⟩⟩ ⟨fun p => some (none, p)⟩⟩
noncomputable abbrev EvT := Orc → Bool → List PV → Pl → Option (PV × Pl)
noncomputable abbrev EsT := Orc → List PV → Pl → Option (List PV × Pl)
noncomputable abbrev EbT := Orc → BoolOp → List PV → Pl → Option (Bool × Pl)
noncomputable abbrev EsP := EsT × EbT
noncomputable def m_var : Nat → EvT := (fun i call m ρ p => @bnd _ _ (getV ρ i) ⟨fun v => out m v p⟩)
noncomputable def m_cst : PV → EvT := (fun v call m _ p => out m v p)
noncomputable def m_bin : Operator → E → E → EvT → EvT → EvT := (fun op _ _ a b call m ρ p => @bnd _ _ (a call false ρ p) ⟨fun x => @bnd _ _ (b call false ρ x.2) ⟨fun y => @bnd _ _ (binOp op x.1 y.1) ⟨fun r => out m r y.2⟩⟩⟩)
noncomputable def m_neg : E → EvT → EvT := (fun _ a call m ρ p => @bnd _ _ (a call false ρ p) ⟨fun x => @bnd _ _ (negOp x.1) ⟨fun r => out m r x.2⟩⟩)
noncomputable def m_not : E → EvT → EvT := (fun _ a call m ρ p => onlyT m (@iteK _ (a call true ρ p) ⟨fun p => some (.bool false, p)⟩ ⟨fun p => some (.bool true, p)⟩))
noncomputable def m_cmp : CmpOp → E → E → EvT → EvT → EvT := (fun op _ _ a b call m ρ p => @bnd _ _ (a call false ρ p) ⟨fun x => @bnd _ _ (b call false ρ x.2) ⟨fun y => @bnd _ _ (cmpOp op x.1 y.1) ⟨fun r => some (.bool r, y.2)⟩⟩⟩)
noncomputable def m_cmp2 : CmpOp → CmpOp → E → E → E → EvT → EvT → EvT → EvT := (fun o1 o2 _ _ _ a b c call m ρ p => @bnd _ _ (a call false ρ p) ⟨fun x => @bnd _ _ (b call false ρ x.2) ⟨fun y => @bnd _ _ (cmpOp o1 x.1 y.1) ⟨fun r =>
      @iteK _ (some (.bool r, y.2)) ⟨fun p => @bnd _ _ (c call false ρ p) ⟨fun z => @bnd _ _ (cmpOp o2 y.1 z.1) ⟨fun r => some (.bool r, z.2)⟩⟩⟩ ⟨fun p => some (.bool false, p)⟩⟩⟩⟩)
noncomputable def m_bop : BoolOp → Es → EsP → EvT := (fun op _ es call m ρ p => @bnd _ _ (es.2 call op ρ p) ⟨fun x => some (.bool x.1, x.2)⟩)
noncomputable def m_ite : E → E → E → EvT → EvT → EvT → EvT := (fun _ _ _ c a b call m ρ p => onlyF m (@iteK _ (c call true ρ p) ⟨fun p => a call false ρ p⟩ ⟨fun p => b call false ρ p⟩))
noncomputable def m_call : Nat → Es → EsP → EvT := (fun f _ es call m ρ p => @bnd _ _ (es.1 call ρ p) ⟨fun x => @bnd _ _ (call f x.1 x.2) ⟨fun r => out m r.1 r.2⟩⟩)
noncomputable def m_blt : BI → Es → EsP → EvT := (fun f _ es call m ρ p => @bnd _ _ (es.1 call ρ p) ⟨fun x => @bnd _ _ (bltOp f x.1) ⟨fun r => out m r x.2⟩⟩)
noncomputable def m_isi : E → TI → EvT → EvT := (fun _ t a call m ρ p => @bnd _ _ (a call false ρ p) ⟨fun x => @bnd _ _ (isiOp t x.1) ⟨fun r => some (.bool r, x.2)⟩⟩)
noncomputable def m_meth : MI → E → Es → EvT → EsP → EvT := (fun mi _ _ o es call m ρ p => @bnd _ _ (o call false ρ p) ⟨fun x => @bnd _ _ (es.1 call ρ x.2) ⟨fun y => @bnd _ _ (methX call mi x.1 y.1 y.2) ⟨fun r => out m r.1 r.2⟩⟩⟩)
noncomputable def m_repl : E → Str → Str → EvT → EvT := (fun _ y z o call m ρ p => @bnd _ _ (o call false ρ p) ⟨fun x => @bnd _ _ (replOp x.1 y z) ⟨fun r => out m r x.2⟩⟩)
noncomputable def m_attr : E → Bool → EvT → EvT := (fun _ sg o call m ρ p => @bnd _ _ (o call false ρ p) ⟨fun x => @bnd _ _ (attrOp sg x.1) ⟨fun r => out m r x.2⟩⟩)
noncomputable def m_idx : E → E → EvT → EvT → EvT := (fun _ _ o i call m ρ p => @bnd _ _ (o call false ρ p) ⟨fun x => @bnd _ _ (i call false ρ x.2) ⟨fun y => @bnd _ _ (idxOp x.1 y.1 y.2) ⟨fun r => out m r y.2⟩⟩⟩)
noncomputable def m_slice : E → E → E → EvT → EvT → EvT → EvT := (fun _ _ _ o lo hi call m ρ p => @bnd _ _ (o call false ρ p) ⟨fun x => @bnd _ _ (lo call false ρ x.2) ⟨fun y => @bnd _ _ (hi call false ρ y.2) ⟨fun z => @bnd _ _ (sliceOp x.1 y.1 z.1) ⟨fun r => out m r z.2⟩⟩⟩⟩)
noncomputable def m_rank : E → EvT → EvT := (fun _ a call m ρ p => @bnd _ _ (a call false ρ p) ⟨fun x => @bnd _ _ (rankOp x.1) ⟨fun r => out m r x.2⟩⟩)
noncomputable def m_list : Es → EsP → EvT := (fun _ es call m ρ p => @bnd _ _ (es.1 call ρ p) ⟨fun x => out m (.list x.1) x.2⟩)
noncomputable def m_tup : Es → EsP → EvT := (fun _ es call m ρ p => onlyF m (@bnd _ _ (es.1 call ρ p) ⟨fun x => some (.tup x.1, x.2)⟩))
noncomputable def m_comp : E → E → Es → List Nat → EvT → EvT → EsP → EvT := (fun _ _ _ caps elt it conds call m ρ p => @bnd _ _ (it call false ρ p) ⟨fun x => @bnd _ _ (itemsOf x.1) ⟨fun xs => @bnd _ _ (getAll ρ caps) ⟨fun cs =>
      @bnd _ _ (if xs.length ≤ lim then compLoop (turnX (fun ρ p => conds.2 call .And ρ p) (fun ρ p => elt call false ρ p) cs) xs x.2 else none) ⟨fun r => out m (.list r.1) r.2⟩⟩⟩⟩)
noncomputable def m_nil : EsP := (fun _ _ p => some ([], p), fun _ op _ p => some (match op with | .And => true | .Or => false, p))
noncomputable def m_cons : E → Es → EvT → EsP → EsP := (fun _ _ e es => (fun call ρ p => @bnd _ _ (e call false ρ p) ⟨fun x => @bnd _ _ (es.1 call ρ x.2) ⟨fun y => some (x.1 :: y.1, y.2)⟩⟩,
    fun call op ρ p => @iteK _ (e call true ρ p) ⟨fun p => match op with | .And => es.2 call .And ρ p | .Or => some (true, p)⟩ ⟨fun p => match op with | .And => some (false, p) | .Or => es.2 call .Or ρ p⟩))
/-- the evaluator: words, lists of words, lists that are tested -/
noncomputable def ev (call : Orc) (e : E) : Bool → List PV → Pl → Option (PV × Pl) := @E.rec (fun _ => EvT) (fun _ => EsP) m_var m_cst m_bin m_neg m_not m_cmp m_cmp2 m_bop m_ite m_call m_blt m_isi m_meth m_repl m_attr m_idx m_slice m_rank m_list m_tup m_comp m_nil m_cons e call
noncomputable def evP (es : Es) : EsP := @Es.rec (fun _ => EvT) (fun _ => EsP) m_var m_cst m_bin m_neg m_not m_cmp m_cmp2 m_bop m_ite m_call m_blt m_isi m_meth m_repl m_attr m_idx m_slice m_rank m_list m_tup m_comp m_nil m_cons es
noncomputable def evs (call : Orc) (es : Es) : List PV → Pl → Option (List PV × Pl) := (evP es).1 call
noncomputable def evB (call : Orc) (es : Es) : BoolOp → List PV → Pl → Option (Bool × Pl) := (evP es).2 call
noncomputable def storeL (ρ : List PV) : List Nat → List PV → List PV
  | [], _ => ρ
  | i :: is, l => match l with
    | [] => ρ
    | v :: vs => storeL (ρ.set i v) is vs
noncomputable abbrev XR := Option (Option PV × List PV × Pl)
class KX where k : List PV → Pl → XR
noncomputable def goX (r : XR) (k : List PV → Pl → XR) : Option PV → List PV → Pl → XR
  | none, ρ, p => k ρ p
  | some _, _, _ => r
noncomputable def seqX (r : XR) [K : KX] : XR := match r with
  | some x => goX r K.k x.1 x.2.1 x.2.2
  | none => none
theorem seqS {x : XR} {K : KX} {r : Option PV} {ρ' : List PV} {p' : Pl} (h : @seqX x K = some (r, ρ', p')) : (∃ ρ p, x = some (none, ρ, p) ∧ K.k ρ p = some (r, ρ', p')) ∨ (∃ v, r = some v ∧ x = some (some v, ρ', p')) := by
  cases x with
  | none => cases h
  | some x =>
    obtain ⟨r1, ρ, p⟩ := x
    cases r1 with
    | none => exact .inl ⟨ρ, p, rfl, h⟩
    | some v => cases h; exact .inr ⟨v, rfl, rfl⟩
/-- the fuel of loops; does the code have lists of its own -/
structure Md where
  n : Nat
  fz : Bool
noncomputable def fzq (b : Bool) (ρ : List PV) (l : List Nat) : List PV := match b with
  | true => freeze ρ l
  | false => ρ
noncomputable def withSeq (n : Nat) (k : List PV → XR) (x : PV) : XR := @bnd _ _ (seqOf x) ⟨fun vs => if vs.length = n then k vs else none⟩
/-- a loop over items -/
noncomputable def forLoop (f : PV → List PV → Pl → XR) : List PV → List PV → Pl → XR
  | [], ρ, p => some (none, ρ, p)
  | x :: xs, ρ, p => @seqX (f x ρ p) ⟨fun ρ p => forLoop f xs ρ p⟩
noncomputable def whileLoop (z : List PV → List PV) (t : List PV → Pl → Option (PV × Pl)) (f : List PV → Pl → XR) : Nat → List PV → Pl → XR
  | 0, _, _ => none
  | n + 1, ρ, p => @iteK _ (t (z ρ) p) ⟨fun p => @seqX (f (z ρ) p) ⟨fun ρ p => whileLoop z t f n ρ p⟩⟩ ⟨fun p => some (none, z ρ, p)⟩
noncomputable def psetOp (k : Nat) (ρ : List PV) (w v : PV) (p : Pl) : XR := poolE (intE (fun i => match k with
  | 0 => some (none, ρ, (i, p.2))
  | _ + 1 => some (none, ρ, (p.1, i))) none v) none w
noncomputable def isLst : PV → Bool
  | .list _ => true
  | _ => false
noncomputable def noLst {α : Type} (r : Option α) : Bool → Option α
  | true => none
  | false => r
noncomputable def ownE {α : Type} (f : List PV → Option α) (d : Option α) : PV → Option α
  | .own i => f i
  | _ => d
noncomputable def ownbE {α : Type} (f : Array UInt8 → Option α) : PV → Option α
  | .ownb i => f i
  | _ => none
noncomputable def appOp (ρ : List PV) (i : Nat) (o v : PV) (p : Pl) : XR := ownE (fun xs => grd (xs.length ≤ lim) (none, ρ.set i (.own (xs ++ [v])), p))
  (ownbE (fun b => intE (fun k => grd (b.size ≤ lim ∧ 0 ≤ k ∧ k < 256) (none, ρ.set i (.ownb (b.push (UInt8.ofNat k.toNat))), p)) none v) o) o
noncomputable abbrev XT := Orc → Md → List PV → Pl → XR
noncomputable def n_asg : Nat → E → XT := fun i e call N ρ p => @bnd _ _ (ev call e false (fzq N.fz ρ e.vars) p) ⟨fun x => some (none, (fzq N.fz ρ e.vars).set i x.1, x.2)⟩
noncomputable def n_asgT : List Nat → E → XT := fun is e call N ρ p => @bnd _ _ (ev call e false (fzq N.fz ρ e.vars) p) ⟨fun x => @bnd _ _ (seqOf x.1) ⟨fun vs => if vs.length = is.length then some (none, storeL (fzq N.fz ρ e.vars) is vs, x.2) else none⟩⟩
noncomputable def n_pset : Nat → E → E → XT := fun k o e call N ρ p => @bnd _ _ (ev call e false (fzq N.fz ρ (e.vars ++ o.vars)) p) ⟨fun x => @bnd _ _ (ev call o false (fzq N.fz ρ (e.vars ++ o.vars)) x.2) ⟨fun y => psetOp k (fzq N.fz ρ (e.vars ++ o.vars)) y.1 x.1 y.2⟩⟩
noncomputable def n_aug : Nat → Operator → E → XT := fun i op e call N ρ p => @bnd _ _ (getV (fzq N.fz ρ (i :: e.vars)) i) ⟨fun v => noLst (@bnd _ _ (ev call e false (fzq N.fz ρ (i :: e.vars)) p) ⟨fun x => @bnd _ _ (binOp op v x.1) ⟨fun r => some (none, (fzq N.fz ρ (i :: e.vars)).set i r, x.2)⟩⟩) (isLst v)⟩
noncomputable def n_ret : E → XT := fun e call N ρ p => @bnd _ _ (ev call e false (fzq N.fz ρ e.vars) p) ⟨fun x => some (some x.1, fzq N.fz ρ e.vars, x.2)⟩
noncomputable def n_ite : E → Ss → Ss → XT → XT → XT := fun c _ _ t f call N ρ p => @iteK _ (ev call c true (fzq N.fz ρ c.vars) p) ⟨fun p => t call N (fzq N.fz ρ c.vars) p⟩ ⟨fun p => f call N (fzq N.fz ρ c.vars) p⟩
noncomputable def n_whl : E → Ss → XT → XT := fun c _ b call N ρ p => whileLoop (fun ρ => fzq N.fz ρ c.vars) (fun ρ p => ev call c true ρ p) (fun ρ p => b call N ρ p) N.n ρ p
noncomputable def n_forv : Nat → E → Ss → XT → XT := fun i it _ b call N ρ p => @bnd _ _ (ev call it false (fzq N.fz ρ it.vars) p) ⟨fun x => @bnd _ _ (itemsOf x.1) ⟨fun xs => if xs.length ≤ lim then forLoop (fun x ρ p => b call N (ρ.set i x) p) xs (fzq N.fz ρ it.vars) x.2 else none⟩⟩
noncomputable def n_forT : List Nat → E → Ss → XT → XT := fun is it _ b call N ρ p => @bnd _ _ (ev call it false (fzq N.fz ρ it.vars) p) ⟨fun x => @bnd _ _ (itemsOf x.1) ⟨fun xs => if xs.length ≤ lim then forLoop (fun x ρ p => withSeq is.length (fun vs => b call N (storeL ρ is vs) p) x) xs (fzq N.fz ρ it.vars) x.2 else none⟩⟩
noncomputable def n_app : Nat → E → XT := fun i e call N ρ p => @bnd _ _ ((fzq N.fz ρ e.vars)[i]?) ⟨fun o => @bnd _ _ (ev call e false (fzq N.fz ρ e.vars) p) ⟨fun x => appOp (fzq N.fz ρ e.vars) i o x.1 x.2⟩⟩
noncomputable def n_newl : Nat → XT := fun i call N ρ p => some (none, ρ.set i (.own []), p)
noncomputable def n_newb : Nat → XT := fun i call N ρ p => some (none, ρ.set i (.ownb #[]), p)
noncomputable def n_tri : Ss → XT → XT := fun _ b call N ρ p => b call N ρ p
noncomputable def n_bad : XT := fun call N _ _ => none
noncomputable def n_snil : XT := fun call N ρ p => some (none, ρ, p)
noncomputable def n_scons : S → Ss → XT → XT → XT := fun _ _ s ss call N ρ p => @seqX (s call N ρ p) ⟨fun ρ p => ss call N ρ p⟩
noncomputable def xS (call : Orc) (N : Md) (s : S) : List PV → Pl → XR := @S.rec (fun _ => XT) (fun _ => XT) n_asg n_asgT n_pset n_aug n_ret n_ite n_whl n_forv n_forT n_app n_newl n_newb n_tri n_bad n_snil n_scons s call N
noncomputable def xSs (call : Orc) (N : Md) (ss : Ss) : List PV → Pl → XR := @Ss.rec (fun _ => XT) (fun _ => XT) n_asg n_asgT n_pset n_aug n_ret n_ite n_whl n_forv n_forT n_app n_newl n_newb n_tri n_bad n_snil n_scons ss call N
/-! the compiler -/
structure Gm where
  names : List (Str × NameKind)
  vars : List (Str × VK)
noncomputable def Gm.idx (Γ : Gm) (x : Str) : Option Nat := Γ.vars.findIdx? fun y => y.1 == x
noncomputable def Gm.glob (Γ : Gm) (x : Str) : Bool := Γ.names.lookup x == some .globalImplicit && !(x == Str.ofString "__debug__")
/-- a captured name: it stands in a cell -/
noncomputable def Gm.capi (Γ : Gm) (x : Str) : Option Nat := match Γ.idx x with
  | some i => if Γ.vars[i]? = some (x, .cell) ∨ Γ.vars[i]? = some (x, .cap) then some i else none
  | none => none
/-- a word's outermost shape -/
inductive EV where
  | name (x : Str) (p : Pos) | attr (o : Expr) (f : Str) (p : Pos) | slice (a b c : Option Expr) (p : Pos) | list (l : List Expr) (p : Pos) | tup (l : List Expr) (k : Nat) (p : Pos) | sub (o i : Expr) (p : Pos)
  | call (f : Expr) (as : List Expr) (ks : List Keyword) (p : Pos) | cst (c : Const) (k : Nat) (p : Pos) | other
noncomputable def view : Expr → EV
  | .Name x p => .name x p
  | .Attribute o f p => .attr o f p
  | .Slice a b c p => .slice a b c p
  | .List l p => .list l p
  | .Tuple l k p => .tup l k p
  | .Subscript o i p => .sub o i p
  | .Call f as ks p => .call f as ks p
  | .Constant c k p => .cst c k p
  | _ => .other
noncomputable def EV.back (e : Expr) : EV → Prop
  | .name x p => e = .Name x p
  | .attr o f p => e = .Attribute o f p
  | .slice a b c p => e = .Slice a b c p
  | .list l p => e = .List l p
  | .tup l k p => e = .Tuple l k p
  | .sub o i p => e = .Subscript o i p
  | .call f as ks p => e = .Call f as ks p
  | .cst c k p => e = .Constant c k p
  | .other => True
theorem view_spec (e : Expr) : (view e).back e := by cases e <;> first | exact rfl | exact trivial
noncomputable def nameV : EV → Option Str
  | .name x _ => some x
  | _ => none
noncomputable def attrV : EV → Option (Expr × Str × Pos)
  | .attr o f p => some (o, f, p)
  | _ => none
noncomputable def sliceV : EV → Option (Option Expr × Option Expr × Option Expr)
  | .slice a b c _ => some (a, b, c)
  | _ => none
noncomputable def listV : EV → Option (List Expr)
  | .list l _ => some l
  | _ => none
noncomputable def tupV : EV → Option (List Expr)
  | .tup l _ _ => some l
  | _ => none
noncomputable def subV : EV → Option (Expr × Expr)
  | .sub o i _ => some (o, i)
  | _ => none
noncomputable def callV : EV → Option (Expr × List Expr × List Keyword × Pos)
  | .call f as ks p => some (f, as, ks, p)
  | _ => none
noncomputable def cstV : EV → Option Const
  | .cst c _ _ => some c
  | _ => none
noncomputable def nameOf (e : Expr) : Option Str := nameV (view e)
noncomputable def attrOf (e : Expr) : Option (Expr × Str × Pos) := attrV (view e)
noncomputable def sliceOf (e : Expr) : Option (Option Expr × Option Expr × Option Expr) := sliceV (view e)
noncomputable def listOf (e : Expr) : Option (List Expr) := listV (view e)
noncomputable def tupOf (e : Expr) : Option (List Expr) := tupV (view e)
noncomputable def subOf (e : Expr) : Option (Expr × Expr) := subV (view e)
noncomputable def callOf (e : Expr) : Option (Expr × List Expr × List Keyword × Pos) := callV (view e)
noncomputable def cstOf (e : Expr) : Option Const := cstV (view e)
theorem EV.elim {e : Expr} {P : EV → Prop} (k : ∀ v, v.back e → P v) : P (view e) := k _ (view_spec e)
theorem nameOf_inv {e : Expr} {x : Str} : nameOf e = some x → ∃ p, e = .Name x p := EV.elim (P := fun v => nameV v = some x → _) fun v s h => by cases v <;> first | (have q := Option.some.inj h; subst q; exact ⟨_, s⟩) | exact (nomatch h)
theorem attrOf_inv {e : Expr} {x : Expr × Str × Pos} : attrOf e = some x → e = .Attribute x.1 x.2.1 x.2.2 := EV.elim (P := fun v => attrV v = some x → _) fun v s h => by cases v <;> first | (have q := Option.some.inj h; subst q; exact s) | exact (nomatch h)
theorem sliceOf_inv {e : Expr} {x : Option Expr × Option Expr × Option Expr} : sliceOf e = some x → ∃ p, e = .Slice x.1 x.2.1 x.2.2 p := EV.elim (P := fun v => sliceV v = some x → _) fun v s h => by cases v <;> first | (have q := Option.some.inj h; subst q; exact ⟨_, s⟩) | exact (nomatch h)
theorem listOf_inv {e : Expr} {x : List Expr} : listOf e = some x → ∃ p, e = .List x p := EV.elim (P := fun v => listV v = some x → _) fun v s h => by cases v <;> first | (have q := Option.some.inj h; subst q; exact ⟨_, s⟩) | exact (nomatch h)
theorem tupOf_inv {e : Expr} {x : List Expr} : tupOf e = some x → ∃ k p, e = .Tuple x k p := EV.elim (P := fun v => tupV v = some x → _) fun v s h => by cases v <;> first | (have q := Option.some.inj h; subst q; exact ⟨_, _, s⟩) | exact (nomatch h)
theorem subOf_inv {e : Expr} {x : Expr × Expr} : subOf e = some x → ∃ p, e = .Subscript x.1 x.2 p := EV.elim (P := fun v => subV v = some x → _) fun v s h => by cases v <;> first | (have q := Option.some.inj h; subst q; exact ⟨_, s⟩) | exact (nomatch h)
theorem callOf_inv {e : Expr} {x : Expr × List Expr × List Keyword × Pos} : callOf e = some x → e = .Call x.1 x.2.1 x.2.2.1 x.2.2.2 := EV.elim (P := fun v => callV v = some x → _) fun v s h => by cases v <;> first | (have q := Option.some.inj h; subst q; exact s) | exact (nomatch h)
theorem cstOf_inv {e : Expr} {x : Const} : cstOf e = some x → ∃ k p, e = .Constant x k p := EV.elim (P := fun v => cstV v = some x → _) fun v s h => by cases v <;> first | (have q := Option.some.inj h; subst q; exact ⟨_, _, s⟩) | exact (nomatch h)
/-- not a call of a name without arguments -/
noncomputable def noSuper (e : Expr) : Bool := match callOf e with
  | some c => !((nameOf c.1).isSome && c.2.1.isEmpty && c.2.2.1.isEmpty)
  | none => true
noncomputable def fnNames : List Str := ["Part", "takes#", "utf8", "lead_of", "text_of", "code_at", "fold_ascii", "hex_text", "storage_class", "collate", "sign_of", "compare_values", "digits_end", "number_span", "number_of", "as_integer",
  "as_text", "write_literal", "matches", "like_parts", "like", "lot_at", "glob_parts", "glob", "octets_of", "lowered", "raised", "length_of", "place_in", "trimmed", "part_of", "replaced", "chosen", "signs_of", "zeros", "matched",
  "call_with_nulls", "call_function", "call_on_texts", "_law_pool", "_law_take", "_law_one", "_law_call", "_law_drawn", "_law_value", "_law_text", "_law_cut", "_law_substr_right", "_law_places", "_law_replaced", "_law_trimmed",
  "_law_parts_right", "_law_octets", "_law_turned", "_law_signs_right", "_law_nulls_right", "_law_numbers_right", "_law_patterns_right", "law"].map Str.ofString
noncomputable def fnId (x : Str) : Option Nat := (fnNames.findIdx? (· == x)).filter (· != 1)
noncomputable def gconsts : List (Str × PV) := [("MIN_INT", PV.int (-9223372036854775808)), ("MAX_INT", .int 9223372036854775807), ("REPLACEMENT", .str ⟨#[65533]⟩), ("SPACES", .str (Str.ofString " \t\n\x0b\x0c\r")),
  ("DIGITS", .str (Str.ofString "0123456789")), ("HEX_DIGITS", .str (Str.ofString "0123456789ABCDEF")), ("ANY", .int 0), ("ONE", .int 1), ("SIGN", .int 2), ("LOT", .int 3), ("MOST_OCTETS", .int 100000)].map fun x => (Str.ofString x.1, x.2)
noncomputable def gconst (x : Str) : Option PV := gconsts.lookup x
noncomputable def bltNames : List (Str × BI) := [("len", BI.len), ("int", .int), ("range", .range), ("ord", .ord), ("chr", .chr), ("max", .max), ("min", .min), ("list", .list), ("bytes", .bytes), ("str", .str), ("abs", .abs), ("sorted", .sorted)].map fun x => (Str.ofString x.1, x.2)
noncomputable def bltId (x : Str) : Option BI := bltNames.lookup x
noncomputable def methNames : List (Str × MI) := [("join", MI.join), ("find", .find), ("split", .split), ("lower", .lower), ("encode", .encode), ("takes", .takes)].map fun x => (Str.ofString x.1, x.2)
noncomputable def methId (x : Str) : Option MI := methNames.lookup x
noncomputable def typNames : List (Str × TI) := [("int", TI.int), ("str", .str), ("bytes", .bytes)].map fun x => (Str.ofString x.1, x.2)
noncomputable def typId (x : Str) : Option TI := typNames.lookup x
/-- a word that gives a bool, tested or not -/
noncomputable def isBoolE : E → Bool
  | .cmp .. => true
  | .cmp2 .. => true
  | .isi .. => true
  | _ => false
noncomputable def strC : Const → Option Str
  | .str s => some s
  | _ => none
noncomputable def isConstStr (e : Expr) : Option Str := match cstOf e with
  | some c => strC c
  | none => none
noncomputable def toEs : List E → Es
  | [] => .nil
  | e :: r => .cons e (toEs r)
noncomputable def mapO {α β : Type} (f : α → Option β) : List α → Option (List β)
  | [] => some []
  | x :: r => @bnd _ _ (f x) ⟨fun y => @bnd _ _ (mapO f r) ⟨fun ys => some (y :: ys)⟩⟩
noncomputable def constOf : Const → Option PV
  | .none => some .none
  | .bool b => some (.bool b)
  | .int i => some (.int i)
  | .str s => some (.str s)
  | .bytes b => some (.bytes b.toArray)
  | _ => none
/-- the captured names of a comprehension's scope, in order -/
noncomputable def freesOf (names : List (Str × NameKind)) : List Str := (names.filter fun x => x.2 == .free).map (·.1)
noncomputable def compGm (x : Str) (scope : Scope) : Gm := ⟨scope.names, (x, .loc) :: (freesOf scope.names).map fun y => (y, .cap)⟩
noncomputable def nodupN (l : List Str) : Bool := match l with
  | [] => true
  | x :: r => !r.contains x && nodupN r
noncomputable def compOk (x : Str) (scope : Scope) : Bool :=
  scope.kind == .function && scope.names.lookup x == some .local && scope.names.all (fun y => y.2 == .globalImplicit || y.2 == .free || (y.2 == .local && (y.1 == x || y.1 == Str.ofString ".0"))) &&
  nodupN (scope.names.map (·.1)) && (freesOf scope.names).all (fun y => !(y == Str.ofString "__classdict__") && !(y == Str.ofString "__debug__")) && !(x == Str.ofString "__debug__")
/-! one thing, or else -/
section
variable {α β : Type}
noncomputable def optE (f : α → Option β) (d : Option β) : Option α → Option β
  | some a => f a
  | none => d
noncomputable def grB (r : Option α) : Bool → Option α
  | true => r
  | false => none
noncomputable def nilE (r : Option β) : List α → Option β
  | [] => r
  | _ :: _ => none
noncomputable def oneE (f : α → Option β) : List α → Option β
  | [] => none
  | x :: l => nilE (f x) l
noncomputable def twoE (f : α → α → Option β) : List α → Option β
  | [] => none
  | x :: l => oneE (f x) l
noncomputable def thn (x : Option α) (f : α → Option β) : Option β := match x with
  | some a => f a
  | none => none
theorem optC {f : α → Option β} {d : Option β} {x : Option α} {r : β} {C : Prop} (h : optE f d x = some r) (k : ∀ a, x = some a → f a = some r → C) (k' : x = none → d = some r → C) : C := by
  cases x with
  | some a => exact k a rfl h
  | none => exact k' rfl h
theorem grC {x : Option α} {b : Bool} {r : α} {C : Prop} (h : grB x b = some r) (k : b = true → x = some r → C) : C := by
  cases b with
  | true => exact k rfl h
  | false => cases h
theorem nilC {x : Option β} {l : List α} {r : β} {P : List α → Prop} (h : nilE x l = some r) (k : x = some r → P []) : P l := by
  cases l with
  | nil => exact k h
  | cons _ _ => cases h
theorem oneC {f : α → Option β} {l : List α} {r : β} {P : List α → Prop} (h : oneE f l = some r) (k : ∀ x, f x = some r → P [x]) : P l := by
  cases l with
  | nil => cases h
  | cons x l => exact nilC (P := fun l => P (x :: l)) h (k x)
theorem twoC {f : α → α → Option β} {l : List α} {r : β} {P : List α → Prop} (h : twoE f l = some r) (k : ∀ x y, f x y = some r → P [x, y]) : P l := by
  cases l with
  | nil => cases h
  | cons x l => exact oneC (P := fun l => P (x :: l)) h (k x)
theorem thnC {x : Option α} {f : α → Option β} {r : β} {C : Prop} (h : thn x f = some r) (k : ∀ a, x = some a → f a = some r → C) : C := by
  cases x with
  | some a => exact k a rfl h
  | none => cases h
end
noncomputable def boundOf (f : Expr → Option E) : Option Expr → Option E
  | none => some (.cst .none)
  | some e => f e
/-- one level of the compiler; c compiles the parts -/
noncomputable def c_call (Γ : Gm) (c : Expr → Option E) (f : Str) (args : List Expr) : Option E := grB (if f = Str.ofString "isinstance" then twoE (fun a t => thn (nameOf t) fun t => grB (thn (c a) fun x => thn (typId t) fun ti => some (.isi x ti)) ((Γ.idx t).isNone && Γ.glob t)) args
  else thn (mapO c args) fun es => optE (fun k => some (.call k (toEs es))) (thn (bltId f) fun b => some (.blt b (toEs es))) (fnId f)) ((Γ.idx f).isNone && Γ.glob f)
noncomputable def c_meth (c : Expr → Option E) (pos : Pos) (a : Expr × Str × Pos) (args : List Expr) : Option E := grB (thn (c a.1) fun x =>
    if a.2.1 = Str.ofString "replace" then twoE (fun y z => thn (isConstStr y) fun y => thn (isConstStr z) fun z => some (.repl x y z)) args
    else thn (mapO c args) fun es => thn (methId a.2.1) fun mi => some (.meth mi x (toEs es))) (a.2.2.endLine == pos.line && noSuper a.1 && decide (args.length < 30))
noncomputable def c_attr (c : Expr → Option E) (o : Expr) (f : Str) : Option E := grB (thn (c o) fun x => if f = Str.ofString "kind" then some (.attr x false) else if f = Str.ofString "sign" then some (.attr x true) else none) (noSuper o)
noncomputable def c_sub (Γ : Gm) (c : Expr → Option E) (o i : Expr) : Option E := optE
  (fun s => optE (fun _ => none) (thn (c o) fun x => thn (boundOf c s.1) fun a => thn (boundOf c s.2.1) fun b => some (.slice x a b)) s.2.2)
  (if nameOf o = some (Str.ofString "STORAGE_RANKS") then grB (thn (c i) fun a => some (.rank a)) ((Γ.idx (Str.ofString "STORAGE_RANKS")).isNone && Γ.glob (Str.ofString "STORAGE_RANKS"))
    else thn (c o) fun x => thn (c i) fun a => some (.idx x a)) (sliceOf i)
noncomputable def c_cmp (c : Expr → Option E) (l : Expr) (rs : List Expr) : List CmpOp → Option E
  | [] => none
  | o1 :: os => match os with
    | [] => oneE (fun r => grB (thn (c l) fun a => thn (c r) fun b => some (.cmp o1 a b)) (!behindInMarks o1 r)) rs
    | o2 :: os => nilE (twoE (fun r1 r2 => grB (thn (c l) fun a => thn (c r1) fun b => thn (c r2) fun d => some (.cmp2 o1 o2 a b d)) (!behindInMarks o2 r2)) rs) os
noncomputable def c_bop (m : Bool) (op : BoolOp) (es : List E) : Option E := grB (some (.bop op (toEs es))) (m || (es.all isBoolE && !es.isEmpty))
noncomputable def c_un (m : Bool) (c : Bool → Expr → Option E) (x : Expr) : UnaryOp → Option E
  | .USub => thn (c false x) fun a => some (.neg a)
  | .Not => grB (thn (c true x) fun a => some (.not a)) m
  | _ => none
noncomputable def compOf (Γ : Gm) (c : Gm → Bool → Expr → Option E) (scope : Scope) (elt : Expr) (g : Comprehension) : Option E := thn (nameOf g.target) fun x => grB (thn (c Γ false g.iter) fun a => thn (c (compGm x scope) false elt) fun b => thn (mapO (c (compGm x scope) true) g.ifs) fun cs => thn (mapO Γ.capi (freesOf scope.names)) fun ks => some (.comp b a (toEs cs) ks)) (compOk x scope && decide (g.is_async = 0))
noncomputable def comp (Γ : Gm) : Nat → Bool → Expr → Option E
  | 0, _, _ => none
  | n + 1, m, e => match e with
    | .Name x _ => optE (fun i => some (.var i)) (grB (thn (gconst x) fun v => some (.cst v)) (Γ.glob x)) (Γ.idx x)
    | .Constant k _ _ => thn (constOf k) fun v => some (.cst v)
    | .BinOp l op r _ => thn (comp Γ n false l) fun a => thn (comp Γ n false r) fun b => some (.bin op a b)
    | .UnaryOp op x _ => c_un m (comp Γ n) x op
    | .Compare l ops rs _ => c_cmp (comp Γ n false) l rs ops
    | .BoolOp op vs _ => thn (mapO (comp Γ n m) vs) fun es => c_bop m op es
    | .IfExp c a b _ => grB (thn (comp Γ n true c) fun x => thn (comp Γ n false a) fun y => thn (comp Γ n false b) fun z => some (.ite x y z)) (!m)
    | .Call f args kws pos => nilE (optE (fun x => c_call Γ (comp Γ n false) x args) (thn (attrOf f) fun a => c_meth (comp Γ n false) pos a args) (nameOf f)) kws
    | .Attribute o f _ => c_attr (comp Γ n false) o f
    | .Subscript o i _ => c_sub Γ (comp Γ n false) o i
    | .List es _ => grB (thn (mapO (comp Γ n false) es) fun es => some (.list (toEs es))) (decide (es.length ≤ 1000))
    | .Tuple es _ _ => grB (thn (mapO (comp Γ n false) es) fun es => some (.tup (toEs es))) (!m && decide (es.length ≤ 1000))
    | .ListComp elt gs scope _ => oneE (compOf Γ (fun Γ => comp Γ n) scope elt) gs
    | _ => none
noncomputable def nodupI : List Nat → Bool
  | [] => true
  | i :: r => !r.contains i && nodupI r
/-- the order of the stores is told -/
noncomputable def swapOk (e : Expr) : Bool := match tupOf e with
  | some vs => vs.all (foldedForSure 8) || !vs.all (constantsAlone 8)
  | none => true
noncomputable def fuel : Nat := 40
noncomputable def orBad : Option S → S
  | some s => s
  | none => .bad
/-- the local names of the function, all of them plain -/
noncomputable def Gm.loc (Γ : Gm) (x : Str) : Option Nat := match Γ.idx x with
  | some i => if Γ.vars[i]? = some (x, .loc) then some i else none
  | none => none
noncomputable def Gm.any (Γ : Gm) (x : Str) : Option Nat := match Γ.idx x with
  | some i => if Γ.vars[i]? = some (x, .loc) ∨ Γ.vars[i]? = some (x, .cell) then some i else none
  | none => none
noncomputable def intC (k : Const) : Option Int := match k with
  | .int i => some i
  | _ => none
/-- a stored list | bytearray | word -/
noncomputable def c_asgN (Γ : Gm) (v : Expr) (x : Str) : Option S :=
  if (match listOf v with
    | some l => l.isEmpty
    | none => false) = true then thn (Γ.loc x) fun i => some (.newl i)
  else if (match callOf v with
    | some c => decide (nameOf c.1 = some (Str.ofString "bytearray")) && c.2.1.isEmpty && c.2.2.1.isEmpty && (Γ.idx (Str.ofString "bytearray")).isNone && Γ.glob (Str.ofString "bytearray")
    | none => false) = true then thn (Γ.loc x) fun i => some (.newb i)
  else thn (Γ.any x) fun i => thn (comp Γ fuel false v) fun e => some (.asg i e)
noncomputable def c_names (Γ : Gm) (ts : List Expr) : Option (List Nat) := mapO (fun t => thn (nameOf t) Γ.any) ts
noncomputable def c_asgT (Γ : Gm) (v : Expr) (ts : List Expr) : Option S := thn (c_names Γ ts) fun is => thn (comp Γ fuel false v) fun e => grB (some (.asgT is e)) (nodupI is && decide (is.length < 100) && swapOk v)
noncomputable def c_pset (Γ : Gm) (v : Expr) (oi : Expr × Expr) : Option S := thn (cstOf oi.2) fun c => thn (intC c) fun k => grB (thn (comp Γ fuel false oi.1) fun a => thn (comp Γ fuel false v) fun b => some (.pset k.toNat a b)) (decide (k = 0 ∨ k = 1))
noncomputable def c_asg (Γ : Gm) (v t : Expr) : Option S := optE (c_asgN Γ v) (optE (c_asgT Γ v) (thn (subOf t) (c_pset Γ v)) (tupOf t)) (nameOf t)
noncomputable def c_aug (Γ : Gm) (op : Operator) (v t : Expr) : Option S := thn (nameOf t) fun x => grB (thn (Γ.any x) fun i => thn (comp Γ fuel false v) fun e => some (.aug i op e)) (decide (op = .Add ∨ op = .Sub))
noncomputable def c_for (Γ : Gm) (b : Ss) (it t : Expr) : Option S := thn (comp Γ fuel false it) fun e => optE (fun x => thn (Γ.any x) fun i => some (.forv i e b)) (thn (tupOf t) fun ts => thn (c_names Γ ts) fun is => grB (some (.forT is e b)) (decide (is.length < 100))) (nameOf t)
noncomputable def c_app (Γ : Gm) (e : Expr) : Option S := thn (callOf e) fun c => thn (attrOf c.1) fun a => thn (nameOf a.1) fun x => grB (nilE (oneE (fun v => thn (Γ.loc x) fun i => thn (comp Γ fuel false v) fun e => some (.app i e)) c.2.1) c.2.2.1) (decide (a.2.1 = Str.ofString "append") && (a.2.2.endLine == c.2.2.2.line))
mutual
noncomputable def cS (Γ : Gm) : Nat → Stmt → S
  | 0, _ => .bad
  | n + 1, st => match st with
    | .Assign ts v _ => orBad (oneE (c_asg Γ v) ts)
    | .AugAssign t op v _ => orBad (c_aug Γ op v t)
    | .Return v _ => orBad (thn v fun v => thn (comp Γ fuel false v) fun e => some (.ret e))
    | .If c t f _ => orBad (thn (comp Γ fuel true c) fun e => some (.ite e (cSs Γ n t) (cSs Γ n f)))
    | .While c b o _ => orBad (nilE (thn (comp Γ fuel true c) fun e => some (.whl e (cSs Γ n b))) o)
    | .For t it b o _ => orBad (nilE (c_for Γ (cSs Γ n b) it t) o)
    | .Expr e _ => orBad (c_app Γ e)
    | .Try b _ o f _ => orBad (nilE (nilE (some (.tri (cSs Γ n b))) f) o)
    | _ => .bad
termination_by structural n => n
noncomputable def cSs (Γ : Gm) : Nat → List Stmt → Ss
  | 0, _ => .cons .bad .nil
  | n + 1, l => match l with
    | [] => .nil
    | st :: r => .cons (cS Γ n st) (cSs Γ n r)
termination_by structural n => n
end
noncomputable def gmOf (sc : Scope) : Gm := ⟨sc.names, sc.names.filterMap fun x => match x.2 with
  | .local => some (x.1, .loc)
  | .cell => some (x.1, .cell)
  | _ => none⟩
structure FnT where
  params : Arguments
  body : List Stmt
  scope : Scope
noncomputable def fnOf (x : Str) : Stmt → Option FnT
  | .FunctionDef n a b _ _ _ sc _ _ _ => if n = x then some ⟨a, b, sc⟩ else none
  | _ => none
noncomputable def firstOf (f : Stmt → Option FnT) : List Stmt → Option FnT
  | [] => none
  | s :: r => optE some (firstOf f r) (f s)
noncomputable def inPart (x : Str) : Stmt → Option FnT
  | .ClassDef n _ _ b _ _ _ _ _ _ _ => if n = Str.ofString "Part" then firstOf (fnOf x) b else none
  | _ => none
noncomputable def defIn (x : Str) (l : List Stmt) : Option FnT := firstOf (fun s => optE some (inPart x s) (fnOf x s)) l
noncomputable def FnT.code (f : FnT) : Ss := cSs (gmOf f.scope) 100 f.body
noncomputable abbrev pw : Program := PySem.Challenge.pw_nt0115_01
noncomputable def qv : Program := { pw with main := { pw.main with body := pw.main.body.drop (pw.main.body.length - 1) } }
noncomputable def lv : List PySem.Str := (pw.main.scope.names.filter fun y => y.2 == NameKind.local && !(y.1 == PySem.Str.ofString "law")).map (·.1)
noncomputable def refOf : Option Value → Option Addr
  | some (.ref a) => some a
  | _ => none
/-- a few objects of the heap -/
noncomputable def pick (h : Heap) (as : List Addr) : Frag := as.filterMap fun a => (h.get? a).map fun o => (a, o)
/-- a class, its names and what stands under them -/
noncomputable def clsRefs (h : Heap) (C : Addr) : List Addr := match h.get? C with
  | some ⟨_, _, .cls cd, _⟩ => match h.get? cd.ns with
    | some ⟨_, _, .dict es _, _⟩ => C :: cd.ns :: es.toList.filterMap fun e => refOf (some e.val)
    | _ => []
  | _ => []
noncomputable def glob (h : Heap) (x : Str) : Option Addr := refOf (h.nsMap mainGlobals x)
noncomputable def kOf (h : Heap) (C S P : Addr) : Frag := pick h (clsRefs h C ++ clsRefs h S ++ clsRefs h P)
/-- the defaults of a function: none, or a tuple -/
noncomputable def dfl (h : Heap) : Value → Option (List Value)
  | .none => some []
  | .ref T => match h.get? T with
    | some ⟨_, _, .seq items _, _⟩ => some items.toList
    | _ => none
  | _ => none
inductive NV where
  | ref
  | fn (p : Arguments) (b : FuncBody) (s : Scope) (q : Str) (c : Option Str) (ok : Bool)
  | lit (v : PV)
  | other
noncomputable def codeName (h : Heap) : Value → Option Str
  | .ref c => match h.get? c with
    | some ⟨_, _, .fields vs, _⟩ => match vs.toList with
      | _ :: .str n _ :: _ => some n
      | _ => none
    | _ => none
  | _ => none
noncomputable def fnv (h : Heap) (a : Addr) : NV := match h.get? a with
  | some ⟨_, _, .func fd, _⟩ => .fn fd.params fd.body fd.scope fd.qualname (codeName h fd.code) (fd.globals == mainGlobals && fd.closure.isEmpty && fd.builtins == builtinsNs && (dfl h fd.defaults).isSome)
  | _ => .ref
noncomputable def nv (h : Heap) : Value → NV
  | .ref a => fnv h a
  | .int i _ => .lit (.int i)
  | .str x _ => .lit (.str x)
  | _ => .other
noncomputable def keyStr : Value → Option Str
  | .str x _ => some x
  | _ => none
/-- the names of the text, in their order -/
noncomputable def names (h : Heap) : Option (List (Option Str × NV)) := match h.get? mainGlobals with
  | some ⟨_, _, .dict es _, _⟩ => some (es.toList.map fun e => (keyStr e.key, nv h e.val))
  | _ => none
noncomputable def fnIn (K : Frag) (C : Addr) (n : Str) : Option Addr := match findIn K (.ref C) n with
  | some (some (.ref f)) => if typeIn K (.ref f) == some (.type "function") then some f else none
  | _ => none
noncomputable def partNames : List Str := ["kind", "sign", "ranges", "negated"].map Str.ofString
noncomputable def partOk (K : Frag) (C : Addr) : Bool := makesIn K C && plainOver K C && (clsIn K C).any (·.hasDict) && findIn K (.ref C) "__getattribute__" == some (some (.builtin "object.__getattribute__")) && findIn K (.ref C) "__getattr__" == some none &&
  findIn K (.ref C) "__setattr__" == some (some (.builtin "object.__setattr__")) && partNames.all fun n => findIn K (.ref C) n == some none && takerIn K C n == some none
/-- what is asked of SqlError: an exception class over PagebaseError -/
noncomputable def excOk (K : Frag) (S P : Addr) : Bool := (clsIn K S).any (fun cd => !cd.abstract && !cd.hasDel && cd.hasDict && cd.mro == [.ref S, .ref P, .type "Exception", .type "BaseException", .type "object"]) &&
  (match K.lookup S with
    | some o => o.slots.size == 6 && (o.slots[4]?).join == some (.builtin "Exception.__new__") && o.cls == .type "type"
    | none => false) &&
  specialIn K (.ref S) "__call__" == some (some (.builtin "type.__call__")) && findIn K (.ref S) "__setattr__" == some (some (.builtin "object.__setattr__")) && takerIn K S "message" == some none
noncomputable def fnAt (q : String) : Option Stmt → NV
  | some (.FunctionDef _ a b _ _ _ sc _ _ _) => .fn a (.stmts b) sc (Str.ofString q) (some (Str.ofString q)) true
  | _ => .other
noncomputable def bodyOf : Option Stmt → List Stmt
  | some (.ClassDef _ _ _ b _ _ _ _ _ _ _) => b
  | _ => []
noncomputable def nFn (i : Nat) (x : String) : Option Str × NV := (some (Str.ofString x), fnAt x pw.main.body[i]?)
noncomputable def nRef (x : String) : Option Str × NV := (some (Str.ofString x), .ref)
noncomputable def nLit (x : String) (v : PV) : Option Str × NV := (some (Str.ofString x), .lit v)
noncomputable def nOth (x : String) : Option Str × NV := (some (Str.ofString x), .other)
noncomputable def names0 : List (Option Str × NV) := [nLit "__name__" (.str (Str.ofString "law_nt0115_01")), nOth "__doc__", nOth "__package__", nOth "__loader__", nOth "__spec__", nRef "__annotations__", nRef "__builtins__", nLit "__file__" (.str (Str.ofString "/claim/cut.py")), nOth "__cached__",
  nRef "PagebaseError", nRef "SqlError", nRef "TooBigError", nRef "MisuseError", nLit "MIN_INT" (.int (-9223372036854775808)), nLit "MAX_INT" (.int 9223372036854775807), nRef "STORAGE_RANKS", nLit "SPACES" (.str (Str.ofString " \t\n\x0b\x0c\r")),
  nLit "DIGITS" (.str (Str.ofString "0123456789")), nLit "HEX_DIGITS" (.str (Str.ofString "0123456789ABCDEF")), nLit "REPLACEMENT" (.str ⟨#[65533]⟩)]
noncomputable def names1 : List (Option Str × NV) := [nFn 13 "utf8", nFn 14 "lead_of", nFn 15 "text_of", nFn 16 "code_at", nFn 17 "fold_ascii", nFn 18 "hex_text", nFn 19 "storage_class", nFn 20 "collate", nFn 21 "sign_of", nFn 22 "compare_values", nFn 23 "digits_end", nFn 24 "number_span", nFn 25 "number_of", nFn 26 "as_integer", nFn 27 "as_text", nFn 28 "write_literal", nLit "ANY" (.int 0), nLit "ONE" (.int 1), nLit "SIGN" (.int 2), nLit "LOT" (.int 3), nRef "Part", nFn 35 "matches", nFn 36 "like_parts", nFn 37 "like", nFn 38 "lot_at", nFn 39 "glob_parts", nFn 40 "glob", nLit "MOST_OCTETS" (.int 100000), nFn 43 "octets_of", nFn 44 "lowered", nFn 45 "raised", nFn 46 "length_of", nFn 47 "place_in", nFn 48 "trimmed", nFn 49 "part_of", nFn 50 "replaced", nFn 51 "chosen", nFn 52 "signs_of", nFn 53 "zeros", nFn 54 "matched", nFn 55 "call_with_nulls", nFn 56 "call_function", nFn 57 "call_on_texts", nFn 59 "_law_pool", nFn 60 "_law_take", nFn 61 "_law_one", nFn 62 "_law_call", nFn 63 "_law_drawn", nFn 64 "_law_value", nFn 65 "_law_text", nFn 66 "_law_cut", nFn 67 "_law_substr_right", nFn 68 "_law_places", nFn 69 "_law_replaced", nFn 70 "_law_trimmed", nFn 71 "_law_parts_right", nFn 72 "_law_octets", nFn 73 "_law_turned", nFn 74 "_law_signs_right", nFn 75 "_law_nulls_right", nFn 76 "_law_numbers_right", nFn 77 "_law_patterns_right", nFn 78 "law"]
noncomputable def namesW : List (Option Str × NV) := names0 ++ names1
noncomputable def partBody : List Stmt := bodyOf pw.main.body[34]?
noncomputable def excBody : List Stmt := bodyOf pw.main.body[1]?
noncomputable abbrev ClsSee := Option (Bool × List (Option NV) × Option (List Value))
noncomputable def clsSee (h : Heap) : ClsSee := match glob h (Str.ofString "Part"), glob h (Str.ofString "SqlError"), glob h (Str.ofString "PagebaseError") with
  | some C, some S, some P => match kOf h C S P with
    | K => some (partOk K C && excOk K S P, [(fnIn K C "__init__").map (fnv h), (fnIn K C "takes").map (fnv h), (fnIn K S "__init__").map (fnv h)],
        (fnIn K C "__init__").bind fun f => match h.get? f with
          | some ⟨_, _, .func fd, _⟩ => dfl h fd.defaults
          | _ => none)
  | _, _, _ => none
noncomputable def ranksSee (h : Heap) : Option (Bool × List (Int × Option Str × Option Int)) := (glob h (Str.ofString "STORAGE_RANKS")).bind fun ra => match h.get? ra with
    | some ⟨.type "dict", none, .dict es _, sl⟩ => some (sl.size == 0, es.toList.map fun e => (e.hash, (match e.key with | .str x _ => some x | _ => none), (match e.val with | .int i _ => some i | _ => none)))
    | _ => none
noncomputable def ranksWant (w : World) : Option (Bool × List (Int × Option Str × Option Int)) := some (true, [("null", 0), ("integer", 1), ("text", 2), ("blob", 3)].map fun x => (hashStr w (Str.ofString x.1), some (Str.ofString x.1), some x.2))
noncomputable def obs (s : Shared) := (decide (1 ≤ s.toks), names s.heap, clsSee s.heap, ranksSee s.heap)
noncomputable def want (w : World) := (true, some namesW, (some (true, [some (fnAt "Part.__init__" partBody[0]?), some (fnAt "Part.takes" partBody[1]?), some (fnAt "PagebaseError.__init__" excBody[0]?)], some [.none, .none, .bool false]) : ClsSee), ranksWant w)
noncomputable abbrev SeenAt (w : World) (b : Bool) : Prop := (fencedOpening treeTable pw w 6400).map (fun s₀ => ((topFrom treeTable pw (w.withFollow "special-get-raises" b) 6400 s₀).map (fun s => (openSeen qv lv (importedModules pw.main.body) (fun _ => true) true s, obs s)))) = some (some (openGood qv lv, want (w.withFollow "special-get-raises" b)))
theorem seen_f : ∀ w : World, SeenAt w false := by
  intro w
  kernel_rfl
theorem seen_t : ∀ w : World, SeenAt w true := by
  intro w
  kernel_rfl
theorem left : LeftO pw qv lv (fun _ => true) obs want 6400 := fun w => by
  have h : ∀ b, SeenAt w b := fun b => by cases b; exact seen_f w; exact seen_t w
  have h := h (w.params.followText "special-get-raises")
  obtain ⟨s₀, a, b⟩ := Option.map_eq_some_iff.mp h
  rw [World.withFollow_self w "special-get-raises"] at b
  unfold openEnds
  rw [a]
  exact b
/-- a statement's outermost shape -/
inductive SV where
  | asg (ts : List Expr) (v : Expr) (p : Pos) | ret (v : Expr) (p : Pos) | ite (t : Expr) (a b : List Stmt) (p : Pos) | loop (t it : Expr) (a b : List Stmt) (p : Pos) | raise (e : Expr) (p : Pos) | tri (b : List Stmt) (h : ExceptHandler) (p : Pos) | other
noncomputable def tri1 (b : List Stmt) (p : Pos) : List ExceptHandler → List Stmt → List Stmt → SV
  | [h], [], [] => .tri b h p
  | _, _, _ => .other
noncomputable def ret1 (p : Pos) : Option Expr → SV
  | some v => .ret v p
  | none => .other
noncomputable def raise1 (p : Pos) : Option Expr → Option Expr → SV
  | some v, none => .raise v p
  | _, _ => .other
noncomputable def sview : Stmt → SV
  | .Assign ts v p => .asg ts v p
  | .Return v p => ret1 p v
  | .If t a b p => .ite t a b p
  | .For t it a b p => .loop t it a b p
  | .Raise e c p => raise1 p e c
  | .Try b h o f p => tri1 b p h o f
  | _ => .other
noncomputable def SV.back (s : Stmt) : SV → Prop
  | .asg ts v p => s = .Assign ts v p
  | .ret v p => s = .Return (some v) p
  | .ite t a b p => s = .If t a b p
  | .loop t it a b p => s = .For t it a b p
  | .raise e p => s = .Raise (some e) none p
  | .tri b h p => s = .Try b [h] [] [] p
  | .other => True
theorem sview_spec (s : Stmt) : (sview s).back s := by
  cases s with
  | Return v p => cases v <;> first | exact rfl | exact trivial
  | Raise e c p => cases e <;> cases c <;> first | exact rfl | exact trivial
  | Try b h o f p =>
    cases h with
    | nil => exact trivial
    | cons x h =>
      cases h with
      | nil =>
        cases o with
        | nil => cases f <;> first | exact rfl | exact trivial
        | cons _ _ => exact trivial
      | cons _ _ => exact trivial
  | _ => first | exact rfl | exact trivial
noncomputable def asgV : SV → Option (List Expr × Expr)
  | .asg ts v _ => some (ts, v)
  | _ => none
noncomputable def retV : SV → Option Expr
  | .ret v _ => some v
  | _ => none
noncomputable def iteV : SV → Option (Expr × List Stmt)
  | .ite t a _ _ => some (t, a)
  | _ => none
noncomputable def loopV : SV → Option (Expr × Expr × List Stmt × List Stmt)
  | .loop t it a b _ => some (t, it, a, b)
  | _ => none
noncomputable def raiseV : SV → Option Expr
  | .raise e _ => some e
  | _ => none
noncomputable def triV : SV → Option (List Stmt × ExceptHandler)
  | .tri b h _ => some (b, h)
  | _ => none
noncomputable def asgOf (s : Stmt) : Option (List Expr × Expr) := asgV (sview s)
noncomputable def retOf (s : Stmt) : Option Expr := retV (sview s)
noncomputable def iteOf (s : Stmt) : Option (Expr × List Stmt) := iteV (sview s)
noncomputable def loopOf (s : Stmt) : Option (Expr × Expr × List Stmt × List Stmt) := loopV (sview s)
noncomputable def raiseOf (s : Stmt) : Option Expr := raiseV (sview s)
noncomputable def triOf (s : Stmt) : Option (List Stmt × ExceptHandler) := triV (sview s)
theorem SV.elim {s : Stmt} {P : SV → Prop} (k : ∀ v, v.back s → P v) : P (sview s) := k _ (sview_spec s)
theorem asgOf_inv {s : Stmt} {x : List Expr × Expr} : asgOf s = some x → ∃ p, s = .Assign x.1 x.2 p := SV.elim (P := fun v => asgV v = some x → _) fun v s h => by cases v <;> first | (have q := Option.some.inj h; subst q; exact ⟨_, s⟩) | exact (nomatch h)
theorem retOf_inv {s : Stmt} {x : Expr} : retOf s = some x → ∃ p, s = .Return (some x) p := SV.elim (P := fun v => retV v = some x → _) fun v s h => by cases v <;> first | (have q := Option.some.inj h; subst q; exact ⟨_, s⟩) | exact (nomatch h)
theorem iteOf_inv {s : Stmt} {x : Expr × List Stmt} : iteOf s = some x → ∃ o p, s = .If x.1 x.2 o p := SV.elim (P := fun v => iteV v = some x → _) fun v s h => by cases v <;> first | (have q := Option.some.inj h; subst q; exact ⟨_, _, s⟩) | exact (nomatch h)
theorem loopOf_inv {s : Stmt} {x : Expr × Expr × List Stmt × List Stmt} : loopOf s = some x → ∃ p, s = .For x.1 x.2.1 x.2.2.1 x.2.2.2 p := SV.elim (P := fun v => loopV v = some x → _) fun v s h => by cases v <;> first | (have q := Option.some.inj h; subst q; exact ⟨_, s⟩) | exact (nomatch h)
theorem raiseOf_inv {s : Stmt} {x : Expr} : raiseOf s = some x → ∃ p, s = .Raise (some x) none p := SV.elim (P := fun v => raiseV v = some x → _) fun v s h => by cases v <;> first | (have q := Option.some.inj h; subst q; exact ⟨_, s⟩) | exact (nomatch h)
theorem triOf_inv {s : Stmt} {x : List Stmt × ExceptHandler} : triOf s = some x → ∃ p, s = .Try x.1 [x.2] [] [] p := SV.elim (P := fun v => triV v = some x → _) fun v s h => by cases v <;> first | (have q := Option.some.inj h; subst q; exact ⟨_, s⟩) | exact (nomatch h)
/-- the head of a list -/
noncomputable def hdO {α : Type} : List α → Option α
  | [] => none
  | x :: _ => some x
theorem hdO_inv {α : Type} {l : List α} {x : α} (h : hdO l = some x) : ∃ r, l = x :: r := by
  cases l with
  | nil => cases h
  | cons y r => exact ⟨r, by rw [Option.some.inj h]⟩
theorem opt_get {α : Type} {o : Option α} {d : α} (h : o.isSome = true) : o = some (o.getD d) := by
  cases o with
  | none => cases h
  | some z => rfl
/-- a call of a name: the name, the arguments -/
noncomputable def callN (e : Expr) : Option (Str × List Expr) := thn (callOf e) fun c => nilE (thn (nameOf c.1) fun x => some (x, c.2.1)) c.2.2.1
theorem callN_inv {e : Expr} {z : Str × List Expr} (h : callN e = some z) : ∃ np cp, e = .Call (.Name z.1 np) z.2 [] cp :=
  thnC h fun c hc h => by
    rw [callOf_inv hc]
    exact nilC (P := fun ks => ∃ np cp, Expr.Call c.1 c.2.1 ks c.2.2.2 = .Call (.Name z.1 np) z.2 [] cp) h fun h => thnC h fun x hx h => by
      obtain ⟨np, e⟩ := nameOf_inv hx
      rw [e, ← Option.some.inj h]
      exact ⟨np, _, rfl⟩
noncomputable abbrev No {α : Type} : α → Shared → Prop := fun _ _ => False
/-- the same run with another heap -/
noncomputable abbrev upd (s : Shared) (h : Heap) (tk : Nat) : Shared := { s with heap := h, toks := tk }
theorem bndC {α β : Type} {x : Option α} {K : KO α β} {r : β} {C : Prop} (h : @bnd α β x K = some r) (k : ∀ a, x = some a → K.k a = some r → C) : C := by
  cases x with
  | none => cases h
  | some a => exact k a rfl h
theorem iteKC {α : Type} {b : Option (PV × Pl)} {K : KB α} {L : KC α} {r : α} {C : Prop} (h : @iteK α b K L = some r) (k : ∀ c p, b = some (.bool c, p) → boolK (K.k p) (L.k p) (.bool c) = some r → C) : C := by
  cases b with
  | none => cases h
  | some x =>
    obtain ⟨v, p⟩ := x
    cases v with
    | bool c => exact k c p rfl h
    | _ => cases h
theorem noneN {α : Type} {C : Prop} {r : α} (h : (none : Option α) = some r) : C := nomatch h
theorem grdP {α : Type} {c : Prop} [Decidable c] {r r' : α} (h : grd c r = some r') : c := (grd_inv h).1
theorem grdE {α : Type} {c : Prop} [Decidable c] {r r' : α} (h : grd c r = some r') : some r = some r' := congrArg some (grd_inv h).2
section
variable {α β : Type} {M : Model} {A : Around} {E : Value → Shared → Prop} {s s' : Shared} {t : Sem α} {f : α → Sem β} {Q : β → Shared → Prop} {a : α}
theorem W.b (h : ∀ Q' : α → Shared → Prop, Q' a s' → wpAny M A t Q' E s) (k : wpAny M A (f a) Q E s') : wpAny M A (t >>= f) Q E s := wpAny_bind (h _ k)
theorem W.e (h : t = pure a) (k : wpAny M A (f a) Q E s) : wpAny M A (t >>= f) Q E s := wpAny_bind (wpAny_of_eq h k)
end
/-! a value that is read as a tree of a kind -/
section
variable {g : Cfg} {B : Bm} {v v2 : Value} {x y : PV} {α : Type} {d f0 : Option α} {r : α} {P : Value → Prop}
@[elab_as_elim] theorem Rd.noneC (h : Rd g B v x) (e : noneE f0 d x = some r) (H : f0 = some r → P .none) (D : d = some r → P v) : P v := by cases h <;> first | exact H e | exact D e
@[elab_as_elim] theorem Rd.boolC {f : Bool → Option α} (h : Rd g B v x) (e : boolE f d x = some r) (H : ∀ b, f b = some r → P (.bool b)) (D : d = some r → P v) : P v := by cases h <;> first | exact H _ e | exact D e
@[elab_as_elim] theorem Rd.intC {f : Int → Option α} (h : Rd g B v x) (e : intE f d x = some r) (H : ∀ i t, f i = some r → P (.int i t)) (D : d = some r → P v) : P v := by cases h <;> first | exact H _ _ e | exact D e
@[elab_as_elim] theorem Rd.strC {f : Str → Option α} (h : Rd g B v x) (e : strE f d x = some r) (H : ∀ i t, f i = some r → P (.str i t)) (D : d = some r → P v) : P v := by cases h <;> first | exact H _ _ e | exact D e
@[elab_as_elim] theorem Rd.bytesC {f : Array UInt8 → Option α} (h : Rd g B v x) (e : bytesE f d x = some r) (H : ∀ i t, f i = some r → P (.bytes i t)) (D : d = some r → P v) : P v := by cases h <;> first | exact H _ _ e | exact D e
@[elab_as_elim] theorem Rd.listC {f : List PV → Option α} (h : Rd g B v x) (e : listE f d x = some r) (H : ∀ a vs n xs, B a = some (listO vs n) → RdL g B vs.toList xs → f xs = some r → P (.ref a)) (D : d = some r → P v) : P v := by
  cases h <;> first | exact H _ _ _ _ (by assumption) ⟨by assumption, by assumption⟩ e | exact D e
@[elab_as_elim] theorem Rd.tupC {f : List PV → Option α} (h : Rd g B v x) (e : tupE f d x = some r) (H : ∀ a vs n xs, B a = some { cls := .type "tuple", data := .seq vs n } → RdL g B vs.toList xs → f xs = some r → P (.ref a)) (D : d = some r → P v) : P v := by
  cases h <;> first | exact H _ _ _ _ (by assumption) ⟨by assumption, by assumption⟩ e | exact D e
@[elab_as_elim] theorem Rd.rngC {f : Int → Int → Option α} (h : Rd g B v x) (e : rngE f d x = some r) (H : ∀ a lo hi t u w, B a = some { cls := .type "range", data := .fields #[.int lo t, .int hi u, .int 1 w] } → f lo hi = some r → P (.ref a)) (D : d = some r → P v) : P v := by
  cases h <;> first | exact H _ _ _ _ _ _ (by assumption) e | exact D e
@[elab_as_elim] theorem Rd.barrC {f : Array UInt8 → Option α} (h : Rd g B v x) (e : barrE f d x = some r) (H : ∀ a b, B a = some { cls := .type "bytearray", data := .bytearray b } → f b = some r → P (.ref a)) (D : d = some r → P v) : P v := by
  cases h <;> first | exact H _ _ (by assumption) e | exact D e
@[elab_as_elim] theorem Rd.poolC (h : Rd g B v x) (e : poolE f0 d x = some r) (H : ∀ a, g.P = some a → f0 = some r → P (.ref a)) (D : d = some r → P v) : P v := by
  cases h <;> first | exact H _ (by assumption) e | exact D e
@[elab_as_elim] theorem Rd.two {f : Int → Int → Option α} {P : Value → Value → Prop} (h1 : Rd g B v x) (h2 : Rd g B v2 y) (e : int2 f x y = some r) (H : ∀ a t b u, f a b = some r → P (.int a t) (.int b u)) : P v v2 :=
  h1.intC e (fun a t e => h2.intC e (fun b u e => H a t b u e) noneN) noneN
theorem Rd.int_inv {i : Int} (h : Rd g B v (.int i)) : ∃ t, v = .int i t := h.intC (show intE some Option.none (.int i) = some i from rfl) (fun j t e => ⟨t, Option.some.inj e ▸ rfl⟩) noneN
theorem Rd.str_inv {x : Str} (h : Rd g B v (.str x)) : ∃ t, v = .str x t := h.strC (show strE some Option.none (.str x) = some x from rfl) (fun j t e => ⟨t, Option.some.inj e ▸ rfl⟩) noneN
theorem Rd.bool_inv {x : Bool} (h : Rd g B v (.bool x)) : v = .bool x := h.boolC (show boolE some Option.none (.bool x) = some x from rfl) (fun j e => Option.some.inj e ▸ rfl) noneN
theorem Rd.none_inv (h : Rd g B v .none) : v = .none := h.noneC (show noneE (some ()) Option.none .none = some () from rfl) (fun _ => rfl) noneN
theorem Rd.listB {xs : List PV} (h : Rd g B v (.list xs)) : ∃ a vs n, v = .ref a ∧ B a = some { cls := .type "list", data := .seq vs n } ∧ RdL g B vs.toList xs :=
  h.listC (show listE some Option.none (.list xs) = some xs from rfl) (fun a vs n ys ha hl e => ⟨a, vs, n, rfl, ha, Option.some.inj e ▸ hl⟩) noneN
end
noncomputable abbrev Res (g : Cfg) (B : Bm) (s : Shared) (p : Pl) (Q : Value → Shared → Prop) (r : PV) : Prop :=
  ∀ v B' h' tk, Evo g B s.heap p B' h' → Rd g B' v r → Q v { s with heap := h', toks := tk }
structure Kp (b0 : Heap) (g : Cfg) (B : Bm) (p : Pl) (h : Heap) : Prop where
  base : ∀ a o, b0.get? a = some o → B a = some o
  keep : Keep B h
  pool : PoolAt g p h
  pB : ∀ a, g.P = some a → B a = none
theorem Inv.kp {b0 : Heap} {g : Cfg} {c : Act} {pr : List Addr} {B : Bm} {ρ : List PV} {p : Pl} {h : Heap} (I : Inv b0 g c pr B ρ p h) : Kp b0 g B p h := ⟨I.base, I.keep, I.pool, I.pB⟩
theorem Evo.pB {g : Cfg} {B B' : Bm} {p p' : Pl} {h h' : Heap} (x : Evo g B h p' B' h') (q : PoolAt g p h) {a : Addr} (hB : B a = none) (e : g.P = some a) : B' a = none := by
  cases hb : B' a with
  | none => rfl
  | some o =>
    obtain ⟨t, u, n, e'⟩ := q a e
    rcases x.new a o hb with z | z
    · rw [hB] at z; cases z
    · rw [e'] at z; cases z
theorem Kp.evo {b0 : Heap} {g : Cfg} {B B' : Bm} {p p' : Pl} {h h' : Heap} (K : Kp b0 g B p h) (x : Evo g B h p' B' h') : Kp b0 g B' p' h' := ⟨fun a o e => x.mono a o (K.base a o e), x.keep, x.pool, fun a e => x.pB K.pool (K.pB a e) e⟩
section
variable {b0 : Heap} {g : Cfg} {B : Bm} {p : Pl} {s : Shared} {Q : Value → Shared → Prop} {r : PV}
theorem Res.now (R : Res g B s p Q r) (K : Kp b0 g B p s.heap) {v : Value} (hv : Rd g B v r) (tk : Nat) : Q v { s with toks := tk } := R v B s.heap tk (Evo.refl K.keep K.pool) hv
theorem Res.nowE (R : Res g B s p Q r) (K : Kp b0 g B p s.heap) {v : Value} {z : PV} (e : some z = some r) (hv : Rd g B v z) (tk : Nat) : Q v { s with toks := tk } := R.now K (Option.some.inj e ▸ hv) tk
theorem Res.grow (R : Res g B s p Q r) (K : Kp b0 g B p s.heap) {v : Value} (hv : Rd g B v r) {h' : Heap} (x : Grow s.heap h') (tk : Nat) : Q v { s with heap := h', toks := tk } := R v B h' tk (Evo.grow K.keep K.pool x) hv
theorem Res.growE (R : Res g B s p Q r) (K : Kp b0 g B p s.heap) {v : Value} {z : PV} (e : some z = some r) (hv : Rd g B v z) {h' : Heap} (x : Grow s.heap h') (tk : Nat) : Q v { s with heap := h', toks := tk } := R.grow K (Option.some.inj e ▸ hv) x tk
theorem Res.allocE (R : Res g B s p Q r) (K : Kp b0 g B p s.heap) {z : PV} (e : some z = some r) (o : Obj) (hf : o.isFreed = false) (hv : Rd g (B.add s.heap.objs.size o) (.ref s.heap.objs.size) z) (tk : Nat) : Q (.ref s.heap.objs.size) { s with heap := s.heap.push o, toks := tk } :=
  R _ _ _ tk (Evo.alloc K.keep K.pool o hf) (Option.some.inj e ▸ hv)
theorem Rd.newList {vs : Array Value} {xs : List PV} {a : Addr} {n : Nat} (hB : B a = Option.none) (h : RdL g B vs.toList xs) : Rd g (B.add a { cls := .type "list", data := .seq vs n }) (.ref a) (.list xs) :=
  .list Bm.add_self h.1 (RdL.mono (Bm.sub_add hB) h).2
theorem Rd.newTup {vs : Array Value} {xs : List PV} {a : Addr} {n : Nat} (hB : B a = Option.none) (h : RdL g B vs.toList xs) : Rd g (B.add a { cls := .type "tuple", data := .seq vs n }) (.ref a) (.tup xs) :=
  .tup Bm.add_self h.1 (RdL.mono (Bm.sub_add hB) h).2
theorem Kp.fresh (K : Kp b0 g B p s.heap) : B s.heap.objs.size = none := K.keep.fresh (Heap.get_size _)
theorem RdL.size {vs : Array Value} {xs : List PV} (h : RdL g B vs.toList xs) : vs.size = xs.length := by rw [← Array.length_toList]; exact h.1
theorem RdL.append {vs vs' : List Value} {xs xs' : List PV} (h : RdL g B vs xs) (h' : RdL g B vs' xs') : RdL g B (vs ++ vs') (xs ++ xs') := by
  refine ⟨by rw [List.length_append, List.length_append, h.1, h'.1], fun i v x e1 e2 => ?_⟩
  by_cases hi : i < vs.length
  · rw [List.getElem?_append_left hi] at e1
    rw [List.getElem?_append_left (h.1 ▸ hi)] at e2
    exact h.2 i v x e1 e2
  · rw [List.getElem?_append_right (Nat.le_of_not_lt hi)] at e1
    rw [List.getElem?_append_right (h.1 ▸ Nat.le_of_not_lt hi), ← h.1] at e2
    exact h'.2 _ v x e1 e2
theorem RdL.drop {vs : List Value} {xs : List PV} (h : RdL g B vs xs) (k : Nat) : RdL g B (vs.drop k) (xs.drop k) :=
  ⟨by rw [List.length_drop, List.length_drop, h.1], fun i v x e1 e2 => h.2 (k + i) v x (List.getElem?_drop ▸ e1) (List.getElem?_drop ▸ e2)⟩
theorem RdL.take {vs : List Value} {xs : List PV} (h : RdL g B vs xs) (k : Nat) : RdL g B (vs.take k) (xs.take k) := by
  refine ⟨by rw [List.length_take, List.length_take, h.1], fun i v x e1 e2 => ?_⟩
  rw [List.getElem?_take] at e1 e2
  by_cases hi : i < k
  · rw [if_pos hi] at e1 e2; exact h.2 i v x e1 e2
  · rw [if_neg hi] at e1; exact noneN e1
theorem RdL.cut {vs : List Value} {xs : List PV} (h : RdL g B vs xs) (lo hi : Option Int) : RdL g B (cut vs lo hi) (cut xs lo hi) := by
  unfold Nt.cut
  rw [h.1]
  exact (h.drop _).take _
end
section
variable {b0 : Heap} {g : Cfg} {B : Bm} {p : Pl} {prog : Program} {w : World} {A : Around} {E : Value → Shared → Prop} {s : Shared} {Q : Value → Shared → Prop}
theorem lim_line : lim ≤ sizeLine := by unfold lim sizeLine; decide
theorem mulOk {a b : Int} (h : b.natAbs < 2 ^ 62) : IntMulOk a b := by
  exact IntMulOk.of_right (intBits_le_64 (by omega) (by omega))
theorem binOp_snd {op : Operator} {v1 v2 : Value} {x y r : PV} (K : Kp b0 g B p s.heap) (h1 : Rd g B v1 x) (h2 : Rd g B v2 y) (e : binOp op x y = some r) (R : Res g B s p Q r) :
    wpAny (model prog w) A (binaryOp op v1 v2) Q E s := by
  cases op with
  | Add =>
    exact h1.intC e (fun a t e => h2.intC e (fun b u e => PyProof.Rows.add_int (R.nowE K e (.int _ _) _)) noneN)
      fun e => h1.strC e (fun a t e => h2.strC e (fun b u e => add_str (fun t' tk => R.nowE K (grdE e) (.str _ _) _) (Nat.le_trans (grdP e) lim_line)) noneN)
      fun e => h1.listC e (fun a vs n xs ha hl e => h2.listC e (fun b us m ys hb hl' e => P.add_list (K.keep _ _ ha) (K.keep _ _ hb)
        (R.allocE K (grdE e) _ rfl (Rd.newList K.fresh (by rw [Array.toList_append]; exact hl.append hl')) _) (by rw [hl.size, hl'.size]; exact Nat.le_trans (grdP e) lim_line)) noneN) noneN
  | Sub => exact h1.two h2 e fun a t b u e => PyProof.Rows.sub_int (R.nowE K e (.int _ _) _)
  | Mult => exact h1.two h2 e fun a t b u e => PyProof.Rows.mul_int (R.nowE K (grdE e) (.int _ _) _) (mulOk (grdP e))
  | FloorDiv => exact h1.two h2 e fun a t b u e => PyProof.Rows.floordiv_int (grdP e).1 (R.nowE K (grdE e) (.int _ _) _) (.inl (PyProof.noPylong_small (grdP e).2))
  | Mod => exact h1.two h2 e fun a t b u e => PyProof.Rows.mod_int' (grdP e) (R.nowE K (grdE e) (.int _ _) _)
  | Pow => exact h1.two h2 e fun a t b u e => PyProof.Rows.pow_int_small (grdP e).1 (by have := grdP e; omega) (by have := grdP e; omega) (R.nowE K (grdE e) (.int _ _) _)
  | LShift => exact h1.two h2 e fun a t b u e => PyProof.Rows.lshift_int_small (grdP e).1 (by have := grdP e; omega) (by have := grdP e; omega) (R.nowE K (grdE e) (.int _ _) _)
  | RShift => exact h1.two h2 e fun a t b u e => PyProof.Rows.rshift_int (grdP e) (R.nowE K (grdE e) (.int _ _) _)
  | BitAnd => exact h1.two h2 e fun a t b u e => PyProof.Rows.and_int (R.nowE K e (.int _ _) _)
  | BitOr => exact h1.two h2 e fun a t b u e => PyProof.Rows.or_int (R.nowE K e (.int _ _) _)
  | _ => exact noneN e
theorem slot_bytes_lt : Slot "bytes" (cmpInfo .Lt).2.1 "bytes.__lt__" :=
  .of (owner := "bytes") (n := "__lt__") (by rw [typeLookup_type, builtinLookup_eq_fast]; kernel_rfl) (by decide +kernel) (by decide +kernel) (by decide +kernel)
    (by first | exact .inl (by decide +kernel) | exact .inr (by decide +kernel)) (by rw [isSubtype_type]; kernel_rfl)
theorem entry_bytes_lt : entryFor table "bytes.__lt__" = some Builtin.«bytes.__lt__» := entryFor_of_tree (by kernel_rfl)
theorem args_bytes_lt_2 (a b : Value) : argsOk "bytes.__lt__" ⟨[a, b], []⟩ := by
  unfold argsOk; rw [signature?_of (id := "bytes.__lt__") (n := ['_', '_', 't', 'l', '_', '_']) (o := ['s', 'e', 't', 'y', 'b']) (by kernel_rfl) FB.owner_bytes]; kernel_rfl
theorem slot_bytes_eq_refl : Slot "bytes" (cmpInfo .Eq).2.2 "bytes.__eq__" :=
  .of (owner := "bytes") (n := "__eq__") (by rw [typeLookup_type, builtinLookup_eq_fast]; kernel_rfl) (by decide +kernel) (by decide +kernel) (by decide +kernel)
    (by first | exact .inl (by decide +kernel) | exact .inr (by decide +kernel)) (by rw [isSubtype_type]; kernel_rfl)
theorem sub_str_bytes : isSubtype (.type "str") (.type "bytes") = pure false := by rw [isSubtype_type]; kernel_rfl
theorem sub_bytes_str : isSubtype (.type "bytes") (.type "str") = pure false := by rw [isSubtype_type]; kernel_rfl
theorem gives_bytes_lt_same (b : Array UInt8) (t u : Tok) : Gives (Builtin.«bytes.__lt__» ⟨[.bytes b t, .bytes b u], []⟩) (.val (.bool false)) := by
  refine .of_wp fun M A E s Q hq => ?_
  show wpAny M A (isInstance (.bytes b u) (.type "bytes") >>= fun r => _) _ E s
  refine wpAny_bind (wpAny_isInstance (typeIs_bytes s b u) F.sub_bytes_bytes ?_)
  refine wpAny_pure ⟨_, rfl, ?_⟩
  have e1 := order_eq b.toList b.toList
  rw [beq_self_eq_true] at e1
  have e2 : Builtin.Bytes.order b.toList b.toList = .eq := eq_of_beq e1
  rw [e2]; exact hq
theorem str___eq___str_bytes (a : Str) (t : Tok) (b : Array UInt8) (u : Tok) :
    Gives (Builtin.«str.__eq__» ⟨[.str a t, .bytes b u], []⟩) (.val (Value.notImplemented)) :=
  .of_wp fun M A E s Q h => by obtain ⟨hp, g, d, tk, os⟩ := s; wp_walk; exact ⟨_, rfl, h⟩
theorem bytes___eq___bytes_str (a : Str) (t : Tok) (b : Array UInt8) (u : Tok) :
    Gives (Builtin.«bytes.__eq__» ⟨[.bytes b u, .str a t], []⟩) (.val (Value.notImplemented)) :=
  .of_wp fun M A E s Q h => by
    show wpAny M A (isInstance (.str a t) (.type "bytes") >>= fun r => _) _ E s
    refine wpAny_bind (wpAny_isInstance (typeIs_str s a t) sub_str_bytes ?_)
    show wpAny M A (rule _ >>= fun _ => ret Value.notImplemented) _ E s
    exact wpAny_bind (wpAny_rule (wpAny_pure ⟨_, rfl, h⟩))
theorem eq_str_bytes {a : Str} {t : Tok} {b : Array UInt8} {u : Tok} (h : Q (.bool false) s) : wpAny (model prog w) A (compareOp .Eq (.str a t) (.bytes b u)) Q E s := by
  show wpAny _ A (richCompare .Eq _ _) Q E s
  exact EqNone.wpAny_richCompare_eq_decline (k := false) (fun s' => typeIs_str s' a t) (fun s' => typeIs_bytes s' b u) (by decide) sub_bytes_str F.slot_str_eq slot_bytes_eq_refl rfl
    (call_gives F.slot_str_eq (typeIs_str s a t) F.entry_str_eq (F.args_str_eq_2 _ _) (str___eq___str_bytes a t b u)
      ⟨rfl, call_gives slot_bytes_eq_refl (typeIs_bytes s b u) FB.entry_bytes_eq (FB.args_bytes_eq_2 _ _) (bytes___eq___bytes_str a t b u) ⟨rfl, h⟩⟩)
open SeqAt in
theorem eqAt_bytes (b c : Array UInt8) (t u : Tok) (A : Around) (s : Shared) : EqAt A s (.bytes b t) (.bytes c u) (b == c) := fun prog w E Q hq => by
  unfold eqBool
  refine wpAny_holding ?_
  refine wpAny_ite_split (fun hab => ?_) (fun hab => ?_)
  · have e : b = c := by have := eq_of_beq hab; injection this
    subst e
    exact wpAny_bind (wpAny_rule (wpAny_pure (by simpa using hq)))
  · have e : (b.toList == c.toList) = (b == c) := by rw [Bool.eq_iff_iff]; simp
    exact wpAny_bind (eq_bytes (by rw [e]; exact wpAny_truthy_bool hq))
open SeqAt in
theorem eqAt_strBytes (a : Str) (b : Array UInt8) (t u : Tok) (A : Around) (s : Shared) : EqAt A s (.str a t) (.bytes b u) false := fun prog w E Q hq => by
  unfold eqBool
  refine wpAny_holding ?_
  refine wpAny_ite_split (fun hab => ?_) (fun hab => ?_)
  · have := eq_of_beq hab; cases this
  · exact wpAny_bind (eq_str_bytes (wpAny_truthy_bool hq))
open SeqAt in
theorem eqAt_str (a b : Str) (t u : Tok) (A : Around) (s : Shared) : EqAt A s (.str a t) (.str b u) (a == b) := by rw [← toList_beq]; exact (SeqRoads2.EqGives.str _ _ t u).at A s
open SeqAt in
theorem eqAt_of {v1 v2 : Value} {b b' : Bool} {A : Around} (e : some b' = some b) (h : EqAt A s v1 v2 b') : EqAt A s v1 v2 b := Option.some.inj e ▸ h
open SeqAt in
theorem eqPV_at {v1 v2 : Value} {x y : PV} {b : Bool} (h1 : Rd g B v1 x) (h2 : Rd g B v2 y) (e : eqPV x y = some b) (A : Around) (s : Shared) : EqAt A s v1 v2 b :=
  h1.noneC e (fun e => h2.noneC e (fun e => eqAt_of e (EqAt.same _)) noneN) fun e =>
  h1.intC e (fun a t e => h2.intC e (fun b u e => eqAt_of e ((MeetsSeq.EqGives.int _ _ _ _).at A s)) noneN) fun e =>
  h1.strC e (fun a t e => h2.strC e (fun b u e => eqAt_of e (eqAt_str _ _ _ _ A s)) fun e => h2.bytesC e (fun b u e => eqAt_of e (eqAt_strBytes _ _ _ _ A s)) noneN) fun e =>
  h1.bytesC e (fun a t e => h2.bytesC e (fun b u e => eqAt_of e (eqAt_bytes _ _ _ _ A s)) noneN) noneN
noncomputable def beqV (y : Str) : Value → Bool
  | .str z _ => z == y
  | _ => false
open SeqAt in
theorem eqAt_beqV {v : Value} {x : PV} (h : Rd g B v x) (i : isS x = true) (y : Str) (t : Tok) (A : Around) (s : Shared) : EqAt A s v (.str y t) (beqV y v) := by
  cases h <;> first | exact eqAt_str _ _ _ _ A s | exact nomatch i
theorem beqV_eq {v : Value} {x : PV} (h : Rd g B v x) (y : Str) : beqV y v = beqS y x := by cases h <;> rfl
theorem RdL.any {f : Value → Bool} {f' : PV → Bool} (i : ∀ v x, Rd g B v x → f v = f' x) : ∀ {vs : List Value} {xs : List PV}, RdL g B vs xs → vs.any f = xs.any f'
  | [], [], _ => rfl
  | [], _ :: _, h => nomatch h.1
  | _ :: _, [], h => nomatch h.1
  | v :: vs, x :: xs, h => by rw [List.any_cons, List.any_cons, i v x h.head, RdL.any i h.tail]
theorem Kp.isL (K : Kp b0 g B p s.heap) {a : Addr} {vs : Array Value} {n : Nat} (h : B a = some (listO vs n)) : IsL s.heap a vs n := K.keep _ _ h
theorem eqB {b c : Array UInt8} : (b.toList == c.toList) = (b == c) := by rw [Bool.eq_iff_iff]; simp
theorem neB {b c : Array UInt8} : (b.toList != c.toList) = (!(b == c)) := by unfold bne; rw [eqB]
/-- the equality of two lists of one item at most -/
theorem eqL_key {a c : Addr} {vs us : Array Value} {n n' : Nat} {b : Bool} (hA : A.units < cLine) (ha : IsL s.heap a vs n) (hc : IsL s.heap c us n') (hsz : vs.size = us.size) {f : Nat → Bool}
    (hf : ∀ j (h1 : j < vs.size) (h2 : j < us.size), SeqAt.EqAt A.in1 s vs[j] us[j] (f j)) (hb : (List.range vs.size).all f = b) : SeqAt.RcAt A s (.ref a) (.ref c) b ∧ SeqAt.RcNeAt A s (.ref a) (.ref c) (!b) :=
  hb ▸ ⟨SeqAt.RcAt.lists (e := f) ha.isList hc.isList hsz hA hf, SeqAt.RcNeAt.lists (e := f) ha.isList hc.isList hsz hA hf⟩
theorem eqL_at {a c : Addr} {vs us : Array Value} {n n' : Nat} {xs ys : List PV} {b : Bool} (hA : A.units < cLine) (ha : IsL s.heap a vs n) (hc : IsL s.heap c us n') (hl : RdL g B vs.toList xs) (hl' : RdL g B us.toList ys)
    (e : eqL xs ys = some b) : SeqAt.RcAt A s (.ref a) (.ref c) b ∧ SeqAt.RcNeAt A s (.ref a) (.ref c) (!b) := by
  unfold eqL at e
  by_cases hne : xs.length ≠ ys.length
  · rw [if_pos hne] at e
    rw [← Option.some.inj e]
    have hq : (vs.size != us.size) = true := by rw [hl.size, hl'.size]; exact bne_iff_ne.mpr hne
    exact ⟨SeqAt.RcAt.lists_lengths ha.isList hc.isList hq hA, SeqAt.RcNeAt.lists_lengths ha.isList hc.isList hq hA⟩
  · rw [if_neg hne] at e
    have hsz : vs.size = us.size := by rw [hl.size, hl'.size]; exact Decidable.not_not.mp hne
    have e1 := hl.size
    cases xs with
    | nil => exact eqL_key hA ha hc hsz (f := fun _ => b) (fun j h1 _ => absurd (e1 ▸ h1) (Nat.not_lt_zero _)) (by rw [e1]; exact Option.some.inj e)
    | cons x xs =>
      cases xs with
      | cons x2 xs => exact noneN e
      | nil =>
        cases ys with
        | nil => exact noneN e
        | cons y ys =>
          cases ys with
          | cons y2 ys => exact noneN e
          | nil =>
            refine eqL_key hA ha hc hsz (f := fun _ => b) (fun j h1 h2 => ?_) (by rw [e1]; exact Bool.and_true b)
            have hj : j = 0 := Nat.lt_one_iff.mp (Nat.lt_of_lt_of_eq h1 e1)
            subst hj
            exact eqPV_at (hl.2 0 _ _ (Array.getElem?_toList.trans (Array.getElem?_eq_getElem h1)) rfl) (hl'.2 0 _ _ (Array.getElem?_toList.trans (Array.getElem?_eq_getElem h2)) rfl) e _ _
/-- is, is not none -/
theorem isN_snd {v1 v2 : Value} {x y : PV} {b t : Bool} (h1 : Rd g B v1 x) (h2 : Rd g B v2 y) (e : isN t x y = some b) : v2 = .none ∧ (if t then (v1 == Value.none) else !(v1 == Value.none)) = b :=
  have k1 : some t = some b → (if t then true else false) = b := fun e => Option.some.inj e ▸ by cases t <;> rfl
  have k2 : some (!t) = some b → (if t then false else true) = b := fun e => Option.some.inj e ▸ by cases t <;> rfl
  h2.noneC e (fun e => ⟨rfl, h1.noneC e k1 fun e => h1.intC e (fun _ _ e => k2 e) fun e => h1.strC e (fun _ _ e => k2 e) fun e => h1.bytesC e (fun _ _ e => k2 e) fun e => h1.listC e (fun _ _ _ _ _ _ e => k2 e) fun e => h1.tupC e (fun _ _ _ _ _ _ e => k2 e) noneN⟩) noneN
theorem cmpOp_snd {op : CmpOp} {v1 v2 : Value} {x y : PV} {b : Bool} (hA : A.units < cLine) (K : Kp b0 g B p s.heap) (h1 : Rd g B v1 x) (h2 : Rd g B v2 y) (e : cmpOp op x y = some b) (R : Res g B s p Q (.bool b)) :
    wpAny (model prog w) A (compareOp op v1 v2) Q E s := by
  have fin : ∀ {z : Bool}, some z = some b → Q (.bool z) s := fun e => Option.some.inj e ▸ R.now K (.bool b) s.toks
  cases op with
  | Eq =>
    exact h1.listC e (fun a vs n xs ha hl e => h2.listC e (fun c us m ys hc hl' e => (eqL_at hA (K.isL ha) (K.isL hc) hl hl' e).1 prog w E Q (fin rfl)) noneN) fun e =>
      h1.intC e (fun a t e => h2.intC e (fun c u e => PyProof.Rows.eq_int (fin e)) noneN) fun e =>
      h1.strC e (fun a t e => h2.strC e (fun c u e => eq_str (fin e)) fun e => h2.bytesC e (fun c u e => eq_str_bytes (fin e)) noneN) fun e =>
      h1.bytesC e (fun a t e => h2.bytesC e (fun c u e => eq_bytes (eqB ▸ fin e)) noneN) noneN
  | NotEq =>
    exact h1.listC e (fun a vs n xs ha hl e => h2.listC e (fun c us m ys hc hl' e => let ⟨b', e', eb⟩ := Option.map_eq_some_iff.mp e; (eqL_at hA (K.isL ha) (K.isL hc) hl hl' e').2 prog w E Q (fin (congrArg some eb))) noneN) fun e =>
      h1.intC e (fun a t e => h2.intC e (fun c u e => PyProof.Rows.ne_int (fin e)) noneN) fun e =>
      h1.strC e (fun a t e => h2.strC e (fun c u e => ne_str (fin e)) noneN) fun e =>
      h1.bytesC e (fun a t e => h2.bytesC e (fun c u e => ne_bytes (neB ▸ fin e)) noneN) noneN
  | Lt =>
    exact h1.intC e (fun a t e => h2.intC e (fun c u e => PyProof.Rows.lt_int (fin e)) noneN) fun e =>
      h1.strC e (fun a t e => h2.strC e (fun c u e => lt_str (fin e)) noneN) fun e =>
      h1.bytesC e (fun a t e => h2.bytesC e (fun c u e => grdP e ▸ compareOp_gives (op := .Lt) (typeIs_bytes s _ t) (typeIs_bytes s _ u) slot_bytes_lt entry_bytes_lt (args_bytes_lt_2 _ _) (gives_bytes_lt_same _ t u) (fun e => nomatch e) (fin (grdE e))) noneN) noneN
  | LtE =>
    exact h1.intC e (fun a t e => h2.intC e (fun c u e => PyProof.Rows.le_int (fin e)) noneN) fun e =>
      h1.strC e (fun a t e => h2.strC e (fun c u e => PySem.P.le_str (fin e)) noneN) noneN
  | Gt => exact h1.two h2 e fun a t c u e => PyProof.Rows.gt_int (fin e)
  | GtE => exact h1.two h2 e fun a t c u e => PyProof.Rows.ge_int (fin e)
  | Is =>
    obtain ⟨hn, q⟩ := isN_snd h1 h2 e
    rw [hn]; exact is_none (fin (congrArg some q))
  | IsNot =>
    obtain ⟨hn, q⟩ := isN_snd h1 h2 e
    rw [hn]; exact isNot_none (fin (congrArg some q))
  | In =>
    exact h1.strC e (fun a t e => h2.strC e (fun c u e => in_str (fin e)) fun e => h2.listC e (fun c vs n xs hc hl e => by
      refine SeqAt.in_listAt (beqV a) (K.isL hc).isList (fun v hv => ?_) ?_
      · obtain ⟨i, hi, rfl⟩ := List.getElem_of_mem (Array.mem_def.mp hv)
        have hx : i < xs.length := hl.1 ▸ hi
        exact eqAt_beqV (hl.2 i _ xs[i] (List.getElem?_eq_getElem hi) (List.getElem?_eq_getElem hx)) (List.all_eq_true.mp (grdP e) _ (List.getElem_mem hx)) a t _ _
      · rw [← Array.any_toList, hl.any (fun _ _ h => beqV_eq h a)]
        exact fin (grdE e)) noneN) noneN
  | _ => exact noneN e
end
section
variable {b0 : Heap} {g : Cfg} {B : Bm} {p : Pl} {prog : Program} {w : World} {A : Around} {E : Value → Shared → Prop} {s : Shared} {Q : Value → Shared → Prop}
theorem Bm.add_inv {B : Bm} {a b : Addr} {o o' : Obj} (q : (B.add a o) b = some o') : B b = some o' ∨ (b = a ∧ o' = o) := by
  unfold Bm.add at q
  by_cases z : b = a
  · rw [if_pos z] at q; exact .inr ⟨z, (Option.some.inj q).symm⟩
  · rw [if_neg z] at q; exact .inl q
/-- a new object found in a grown heap -/
theorem Res.newAtE {r z : PV} (R : Res g B s p Q r) (K : Kp b0 g B p s.heap) (er : some z = some r) {h' : Heap} (x : Grow s.heap h') {a : Addr} {o : Obj} (e : h'.get? a = some o) (hn : s.heap.get? a = none) (hv : Rd g (B.add a o) (.ref a) z) (tk : Nat) : Q (.ref a) { s with heap := h', toks := tk } :=
  R _ _ _ tk ⟨Bm.sub_add (K.keep.fresh hn), fun b ob q => (Bm.add_inv q).elim .inl fun z => .inr (z.1 ▸ hn),
    fun b ob q => (Bm.add_inv q).elim (fun q => x _ _ (K.keep b ob q)) fun z => z.1 ▸ z.2 ▸ e,
    fun b ob q _ => .inl (x _ _ q), fun b ob q => ⟨ob, x _ _ q⟩, K.pool.grow x⟩ (Option.some.inj er ▸ hv)
theorem RdL.empty {vs : Array Value} {xs : List PV} (h : RdL g B vs.toList xs) : (!vs.isEmpty) = !xs.isEmpty := by
  rw [Array.isEmpty, h.size]; cases xs <;> rfl
theorem lim63 {n : Nat} (h : n ≤ lim) : (n : Int) < 2 ^ 63 := Int.lt_of_le_of_lt (Int.ofNat_le.mpr h) (by decide)
theorem truthy_snd {v : Value} {x : PV} {b : Bool} {Q : Bool → Shared → Prop} (K : Kp b0 g B p s.heap) (h : Rd g B v x) (e : truePV x = some b) (hQ : ∀ tk, Q b { s with toks := tk }) : wpAny (model prog w) A (truthy v) Q E s :=
  h.boolC e (fun c e => wpAny_truthy_bool (Option.some.inj e ▸ hQ s.toks)) fun e =>
  h.listC e (fun a vs n xs ha hl e => wpAny_truthy_list (K.isL ha).isList (by rw [hl.size]; exact lim63 (grdP e)) (by rw [hl.empty, Option.some.inj (grdE e)]; exact hQ _)) noneN
theorem upto_length : ∀ (n : Nat) (lo : Int), (upto lo n).length = n
  | 0, _ => rfl
  | n + 1, lo => by simp [upto, upto_length n]
theorem upto_get : ∀ (n : Nat) (lo : Int) (i : Nat), i < n → (upto lo n)[i]? = some (.int (lo + i))
  | n + 1, lo, 0, _ => by simp [upto]
  | n + 1, lo, i + 1, h => by
    simp only [upto, List.getElem?_cons_succ]
    rw [upto_get n (lo + 1) i (by omega)]
    congr 2; omega
/-- what an iterable gives -/
structure Itr (g : Cfg) (B : Bm) (prog : Program) (w : World) (items : List PV) (h : Heap) (o : Obj) (fp : List Addr) (Pr : Nat → Value → Prop) (St : Nat → Heap → Prop) : Prop where
  free : o.isFreed = false
  walks : ∀ A : Around, A.handled = none → Walks prog w A h.objs.size fp [h.objs.size] items.length Pr St
  start : St 0 (h.push o)
  live : ∀ i h', St i h' → ∃ ob T vs, h'.get? h.objs.size = some ob ∧ ob.cls = .type T ∧ ob.data = .fields vs ∧ (["enumerate", "zip", "dict_itemiterator", "dict_reverseitemiterator", "odict_iterator", "itertools.zip_longest", "itertools.pairwise"].contains T) = false
  fp : ∀ b ∈ fp, b = h.objs.size ∨ ∃ ob, B b = some ob
  item : ∀ i v, Pr i v → ∃ x, items[i]? = some x ∧ Rd g B v x
theorem small_range {lo hi : Int} (h1 : lo.natAbs ≤ 10 * lim) (h2 : hi.natAbs ≤ 10 * lim) : Builtin.Range.small lo hi 1 = true ∧ Builtin.Range.rangeSize lo hi 1 = ((hi - lo).toNat : Nat) := by
  unfold lim at h1 h2
  refine ⟨small_one (by omega) (by omega) (by omega) (by omega), ?_⟩
  unfold Builtin.Range.rangeSize
  rw [if_pos (by decide)]
  split <;> omega
/-- an iterator, as loops use it -/
structure Iter (g : Cfg) (B₁ : Bm) (prog : Program) (w : World) (items : List PV) (Ia : Addr) (St : Nat → Heap → Prop) : Prop where
  next : ∀ (A : Around) (s : Shared) i (Q : Option Value → Shared → Prop) (x : PV), A.handled = none → items[i]? = some x → St i s.heap → (∀ v h' tk, Rd g B₁ v x → St (i + 1) h' → (∀ b o, b ≠ Ia → s.heap.get? b = some o → h'.get? b = some o) → Q (some v) (upd s h' tk)) →
    wpAny (model prog w) A (pyNext (.ref Ia)) Q No s
  done : ∀ (A : Around) (s : Shared) (Q : Option Value → Shared → Prop), A.handled = none → St items.length s.heap → (∀ h' tk, (∀ b o, b ≠ Ia → s.heap.get? b = some o → h'.get? b = some o) → Q none (upd s h' tk)) → wpAny (model prog w) A (pyNext (.ref Ia)) Q No s
  self : ∀ (A : Around) (s : Shared) i (Q : Value → Shared → Prop), A.handled = none → St i s.heap → Q (.ref Ia) s → wpAny (model prog w) A (pyIter (.ref Ia)) Q No s
  frame : ∀ (A : Around) i h h', A.handled = none → St i h → Keep B₁ h → Keep B₁ h' → (∀ o, h.get? Ia = some o → h'.get? Ia = some o) → St i h'
  live : ∀ i h', St i h' → ∃ ob T vs, h'.get? Ia = some ob ∧ ob.cls = .type T ∧ ob.data = .fields vs ∧ (["enumerate", "zip", "dict_itemiterator", "dict_reverseitemiterator", "odict_iterator", "itertools.zip_longest", "itertools.pairwise"].contains T) = false
theorem Itr.iter {items : List PV} {h : Heap} {o : Obj} {fp : List Addr} {Pr : Nat → Value → Prop} {St : Nat → Heap → Prop} (W : Itr g B prog w items h o fp Pr St) : Iter g B prog w items h.objs.size St where
  next := fun A s i Q x hA e st k => (W.walks A hA).item i s _ _ (List.getElem?_eq_some_iff.mp e).1 st fun v h' tk hP hSt hk =>
    let ⟨y, ey, ry⟩ := W.item i v hP
    k v h' tk (Option.some.inj (ey.symm.trans e) ▸ ry) hSt fun b ob n q => hk b ob (fun m => n (List.mem_singleton.mp m)) q
  done := fun A s Q hA st k => (W.walks A hA).done s _ _ st fun h' tk hk => k h' tk fun b ob n q => hk b ob (fun m => n (List.mem_singleton.mp m)) q
  self := fun A s i Q hA st q => (W.walks A hA).self i s _ _ st q
  frame := fun A i h1 h2 hA st ka kb hi => (W.walks A hA).frame i h1 h2 st fun b hb ob e => (W.fp b hb).elim (fun q => q ▸ hi ob (q ▸ e)) fun ⟨ob', q⟩ => by
    have e' := ka _ _ q
    rw [e] at e'; cases e'
    exact kb _ _ q
  live := W.live
noncomputable abbrev ItQ (g : Cfg) (B : Bm) (prog : Program) (w : World) (items : List PV) (s : Shared) (Q : Value → Shared → Prop) : Prop := ∀ o St, o.isFreed = false → St 0 (s.heap.push o) → Iter g B prog w items s.heap.objs.size St → Q (.ref s.heap.objs.size) { s with heap := s.heap.push o }
theorem ItQ.of {items : List PV} {o : Obj} {fp : List Addr} {Pr : Nat → Value → Prop} {St : Nat → Heap → Prop} (hQ : ItQ g B prog w items s Q) (W : Itr g B prog w items s.heap o fp Pr St) : Q (.ref s.heap.objs.size) { s with heap := s.heap.push o } := hQ o St W.free W.start W.iter
theorem Heap.ne_new {h : Heap} {a : Addr} {ob : Obj} (q : h.get? a = some ob) : a ≠ h.objs.size := Nat.ne_of_lt (Heap.lt_size q)
theorem fp_one {B : Bm} {n : Addr} : ∀ b ∈ [n], b = n ∨ ∃ ob, B b = some ob := fun b hb => .inl (List.mem_singleton.mp hb)
theorem fp_two {B : Bm} {n a : Addr} {o : Obj} (ha : B a = some o) : ∀ b ∈ [n, a], b = n ∨ ∃ ob, B b = some ob := fun b hb => (List.mem_cons.mp hb).elim .inl fun hb => .inr ⟨_, (List.mem_singleton.mp hb) ▸ ha⟩
theorem RdL.item {vs : Array Value} {xs : List PV} (h : RdL g B vs.toList xs) (i : Nat) (v : Value) (e : vs[i]? = some v) : ∃ x, xs[i]? = some x ∧ Rd g B v x :=
  have hv : vs.toList[i]? = some v := Array.getElem?_toList.trans e
  have hlt : i < xs.length := h.1 ▸ (List.getElem?_eq_some_iff.mp hv).1
  ⟨xs[i], List.getElem?_eq_getElem hlt, h.2 i v _ hv (List.getElem?_eq_getElem hlt)⟩
theorem iter_list {a : Addr} {vs : Array Value} {n : Nat} {xs : List PV} (K : Kp b0 g B p s.heap) (ha : B a = some (listO vs n)) (hl : RdL g B vs.toList xs) (hQ : ItQ g B prog w xs s Q) : wpAny (model prog w) A (pyIter (.ref a)) Q E s :=
  have hs := K.isL ha
  wpAny_pyIter_list hs.isList (hQ.of (fp := [s.heap.objs.size, a]) (Pr := (fun i v => vs[i]? = some v)) (St := (fun i h => h.IsListIter s.heap.objs.size a i ∧ h.IsList a vs)) ⟨rfl, fun A hA => hl.size ▸ Walks.list hA _ a (Heap.ne_new hs) vs, ⟨⟨_, Heap.get?_push_size _ rfl, rfl, rfl⟩, ⟨_, Heap.get?_push_of_some _ hs, rfl, n, rfl⟩⟩,
    fun i h' ⟨⟨ob, e1, e2, e3⟩, _⟩ => ⟨ob, _, _, e1, e2, e3, by decide +kernel⟩, fp_two ha, hl.item⟩)
theorem iter_tup {a : Addr} {vs : Array Value} {n : Nat} {xs : List PV} (K : Kp b0 g B p s.heap) (ha : B a = some { cls := .type "tuple", data := .seq vs n }) (hl : RdL g B vs.toList xs) (hQ : ItQ g B prog w xs s Q) : wpAny (model prog w) A (pyIter (.ref a)) Q E s :=
  have hs := K.keep _ _ ha
  wpAny_pyIter_tuple ⟨_, hs, rfl, n, rfl⟩ (hQ.of (fp := [s.heap.objs.size, a]) (Pr := (fun i v => vs[i]? = some v)) (St := (fun i h => h.IsTupleIter s.heap.objs.size a i ∧ h.IsTuple a vs)) ⟨rfl, fun A hA => hl.size ▸ Walks.tuple hA _ a (Heap.ne_new hs) vs, ⟨⟨_, Heap.get?_push_size _ rfl, rfl, rfl⟩, ⟨_, Heap.get?_push_of_some _ hs, rfl, n, rfl⟩⟩,
    fun i h' ⟨⟨ob, e1, e2, e3⟩, _⟩ => ⟨ob, _, _, e1, e2, e3, by decide +kernel⟩, fp_two ha, hl.item⟩)
theorem iter_str {x : Str} {t : Tok} (hQ : ItQ g B prog w (x.cps.toList.map fun c => .str ⟨#[c]⟩) s Q) : wpAny (model prog w) A (pyIter (.str x t)) Q E s := by
  have item : ∀ i v, SignAt x i v → ∃ z, (x.cps.toList.map fun c => PV.str ⟨#[c]⟩)[i]? = some z ∧ Rd g B v z := fun i v ⟨c, u, hc, e⟩ => ⟨.str ⟨#[c]⟩, by rw [List.getElem?_map, Array.getElem?_toList, hc]; rfl, e ▸ .str _ _⟩
  have len : (x.cps.toList.map fun c => PV.str ⟨#[c]⟩).length = x.cps.size := (List.length_map _).trans Array.length_toList
  cases ha : x.cps.all (· < 128)
  · exact wpAny_pyIter_wide ha (hQ.of (fp := [s.heap.objs.size]) (Pr := (SignAt x)) (St := (fun i h => h.IsStrIter s.heap.objs.size "str_iterator" x t i)) ⟨rfl, fun A hA => len ▸ Walks.strWide hA s.heap.objs.size x t, ⟨_, Heap.get?_push_size _ rfl, rfl, rfl⟩, fun i h' ⟨ob, e1, e2, e3⟩ => ⟨ob, _, _, e1, e2, e3, by decide +kernel⟩, fp_one, item⟩)
  · exact wpAny_pyIter_ascii ha (hQ.of (fp := [s.heap.objs.size]) (Pr := (SignAt x)) (St := (fun i h => h.IsStrIter s.heap.objs.size "str_ascii_iterator" x t i)) ⟨rfl, fun A hA => len ▸ Walks.strAscii hA s.heap.objs.size x t, ⟨_, Heap.get?_push_size _ rfl, rfl, rfl⟩, fun i h' ⟨ob, e1, e2, e3⟩ => ⟨ob, _, _, e1, e2, e3, by decide +kernel⟩, fp_one, item⟩)
theorem byte_item {b : Array UInt8} (i : Nat) (v : Value) : (∃ c u, b[i]? = some c ∧ v = .int (c.toNat : Int) u) → ∃ x, (b.toList.map fun c => PV.int (c.toNat : Int))[i]? = some x ∧ Rd g B v x :=
  fun ⟨c, u, hc, e⟩ => ⟨.int (c.toNat : Int), by rw [List.getElem?_map, Array.getElem?_toList, hc]; rfl, e ▸ .int _ _⟩
theorem iter_bytes {b : Array UInt8} {t : Tok} (hQ : ItQ g B prog w (b.toList.map fun c => .int (c.toNat : Int)) s Q) : wpAny (model prog w) A (pyIter (.bytes b t)) Q E s :=
  have len : (b.toList.map fun c => PV.int (c.toNat : Int)).length = b.size := (List.length_map _).trans Array.length_toList
  KBw.pyIter_bytes (hQ.of (fp := [s.heap.objs.size]) (Pr := (fun i v => ∃ c u, b[i]? = some c ∧ v = .int (c.toNat : Int) u)) (St := (fun i h => KBw.IsBytesIter h s.heap.objs.size b t i)) ⟨rfl, fun A hA => len ▸ KBw.walks hA s.heap.objs.size b t, ⟨_, Heap.get?_push_size _ rfl, rfl, rfl⟩, fun i h' ⟨ob, e1, e2, e3⟩ => ⟨ob, _, _, e1, e2, e3, by decide +kernel⟩, fp_one, byte_item⟩)
theorem iter_rng {a : Addr} {lo hi : Int} {t u v : Tok} (K : Kp b0 g B p s.heap) (ha : B a = some { cls := .type "range", data := .fields #[.int lo t, .int hi u, .int 1 v] }) (hr : lo.natAbs ≤ 10 * lim ∧ hi.natAbs ≤ 10 * lim) (hQ : ItQ g B prog w (upto lo (hi - lo).toNat) s Q) :
    wpAny (model prog w) A (pyIter (.ref a)) Q E s := by
  obtain ⟨q1, q2⟩ := small_range hr.1 hr.2
  refine wpAny_pyIter_range (K.keep _ _ ha) q1 (hQ.of (fp := [s.heap.objs.size]) (Pr := (fun i v => i < (hi - lo).toNat ∧ ∃ t, v = .int (lo + i * 1) t)) (St := (fun i h => IsRangeIter h s.heap.objs.size (lo + (i : Nat) * 1) (((hi - lo).toNat : Int) - (i : Nat)) 1)) 
    ⟨rfl, fun A hA => by rw [upto_length]; exact (Walks.range hA s.heap.objs.size lo 1 _).bound, ?_, (fun i h' e => ⟨_, _, _, e, rfl, rfl, by decide +kernel⟩), fp_one, fun i v ⟨h1, t, e⟩ => ⟨_, upto_get _ _ _ h1, by rw [e, Int.mul_one]; exact .int _ _⟩⟩)
  show IsRangeIter _ _ _ _ _
  rw [q2, show lo + ((0 : Nat) : Int) * 1 = lo from by rw [Int.mul_one]; exact Int.add_zero lo, show (((hi - lo).toNat : Nat) : Int) - ((0 : Nat) : Int) = (((hi - lo).toNat : Nat) : Int) from Int.sub_zero _]
  exact Heap.get?_push_size s.heap rfl
theorem iter_snd {v : Value} {x : PV} {items : List PV} (K : Kp b0 g B p s.heap) (h : Rd g B v x) (e : itemsOf x = some items)
    (hQ : ItQ g B prog w items s Q) : wpAny (model prog w) A (pyIter v) Q E s :=
  h.listC e (fun a vs n xs ha hl e => iter_list K ha hl (Option.some.inj e ▸ hQ)) fun e =>
  h.tupC e (fun a vs n xs ha hl e => iter_tup K ha hl (Option.some.inj e ▸ hQ)) fun e =>
  h.strC e (fun x t e => iter_str (Option.some.inj e ▸ hQ)) fun e =>
  h.bytesC e (fun b t e => iter_bytes (Option.some.inj e ▸ hQ)) fun e =>
  h.rngC e (fun a lo hi t u w ha e => iter_rng K ha (grdP e) (Option.some.inj (grdE e) ▸ hQ)) noneN
end
section
variable {prog : Program} {w : World} {A : Around} {E : Value → Shared → Prop} {s : Shared}
noncomputable abbrev BytesAt (b : Array UInt8) : Nat → Value → Prop := fun i v => ∃ c u, b[i]? = some c ∧ v = .int (c.toNat : Int) u
theorem bytes_len : typeLookup (.type "bytes") "__len__" = pure (some (.builtin "bytes.__len__")) := by rw [typeLookup_type, builtinLookup_eq_fast]; kernel_rfl
theorem extend_bytes {R : Result → Shared → Prop} (hh : A.handled = none) (x : Array UInt8) (t : Tok) (S : Addr) (res : Value) (c₀ : Nat) (hS : s.heap.get? S = some { cls := .type "list", data := .seq #[] c₀ })
    (hR : ∀ h' tk acc' c', (∀ b o, b ≠ S → s.heap.get? b = some o → h'.get? b = some o) → h'.get? S = some { cls := .type "list", dict := none, data := .seq acc' c', slots := #[] } →
      ItemsOf (BytesAt x) acc' x.size → R (.ok (.ret res)) { s with heap := h', toks := tk }) (hn : x.size ≤ sizeLine) :
    wpAny (model prog w) A.in1 (Builtin.List.listExtendWith (.ref S) (.bytes x t) res)
      (fun fin s' => match fin with | .done f => R (.ok f) s' | .again c' => c'.quiet = true ∧ codeAny (model prog w) A c' R s') (fun e s' => R (.error e) s') s := by
  have hSI : S ≠ s.heap.objs.size := Nat.ne_of_lt (Heap.lt_size hS)
  have hSf : S ∉ [s.heap.objs.size] := fun hm => hSI (List.mem_singleton.mp hm)
  unfold Builtin.List.listExtendWith
  refine W.b (fun _ q => wpAny_typeOf (T := "bytes") (v := .bytes x t) rfl q) ?_
  have h1 : Builtin.List.listSameRef (.ref S) (.bytes x t) = false := rfl
  have h2 : (Value.type "bytes" == Value.type "list") = false := by decide
  have h3 : (Value.type "bytes" == Value.type "tuple") = false := by decide
  simp only [h1, h2, h3, Bool.or_false, Bool.false_eq_true, if_false]
  refine W.b (fun _ q => KBw.pyIter_bytes q) ?_
  refine wpAny_bind (wpAny_holding ?_)
  unfold Builtin.List.listLengthHint
  refine W.b (fun _ q => wpAny_specialOf (T := "bytes") (v := .bytes x t) rfl bytes_len q) ?_
  wp_delta
  refine W.b (fun _ q => wpAny_isInstance (T := "bytes") (v := .bytes x t) (b := true) rfl (by rw [isSubtype_type]; kernel_rfl) q) ?_
  show wpAny _ _ (typeOf (Value.bytes x t) >>= _) _ _ _
  refine W.b (fun _ q => wpAny_typeOf (T := "bytes") (v := .bytes x t) rfl q) ?_
  refine wpAny_pure ?_
  rw [if_neg (by decide)]
  have W := KBw.walks (prog := prog) (w := w) (A := A.in1) hh s.heap.objs.size x t
  have hst : KBw.IsBytesIter (s.heap.push { cls := .type "bytes_iterator", data := .fields #[.bytes x t, .int 0 0] }) s.heap.objs.size x t 0 := ⟨_, Heap.get?_push_size _ rfl, rfl, rfl⟩
  refine wpAny_pure ⟨plainId_quiet F.plain_extend_loop _, codeAny_extend_loopS W.toS hn _ hSf _ x.size 0 _ _ _ rfl (Nat.zero_le _) hst (Heap.get?_push_of_some _ hS) (ItemsOf.nil _) fun s' acc' c' hm hS' hacc => ?_⟩
  rw [Moved.eq_with hm]
  refine hR s'.heap s'.toks acc' c' (fun b ob hb e => hm.heap b ob (fun hmem => ?_) (Heap.get?_push_of_some _ e)) hS' hacc
  rcases List.mem_cons.mp hmem with e' | hmem
  · exact hb e'
  · exact absurd (Heap.lt_size e) (by rw [List.mem_singleton.mp hmem]; exact Nat.lt_irrefl _)
theorem list_init_bytes {R : Result → Shared → Prop} (hh : A.handled = none) (x : Array UInt8) (t : Tok) (S : Addr) (hS : s.heap.get? S = some { cls := .type "list", data := .seq #[] })
    (hR : ∀ h' tk acc' c', (∀ b o, b ≠ S → s.heap.get? b = some o → h'.get? b = some o) → h'.get? S = some { cls := .type "list", dict := none, data := .seq acc' c', slots := #[] } →
      ItemsOf (BytesAt x) acc' x.size → R (.ok (.ret .none)) { s with heap := h', toks := tk }) (hn : x.size ≤ sizeLine) :
    wpAny (model prog w) A.in1 (Builtin.«list.__init__» ⟨[.ref S, .bytes x t], []⟩)
      (fun fin s' => match fin with | .done f => R (.ok f) s' | .again c' => c'.quiet = true ∧ codeAny (model prog w) A c' R s') (fun e s' => R (.error e) s') s := by
  show wpAny _ _ (do let old ← Builtin.List.listItems (.ref S); Builtin.List.listUpdate (.ref S) (fun _ => #[]); letGo old.toList.reverse; Builtin.List.listExtendWith (.ref S) (.bytes x t) .none) _ _ s
  refine wpAny_bind ?_
  unfold Builtin.List.listItems
  refine wpAny_bind (wpAny_seqItems hS rfl (wpAny_pure ?_))
  show wpAny _ _ (updateSeq S (fun _ => #[]) >>= fun _ => letGo (#[] : Array Value).toList.reverse >>= fun _ => Builtin.List.listExtendWith (.ref S) (.bytes x t) .none) _ _ s
  refine W.b (fun _ q => wpAny_updateSeq hS rfl q) ?_
  have hS₂ := Heap.get?_update_self (Obj.mapSeq (fun _ => (#[] : Array Value))) hS rfl
  have oth : ∀ b o, b ≠ S → s.heap.get? b = some o → (s.heap.update S (Obj.mapSeq (fun _ => (#[] : Array Value)))).get? b = some o :=
    fun b o hb e => (Heap.get?_update_other _ _ (Ne.symm hb)).trans e
  refine W.b (fun _ q => wpAny_letGo q) ?_
  refine extend_bytes (hn := hn) hh x t S .none _ hS₂ fun h' tk acc' c' hk hS' hacc => ?_
  exact hR h' tk acc' c' (fun b o hb e => hk b o hb (oth b o hb e)) hS' hacc
theorem call_list_bytes {Q : Value → Shared → Prop} (hh : A.handled = none) (x : Array UInt8) (t : Tok)
    (hQ : ∀ h' tk acc' c', (∀ b o, s.heap.get? b = some o → h'.get? b = some o) →
      h'.get? s.heap.objs.size = some { cls := .type "list", dict := none, data := .seq acc' c', slots := #[] } → ItemsOf (BytesAt x) acc' x.size → Q (.ref s.heap.objs.size) { s with heap := h', toks := tk }) (hn : x.size ≤ sizeLine) :
    wpAny (model prog w) A (call (.type "list") [.bytes x t]) Q E s := by
  refine callType_codes (Q₁ := fun obj s₁ => obj = .ref s.heap.objs.size ∧ s₁ = { s with heap := s.heap.push { cls := .type "list", data := .seq #[] } }) F.called_list (F.typeCall_list_1 _) F.entry_list_init
    (code_list_new _ ⟨rfl, rfl⟩) fun obj s₁ h₁ => ?_
  obtain ⟨rfl, rfl⟩ := h₁
  have hS : (s.heap.push { cls := .type "list", data := .seq #[] }).get? s.heap.objs.size = some { cls := .type "list", data := .seq #[] } := Heap.get?_push_size _ rfl
  refine ⟨⟨_, hS, rfl⟩, F.args_list_init_2 _ _, list_init_bytes (A := A.in1) (hn := hn) hh x t _ hS fun h' tk acc' c' hk hS' hacc => ?_⟩
  exact ⟨rfl, hQ h' tk acc' c' (fun b o e => hk b o (Nat.ne_of_lt (Heap.lt_size e)) (Heap.get?_push_of_some _ e)) hS' hacc⟩
end
theorem ba_sub : isSubtype (.type "bytearray") (.type "bytearray") = pure true := by rw [isSubtype_type]; kernel_rfl
theorem ba_slot_release : Slot "bytearray" "__release_buffer__" "bytearray.__release_buffer__" :=
  .of (owner := "bytearray") (n := "__release_buffer__") (by rw [typeLookup_type, builtinLookup_eq_fast]; kernel_rfl) (by decide +kernel) (by decide +kernel) (by decide +kernel)
    (by first | exact .inl (by decide +kernel) | exact .inr (by decide +kernel)) (by rw [isSubtype_type]; kernel_rfl)
theorem ba_lookup_buffer : typeLookup (.type "bytearray") "__buffer__" = pure (some (.builtin "bytearray.__buffer__")) := by rw [typeLookup_type, builtinLookup_eq_fast]; kernel_rfl
theorem ba_no_bytes : typeLookup (.type "bytearray") "__bytes__" = pure none := by rw [typeLookup_type, builtinLookup_eq_fast]; kernel_rfl
theorem ba_no_index : typeLookup (.type "bytearray") "__index__" = pure none := by rw [typeLookup_type, builtinLookup_eq_fast]; kernel_rfl
section
variable {prog : Program} {w : World} {A : Around} {s : Shared} {E : Value → Shared → Prop}
theorem ba_typeIs {a : Addr} {b : Array UInt8} (ho : s.heap.get? a = some (barO b)) : s.TypeIs (.ref a) "bytearray" := ⟨_, ho, rfl⟩
theorem ba_slotOwn {a : Addr} {b : Array UInt8} {name : String} {id : String} {Q : Bool → Shared → Prop} (ho : s.heap.get? a = some (barO b)) (hl : typeLookup (.type "bytearray") (name : Str) = pure (some (.builtin id)))
    (e1 : (id.endsWith ("." ++ name)) = true) (e2 : id.dropRight (name.length + 1) = "bytearray") (h : Q true s) : wpAny (model prog w) A (Builtin.Bytes.slotIsOwn (.ref a) name) Q E s := by
  unfold Builtin.Bytes.slotIsOwn
  refine W.b (fun _ q => wpAny_specialOf (ba_typeIs ho) hl q) ?_
  dsimp only
  rw [e1, e2]
  exact wpAny_isInstance (ba_typeIs ho) ba_sub h
theorem ba_own {a : Addr} {b : Array UInt8} {Q : Bool → Shared → Prop} (ho : s.heap.get? a = some (barO b)) (h : Q false s) : wpAny (model prog w) A (Builtin.Bytes.ownRelease (.ref a)) Q E s := by
  unfold Builtin.Bytes.ownRelease
  exact wpAny_bind (ba_slotOwn ho ba_slot_release.lookup (by decide +kernel) (by decide +kernel) (wpAny_pure h))
theorem ba_payload {a : Addr} {b : Array UInt8} {Q : Array UInt8 → Shared → Prop} (ho : s.heap.get? a = some (barO b)) (h : Q b s) : wpAny (model prog w) A (Builtin.Bytes.payload (.ref a)) Q E s := by
  unfold Builtin.Bytes.payload Builtin.Bytes.payload?
  refine wpAny_bind (wpAny_bind (wpAny_load ho ?_))
  exact wpAny_pure (wpAny_pure h)
theorem ba_buffer {id : String} {full : Bool} {a : Addr} {b : Array UInt8} {Q : Option (Array UInt8) → Shared → Prop} (ho : s.heap.get? a = some (barO b)) (h : Q (some b) s) : wpAny (model prog w) A (Builtin.Bytes.buffer? id (.ref a) full) Q E s := by
  unfold Builtin.Bytes.buffer?
  refine W.b (fun _ q => wpAny_specialOf (ba_typeIs ho) ba_lookup_buffer q) ?_
  refine W.b (fun _ q => ba_slotOwn ho ba_lookup_buffer (by decide +kernel) (by decide +kernel) q) ?_
  refine bm_if_false rfl ?_
  refine W.b (fun _ q => wpAny_specialOf (ba_typeIs ho) ba_lookup_buffer q) ?_
  dsimp only
  refine W.b (fun _ q => ba_own ho q) ?_
  refine bm_if_false rfl ?_
  exact wpAny_bind (ba_payload ho (wpAny_pure h))
theorem ba_bytes_new {a : Addr} {b : Array UInt8} {Q : Value → Shared → Prop} (ho : s.heap.get? a = some (barO b)) (hz : b.size ≤ sizeLine) (hQ : ∀ t k, Q (.bytes b t) { s with toks := k }) :
    codeAny (model prog w) A (.call (.builtin "bytes.__new__") ⟨[.type "bytes", .ref a], []⟩) (wants Q E) s := by
  refine codeAny_of_tree ?_
  show wpAny _ A.in1 (do checkBuiltinCall "bytes.__new__" ⟨[.type "bytes", .ref a], []⟩; again (.builtin "bytes.__new__" ⟨[.type "bytes", .ref a], []⟩)) _ _ s
  refine wpAny_bind (wpAny_of_eq (F.bm_newCall _) (wpAny_pure ⟨plainId_quiet F.bm_plain _, codeAny_builtin F.bm_entry ?_⟩))
  rw [Around.under_plainId F.bm_plain _]
  unfold Builtin.«bytes.__new__»
  refine W.e (a := true) rfl ?_
  refine bm_if_false rfl ?_
  refine W.e F.bm_sub ?_
  refine bm_if_false rfl ?_
  refine W.e (F.bm_bind _) ?_
  refine W.e (a := ()) rfl ?_
  refine W.e (a := ()) rfl ?_
  refine bm_if_false rfl ?_
  refine W.b (fun _ q => wpAny_specialOf (ba_typeIs ho) ba_no_bytes q) ?_
  refine wpAny_bind (wpAny_bind ?_)
  show wpAny _ _ (load a >>= _) _ _ _
  refine W.b (fun _ q => wpAny_load ho q) ?_
  refine wpAny_pure (wpAny_pure ?_)
  refine bm_if_false rfl ?_
  refine W.b (fun _ q => wpAny_specialOf (ba_typeIs ho) ba_no_index q) ?_
  refine bm_if_true rfl ?_
  refine wpAny_bind ?_
  refine ba_buffer ho ?_
  dsimp only
  refine W.b (fun _ q => wpAny_rule q) ?_
  refine wpAny_bind (wpAny_mkBytes ?_ hz)
  show wpAny _ _ (if (Value.type "bytes" == Value.type "bytes") = true then _ else _) _ _ _
  refine bm_if_true (by decide) ?_
  first
    | exact wpAny_pure (hQ _ _)
    | exact wpAny_bind (wpAny_pure (wpAny_pure (hQ _ _)))
theorem call_bytes_ba {a : Addr} {b : Array UInt8} {Q : Value → Shared → Prop} (ho : s.heap.get? a = some (barO b)) (hz : b.size ≤ sizeLine) (hQ : ∀ t k, Q (.bytes b t) { s with toks := k }) :
    wpAny (model prog w) A (call (.type "bytes") [.ref a]) Q E s := by
  refine callType_codes (Q₁ := fun obj s₁ => s₁.TypeIs obj "bytes" ∧ Q obj s₁) F.bm_called (F.bm_typeCall _) F.entry_object_init
    (ba_bytes_new ho hz fun t k => ⟨PySem.W.typeIs_bytes _ _ _, hQ t k⟩) fun obj s₁ h₁ => ?_
  exact ⟨h₁.1, F.args_object_init_2 obj _, object_init_meets F.bm_called.init.lookup F.bm_called.made (by decide) prog w A.in1 _ s₁ ⟨h₁.1, rfl, h₁.2⟩⟩
end
noncomputable def bltVal : BI → Value
  | .len => .builtin "len" | .int => .type "int" | .range => .type "range" | .ord => .builtin "ord" | .chr => .builtin "chr" | .max => .builtin "max" | .min => .builtin "min"
  | .list => .type "list" | .bytes => .type "bytes" | .str => .type "str" | .abs => .builtin "abs" | .sorted => .builtin "sorted"
section
variable {b0 : Heap} {g : Cfg} {B : Bm} {p : Pl} {prog : Program} {w : World} {A : Around} {E : Value → Shared → Prop} {s : Shared} {Q : Value → Shared → Prop}
@[elab_as_elim] theorem RdL.oneC {α : Type} {f : PV → Option α} {r : α} {P : List Value → Prop} {vs : List Value} {l : List PV} (h : RdL g B vs l) (e : one f l = some r) (H : ∀ v x, Rd g B v x → f x = some r → P [v]) : P vs := by
  cases l with
  | nil => exact noneN e
  | cons x l =>
    cases l with
    | cons _ _ => exact noneN e
    | nil =>
      cases vs with
      | nil => exact nomatch h.1
      | cons v vs => rw [h.tail.nil_inv]; exact H v x h.head e
@[elab_as_elim] theorem RdL.twoC {α : Type} {f : PV → PV → Option α} {r : α} {P : List Value → Prop} {vs : List Value} {l : List PV} (h : RdL g B vs l) (e : two f l = some r) (H : ∀ v x u y, Rd g B v x → Rd g B u y → f x y = some r → P [v, u]) : P vs := by
  cases l with
  | nil => exact noneN e
  | cons x l =>
    cases vs with
    | nil => exact nomatch h.1
    | cons v vs => exact h.tail.oneC (P := fun vs => P (v :: vs)) e fun u y hu e => H v x u y h.head hu e
theorem RdL.toIs : ∀ {vs : List Value} {xs : List PV} {is : List Int}, RdL g B vs xs → intsOf xs = some is → IntsAre vs is
  | [], [], is, h, e => Option.some.inj e ▸ IntsAre.nil
  | _ :: _, [], is, h, e => nomatch h.1
  | [], _ :: _, is, h, e => nomatch h.1
  | v :: vs, x :: r, is, h, e => by
    exact h.head.intC e (fun i t e => by
      obtain ⟨l', e', q⟩ := Option.map_eq_some_iff.mp e
      exact q ▸ IntsAre.cons _ _ (RdL.toIs h.tail e')) noneN
theorem RdL.of_ints {vs : List Value} {is : List Int} (h : IntsAre vs is) : RdL g B vs (is.map .int) := by
  induction h with
  | nil => exact RdL.nil
  | cons n t _ ih => exact RdL.cons (.int n t) ih
theorem RdL.of_items {Pr : Nat → Value → Prop} {acc : Array Value} {xs : List PV} (hI : ItemsOf Pr acc xs.length) (hP : ∀ i v, Pr i v → ∃ x, xs[i]? = some x ∧ Rd g B v x) : RdL g B acc.toList xs :=
  ⟨Array.length_toList.trans hI.1, fun i v x e1 e2 => let ⟨y, e, r⟩ := hP i v (hI.2 i v (Array.getElem?_toList.symm.trans e1)); Option.some.inj (e.symm.trans e2) ▸ r⟩
theorem abs_eq (i : Int) : (if i < 0 then -i else i) = (i.natAbs : Int) := by split <;> omega
theorem if_int (c : Prop) [Decidable c] {a b : Int} {t u : Tok} : Rd g B (if c then .int b u else .int a t) (.int (if c then b else a)) := by
  by_cases h : c
  · rw [if_pos h, if_pos h]; exact .int _ _
  · rw [if_neg h, if_neg h]; exact .int _ _
theorem ord_inv {x : Str} {r : PV} (e : (match x.cps.toList with
      | [] => none
      | c :: r => match r with
        | [] => some (PV.int c)
        | _ :: _ => none) = some r) : ∃ c : Nat, x = ⟨#[c]⟩ ∧ some (PV.int c) = some r := by
  obtain ⟨⟨l⟩⟩ := x
  cases l with
  | nil => exact noneN e
  | cons c l =>
    cases l with
    | nil => exact ⟨c, rfl, e⟩
    | cons _ _ => exact noneN e
/-- list(x) -/
theorem list_snd {v : Value} {x r : PV} {items : List PV} (hA : A.handled = none) (K : Kp b0 g B p s.heap) (h : Rd g B v x) (hi : itemsOf x = some items) (hl : items.length ≤ lim) (er : some (.list items) = some r) (R : Res g B s p Q r) :
    wpAny (model prog w) A (call (.type "list") [v]) Q E s := by
  have hl2 : items.length ≤ sizeLine := Nat.le_trans hl lim_line
  have hn := Heap.get_size s.heap
  have hB := K.keep.fresh hn
  have fin : ∀ {h' : Heap} {acc : Array Value} {n : Nat} (tk : Nat), Grow s.heap h' → h'.get? s.heap.objs.size = some (listO acc n) → RdL g B acc.toList items → Q (.ref s.heap.objs.size) { s with heap := h', toks := tk } := fun tk hk he hr =>
    R.newAtE K er hk he hn (Rd.newList hB hr) tk
  refine h.listC (P := fun v => wpAny (model prog w) A (call (.type "list") [v]) Q E s) hi (fun a vs n xs ha hll e => ?_) fun e => h.tupC (P := fun v => wpAny (model prog w) A (call (.type "list") [v]) Q E s) e (fun a vs n xs ha hll e => ?_) fun e =>
    h.strC (P := fun v => wpAny (model prog w) A (call (.type "list") [v]) Q E s) e (fun y t e => ?_) fun e => h.bytesC (P := fun v => wpAny (model prog w) A (call (.type "list") [v]) Q E s) e (fun b t e => ?_) fun e =>
    h.rngC (P := fun v => wpAny (model prog w) A (call (.type "list") [v]) Q E s) e (fun a lo hi' t u w' ha e => ?_) noneN
  · have e := Option.some.inj e
    exact call_list_seq a (.inl rfl) (K.keep _ _ ha) rfl rfl (fun h' c' hk he => fin s.toks hk he (e ▸ hll)) (by rw [hll.size, e]; exact hl2)
  · have e := Option.some.inj e
    exact call_list_seq a (.inr rfl) (K.keep _ _ ha) rfl rfl (fun h' c' hk he => fin s.toks hk he (e ▸ hll)) (by rw [hll.size, e]; exact hl2)
  · have e := Option.some.inj e
    have len : items.length = y.cps.size := e ▸ (List.length_map _).trans Array.length_toList
    exact call_list_str hA y t (fun h' tk acc' c' hk he hI => fin tk hk he (RdL.of_items (Pr := SignAt y) (len ▸ hI) fun i v ⟨c, u, hc, ev⟩ => ⟨.str ⟨#[c]⟩, by rw [← e, List.getElem?_map, Array.getElem?_toList, hc]; rfl, ev ▸ .str _ _⟩)) (len ▸ hl2)
  · have e := Option.some.inj e
    have len : items.length = b.size := e ▸ (List.length_map _).trans Array.length_toList
    exact call_list_bytes hA b t (fun h' tk acc' c' hk he hI => fin tk hk he (RdL.of_items (Pr := BytesAt b) (len ▸ hI) (e ▸ byte_item))) (len ▸ hl2)
  · have hr := grdP e
    have e := Option.some.inj (grdE e)
    have len : items.length = (hi' - lo).toNat := e ▸ upto_length _ _
    obtain ⟨q1, q2⟩ := small_range hr.1 hr.2
    exact call_list_range (n := (hi' - lo).toNat) hA (K.keep _ _ ha) q1 q2 (Nat.le_trans (len ▸ hl) (by decide)) fun h' tk acc' c' hk he hI => fin tk hk he ⟨by rw [Array.length_toList, len]; exact hI.1, fun i v x e1 e2 => by
      obtain ⟨t, rfl⟩ := hI.2 i v (Array.getElem?_toList.symm.trans e1)
      have hlt : i < (hi' - lo).toNat := len ▸ (List.getElem?_eq_some_iff.mp e2).1
      rw [← e, upto_get _ _ _ hlt] at e2
      rw [← Option.some.inj e2, Int.mul_one]; exact .int _ _⟩
theorem sortInts_eq {is ns : List Int} (hp : ns.Perm is) (ho : ns.Pairwise (· ≤ ·)) : sortInts is = ns := by
  unfold sortInts
  refine List.Perm.eq_of_pairwise (le := (· ≤ ·)) (fun a b _ _ h1 h2 => Int.le_antisymm h1 h2) ?_ ho ((List.mergeSort_perm _ _).trans hp.symm)
  exact (List.pairwise_mergeSort (le := fun a b : Int => decide (a ≤ b)) (fun a b c h1 h2 => decide_eq_true (Int.le_trans (of_decide_eq_true h1) (of_decide_eq_true h2))) (fun a b => by rw [Bool.or_eq_true, decide_eq_true_eq, decide_eq_true_eq]; exact Int.le_total a b) is).imp of_decide_eq_true
theorem log_lt {i : Int} (h : i.natAbs < 10 ^ 30) : i.natAbs.log2 < 1920 := by
  by_cases z : i.natAbs = 0
  · rw [z]; decide
  · rw [Nat.log2_lt z]
    exact Nat.lt_trans h (by decide +kernel)
theorem bltOp_snd {f : BI} {vs : List Value} {xs : List PV} {r : PV} (hA : A.handled = none) (K : Kp b0 g B p s.heap) (h : RdL g B vs xs) (e : bltOp f xs = some r) (R : Res g B s p Q r) :
    wpAny (model prog w) A (call (bltVal f) vs) Q E s := by
  cases f with
  | len =>
    exact h.oneC e fun v x h e => h.strC e (fun y t e => len_str (Int.not_le.mpr (lim63 (grdP e))) (R.nowE K (grdE e) (.int _ _) _)) fun e => h.bytesC e (fun y t e => len_bytes (Nat.le_trans (grdP e) (by decide)) (R.nowE K (grdE e) (.int _ _) _)) fun e =>
      h.listC e (fun a us n xs ha hl e => call_len_list (K.isL ha).isList (by rw [hl.size]; exact lim63 (grdP e)) (by rw [hl.size]; exact R.nowE K (grdE e) (.int _ _) _)) noneN
  | int => exact h.oneC e fun v x h e => h.intC e (fun i t e => call_int_int (R.nowE K e (.int _ _) s.toks)) fun e => h.boolC e (fun b e => call_int_bool (R.nowE K e (.int _ _) _)) noneN
  | range =>
    cases xs with
    | nil => exact noneN e
    | cons x l =>
      cases l with
      | nil => exact h.oneC (f := fun x => intE (fun n => grd (n.natAbs ≤ lim) (PV.rng 0 n)) none x) e fun v x h e => h.intC e (fun i t e => call_range_1 (R.allocE K (grdE e) _ rfl (.rng Bm.add_self) _)) noneN
      | cons y l => exact h.twoC (f := fun x y => int2 (fun a b => grd (a.natAbs ≤ lim ∧ b.natAbs ≤ lim) (PV.rng a b)) x y) e fun v x u y h h' e => h.two h' e fun a t b t' e => call_range_2 (R.allocE K (grdE e) _ rfl (.rng Bm.add_self) _)
  | ord => exact h.oneC e fun v x h e => h.strC e (fun y t e => by
      obtain ⟨c, q, e⟩ := ord_inv e
      rw [q]; exact P.ord_of_char (R.nowE K e (.int _ _) _)) noneN
  | chr => exact h.oneC e fun v x h e => h.intC e (fun i t e => chr_of_range (grdP e).1 (grdP e).2 (R.nowE K (grdE e) (.str _ _) _)) noneN
  | max => exact h.twoC e fun v x u y h h' e => h.two h' e fun a t b t' e => max_two_ints hA fun h' tk hk => R.growE K e (if_int _) hk tk
  | min => exact h.twoC e fun v x u y h h' e => h.two h' e fun a t b t' e => min_two_ints hA fun h' tk hk => R.growE K e (if_int _) hk tk
  | list => exact h.oneC e fun v x h e => let ⟨items, e1, e⟩ := bndS e; list_snd hA K h e1 (grdP e) (grdE e) R
  | bytes =>
    exact h.oneC e fun v x h e => h.listC e (fun a us n xs ha hl e => let ⟨is, e1, e⟩ := bndS e; call_bytes_ints (vs := us.toList) (by rw [Array.toArray_toList]; exact (K.isL ha).isList) (hl.toIs e1)
        (fun n m => of_decide_eq_true (List.all_eq_true.mp (grdP e).2 n m)) (by rw [hl.1]; exact Nat.le_trans (grdP e).1 lim_line) hA fun h' t k hk => R.growE K (grdE e) (.bytes _ t) hk k) fun e =>
      h.barrC e (fun a b ha e => call_bytes_ba (K.keep _ _ ha) (Nat.le_trans (grdP e) lim_line) fun t k => R.nowE K (grdE e) (.bytes _ t) k) noneN
  | str => exact h.oneC e fun v x h e => h.intC e (fun i t e => P.str_of_int (log_lt (grdP e)) (R.nowE K (grdE e) (.str _ _) _)) noneN
  | abs => exact h.oneC e fun v x h e => h.intC e (fun i t e => call_abs_int fun u tk => R.nowE K e (abs_eq i ▸ .int _ _) tk) noneN
  | sorted =>
    exact h.oneC e fun v x h e => h.listC e (fun a us n xs ha hl e => let ⟨is, e1, e⟩ := bndS e; sorted_ints (vs := us.toList) (by rw [Array.toArray_toList]; exact (K.isL ha).isList) (hl.toIs e1) (by rw [hl.1]; exact grdP e) fun out ns' hI' hp ho => by
      obtain ⟨ee, he⟩ := sortedAll_at s.heap us.toList out
      have hn : s.heap.get? (s.heap.objs.size + 1) = none := by
        cases q : s.heap.get? (s.heap.objs.size + 1) with
        | none => rfl
        | some o => exact absurd (Heap.lt_size q) (Nat.not_lt.mpr (Nat.le_succ _))
      exact R.newAtE K (grdE e) (fun b o q => sortedAll_old q) he hn (Rd.newList (K.keep.fresh hn) (sortInts_eq hp ho ▸ RdL.of_ints hI')) s.toks) noneN
end
/-- what holds a bytearray, of all that runs -/
noncomputable def heldS (v : Value) : { f : Code × Pos → Bool // ∀ (M : Model) (Γ : Ctx) (Q : Bool → Pos → Shared → Prop) (E : Value → Pos → Shared → Prop) (p : Pos) (s : Shared), Q (((Γ.code, p) :: Γ.below).any f) p s → Sem.wp M Γ (Builtin.Bytes.exported v) Q E p s } := by
  refine ⟨?f, ?h⟩
  case h =>
    intro M Γ Q E p s h
    unfold Builtin.Bytes.exported
    rw [Sem.wp_bind']
    exact h
noncomputable def notDec (c : Code) : Prop := ∀ v p, (heldS v).1 (c, p) = false
noncomputable def Clean (Γ : Ctx) : Prop := notDec Γ.code ∧ ∀ x ∈ Γ.below, ∀ v, (heldS v).1 x = false
theorem Clean.enter {Γ : Ctx} (h : Clean Γ) {c : Code} (hc : notDec c) (hd : Option Value) (p : Pos) : Clean (Γ.enter c hd p) :=
  ⟨hc, fun x hx => (List.mem_cons.mp hx).elim (fun e v => e ▸ h.1 v p) (h.2 x)⟩
theorem Clean.goto {Γ : Ctx} (h : Clean Γ) {c : Code} (hc : notDec c) : Clean (Γ.goto c) := ⟨hc, h.2⟩
/-- a walk that may raise -/
noncomputable def wpE {α : Type} (M : Model) (A : Around) (t : Sem α) (Q : α → Shared → Prop) (E : Value → Shared → Prop) (s : Shared) : Prop :=
  ∀ Γ p, Γ.In A → Clean Γ → Sem.wp M Γ t (fun a _ s' => Q a s') (fun e _ s' => E e s') p s
noncomputable def codeE (M : Model) (A : Around) (c : Code) (R : Result → Shared → Prop) (s : Shared) : Prop :=
  ∀ Γ p, Γ.code = c → Γ.Below A → Clean Γ → wpCode M Γ R p s
noncomputable abbrev wpG {α : Type} (M : Model) (A : Around) (t : Sem α) (Q : α → Shared → Prop) (s : Shared) : Prop := wpE M A t Q No s
noncomputable def okR (R : Flow → Shared → Prop) : Result → Shared → Prop
  | .ok f => R f
  | .error _ => fun _ => False
noncomputable abbrev codeG (M : Model) (A : Around) (c : Code) (R : Flow → Shared → Prop) (s : Shared) : Prop := codeE M A c (okR R) s
section
variable {α β : Type} {M : Model} {A : Around} {s : Shared} {E : Value → Shared → Prop}
theorem G.any {t : Sem α} {Q : α → Shared → Prop} (h : wpAny M A t Q E s) : wpE M A t Q E s := fun Γ p hΓ _ => h Γ p hΓ
theorem X.mono {t : Sem α} {Q Q' : α → Shared → Prop} {E' : Value → Shared → Prop} (h : wpE M A t Q E s) (hQ : ∀ a s, Q a s → Q' a s) (hE : ∀ e s, E e s → E' e s) : wpE M A t Q' E' s :=
  fun Γ p hΓ hc => Sem.wp_mono M Γ t (fun a _ s => hQ a s) (fun e _ s => hE e s) p s (h Γ p hΓ hc)
theorem G.mono {t : Sem α} {Q Q' : α → Shared → Prop} (h : wpE M A t Q E s) (hQ : ∀ a s, Q a s → Q' a s) : wpE M A t Q' E s := X.mono h hQ fun _ _ h => h
theorem G.bind {m : Sem α} {f : α → Sem β} {Q : β → Shared → Prop} (h : wpE M A m (fun a s' => wpE M A (f a) Q E s') E s) : wpE M A (m >>= f) Q E s := fun Γ p hΓ hc => by
  rw [Sem.wp_bind']
  exact Sem.wp_mono M Γ m (fun a p' s' h' => h' Γ p' hΓ hc) (fun _ _ _ h' => h') p s (h Γ p hΓ hc)
theorem G.b {s' : Shared} {a : α} {t : Sem α} {f : α → Sem β} {Q : β → Shared → Prop} (h : ∀ Q' : α → Shared → Prop, Q' a s' → wpE M A t Q' E s) (k : wpE M A (f a) Q E s') : wpE M A (t >>= f) Q E s := G.bind (h _ k)
theorem X.bindG {m : Sem α} {f : α → Sem β} {Q : β → Shared → Prop} (h : wpG M A m (fun a s' => wpE M A (f a) Q E s') s) : wpE M A (m >>= f) Q E s := G.bind (X.mono h (fun _ _ x => x) fun _ _ x => x.elim)
theorem X.bindR {m : Sem α} {f : α → Sem β} {Q : β → Shared → Prop} (h : wpE M A m No E s) : wpE M A (m >>= f) Q E s := G.bind (G.mono h fun _ _ x => x.elim)
theorem G.pure {a : α} {Q : α → Shared → Prop} (h : Q a s) : wpE M A (Pure.pure a : Sem α) Q E s := fun _ _ _ _ => h
theorem G.of_eq {t : Sem α} {a : α} {Q : α → Shared → Prop} (h : t = Pure.pure a) (hQ : Q a s) : wpE M A t Q E s := h ▸ G.pure hQ
theorem G.e {a : α} {t : Sem α} {f : α → Sem β} {Q : β → Shared → Prop} (h : t = Pure.pure a) (k : wpE M A (f a) Q E s) : wpE M A (t >>= f) Q E s := G.bind (G.of_eq h k)
theorem G.holding {vs : List Value} {m : Sem α} {Q : α → Shared → Prop} (h : wpE M A m Q E s) : wpE M A (PySem.holding vs m) Q E s := fun Γ p hΓ hc => by rw [Sem.wp_holding]; exact h Γ p hΓ hc
theorem G.standAt {pos : Pos} {Q : Unit → Shared → Prop} (h : Q () s) : wpE M A (PySem.standAt pos) Q E s := G.any (wpAny_standAt h)
theorem g_stand {pos : Pos} {f : Unit → Sem β} {Q : β → Shared → Prop} (h : wpE M A (f ()) Q E s) : wpE M A (PySem.standAt pos >>= f) Q E s := G.bind (G.standAt h)
theorem G.point {Q : Unit → Shared → Prop} (h : Q () s) : wpE M A PySem.point Q E s := G.any (wpAny_point h)
theorem G.operate {vs : List Value} {m : Sem Value} {Q : Value → Shared → Prop} (h : wpE M A m Q E s) : wpE M A (PySem.operate vs m) Q E s := fun Γ p hΓ hc => by rw [Sem.wp_operate]; exact h Γ p hΓ hc
theorem X.onRaise {m : Sem α} {k : Value → Sem Unit} {Q : α → Shared → Prop} (h : wpE M A m Q (fun e s' => wpE M A (k e) (fun _ s'' => E e s'') E s') s) : wpE M A (m.onRaise k) Q E s := fun Γ p hΓ hc => by
  rw [Sem.wp_onRaise]
  exact Sem.wp_mono M Γ m (fun _ _ _ h' => h') (fun e p' s' h' => h' Γ p' hΓ hc) p s (h Γ p hΓ hc)
theorem G.onRaise {m : Sem α} {k : Value → Sem Unit} {Q : α → Shared → Prop} (h : wpG M A m Q s) : wpG M A (m.onRaise k) Q s := X.onRaise (X.mono h (fun _ _ h => h) fun _ _ h => h.elim)
theorem X.attempt {m : Sem α} {Q : Except Value α → Shared → Prop} (h : wpE M A m (fun a => Q (.ok a)) (fun e => Q (.error e)) s) : wpE M A m.attempt Q E s := fun Γ p hΓ hc => by
  rw [Sem.wp_attempt]
  exact h Γ p hΓ hc
theorem G.attempt {m : Sem α} {Q : Except Value α → Shared → Prop} (h : wpG M A m (fun a => Q (.ok a)) s) : wpG M A m.attempt Q s := X.attempt (X.mono h (fun _ _ h => h) fun _ _ h => h.elim)
theorem G.keep {vs : List Value} {m : Sem α} {Q : α → Shared → Prop} (h : wpE M A m Q E s) : wpE M A (m.keep vs) Q E s := fun Γ p hΓ hc => by rw [Sem.wp_keep]; exact h Γ p hΓ hc
theorem G.ite {c : Prop} [Decidable c] {a b : Sem α} {Q : α → Shared → Prop} (h1 : c → wpE M A a Q E s) (h2 : ¬ c → wpE M A b Q E s) : wpE M A (if c then a else b) Q E s := by
  by_cases h : c
  · rw [if_pos h]; exact h1 h
  · rw [if_neg h]; exact h2 h
theorem X.toks {t : Sem α} {Q : α → Shared → Prop} {n : Nat} (hn : n ≤ s.toks) (h : wpE M A t (fun a s' => n ≤ s'.toks → Q a s') (fun e s' => n ≤ s'.toks → E e s') s) : wpE M A t Q E s := fun Γ p hΓ hc =>
  Sem.wp_mono M Γ t (fun _ _ _ x => x.2 x.1) (fun _ _ _ x => x.2 x.1) p s (Sem.wp_toks M Γ n t _ _ p s hn (h Γ p hΓ hc))
theorem G.toks {t : Sem α} {Q : α → Shared → Prop} {n : Nat} (hn : n ≤ s.toks) (h : wpG M A t (fun a s' => n ≤ s'.toks → Q a s') s) : wpG M A t Q s := X.toks hn (X.mono h (fun _ _ h => h) fun _ _ h => h.elim)
theorem codeE_mono {c : Code} {R R' : Result → Shared → Prop} (h : codeE M A c R s) (i : ∀ f s', R f s' → R' f s') : codeE M A c R' s := fun Γ p hc hΓ hcl => wpCode_mono i (h Γ p hc hΓ hcl)
theorem codeG_mono {c : Code} {R R' : Flow → Shared → Prop} (h : codeG M A c R s) (i : ∀ f s', R f s' → R' f s') : codeG M A c R' s := codeE_mono h fun r s' => match r with
  | .ok f => i f s'
  | .error _ => fun h => h.elim
theorem G.run {c : Code} {Q : Flow → Shared → Prop} (hc : notDec c) (h : codeG M A c Q s) : wpG M A (PySem.run c) Q s := fun Γ p hΓ hcl => by
  rw [Sem.wp_run]
  refine wpCode_mono (fun r s' hr => ?_) (h _ p rfl (hΓ.enter c none p (fun x => nomatch x)) (hcl.enter hc none p))
  cases r <;> exact hr
noncomputable def retR (Q : Value → Shared → Prop) (E : Value → Shared → Prop) : Result → Shared → Prop
  | .ok f => match f with
    | .ret v => Q v
    | _ => fun _ => False
  | .error e => E e
theorem X.runValue {c : Code} {Q : Value → Shared → Prop} (hc : notDec c) (h : codeE M A c (retR Q E) s) : wpE M A (PySem.runValue c) Q E s := fun Γ p hΓ hcl => by
  rw [Sem.wp_runValue]
  refine wpCode_mono (fun r s' hr => ?_) (h _ p rfl (hΓ.enter c none p (fun x => nomatch x)) (hcl.enter hc none p))
  cases r with
  | error e => exact hr
  | ok f => cases f <;> exact hr
theorem X.call {f : Value} {pos : List Value} {kw : List (Str × Value)} {Q : Value → Shared → Prop} (h : codeE M A (.call f ⟨pos, kw⟩) (retR Q E) s) : wpE M A (PySem.call f pos kw) Q E s := X.runValue (fun _ _ => rfl) h
theorem ret_ok {Q : Value → Shared → Prop} {r : Result} {s' : Shared} (h : okR (fun f s' => ∃ v, f = .ret v ∧ Q v s') r s') : retR Q E r s' := by
  cases r with
  | error e => exact h.elim
  | ok f => obtain ⟨v, e, q⟩ := h; rw [e]; exact q
theorem G.call {f : Value} {pos : List Value} {kw : List (Str × Value)} {Q : Value → Shared → Prop} (h : codeG M A (.call f ⟨pos, kw⟩) (fun f s' => ∃ v, f = .ret v ∧ Q v s') s) : wpG M A (PySem.call f pos kw) Q s :=
  X.call (codeE_mono h fun _ _ => ret_ok)
/-- the end of a turn -/
noncomputable def finE (M : Model) (A : Around) (R : Result → Shared → Prop) : PySem.Fin → Shared → Prop
  | .done f => R (.ok f)
  | .again c' => fun s' => c'.quiet = true ∧ notDec c' ∧ codeE M A c' R s'
theorem X.code {c : Code} {R : Result → Shared → Prop} (hd : notDec c) (h : wpE M (A.under c) (M.den c) (finE M A R) (fun e s' => R (.error e) s') s) : codeE M A c R s := fun Γ p hc hΓ hcl => by
  rw [wpCode_iff_wp, hc]
  refine Sem.wp_mono M Γ _ (fun fin p' s' h' => ?_) (fun _ _ _ h' => h') p s (h Γ p (hc ▸ hΓ.in) hcl)
  cases fin with
  | done f => exact h'
  | again c' => exact ⟨h'.1, h'.2.2 (Γ.goto c') p' rfl (hΓ.goto c') (hcl.goto h'.2.1)⟩
theorem G.code {c : Code} {R : Flow → Shared → Prop} (h : wpG M (A.under c) (M.den c) (finE M A (okR R)) s) (hd : notDec c) : codeG M A c R s := X.code hd h
theorem G.loop {c : Code} {R : Flow → Shared → Prop} (hq : c.quiet = true) (hd : notDec c) (I : Nat → Shared → Prop)
    (turn : ∀ n s, I n s → wpG M (A.under c) (M.den c) (fun fin s' => (fin = .again c ∧ ∃ m, m < n ∧ I m s') ∨ finE M A (okR R) fin s') s)
    (n : Nat) (h : I n s) : codeG M A c R s := by
  induction n using Nat.strongRecOn generalizing s with
  | ind n ih => exact G.code (G.mono (turn n s h) fun fin s' hf => hf.elim (fun ⟨e, m, hm, hI⟩ => e ▸ ⟨hq, hd, ih m hm hI⟩) fun hf => hf) hd
end
section
variable {prog : Program} {w : World} {A : Around} {s : Shared}
theorem X.callFn {R : Result → Shared → Prop} {a : Addr} {args : Args} {o : Obj} {fd : FuncData} {body : List Stmt} (hroom : A.depth < recursionLimit)
    (ho : s.heap.get? a = some o)
    (hd' : o.data = .func fd) (hco : fd.scope.isCoroutine = false) (hgen : fd.scope.isGenerator = false) (hbody : fd.body = .stmts body) (hcd : s.heap.CodeRec fd.code fd.qualname)
    (h : wpG (model prog w) A.in1 (bindArgs fd args) (fun binds s₁ =>
      wpG (model prog w) A.in1 (newFunctionEnv fd.scope fd.globals fd.closure binds (fd.qualname ++ ".<locals>.") (some a) fd.code none fd.builtins)
        (fun env s₂ => s₂.heap.NoLimit ∧ codeE (model prog w) A (.func body env) R s₂) s₁) s) :
    codeE (model prog w) A (.call (.ref a) args) R s := by
  refine X.code (fun _ _ => rfl) ?_
  show wpE _ A.in1 (callAny (.ref a) args) _ _ s
  unfold callAny
  refine X.bindG (G.any (wpAny_load ho ?_))
  obtain ⟨c, oc, vs, tq, hc, hoc, hdc, hq⟩ := hcd
  rw [hd']
  show wpE _ _ (callFunction a fd args) _ _ _
  unfold callFunction
  rw [hc] at h ⊢
  rw [hco, hgen, hbody]
  refine X.bindG (m := field (.ref c) 1) (G.any (wpAny_field hoc hdc hq ?_))
  refine X.bindG (G.pure ?_)
  exact X.bindG (G.mono h (fun binds s₁ h₁ => X.bindG (G.mono h₁ (fun env s₂ h₂ => X.bindG (G.any (wpAny_enterFrame h₂.1 hroom
    (show wpE _ _ _ _ _ _ from G.pure (And.intro rfl (And.intro (fun _ _ => rfl) h₂.2)))))))))
/-- the value that a body gives -/
noncomputable def flowVal (f : Flow) : Value := match f with
  | .ret v => v
  | _ => .none
theorem X.func {R : Result → Shared → Prop} {body : List Stmt} {env : Env} (h : wpE (model prog w) (A.deeper env) (execs body env) (fun f s' => R (.ok (.ret (flowVal f))) s') (fun e s' => wpE (model prog w) (A.deeper env) (leaving env e) (fun _ s'' => R (.error e) s'') (fun e' s'' => R (.error e') s'') s') s) :
    codeE (model prog w) A (.func body env) R s := by
  refine X.code (fun _ _ => rfl) ?_
  show wpE _ (A.deeper env) (do PySem.point; match ← (execs body env).onRaise (leaving env) with | .ret v => ret v | _ => ret .none) _ _ s
  refine X.bindG (G.point (G.bind (X.onRaise (X.mono h (fun f s' h' => ?_) fun e s' h' => ?_))))
  · cases f <;> exact G.pure h'
  · exact h'
end
/-- what a walk leaves: the same run with a heap that evolved -/
inductive OkT {α : Type} (g : Cfg) (B : Bm) (s : Shared) (p' : Pl) (P : Bm → α → Prop) (v : α) : Shared → Prop
  | mk {B' : Bm} {h' : Heap} {tk : Nat} (x : Evo g B s.heap p' B' h') (r : P B' v) (t : 1 ≤ tk) : OkT g B s p' P v (upd s h' tk)
noncomputable abbrev Ok (g : Cfg) (B : Bm) (s : Shared) (p' : Pl) (r : PV) : Value → Shared → Prop := OkT g B s p' fun B v => Rd g B v r
noncomputable abbrev OkL (g : Cfg) (B : Bm) (s : Shared) (p' : Pl) (r : List PV) : List Value → Shared → Prop := OkT g B s p' fun B v => RdL g B v r
noncomputable abbrev OkB (g : Cfg) (B : Bm) (s : Shared) (p' : Pl) (b : Bool) : Bool → Shared → Prop := OkT g B s p' fun _ v => v = b
section
variable {α β : Type} {g : Cfg} {M : Model} {A : Around} {s : Shared} {B : Bm} {p₁ p₂ : Pl} {E : Value → Shared → Prop}
theorem OkT.trans {P : Bm → β → Prop} {v : β} {s' : Shared} {B₁ : Bm} {h₁ : Heap} {tk : Nat} (x : Evo g B s.heap p₁ B₁ h₁) (h : OkT g B₁ (upd s h₁ tk) p₂ P v s') : OkT g B s p₂ P v s' := by
  cases h with
  | mk y r t => exact .mk (s := s) (x.trans y) r t
theorem OkT.to {P : Bm → α → Prop} {t : Sem α} {f : α → Sem β} {Q : β → Shared → Prop} (h : wpE M A t (OkT g B s p₁ P) E s)
    (k : ∀ v B₁ h₁ tk, Evo g B s.heap p₁ B₁ h₁ → P B₁ v → 1 ≤ tk → wpE M A (f v) Q E (upd s h₁ tk)) : wpE M A (t >>= f) Q E s :=
  G.bind (G.mono h fun v s' ok => by
    cases ok with
    | mk x r t => exact k v _ _ _ x r t)
theorem OkT.step {P₁ : Bm → α → Prop} {P₂ : Bm → β → Prop} {t : Sem α} {f : α → Sem β} (h : wpE M A t (OkT g B s p₁ P₁) E s)
    (k : ∀ v B₁ h₁ tk, Evo g B s.heap p₁ B₁ h₁ → P₁ B₁ v → 1 ≤ tk → wpE M A (f v) (OkT g B₁ (upd s h₁ tk) p₂ P₂) E (upd s h₁ tk)) : wpE M A (t >>= f) (OkT g B s p₂ P₂) E s :=
  OkT.to h fun v B₁ h₁ tk x r t => G.mono (k v B₁ h₁ tk x r t) fun _ _ q => q.trans x
theorem OkT.ret {P : Bm → α → Prop} {v : α} (k : Keep B s.heap) (q : PoolAt g p₁ s.heap) (h : P B v) (ht : 1 ≤ s.toks) : OkT g B s p₁ P v s := .mk (Evo.refl k q) h ht
theorem G.leaf {r : PV} {t : Sem Value} (ht : 1 ≤ s.toks) (h : ∀ Q, Res g B s p₁ Q r → wpAny M A t Q No s) : wpG M A t (Ok g B s p₁ r) s :=
  G.toks ht (G.any (h _ fun v B' h' tk x rd ht' => .mk x rd ht'))
theorem G.truthyB {b0 : Heap} {prog : Program} {w : World} {v : Value} {x : PV} {b : Bool} (ht : 1 ≤ s.toks) (K : Kp b0 g B p₁ s.heap) (h : Rd g B v x) (e : truePV x = some b) : wpG (model prog w) A (truthy v) (OkB g B s p₁ b) s :=
  G.toks ht (G.any (truthy_snd K h e fun tk ht' => .mk (Evo.refl K.keep K.pool) rfl ht'))
end
section
variable (b0 : Heap) (g : Cfg) (prog : Program) (w : World) (d : Nat) (c : Act) (call : Orc)
/-- the claim of a word: what the evaluator tells is what the walk gives -/
noncomputable def EvC (e : Expr) (me : E) : Prop := ∀ A s pr B ρ p r p', RoomC d c A → Inv b0 g c pr B ρ p s.heap → 1 ≤ s.toks → ev call me false ρ p = some (r, p') →
  wpG (model prog w) A (eval e c.env) (Ok g B s p' r) s
noncomputable def TrC (e : Expr) (me : E) : Prop := ∀ A s pr B ρ p b p', RoomC d c A → Inv b0 g c pr B ρ p s.heap → 1 ≤ s.toks → ev call me true ρ p = some (.bool b, p') →
  wpG (model prog w) A (isTrue e c.env (eval e c.env)) (OkB g B s p' b) s
/-- a word that is not starred -/
noncomputable def NonStar (e : Expr) : Prop := ∀ es env, starEach (e :: es) env = (false, eval e env) :: starEach es env
noncomputable def EsC (es : List Expr) (mes : Es) : Prop := ∀ A s pos pr B ρ p rs p', RoomC d c A → Inv b0 g c pr B ρ p s.heap → 1 ≤ s.toks → evs call mes ρ p = some (rs, p') →
  wpG (model prog w) A (spliced (backTo pos (starEach es c.env))) (OkL g B s p' rs) s
end
inductive All2 {α β : Type} (R : α → β → Prop) : List α → List β → Prop
  | nil : All2 R [] []
  | cons {x y xs ys} : R x y → All2 R xs ys → All2 R (x :: xs) (y :: ys)
theorem mapO_inv {α β : Type} {f : α → Option β} {x : α} {xs : List α} {ys : List β} (h : mapO f (x :: xs) = some ys) : ∃ y zs, f x = some y ∧ mapO f xs = some zs ∧ ys = y :: zs :=
  let ⟨y, e1, h⟩ := bndS h
  let ⟨zs, e2, h⟩ := bndS h
  ⟨y, zs, e1, e2, (Option.some.inj h).symm⟩
theorem All2.of_mapO {α β : Type} {R : α → β → Prop} {f : α → Option β} : ∀ {xs : List α} {ys : List β}, mapO f xs = some ys → (∀ x y, x ∈ xs → f x = some y → R x y) → All2 R xs ys
  | [], ys, e, h => Option.some.inj e ▸ .nil
  | x :: xs, ys, e, h => let ⟨y, zs, hy, hz, q⟩ := mapO_inv e; q ▸ .cons (h x y List.mem_cons_self hy) (All2.of_mapO hz fun a b m e => h a b (List.mem_cons_of_mem _ m) e)
section
variable {b0 : Heap} {g : Cfg} {prog : Program} {w : World} {d : Nat} {c : Act} {call : Orc}
theorem EsC.of {es : List Expr} {mes : List E} (h : All2 (fun e me => NonStar e ∧ EvC b0 g prog w d c call e me) es mes) : EsC b0 g prog w d c call es (toEs mes) := by
  induction h with
  | nil =>
    intro A s pos pr B ρ p rs p' R I ht e
    have e : some (([] : List PV), p) = some (rs, p') := e
    cases e
    exact G.pure (OkT.ret I.keep I.pool RdL.nil ht)
  | cons h _ ih =>
    intro A s pos pr B ρ p rs p' R I ht e
    obtain ⟨x, e1, e⟩ := bndS e
    obtain ⟨xs, e2, e⟩ := bndS e
    have e : some (x.1 :: xs.1, xs.2) = some (rs, p') := e
    cases e
    rw [h.1]
    refine OkT.step (h.2 A s pr B ρ p _ _ R I ht e1) fun v B₁ h₁ tk X rv ht1 => ?_
    refine G.bind (G.pure ?_)
    refine OkT.step (G.holding (ih A _ pos pr B₁ ρ x.2 _ _ R (I.evo X) ht1 e2)) fun vs B₂ h₂ tk2 X2 rvs ht2 => ?_
    exact G.pure (OkT.ret X2.keep X2.pool (RdL.cons (rv.mono X2.mono) rvs) ht2)
theorem args_plain : ∀ {es : List Expr} {pos : Pos} {env : Env}, (∀ e ∈ es, NonStar e) → (backTo pos (starEach es env)).any (·.1) = false
  | [], _, _, _ => rfl
  | e :: es, pos, env, h => by rw [h e List.mem_cons_self]; exact args_plain (es := es) fun e m => h e (List.mem_cons_of_mem _ m)
theorem args_len : ∀ {es : List Expr} {pos : Pos} {env : Env}, (∀ e ∈ es, NonStar e) → (backTo pos (starEach es env)).length = es.length
  | [], _, _, _ => rfl
  | e :: es, pos, env, h => by rw [h e List.mem_cons_self]; exact congrArg (· + 1) (args_len (es := es) fun e m => h e (List.mem_cons_of_mem _ m))
theorem G.evalArgs {M : Model} {A : Around} {s : Shared} {E : Value → Shared → Prop} {f : Value} {args : List (Bool × Sem Value)} {Q : Args → Shared → Prop} (hp : args.any (·.1) = false) (h : wpE M A (spliced args) (fun vs s' => Q ⟨vs, []⟩ s') E s) :
    wpE M A (PySem.evalArgs f true args []) Q E s := by
  unfold PySem.evalArgs
  cases args with
  | nil =>
    refine G.bind (m := spliced []) (G.mono h fun vs s' h' => G.bind (G.pure ?_))
    exact G.holding (G.bind (G.pure (G.bind (G.pure (G.pure h')))))
  | cons x rest =>
    obtain ⟨st, x⟩ := x
    cases st with
    | true => exact nomatch hp
    | false =>
      refine G.bind (m := spliced ((false, x) :: rest)) (G.mono h fun vs s' h' => G.bind (G.pure ?_))
      exact G.holding (G.bind (G.pure (G.bind (G.pure (G.pure h')))))
/-- a value that can be called -/
noncomputable def Calm (f : Value) (s : Shared) : Prop := ∀ M A (Q : Keeper → Shared → Prop), (∀ k, Q k s) → wpAny M A (keeperOf f) Q No s
theorem G.callWith {M : Model} {A : Around} {s : Shared} {E : Value → Shared → Prop} {pos : Pos} {f : Value} {first : List Value} {args : List (Bool × Sem Value)} {Q : Value → Shared → Prop} (hp : args.any (·.1) = false)
    (h : wpE M A (spliced args) (fun vs s' => Calm f s' ∧ wpE M A (PySem.call f (first ++ vs)) Q E s') E s) : wpE M A (PySem.callWith pos f first args []) Q E s := by
  unfold PySem.callWith
  refine G.bind (G.holding (G.evalArgs hp (G.mono h fun vs s' hh => ?_)))
  refine g_stand ?_
  rw [hp]
  have tail : ∀ {t : Sem Value}, wpE M A t Q E s' → wpE M A (t >>= fun r => PySem.holding [r] PySem.point >>= fun _ => Pure.pure r) Q E s' :=
    fun ht => G.bind (G.mono ht fun r s₂ hr => G.bind (G.holding (G.point (G.pure hr))))
  refine X.bindG (G.any (hh.1 M A _ fun k => ?_))
  cases k with
  | frame => exact G.ite (fun _ => tail hh.2) fun _ => tail (G.keep hh.2)
  | boundFrame => exact G.ite (fun _ => tail hh.2) fun _ => tail (G.keep hh.2)
  | machine => exact tail hh.2
  | caller => exact tail (G.operate hh.2)
theorem Calm.builtin (id : String) (s : Shared) : Calm (.builtin id) s := fun M A Q h => wpAny_pure (h _)
theorem Calm.type (id : String) (s : Shared) : Calm (.type id) s := fun M A Q h => wpAny_pure (h _)
theorem Calm.func {a : Addr} {s : Shared} {o : Obj} {fd : FuncData} (h1 : s.heap.get? a = some o) (h2 : o.data = .func fd) : Calm (.ref a) s := fun M A Q h => by
  unfold keeperOf
  refine wpAny_bind (wpAny_load h1 ?_)
  rw [h2]
  exact wpAny_pure (h _)
end
theorem utf8Of_len (c : Nat) : (Str.utf8Of c).length ≤ 4 := by
  unfold Str.utf8Of
  split
  · simp
  · split
    · simp
    · split <;> simp
theorem foldl_size : ∀ (l : List Nat) (acc : Array UInt8), (l.foldl (fun acc y => acc ++ (Str.utf8Of y).toArray) acc).size ≤ acc.size + 4 * l.length
  | [], acc => by simp
  | c :: l, acc => by
    rw [List.foldl_cons]
    have h1 := foldl_size l (acc ++ (Str.utf8Of c).toArray)
    have h2 := utf8Of_len c
    have e : (acc ++ (Str.utf8Of c).toArray).size = acc.size + (Str.utf8Of c).length := by simp
    rw [e] at h1
    rw [List.length_cons]
    omega
theorem iteN {α : Sort _} {c : Prop} [Decidable c] {a b r : α} (h : ¬ c) (e : b = r) : (if c then a else b) = r := (if_neg h).trans e
theorem iteP {α : Sort _} {c : Prop} [Decidable c] {a b r : α} (h : c) (e : a = r) : (if c then a else b) = r := (if_pos h).trans e
theorem loop_gen {σ : Type} {n : Nat} {s0 s1 : σ} {f : Nat → σ → Sem (ForInStep σ)} (h0 : n = 0 → s0 = s1) (h1 : 0 < n → f 0 s0 = pure (.yield s1)) (h2 : ∀ j, f j s1 = pure (.done s1)) : (forIn [:n] s0 f : Sem σ) = pure s1 := by
  rw [Std.Legacy.Range.forIn_eq_forIn_range']
  have hr : [:n].size = n := by simp [Std.Legacy.Range.size]
  rw [hr]
  cases n with
  | zero => rw [h0 rfl]; rfl
  | succ n =>
    show (forIn (0 :: List.range' 1 n) s0 f : Sem σ) = _
    rw [List.forIn_cons, h1 (Nat.succ_pos n), pure_bind]
    show (forIn (List.range' 1 n) s1 f : Sem σ) = _
    cases n with
    | zero => rfl
    | succ n => 
      show (forIn (1 :: List.range' 2 n) s1 f : Sem σ) = _
      rw [List.forIn_cons, h2, pure_bind]
section
variable {b0 : Heap} {g : Cfg} {B : Bm} {p : Pl} {prog : Program} {w : World} {A : Around} {E : Value → Shared → Prop} {s : Shared}
/-- the octets of a text -/
noncomputable abbrev octs (x : Str) : Array UInt8 := x.cps.foldl (fun acc y => acc ++ (Str.utf8Of y).toArray) #[]
theorem octs_size {x : Str} (hx : x.cps.size ≤ lim) : (octs x).size ≤ sizeLine := by
  have h1 : (octs x).size ≤ 4 * x.cps.size := by
    unfold octs
    rw [← Array.foldl_toList]
    exact Nat.le_trans (foldl_size x.cps.toList #[]) (by rw [Array.length_toList]; exact Nat.le_of_eq (Nat.zero_add _))
  exact Nat.le_trans h1 (Nat.le_trans (Nat.mul_le_mul_left 4 hx) (by unfold sizeLine; decide))
theorem utf8_bad {x : Str} (hs : x.cps.all (fun c => !Str.isSurrogate c) = true) : ∀ c ∈ x.cps, Builtin._codecs.utf8Codec.bad c = false := fun c m => (Bool.not_eq_true' _).mp (Array.all_eq_true'.mp hs c m)
theorem clean_eq {x : Str} (hb : ∀ c ∈ x.cps, Builtin._codecs.utf8Codec.bad c = false) : ((x.cps.extract 0 x.cps.size).findIdx? Builtin._codecs.utf8Codec.bad).getD (x.cps.extract 0 x.cps.size).size = x.cps.size := by
  rw [Array.extract_size, Array.findIdx?_eq_none_iff.mpr hb]; rfl
theorem narrow {x : Str} {self : Value} {Q : Array UInt8 → Shared → Prop} (hx : x.cps.size ≤ lim) (hs : x.cps.all (fun c => !Str.isSurrogate c) = true)
    (hQ : Q (octs x) s) : wpAny (model prog w) A (Builtin._codecs.encodeNarrow "str.encode" Builtin._codecs.utf8Codec none self x) Q E s := by
  unfold Builtin._codecs.encodeNarrow
  have hb := utf8_bad hs
  refine wpAny_bind (wpAny_of_eq (loop_gen (s1 := (x.cps.size, octs x, {})) (fun h => ?_) (fun h => ?_) fun j => ?_) (wpAny_pure hQ))
  · have h : x.cps.size = 0 := h
    unfold octs
    rw [Array.eq_empty_of_size_eq_zero h]; rfl
  · have hc : x.cps[0]? = some x.cps[0] := Array.getElem?_eq_getElem h
    have hl := clean_eq hb
    exact iteN (Nat.not_lt.mpr (Nat.zero_le _)) (hc ▸ iteP (by rw [hb _ (Array.getElem_mem h)]; rfl) (congrArg (fun q => (Pure.pure (ForInStep.yield q) : Sem (ForInStep (Nat × Array UInt8 × Builtin._codecs.Faults)))) (by rw [hl, Nat.zero_add, Array.extract_size, Array.extract_size]; rfl)))
  · have hc : x.cps[x.cps.size]? = none := Array.getElem?_eq_none (Nat.le_refl _)
    exact iteN (Nat.not_lt.mpr (octs_size hx)) (hc ▸ rfl)
theorem enc_bind (v : Value) : Builtin.Str.bindOptional "str.encode" "encode" 0 ["encoding", "errors"] [v] [] = pure [some v, none] := by kernel_rfl
theorem enc_arg (u : Tok) : Builtin.Str.codecArg "str.encode" "encode" "'encoding'" (some (.str (Str.ofString "utf-8") u)) = pure (some (Str.ofString "utf-8")) := by
  unfold Builtin.Str.codecArg
  show (Builtin.Str.strArg _ _ _ (.str (Str.ofString "utf-8") u) >>= _) = _
  have : Builtin.Str.strArg "str.encode" "encode" "'encoding'" (.str (Str.ofString "utf-8") u) = pure (Str.ofString "utf-8") := rfl
  rw [this, pure_bind]
  have e1 : ((Str.ofString "utf-8").cps.any fun x => decide (x ≥ 128)) = false := by decide +kernel
  have e2 : (Str.ofString "utf-8").cps.contains 0 = false := by decide +kernel
  rw [e1, e2]
  rfl
theorem encode_call {x : Str} {t u : Tok} {Q : Value → Shared → Prop} (hx : x.cps.size ≤ lim) (hs : x.cps.all (fun c => !Str.isSurrogate c) = true)
    (hQ : ∀ t tk, Q (.bytes (octs x) t) { s with toks := tk }) : wpAny (model prog w) A (call (.builtin "str.encode") [.str x t, .str (Str.ofString "utf-8") u]) Q E s := by
  refine wpAny_call_entry F.slot_str_encode (typeIs_str _ _ _) F.entry_str_encode ?_ (F.args_str_encode_2 _ _)
  unfold Builtin.«str.encode»
  refine W.e (a := (.str x t, x, [.str (Str.ofString "utf-8") u])) rfl ?_
  dsimp only
  refine W.e (enc_bind _) ?_
  dsimp only
  refine W.e (enc_arg u) ?_
  refine W.e (a := none) rfl ?_
  show wpAny _ _ (Builtin._codecs.encodeRoad "str.encode" (.str x t) x (Str.ofString "utf-8") none >>= _) _ _ s
  rw [encodeRoad_utf8]
  refine wpAny_bind (wpAny_bind (narrow hx hs ?_))
  exact wpAny_mkBytes (wpAny_pure ⟨_, rfl, hQ _ _⟩) (octs_size hx)
end
theorem sl_no_index : typeLookup (.type "slice") "__index__" = pure none := by rw [typeLookup_type, builtinLookup_eq_fast]; kernel_rfl
theorem sliced_cut (b : Array UInt8) (l h : Option Int) : Builtin.Bytes.sliced b ((l.elim 0 (clipAt b.size) : Nat) : Int) ((h.elim b.size (clipAt b.size) : Nat) : Int) 1 = (cut b.toList l h).toArray := by
  unfold Builtin.Bytes.sliced cut
  rw [sliceRange_one, pick_run, Array.length_toList]
section
variable {prog : Program} {w : World} {A : Around} {E : Value → Shared → Prop} {s : Shared} {Q : Value → Shared → Prop}
noncomputable def rawOf : Option Int → Value
  | none => .none
  | some i => rawInt i
theorem sl_part {x : Value} {l : Option Int} {M : Model} {Q : Value → Shared → Prop} (px : PySem.IsPart x l) (h : Q (rawOf l) s) : wpAny M A (do
    if x == .none then return .none
    if (← specialOf x "__index__").isNone then
      rule "bytes.slice.part-no-index"; raiseError "TypeError" "slice indices must be integers or None or have an __index__ method"
    return rawInt (← asIndex x) : Sem Value) Q E s := by
  cases px with
  | none => exact wpAny_pure h
  | int i t =>
    show wpAny M A (do
      if (← specialOf (.int i t) "__index__").isNone then
        rule "bytes.slice.part-no-index"; raiseError "TypeError" "slice indices must be integers or None or have an __index__ method"
      return rawInt (← asIndex (.int i t)) : Sem Value) Q E s
    refine W.b (fun _ q => wpAny_specialOf (name := Str.ofString "__index__") (typeIs_int s i t) F.slot_int_index.lookup q) ?_
    exact wpAny_pure h
theorem sl_parts {x y : Value} {sa : Addr} {l h : Option Int} {M : Model} {Q : Value × Value × Value → Shared → Prop} (px : PySem.IsPart x l) (py : PySem.IsPart y h) (hs : s.heap.get? sa = some { cls := .type "slice", data := .fields #[x, y, .none] })
    (hQ : Q (rawOf l, rawOf h, .none) s) : wpAny M A (Builtin.Bytes.sliceParts (.ref sa)) Q E s := by
  unfold Builtin.Bytes.sliceParts
  refine W.b (fun _ q => wpAny_field (x := .none) hs rfl rfl q) ?_
  refine W.b (fun _ q => sl_part .none q) ?_
  show wpAny M A (if (Value.none == rawInt 0) = true then _ else _) Q E s
  refine bm_if_false rfl ?_
  refine W.b (fun _ q => wpAny_field (x := x) hs rfl rfl q) ?_
  refine W.b (fun _ q => sl_part px q) ?_
  refine W.b (fun _ q => wpAny_field (x := y) hs rfl rfl q) ?_
  refine W.b (fun _ q => sl_part py q) ?_
  exact wpAny_pure hQ
theorem sl_indices {l h : Option Int} {n : Nat} : PySem.sliceIndices (rawOf l) (rawOf h) .none n = pure (((l.elim 0 (clipAt n) : Nat) : Int), ((h.elim n (clipAt n) : Nat) : Int), 1) := by
  cases l with
  | none =>
    cases h with
    | none => rfl
    | some j => show _ = pure (((0 : Nat) : Int), ((clipAt n j : Nat) : Int), (1 : Int)); rw [clipAt_cast]; rfl
  | some i =>
    cases h with
    | none => show _ = pure (((clipAt n i : Nat) : Int), (n : Int), (1 : Int)); rw [clipAt_cast]; rfl
    | some j => show _ = pure (((clipAt n i : Nat) : Int), ((clipAt n j : Nat) : Int), (1 : Int)); rw [clipAt_cast, clipAt_cast]; rfl
theorem bytes_slice {b : Array UInt8} {t : Tok} {x y : Value} {sa : Addr} {l h : Option Int} (hb : b.size ≤ lim) (px : PySem.IsPart x l) (py : PySem.IsPart y h) (hs : s.heap.get? sa = some { cls := .type "slice", data := .fields #[x, y, .none] })
    (hQ : ∀ t tk, Q (.bytes (cut b.toList l h).toArray t) { s with toks := tk }) : wpAny (model prog w) A (getItem (.bytes b t) (.ref sa)) Q E s := by
  refine wpAny_getItem_slot (typeIs_bytes s b t) (by decide) FB.slot_bytes_getitem ?_
  refine wpAny_call_entry FB.slot_bytes_getitem (typeIs_bytes s b t) FB.entry_bytes_getitem ?_ (FB.args_bytes_getitem_2 _ _)
  unfold Builtin.«bytes.__getitem__»
  refine W.e (a := (.bytes b t, [.ref sa])) rfl ?_
  dsimp only
  refine W.e (a := b) rfl ?_
  refine wpAny_bind (m := Builtin.Bytes.subscript? (.ref sa)) ?_
  · unfold Builtin.Bytes.subscript?
    refine W.b (fun _ q => wpAny_specialOf (T := "slice") ⟨_, hs, rfl⟩ sl_no_index q) ?_
    refine bm_if_true rfl ?_
    refine wpAny_pure ?_
    dsimp only
    refine W.b (fun _ q => wpAny_typeOf (T := "slice") ⟨_, hs, rfl⟩ q) ?_
    refine bm_if_false (by decide +kernel) ?_
    refine W.b (fun _ q => sl_parts px py hs q) ?_
    dsimp only
    refine W.e sl_indices ?_
    dsimp only
    have fin : wpAny (model prog w) A.in1 (do ret (← mkBytes (Builtin.Bytes.sliced b ((l.elim 0 (clipAt b.size) : Nat) : Int) ((h.elim b.size (clipAt b.size) : Nat) : Int) 1))) (fun fin s' => ∃ v, fin = .done (.ret v) ∧ Q v s') E s := by
      rw [sliced_cut]
      refine wpAny_bind (wpAny_mkBytes (wpAny_pure ⟨_, rfl, hQ _ _⟩) ?_)
      rw [List.size_toArray]
      have : (cut b.toList l h).length ≤ b.toList.length := by
        unfold cut; rw [List.length_take, List.length_drop]; omega
      rw [Array.length_toList] at this
      exact Nat.le_trans this (Nat.le_trans hb lim_line)
    split
    · rename_i hw
      simp only [Bool.and_eq_true, beq_iff_eq] at hw
      refine W.b (fun _ q => wpAny_typeOf (typeIs_bytes s b t) q) ?_
      refine bm_if_true (by decide +kernel) ?_
      refine W.b (fun _ q => wpAny_rule q) ?_
      have hc : (cut b.toList l h).toArray = b := by
        unfold cut
        obtain ⟨⟨⟨h1, _⟩, h2⟩, _⟩ := hw
        rw [Array.length_toList]
        have h1 : l.elim 0 (clipAt b.size) = 0 := by omega
        have h2 : h.elim b.size (clipAt b.size) = b.size := by omega
        rw [h1, h2, List.drop_zero, Nat.sub_zero, List.take_of_length_le (by rw [Array.length_toList]; exact Nat.le_refl _), Array.toArray_toList]
      exact wpAny_bind (wpAny_pure (wpAny_pure ⟨_, rfl, hc ▸ hQ t s.toks⟩))
    · exact fin
end
noncomputable def tiVal : TI → Value
  | .int => .type "int" | .str => .type "str" | .bytes => .type "bytes"
noncomputable def methStr : MI → Str
  | .join => "join" | .find => "find" | .split => "split" | .lower => "lower" | .encode => "encode" | .takes => "takes"
noncomputable def methBlt : MI → String
  | .join => "str.join" | .find => "str.find" | .split => "str.split" | .lower => "str.lower" | .encode => "str.encode" | .takes => ""
section
variable {b0 : Heap} {g : Cfg} {B : Bm} {p : Pl} {prog : Program} {w : World} {A : Around} {E : Value → Shared → Prop} {s : Shared} {Q : Value → Shared → Prop}
theorem methName_ok {f : Str} {mi : MI} (h : methId f = some mi) : f = methStr mi := by
  unfold methId methNames at h
  have : ∀ (l : List (Str × MI)), (∀ x ∈ l, x.1 = methStr x.2) → l.lookup f = some mi → f = methStr mi := fun l hl e => by
    have := mem_of_lookup e
    exact hl _ this
  refine this _ (fun x hx => ?_) h
  simp only [List.map_cons, List.map_nil, List.mem_cons, List.not_mem_nil, or_false] at hx
  rcases hx with rfl | rfl | rfl | rfl | rfl | rfl <;> decide +kernel
/-- the method of a text is found -/
theorem str_getMethod {mi : MI} {x : Str} {t : Tok} {pl : Sem Bool} {Q : Value × List Value → Shared → Prop} (hm : mi ≠ .takes) (h : Q (.builtin (methBlt mi), [.str x t]) s) : wpAny (model prog w) A (getMethod (.str x t) (methStr mi) pl) Q E s := by
  cases mi
  · exact GM.join h
  · exact GM.find h
  · exact GM.split h
  · exact GM.lower h
  · exact GM.of (.str x t) (typeIs_str _ _ _) F.slot_str_encode F.type_str_encode GM.noRef h
  · exact absurd rfl hm
theorem RdL.toStrs : ∀ {vs : List Value} {xs : List PV} {ss : List Str}, RdL g B vs xs → strsOf xs = some ss → ∃ l : List (Str × Tok), vs = strValues l ∧ l.map (·.1) = ss
  | [], [], ss, h, e => ⟨[], rfl, Option.some.inj e⟩
  | _ :: _, [], is, h, e => nomatch h.1
  | [], _ :: _, is, h, e => nomatch h.1
  | v :: vs, x :: r, ss, h, e => h.head.strC e (fun y t e => by
      obtain ⟨l, e', q⟩ := Option.map_eq_some_iff.mp e
      obtain ⟨l', e1, e2⟩ := RdL.toStrs h.tail e'
      exact ⟨(y, t) :: l', e1 ▸ rfl, q ▸ e2 ▸ rfl⟩) noneN
theorem RdL.of_strs : ∀ (l : List (Str × Tok)), RdL g B (strValues l) ((l.map (·.1)).map .str)
  | [] => RdL.nil
  | (x, t) :: l => RdL.cons (.str x t) (RdL.of_strs l)
theorem lower_names : ∀ x ∈ lowNames, Txt.lower x = x ∧ Builtin.Str.tooLong (Txt.lower x).length = false := by decide +kernel
theorem split_call {x y : Str} {t u : Tok} (hy : (y.length == 0) = false) (hx : x.length ≤ sizeLine) (hn : (Txt.split x y).length ≤ sizeLine)
    (hQ : ∀ l tk, l.map (·.1) = Txt.split x y → Q (.ref s.heap.objs.size) { s with heap := s.heap.push { cls := .type "list", data := .seq (strValues l).toArray }, toks := tk }) : wpAny (model prog w) A (call (.builtin "str.split") [.str x t, .str y u]) Q E s := by
  cases h1 : (decide (x.length < y.length) || decide (Builtin.Str.strKind x < Builtin.Str.strKind y))
  · cases hf : (Builtin.Str.occurrences x y 0 x.length (x.length + 1)).isEmpty
    · have hs : Txt.split x y = Builtin.Str.partsBetween x (Builtin.Str.occurrences x y 0 x.length (x.length + 1)) y.length := by
        unfold Txt.split; rw [if_neg (ne_true_of_eq_false h1), if_neg (ne_true_of_eq_false hf)]
      refine call_meets F.slot_str_split (typeIs_str _ _ _) F.entry_str_split (F.args_str_split_2 _ _) (meets_str_split_sep x y t u h1 hy hf hx (hs ▸ hn)) ?_
      show wants Q E _ { s with toks := _, heap := s.heap.push { cls := .type "list", data := .seq (strsFrom s.toks (Builtin.Str.partsBetween x (Builtin.Str.occurrences x y 0 x.length (x.length + 1)) y.length)).toArray } }
      rw [strsFrom_eq]
      exact hQ _ _ ((numbered_texts _ _).trans hs.symm)
    · refine call_meets F.slot_str_split (typeIs_str _ _ _) F.entry_str_split (F.args_str_split_2 _ _) (meets_str_split_not_found x y t u h1 hy hf) ?_
      exact hQ [(x, t)] s.toks ((if_neg (ne_true_of_eq_false h1)).trans (if_pos hf)).symm
  · refine call_meets F.slot_str_split (typeIs_str _ _ _) F.entry_str_split (F.args_str_split_2 _ _) (meets_str_split_cannot_occur x y t u h1) ?_
    exact hQ [(x, t)] s.toks (if_pos h1).symm
theorem methOp_snd {mi : MI} {v : Value} {x : PV} {vs : List Value} {xs : List PV} {r : PV} (K : Kp b0 g B p s.heap) (ho : Rd g B v x) (ha : RdL g B vs xs) (e : methOp mi x xs = some r) (R : Res g B s p Q r) :
    wpAny (model prog w) A (call (.builtin (methBlt mi)) ([v] ++ vs)) Q E s :=
  ho.strC e (fun y t e => by
    cases mi with
    | join => exact ha.oneC e fun u z h e => h.listC e (fun a us n zs hl hll e => by
        obtain ⟨ss, e1, e⟩ := bndS e
        obtain ⟨l, hv, hm⟩ := hll.toStrs e1
        exact SC.join (l := l) (texts := ss) (by rw [← hv, Array.toArray_toList]; exact (K.isL hl).isList) hm (grdP e) fun t' k => R.nowE K (grdE e) (.str _ t') k) noneN
    | find => exact ha.oneC e fun u z h e => h.strC e (fun y2 t2 e => SC.find (R.nowE K (grdE e) (.int _ _) _)) noneN
    | split => exact ha.oneC e fun u z h e => h.strC e (fun y2 t2 e => split_call (by rw [beq_eq_false_iff_ne]; exact (grdP e).2.1) (Nat.le_trans (grdP e).1 lim_line) (Nat.le_trans (grdP e).2.2 lim_line) fun l tk hl =>
        R.allocE K (grdE e) _ rfl (Rd.newList K.fresh (by rw [← hl]; exact RdL.of_strs l)) tk) noneN
    | lower =>
      cases xs with
      | cons _ _ => exact noneN e
      | nil =>
        rw [ha.nil_inv]
        obtain ⟨h1, h2⟩ := lower_names _ (List.contains_iff_mem.mp (grdP e))
        exact SC.lower h2 (by rw [h1]; exact R.nowE K (grdE e) (.str _ _) _)
    | encode => exact ha.oneC e fun u z h e => h.strC e (fun y2 t2 e => (grdP e).1 ▸ encode_call (grdP e).2.1 (grdP e).2.2 fun t k => R.nowE K (grdE e) (.bytes _ t) k) noneN
    | takes => exact noneN e) noneN
theorem repl_snd {x y z : Str} {t u v : Tok} (hx : x.cps.size ≤ 1000) (hz : z.cps.size ≤ 10) (hyz : y ≠ z) (hu : u ≠ 0) (hv : v ≠ 0) (huv : u ≠ v) (h : ∀ t' tk, Q (.str (Txt.replace x y z) t') { s with toks := tk }) :
    wpAny (model prog w) A (call (.builtin "str.replace") [.str x t, .str y u, .str z v]) Q E s :=
  SC.replaceW hu hv huv (by rw [beq_eq_false_iff_ne]; exact hyz) (by unfold Str.length; omega) (by unfold Str.length; omega) h
theorem repl_getMethod {x : Str} {t : Tok} {pl : Sem Bool} {Q : Value × List Value → Shared → Prop} (h : Q (.builtin "str.replace", [.str x t]) s) : wpAny (model prog w) A (getMethod (.str x t) "replace" pl) Q E s :=
  GM.of (.str x t) (typeIs_str _ _ _) F.slot_str_replace F.type_str_replace GM.noRef h
theorem isinstance_false_bytes {n : Array UInt8} {u : Tok} {T : String} (hne : (Value.type "bytes" == Value.type T) = false) (hty : typeOf (.type T) = pure (.type "type")) (hsub : isSubtype (.type "bytes") (.type T) = pure false) :
    Meets (Builtin.«isinstance» ⟨[.bytes n u, .type T], []⟩) (fun _ R s => R (.ok (.ret (.bool false))) { s with toks := s.toks + 1 }) :=
  fun _ _ _ _ s hs => by
    obtain ⟨h, g, d, t, os⟩ := s
    exact isinstance_outer (isinstance_nested_false_bytes hne hty hsub hs)
theorem sub_bytes_bytes' : isSubtype (.type "bytes") (.type "bytes") = pure true := by rw [isSubtype_type]; kernel_rfl
theorem isi_snd {v : Value} {x : PV} {t : TI} {b : Bool} (K : Kp b0 g B p s.heap) (ho : Rd g B v x) (e : isiOp t x = some b) (R : Res g B s p Q (.bool b)) :
    wpAny (model prog w) A (call (.builtin "isinstance") [v, tiVal t]) Q E s := by
  have now : ∀ {z : Bool} tk, some z = some b → Q (.bool z) { s with toks := tk } := fun tk e => Option.some.inj e ▸ R.now K (.bool b) tk
  cases t with
  | int => exact ho.intC e (fun _ _ e => IsiPair.int_int (now s.toks e)) fun e => ho.strC e (fun _ _ e => IsiPair.str_int (now _ e)) fun e => ho.bytesC e (fun _ _ e => call_isinstance (isinstance_false_bytes (by decide +kernel) F.isi_meta_int F.sub_bytes_int) (now _ e)) noneN
  | str => exact ho.intC e (fun _ _ e => IsiPair.int_str (now _ e)) fun e => ho.strC e (fun _ _ e => IsiPair.str_str (now s.toks e)) fun e => ho.bytesC e (fun _ _ e => call_isinstance (isinstance_false_bytes (by decide +kernel) F.isi_meta_str sub_bytes_str) (now _ e)) noneN
  | bytes => exact ho.intC e (fun _ _ e => IsiPair.int_bytes (now _ e)) fun e => ho.strC e (fun _ _ e => IsiPair.str_bytes (now _ e)) fun e => ho.bytesC e (fun _ _ e => call_isinstance (isinstance_true (Tx := "bytes") F.isi_meta_bytes sub_bytes_bytes') ⟨rfl, now s.toks e⟩) noneN
theorem neg_snd {v : Value} {x r : PV} (K : Kp b0 g B p s.heap) (ho : Rd g B v x) (e : negOp x = some r) (R : Res g B s p Q r) : wpAny (model prog w) A (unaryOp .USub v) Q E s :=
  ho.intC e (fun i t e => P.neg_int (R.nowE K e (.int _ _) _)) noneN
theorem native {v : Value} {T id : String} {Q : Bool → Shared → Prop} (hT : s.TypeIs v T) (hl : typeLookup (.type T) "__getitem__" = pure (some (.builtin id))) (h : Q false s) : wpAny (model prog w) A (getitemInPython v) Q E s := by
  unfold getitemInPython
  exact wpAny_bind (wpAny_specialOf hT hl (wpAny_pure h))
theorem idxOf_seq {n : Nat} {i : Int} {k : Nat} (e : idxOf n i = some k) : seqIndex? i n = some k := by
  unfold idxOf at e
  unfold seqIndex?
  by_cases h0 : 0 ≤ i
  · rw [if_pos h0] at e
    split at e
    · rename_i hi
      rw [if_neg (Int.not_lt.mpr h0)]
      exact iteP (by rw [Bool.and_eq_true, decide_eq_true_eq, decide_eq_true_eq]; exact ⟨h0, hi⟩) e
    · exact noneN e
  · rw [if_neg h0] at e
    split at e
    · rename_i hi
      rw [if_pos (Int.not_le.mp h0)]
      exact iteP (by rw [Bool.and_eq_true, decide_eq_true_eq, decide_eq_true_eq]; exact ⟨hi, by omega⟩) e
    · exact noneN e
theorem idxOf_nn {n : Nat} {i : Int} {k : Nat} (h0 : 0 ≤ i) (e : idxOf n i = some k) : i < n ∧ i.toNat = k := by
  unfold idxOf at e
  rw [if_pos h0] at e
  by_cases h : i < n
  · rw [if_pos h] at e; exact ⟨h, Option.some.inj e⟩
  · rw [if_neg h] at e; exact noneN e
theorem idxOf_neg {n : Nat} {i : Int} {k : Nat} (h0 : ¬ 0 ≤ i) (e : idxOf n i = some k) : 0 ≤ i + n ∧ (i + n).toNat = k := by
  unfold idxOf at e
  rw [if_neg h0] at e
  by_cases h : 0 ≤ i + n
  · rw [if_pos h] at e; exact ⟨h, Option.some.inj e⟩
  · rw [if_neg h] at e; exact noneN e
theorem idxOf_fit {n : Nat} {i : Int} {k : Nat} (hl : n ≤ lim) (e : idxOf n i = some k) : -(2 ^ 63) ≤ i ∧ i < 2 ^ 63 := by
  unfold lim at hl
  by_cases h0 : 0 ≤ i
  · have := (idxOf_nn h0 e).1; omega
  · have := (idxOf_neg h0 e).1; omega
theorem getAt_inv {α β : Type} {c : Prop} [Decidable c] {n : Nat} {i : Int} {get : Nat → Option α} {f : α → β} {r : β} (e : getAt c n i get f = some r) : c ∧ ∃ k a, idxOf n i = some k ∧ get k = some a ∧ some (f a) = some r := by
  unfold getAt at e
  by_cases h : c
  · rw [if_pos h] at e
    obtain ⟨k, e1, e⟩ := bndS e
    obtain ⟨a, e2, e⟩ := bndS e
    exact ⟨h, k, a, e1, e2, e⟩
  · rw [if_neg h] at e; exact noneN e
theorem intE_inv {α : Type} {f : Int → Option α} {y : PV} {r : α} (e : intE f none y = some r) : ∃ i, f i = some r := by cases y <;> first | exact noneN e | exact ⟨_, e⟩
theorem pool_isL {a : Addr} (K : Kp b0 g B p s.heap) (h : g.P = some a) : ∃ t u, s.heap.IsList a #[.int p.1 t, .int p.2 u] := let ⟨t, u, n, e⟩ := K.pool a h; ⟨t, u, _, e, rfl, n, rfl⟩
theorem idx_snd {v u : Value} {x y r : PV} (K : Kp b0 g B p s.heap) (h1 : Rd g B v x) (h2 : Rd g B u y) (e : idxOp x y p = some r) (R : Res g B s p Q r) : wpAny (model prog w) A (getItem v u) Q E s :=
  h2.intC e (fun i t e =>
    h1.listC e (fun a vs n xs ha hl e => by
      obtain ⟨hc, k, z, ek, ez, er⟩ := getAt_inv e
      obtain ⟨w', ew, rw'⟩ := hl.get ez
      have ew : vs[k]? = some w' := Array.getElem?_toList.symm.trans ew
      obtain ⟨f1, f2⟩ := idxOf_fit hc ek
      by_cases h0 : 0 ≤ i
      · exact wpAny_getItem_list (K.isL ha).isList h0 f2 ((idxOf_nn h0 ek).2 ▸ ew) (R.nowE K er rw' s.toks)
      · exact wpAny_getItem_list_neg (K.isL ha).isList (Int.not_le.mp h0) (by have := (idxOf_neg h0 ek).1; rw [hl.size]; omega) f1 (by rw [hl.size, (idxOf_neg h0 ek).2]; exact ew) (R.nowE K er rw' s.toks)) fun e =>
    h1.tupC e (fun a vs n xs ha hl e => by
      obtain ⟨hc, k, z, ek, ez, er⟩ := getAt_inv e
      obtain ⟨w', ew, rw'⟩ := hl.get ez
      obtain ⟨f1, f2⟩ := idxOf_fit hc ek
      exact P.getItem_tuple (K.keep _ _ ha) f1 f2 (idxOf_seq (by rw [hl.size]; exact ek)) (Array.getElem?_toList.symm.trans ew) (R.nowE K er rw' s.toks)) fun e =>
    h1.strC e (fun x t' e => by
      obtain ⟨hc, k, z, ek, ez, er⟩ := getAt_inv e
      obtain ⟨f1, f2⟩ := idxOf_fit hc ek
      exact P.getItem_str (c := z) (by rw [Bool.or_eq_false_iff]; exact ⟨decide_eq_false (Int.not_lt.mpr f1), decide_eq_false (Int.not_le.mpr f2)⟩) (by rw [show seqIndex? i x.length = some k from idxOf_seq ek]; exact ez) (R.nowE K er (.str _ _) _)) fun e =>
    h1.bytesC e (fun b t' e => by
      obtain ⟨hc, k, z, ek, ez, er⟩ := getAt_inv e
      obtain ⟨hi, hk⟩ := idxOf_nn hc.2 ek
      have hb : b.toList.toArray = b := Array.toArray_toList
      have ec : b.toList.getD i.toNat 0 = z := by rw [hk, List.getD_eq_getElem?_getD, Array.getElem?_toList, ez]; rfl
      exact hb ▸ getItem_bytes (Nat.le_trans (hc.1 : b.size ≤ lim) (by decide)) hc.2 hi (ec ▸ R.nowE K er (.int _ _) _)) fun e =>
    h1.poolC e (fun a hP e => by
      obtain ⟨t1, u1, hL⟩ := pool_isL K hP
      by_cases h0 : i = 0
      · rw [if_pos h0] at e
        exact wpAny_getItem_list hL (by rw [h0]; decide) (by rw [h0]; decide) (by rw [h0]; rfl) (R.nowE K e (.int _ t1) s.toks)
      · rw [if_neg h0] at e
        by_cases h1 : i = 1
        · rw [if_pos h1] at e
          exact wpAny_getItem_list hL (by rw [h1]; decide) (by rw [h1]; decide) (by rw [h1]; rfl) (R.nowE K e (.int _ u1) s.toks)
        · rw [if_neg h1] at e; exact noneN e) noneN) noneN
theorem idx_native {v : Value} {x y r : PV} {Q : Bool → Shared → Prop} (K : Kp b0 g B p s.heap) (h1 : Rd g B v x) (e : idxOp x y p = some r) (h : Q false s) : wpAny (model prog w) A (getitemInPython v) Q E s :=
  let ⟨_, e⟩ := intE_inv e
  h1.listC e (fun a vs n xs ha hl e => native ⟨_, K.isL ha, rfl⟩ slot_list_getitem.lookup h) fun e =>
  h1.tupC e (fun a vs n xs ha hl e => native ⟨_, K.keep _ _ ha, rfl⟩ F.slot_tuple_getitem.lookup h) fun e =>
  h1.strC e (fun x t e => native (typeIs_str _ _ _) F.slot_str_getitem.lookup h) fun e =>
  h1.bytesC e (fun b t e => native (typeIs_bytes s b t) FB.slot_bytes_getitem.lookup h) fun e =>
  h1.poolC e (fun a hP e => let ⟨_, _, _, e3⟩ := K.pool a hP; native ⟨_, e3, rfl⟩ slot_list_getitem.lookup h) noneN
theorem bnd_part {v : Value} {z : PV} {l : Option Int} (h : Rd g B v z) (e : bndOf z = some l) : ∃ q : Option (Int × Tok), v = partValue q ∧ q.map (·.1) = l ∧ PySem.IsPart v l :=
  h.noneC e (fun e => ⟨none, rfl, Option.some.inj e, Option.some.inj e ▸ .none⟩) fun e => h.intC e (fun i t e => ⟨some (i, t), rfl, (grd_inv e).2, (grd_inv e).2 ▸ .int _ _⟩) noneN
theorem str_slice {x : Str} {t : Tok} {sa : Addr} {ql qh : Option (Int × Tok)} (hl : x.cps.size ≤ lim) (hs : s.heap.get? sa = some { cls := .type "slice", data := .fields #[partValue ql, partValue qh, .none] })
    (hQ : ∀ t' k, Q (.str (Txt.slice x (ql.map (·.1)) (qh.map (·.1))) t') { s with toks := k }) : wpAny (model prog w) A (getItem (.str x t) (.ref sa)) Q E s := by
  have h1 : (Txt.slice x (ql.map (·.1)) (qh.map (·.1))).length ≤ sizeLine := Nat.le_trans (Txt.slice_le x _ _) (Nat.le_trans hl lim_line)
  exact wpAny_getItem_str_slice (l := ql) (u := qh) (st := none) ⟨_, hs, rfl, rfl⟩ rfl (post_val_or_str ⟨h1, hQ⟩)
theorem slice_snd {v a b : Value} {x lo hi r : PV} {sa : Addr} (K : Kp b0 g B p s.heap) (h1 : Rd g B v x) (h2 : Rd g B a lo) (h3 : Rd g B b hi) (hs : s.heap.get? sa = some { cls := .type "slice", data := .fields #[a, b, .none] }) (e : sliceOp x lo hi = some r) (R : Res g B s p Q r) :
    wpAny (model prog w) A (getItem v (.ref sa)) Q E s := by
  obtain ⟨l, e1, e⟩ := bndS e
  obtain ⟨h, e2, e⟩ := bndS e
  obtain ⟨ql, rfl, hql, pl⟩ := bnd_part h2 e1
  obtain ⟨qh, rfl, hqh, ph⟩ := bnd_part h3 e2
  exact h1.listC e (fun a vs n xs ha hl e => wpAny_getItem_list_slice (st := none) (K.isL ha).isList ⟨_, hs, rfl, rfl⟩ pl ph .none (fun z => nomatch z) (R.allocE K (grdE e) _ rfl (Rd.newList K.fresh (by
        rw [slicePick_plain]
        have := hl.cut l h
        unfold cut at this ⊢
        rw [Array.length_toList] at this
        exact this)) s.toks) (by rw [hl.size]; exact Nat.le_trans (grdP e) lim_line)) fun e =>
    h1.strC e (fun y t e => str_slice (grdP e) hs fun t' k => R.nowE K (hql ▸ hqh ▸ grdE e) (.str _ t') k) fun e =>
    h1.bytesC e (fun y t e => bytes_slice (grdP e) pl ph hs fun t k => R.nowE K (grdE e) (.bytes _ t) k) noneN
theorem slice_native {v : Value} {x lo hi r : PV} {Q : Bool → Shared → Prop} (K : Kp b0 g B p s.heap) (h1 : Rd g B v x) (e : sliceOp x lo hi = some r) (h : Q false s) : wpAny (model prog w) A (getitemInPython v) Q E s :=
  let ⟨_, _, e⟩ := bndS e
  let ⟨_, _, e⟩ := bndS e
  h1.listC e (fun a vs n xs ha hl e => native ⟨_, K.isL ha, rfl⟩ slot_list_getitem.lookup h) fun e =>
  h1.strC e (fun x t e => native (typeIs_str _ _ _) F.slot_str_getitem.lookup h) fun e =>
  h1.bytesC e (fun b t e => native (typeIs_bytes s b t) FB.slot_bytes_getitem.lookup h) noneN
/-- what the table of ranks answers -/
noncomputable def RanksAt (b0 : Heap) (prog : Program) (w : World) (ra : Addr) : Prop :=
  (∀ (A : Around) (s : Shared) (key : Str) (u : Tok) (n : Int) (Q : Value → Shared → Prop), (∀ a o, b0.get? a = some o → s.heap.get? a = some o) → rankOp (.str key) = some (.int n) → (∀ t tk, Q (.int n t) { s with toks := tk }) →
    wpAny (model prog w) A (getItem (.ref ra) (.str key u)) Q (fun _ _ => False) s) ∧
  (∀ (A : Around) (s : Shared) (Q : Bool → Shared → Prop), (∀ a o, b0.get? a = some o → s.heap.get? a = some o) → Q false s → wpAny (model prog w) A (getitemInPython (.ref ra)) Q (fun _ _ => False) s)
theorem iteC {α : Type} {c C : Prop} [Decidable c] {a d : Option α} {r : α} (e : (if c then a else d) = some r) (H : a = some r → C) (D : d = some r → C) : C := by
  by_cases h : c
  · rw [if_pos h] at e; exact H e
  · rw [if_neg h] at e; exact D e
theorem rankOp_int {k : Str} {r : PV} (e : rankOp (.str k) = some r) : ∃ n, .int n = r :=
  have f : ∀ {n : Int}, some (PV.int n) = some r → ∃ n, .int n = r := fun e => ⟨_, Option.some.inj e⟩
  iteC e f fun e => iteC e f fun e => iteC e f fun e => iteC e f noneN
theorem rank_snd {u : Value} {y r : PV} {ra : Addr} (K : Kp b0 g B p s.heap) (hr : RanksAt b0 prog w ra) (h2 : Rd g B u y) (e : rankOp y = some r) (R : Res g B s p Q r) : wpAny (model prog w) A (getItem (.ref ra) u) Q No s :=
  h2.strC (f := fun k => rankOp (.str k)) (d := none) e (fun k t e => let ⟨n, q⟩ := rankOp_int e; hr.1 A s k t n Q (fun a o q => K.keep a o (K.base a o q)) (q ▸ e) fun t tk => R.nowE K (congrArg some q) (.int _ _) tk) noneN
theorem rank_native {ra : Addr} {Q : Bool → Shared → Prop} (K : Kp b0 g B p s.heap) (hr : RanksAt b0 prog w ra) (h : Q false s) : wpAny (model prog w) A (getitemInPython (.ref ra)) Q No s :=
  hr.2 A s Q (fun a o q => K.keep a o (K.base a o q)) h
end
theorem ba_mro : mroOf (.type "bytearray") = pure [.type "bytearray", .type "object"] := by rw [mroOf_type]; kernel_rfl
theorem ba_lookup_new : typeLookup (.type "bytearray") "__new__" = pure (some (.builtin "bytearray.__new__")) := by rw [typeLookup_type, builtinLookup_eq_fast]; kernel_rfl
theorem ba_slot_init : Slot "bytearray" "__init__" "bytearray.__init__" :=
  .of (owner := "bytearray") (n := "__init__") (by rw [typeLookup_type, builtinLookup_eq_fast]; kernel_rfl) (by decide +kernel) (by decide +kernel) (by decide +kernel)
    (by first | exact .inl (by decide +kernel) | exact .inr (by decide +kernel)) (by rw [isSubtype_type]; kernel_rfl)
theorem ba_called : TypeCalled "bytearray" "bytearray.__new__" "bytearray.__init__" :=
  ⟨by decide +kernel, by decide +kernel, ⟨_, _, ba_mro⟩, madeBy_type ba_mro ba_lookup_new (by decide +kernel), by decide +kernel, by rw [isSubtype_type]; kernel_rfl, ba_slot_init⟩
theorem ba_typeCall : checkTypeCall "bytearray" ⟨[], []⟩ = pure () := by kernel_rfl
theorem ba_newCall : checkBuiltinCall "bytearray.__new__" ⟨[.type "bytearray"], []⟩ = pure () := by kernel_rfl
theorem ba_entry_new : entryFor table "bytearray.__new__" = some Builtin.«list.__new__» := entryFor_alias (id' := "list.__new__") (by kernel_rfl) rfl (by decide +kernel) (by kernel_rfl)
theorem ba_plain_new : plainId "bytearray.__new__" = true := by decide +kernel
theorem ba_entry_init : entryFor table "bytearray.__init__" = some Builtin.«bytearray.__init__» := by first | exact entryFor_of_fast (by kernel_rfl) | exact entryFor_of_tree (by kernel_rfl)
theorem ba_args_init (a : Value) : argsOk "bytearray.__init__" ⟨[a], []⟩ := by unfold argsOk; kernel_rfl
set_option maxHeartbeats 4000000 in
theorem ba_owner : ("bytearray.__new__".splitOn ".__new__").headD "" = "bytearray" := by simp +decide [String.splitOn, String.splitOnAux]
section
variable {prog : Program} {w : World} {A : Around} {E : Value → Shared → Prop} {s : Shared}
theorem code_ba_new {Q₁ : Value → Shared → Prop}
    (h : Q₁ (.ref s.heap.objs.size) { s with heap := s.heap.push { cls := .type "bytearray", data := .bytearray #[] } }) :
    codeAny (model prog w) A (.call (.builtin "bytearray.__new__") ⟨[.type "bytearray"], []⟩) (wants Q₁ E) s := by
  refine codeAny_of_tree ?_
  show wpAny _ A.in1 (do checkBuiltinCall "bytearray.__new__" ⟨[.type "bytearray"], []⟩; again (.builtin "bytearray.__new__" ⟨[.type "bytearray"], []⟩)) _ _ s
  refine wpAny_bind (wpAny_of_eq ba_newCall (wpAny_pure ⟨plainId_quiet ba_plain_new _, codeAny_builtin_stack ba_entry_new rfl fun p st => ?_⟩))
  rw [Around.under_plainId ba_plain_new _]
  have hsub := ba_sub
  have hown := ba_owner
  obtain ⟨hp, g, d, tk, os⟩ := s
  simp only [hown]
  wp_walk
  exact h
theorem ba_release0 : typeLookup (.type "bytearray") "__release_buffer__" = pure (some (.builtin "bytearray.__release_buffer__")) := by rw [typeLookup_type, builtinLookup_eq_fast]; kernel_rfl
theorem ba_bind0 : Builtin.Bytes.bindOptional "bytearray.__init__" "bytearray" ["source", "encoding", "errors"] [] [] = pure [none, none, none] := by kernel_rfl
theorem held_none {Γ : Ctx} {v : Value} {p : Pos} (hc : Clean Γ) : ((Γ.code, p) :: Γ.below).any (heldS v).1 = false :=
  List.any_eq_false.mpr fun x hx => ne_true_of_eq_false ((List.mem_cons.mp hx).elim (fun e => e ▸ hc.1 v p) fun hx => hc.2 x hx v)
theorem g_exported {M : Model} {v : Value} {Q : Bool → Shared → Prop} (h : Q false s) : wpE M A (Builtin.Bytes.exported v) Q E s := fun Γ p hΓ hc =>
  (heldS v).2 M Γ (fun a _ s' => Q a s') _ p s (by rw [held_none hc]; exact h)
end
section
variable {prog : Program} {w : World} {A : Around} {s : Shared} {E : Value → Shared → Prop}
theorem g_callBuiltin {id : String} {args : List Value} {B : Builtin} {T : String} {name : Str} {self : Value} {rest : List Value} {Q : Value → Shared → Prop} (ha : args = self :: rest) (slot : Slot T name id) (entry : entryFor table id = some B) (hT : s.TypeIs self T) (ok : argsOk id ⟨args, []⟩)
    (hnd : notDec (.builtin id ⟨args, []⟩)) (h : wpG (model prog w) A.in1 (B ⟨args, []⟩) (fun fin s' => ∃ v, fin = .done (.ret v) ∧ Q v s') s) : wpG (model prog w) A (call (.builtin id) args) Q s := by
  subst ha
  refine G.call (G.code ?_ (fun _ _ => rfl))
  show wpG _ A.in1 (do checkBuiltinCall id ⟨self :: rest, []⟩; again (.builtin id ⟨self :: rest, []⟩)) _ s
  refine G.b (fun _ q => G.any (slot.check _ _ _ _ _ _ _ _ hT ok q)) ?_
  refine G.pure ⟨plainId_quiet slot.plain _, hnd, G.code ?_ hnd⟩
  show wpG _ _ (match entryFor table id with | some b => b ⟨self :: rest, []⟩ | none => unsupported ((withoutEnding? id "#data").getD id)) _ s
  rw [entry, Around.under_plainId slot.plain _]
  refine G.mono h fun fin s' ⟨v, e, q⟩ => ?_
  subst e
  exact ⟨v, rfl, q⟩
theorem ba_exports {a : Addr} {b : Array UInt8} {Q : Nat → Shared → Prop} (ho : s.heap.get? a = some (barO b)) (h : Q 0 s) : wpAny (model prog w) A (Builtin.Bytes.exportsOf (.ref a)) Q E s := by
  unfold Builtin.Bytes.exportsOf
  refine W.b (fun _ q => wpAny_load ho q) ?_
  exact wpAny_pure h
theorem ba_write {a : Addr} {b : Array UInt8} {f : Array UInt8 → Array UInt8} {Q : Unit → Shared → Prop} (ho : s.heap.get? a = some (barO b)) (hf : (f b).size ≤ sizeLine)
    (h : ∀ h', h'.get? a = some (barO (f b)) → Heap.SameBut a s.heap h' → Q () { s with heap := h' }) : wpAny (model prog w) A (Builtin.Bytes.write (.ref a) f) Q E s := by
  unfold Builtin.Bytes.write
  show wpAny _ _ (updateBytearray a f) Q E s
  unfold updateBytearray
  refine W.b (fun _ q => wpAny_load ho q) ?_
  have e : (s.heap.update a (Obj.mapBytearray f)).get? a = some (barO (f b)) := by
    rw [Heap.get?_update_self _ ho (by rfl)]; rfl
  refine W.b (fun _ q => wpAny_update ho q) ?_
  exact wpAny_lookBehind e (by show (if (f b).size > sizeLine then some "bytearray:memory" else none) = none; rw [if_neg (by omega)]) (h _ e (Heap.SameBut.update ..))
theorem ba_slot_append : Slot "bytearray" "append" "bytearray.append" :=
  .of (owner := "bytearray") (n := "append") (by rw [typeLookup_type, builtinLookup_eq_fast]; kernel_rfl) (by decide +kernel) (by decide +kernel) (by decide +kernel)
    (by first | exact .inl (by decide +kernel) | exact .inr (by decide +kernel)) (by rw [isSubtype_type]; kernel_rfl)
theorem ba_entry_append : entryFor table "bytearray.append" = some Builtin.«bytearray.append» := by first | exact entryFor_of_fast (by kernel_rfl) | exact entryFor_of_tree (by kernel_rfl)
theorem ba_args_append (a b : Value) : argsOk "bytearray.append" ⟨[a, b], []⟩ := by unfold argsOk; kernel_rfl
theorem ba_type_append : typeOf (.builtin "bytearray.append") = pure (.type "method_descriptor") := by kernel_rfl
theorem ba_ga : typeLookup (.type "bytearray") "__getattribute__" = pure (some (.builtin "bytearray.__getattribute__")) := by rw [typeLookup_type, builtinLookup_eq_fast]; kernel_rfl
theorem ba_plain : PlainAttrs "bytearray" := ⟨⟨_, ba_ga, by decide +kernel⟩, by rw [typeLookup_type, builtinLookup_eq_fast]; kernel_rfl⟩
theorem ba_getMethod {a : Addr} {b : Array UInt8} {pl : Sem Bool} {Q : Value × List Value → Shared → Prop} (ho : s.heap.get? a = some (barO b)) (h : Q (.builtin "bytearray.append", [.ref a]) s) : wpAny (model prog w) A (getMethod (.ref a) "append" pl) Q E s :=
  getMethod_builtin (ba_typeIs ho) ba_plain ba_slot_append ba_type_append (fun x e => by cases e; exact ⟨_, ho, rfl⟩) h
theorem ba_byte {k : Int} {t : Tok} {Q : UInt8 → Shared → Prop} (h0 : 0 ≤ k) (h1 : k < 256) (h : Q k.toNat.toUInt8 s) : wpAny (model prog w) A (Builtin.Bytes.byteValue (.int k t)) Q E s := by
  unfold Builtin.Bytes.byteValue
  refine wpAny_bind (m := asIndex (.int k t)) ?_
  · unfold asIndex
    refine wpAny_bind (m := asInt? (.int k t)) (wpAny_of_eq (a := some k) rfl ?_)
    refine wpAny_pure ?_
    have e : (decide (k < 0) || decide (k ≥ 256)) = false := by
      rw [Bool.or_eq_false_iff]; exact ⟨by simpa using h0, by simpa using h1⟩
    rw [e, if_neg Bool.false_ne_true]
    exact wpAny_pure h
theorem ba_nd {a : Value} (b : Value) : notDec (.builtin "bytearray.append" ⟨[a, b], []⟩) := fun v _ => Eq.trans (b := (Builtin.Bytes.sameRef a v && false)) (by kernel_rfl) (Bool.and_false _)
theorem ba_nd0 (a : Value) : notDec (.builtin "bytearray.__init__" ⟨[a], []⟩) := fun v _ => Eq.trans (b := (Builtin.Bytes.sameRef a v && false)) (by kernel_rfl) (Bool.and_false _)
theorem ba_append {a : Addr} {b : Array UInt8} {k : Int} {t : Tok} {Q : Value → Shared → Prop} (ho : s.heap.get? a = some (barO b)) (hb : b.size ≤ lim) (h0 : 0 ≤ k) (h1 : k < 256)
    (h : ∀ h' tk, h'.get? a = some (barO (b.push (UInt8.ofNat k.toNat))) → Heap.SameBut a s.heap h' → Q .none { s with heap := h', toks := tk }) : wpG (model prog w) A (call (.builtin "bytearray.append") [.ref a, .int k t]) Q s := by
  refine g_callBuiltin rfl ba_slot_append ba_entry_append (ba_typeIs ho) (ba_args_append _ _) (ba_nd _) ?_
  unfold Builtin.«bytearray.append»
  show wpG _ _ (Builtin.Bytes.byteValue (.int k t) >>= _) _ s
  refine G.b (fun _ q => G.any (ba_byte h0 h1 q)) ?_
  refine G.bind ?_
  · unfold Builtin.Bytes.checkResize
    refine G.bind (G.bind (g_exported ?_))
    refine G.b (fun _ q => G.any (ba_exports ho q)) ?_
    refine G.pure ?_
    refine G.pure ?_
    refine G.bind (G.any (ba_write ho (by have h9 : 100001 ≤ sizeLine := (by unfold sizeLine; decide); rw [Array.size_push]; unfold lim at hb; omega) fun h' e hs => ?_))
    exact G.pure ⟨_, rfl, h h' s.toks e hs⟩
theorem g_ifF {α : Type} {M : Model} {c : Bool} {x y : Sem α} {Q : α → Shared → Prop} (hc : c = false) (h : wpG M A y Q s) : wpG M A (if c = true then x else y) Q s := by
  subst hc; exact h
theorem ba_codec {which : String} : Builtin.Bytes.checkCodecArg "bytearray.__init__" "bytearray" which none = pure () := rfl
theorem ba_init {a : Addr} {Q : Value → Shared → Prop} (ho : s.heap.get? a = some (barO #[])) (h : ∀ h', h'.get? a = some (barO #[]) → Heap.SameBut a s.heap h' → Q .none { s with heap := h' }) :
    wpG (model prog w) A (Builtin.«bytearray.__init__» ⟨[.ref a], []⟩) (fun fin s' => ∃ v, fin = .done (.ret v) ∧ Q v s') s := by
  refine G.b (t := Builtin.Bytes.ownRelease (.ref a)) (fun _ q => G.any (ba_own ho q)) (g_ifF rfl ?_)
  refine G.e ba_bind0 ?_
  refine G.e ba_codec (G.e ba_codec ?_)
  refine G.b (fun _ q => G.bind (g_exported (G.bind (G.any (ba_exports ho (G.pure q)))))) (g_ifF rfl ?_)
  refine G.bind (G.any (ba_write ho (by show (#[] : Array UInt8).size ≤ _; exact Nat.zero_le _) fun h' e hs => ?_))
  exact G.e rfl (G.pure ⟨_, rfl, h h' e hs⟩)
theorem g_builtin {id : String} {args : Args} {B : Builtin} {R : Flow → Shared → Prop} (entry : entryFor table id = some B) (hnd : notDec (.builtin id args))
    (h : wpG (model prog w) (A.under (.builtin id args)) (B args) (finE (model prog w) A (okR R)) s) : codeG (model prog w) A (.builtin id args) R s := by
  refine G.code ?_ hnd
  show wpG _ _ (match entryFor table id with | some b => b args | none => unsupported ((withoutEnding? id "#data").getD id)) _ s
  rw [entry]; exact h
theorem ba_make {Q : Value → Shared → Prop} (h : ∀ h' tk, h'.get? s.heap.objs.size = some (barO #[]) → Grow s.heap h' → Q (.ref s.heap.objs.size) { s with heap := h', toks := tk }) : wpG (model prog w) A (call (.type "bytearray") []) Q s := by
  obtain ⟨c, tl, hmro⟩ := ba_called.mro
  have hmade := ba_called.made
  have h1 := ba_called.notType
  have h2 := ba_called.canCreate
  have nd1 : notDec (.builtin "type.__call__" ⟨[.type "bytearray"], []⟩) := fun v _ => Eq.trans (b := (Builtin.Bytes.sameRef (.type "bytearray") v && false)) (by kernel_rfl) (Bool.and_false _)
  refine G.call (G.code ?_ (fun _ _ => rfl))
  show wpG _ A.in1 (callAny (.type "bytearray") _) _ s
  refine G.pure ⟨Code.quiet_builtin _ (by decide +kernel), nd1, g_builtin F.entry_type_call nd1 ?_⟩
  rw [Around.under_plain (weight_type_call_type "bytearray" [] []) (units_type_call_type "bytearray" [] [])]
  unfold Builtin.«type.__call__»
  refine g_ifF h1 ?_
  refine g_ifF h2 ?_
  refine G.e ba_typeCall ?_
  refine G.e hmro ?_
  refine g_ifF rfl ?_
  refine G.e hmade ?_
  refine G.bind (G.pure ?_)
  refine G.bind (G.holding (G.any (wpAny_call (code_ba_new ?_))))
  have ho : (s.heap.push (barO #[])).get? s.heap.objs.size = some (barO #[]) := Heap.get?_push_size _ rfl
  refine G.b (fun _ q => G.any (wpAny_isInstance (T := "bytearray") ⟨_, ho, rfl⟩ ba_sub q)) ?_
  refine g_ifF rfl ?_
  refine G.bind (G.holding ?_)
  simp only [callSpecial?]
  refine G.b (fun _ q => G.any (wpAny_specialOf (T := "bytearray") ⟨_, ho, rfl⟩ ba_slot_init.lookup q)) ?_
  simp only [ba_slot_init.bind]
  refine G.holding (G.bind (G.pure (G.bind ?_)))
  refine g_callBuiltin (s := { s with heap := s.heap.push (barO #[]) }) rfl ba_slot_init ba_entry_init ⟨_, ho, rfl⟩ (ba_args_init _) (ba_nd0 _) ?_
  refine ba_init ho fun h' e hs => ?_
  refine G.pure ?_
  refine g_ifF rfl ?_
  exact G.pure ⟨_, rfl, h h' s.toks e fun b o q => (hs.2 b (Nat.ne_of_lt (Heap.lt_size q))).trans (Heap.get?_push_of_some _ q)⟩
end
/-- the names of the world -/
structure WNs (b0 : Heap) (g : Cfg) (prog : Program) (w : World) (fa : Nat → Addr) (mg mb : Str → Option Value) : Prop where
  hg : b0.Ns mainGlobals mg
  hb : b0.Ns builtinsNs mb
  fn : ∀ x k, fnId x = some k → mg x = some (.ref (fa k))
  gc : ∀ x v, gconst x = some v → ∃ u, mg x = some u ∧ ∀ B : Bm, (∀ a o, b0.get? a = some o → B a = some o) → Rd g B u v
  bl : ∀ x b, bltId x = some b → mg x = none ∧ mb x = some (bltVal b)
  ty : ∀ x t, typId x = some t → mg x = none ∧ mb x = some (tiVal t)
  is : mg "isinstance" = none ∧ mb "isinstance" = some (.builtin "isinstance")
  rk : ∃ ra, mg "STORAGE_RANKS" = some (.ref ra) ∧ RanksAt b0 prog w ra
  ba : mg "bytearray" = none ∧ mb "bytearray" = some (.type "bytearray")
/-- what of the world the walk needs -/
structure Wd (b0 : Heap) (g : Cfg) (prog : Program) (w : World) (fa : Nat → Addr) : Prop where
  ns : ∃ mg mb, WNs b0 g prog w fa mg mb
  calm : ∀ k s, (∀ a o, b0.get? a = some o → s.heap.get? a = some o) → Calm (.ref (fa k)) s
  attr : ∀ (A : Around) (s : Shared) (B : Bm) (p : Pl) (v : Value) (x r : PV) (sg : Bool) (Q : Value → Shared → Prop), Kp b0 g B p s.heap → Rd g B v x → attrOp sg x = some r → Res g B s p Q r →
    wpAny (model prog w) A (getAttr v (if sg then ("sign" : Str) else ("kind" : Str)) true) Q No s
  takes : ∀ (A : Around) (s : Shared) (B : Bm) (p : Pl) (v : Value) (k sgn : PV) (pl : Sem Bool) (Q : Value × List Value → Shared → Prop), Kp b0 g B p s.heap → Rd g B v (.obj k sgn) → Q (.ref (fa fTakes), [v]) s →
    wpAny (model prog w) A (getMethod v ("takes" : Str) pl) Q No s
  lim : b0.NoLimit
noncomputable def CallOk (b0 : Heap) (g : Cfg) (prog : Program) (w : World) (fa : Nat → Addr) (d : Nat) (call : Orc) : Prop :=
  ∀ A s B p k xs r p' vs, Room d A → FF g B A s.heap → Kp b0 g B p s.heap → RdL g B vs xs → 1 ≤ s.toks → call k xs p = some (r, p') → wpG (model prog w) A (PySem.call (.ref (fa k)) vs) (Ok g B s p' r) s
section
variable {b0 : Heap} {g : Cfg} {prog : Program} {w : World} {d : Nat} {c : Act} {call : Orc} {fa : Nat → Addr}
theorem Kp.heap {B : Bm} {p : Pl} {h : Heap} (K : Kp b0 g B p h) : ∀ a o, b0.get? a = some o → h.get? a = some o := fun a o e => K.keep a o (K.base a o e)
section
variable {pr : List Addr} {B : Bm} {ρ : List PV} {p : Pl} {s : Shared} {M : Model} {A : Around} {E : Value → Shared → Prop} {Q : Value → Shared → Prop}
theorem glob_eval (I : Inv b0 g c pr B ρ p s.heap) {mg : Str → Option Value} (hg : b0.Ns mainGlobals mg) {x : Str} {pos : Pos} {v : Value} (hx : c.names.lookup x = some .globalImplicit) (hd : (x == Str.ofString "__debug__") = false) (hv : mg x = some v) (h : Q v s) :
    wpAny M A (eval (.Name x pos) c.env) Q E s :=
  Name_function_global I.ok.kind (I.ok.gname x hx) (loadGlobal_global (I.ok.glob ▸ hg.keeps I.kp.heap) hv h) hd
theorem blt_eval (I : Inv b0 g c pr B ρ p s.heap) {mg mb : Str → Option Value} (hg : b0.Ns mainGlobals mg) (hb : b0.Ns builtinsNs mb) {x : Str} {pos : Pos} {v : Value} (hx : c.names.lookup x = some .globalImplicit) (hd : (x == Str.ofString "__debug__") = false) (hn : mg x = none) (hv : mb x = some v) (h : Q v s) :
    wpAny M A (eval (.Name x pos) c.env) Q E s :=
  Name_function_global I.ok.kind (I.ok.gname x hx) (loadGlobal_builtin (I.ok.glob ▸ hg.keeps I.kp.heap) hn (I.ok.blt ▸ hb.keeps I.kp.heap) hv h) hd
end
theorem Gm.glob_inv {Γ : Gm} {x : Str} (h : Γ.glob x = true) : Γ.names.lookup x = some .globalImplicit ∧ (x == Str.ofString "__debug__") = false := by
  unfold Gm.glob at h
  rw [Bool.and_eq_true] at h
  refine ⟨eq_of_beq h.1, ?_⟩
  simpa using h.2
/-- the answer goes out in its mode -/
noncomputable def Outy (F : Bool → Option (PV × Pl)) : Prop := F true = @bnd _ _ (F false) ⟨fun x => out true x.1 x.2⟩
theorem Outy.out {r : PV} {p : Pl} : Outy (fun m => Nt.out m r p) := rfl
theorem Outy.bool {b : Bool} {p : Pl} : Outy (fun _ => some (.bool b, p)) := rfl
theorem Outy.bnd {α : Type} {x : Option α} {K : Bool → α → Option (PV × Pl)} (h : ∀ a, Outy (fun m => K m a)) : Outy (fun m => @Nt.bnd _ _ x ⟨fun a => K m a⟩) := by
  cases x with
  | none => rfl
  | some a => exact h a
/-- the test of a plain word -/
theorem TrC.gen {e : Expr} {me : E} (h : EvC b0 g prog w d c call e me) (hi : ∀ whole, isTrue e c.env whole = (do let v ← whole; standAt e.pos; holding [v] (truthy v)))
    (hev : ∀ ρ p, Outy fun m => ev call me m ρ p) : TrC b0 g prog w d c call e me := fun A s pr B ρ p b p' R I ht q =>
  bndC (x := ev call me false ρ p) ((hev ρ p).symm.trans q) fun x e1 q => bndC (x := truePV x.1) q fun b1 e2 q => by
    have q : some (PV.bool b1, x.2) = some (.bool b, p') := q
    cases q
    rw [hi]
    refine OkT.step (h A s pr B ρ p _ _ R I ht e1) fun v B₁ h₁ tk X rv ht1 => ?_
    exact g_stand (G.holding (G.truthyB ht1 (I.evo X).kp rv e2))
theorem vis_inv {v z : PV} (h : vis v = some z) : v = z ∧ z ≠ .unb ∧ z.isOwn = false := by
  have k : vis z = some z → z ≠ .unb ∧ z.isOwn = false := fun k => by cases z <;> first | exact noneN k | exact ⟨(fun e => nomatch e), rfl⟩
  have e : v = z := by cases v <;> first | exact noneN h | exact Option.some.inj h
  exact ⟨e, k (e ▸ h)⟩
theorem getV_inv {ρ : List PV} {k : Nat} {z : PV} (e : getV ρ k = some z) : ρ[k]? = some z ∧ z ≠ .unb ∧ z.isOwn = false :=
  let ⟨_, e1, e⟩ := bndS e
  ⟨(vis_inv e).1 ▸ e1, (vis_inv e).2⟩
@[elab_as_elim] theorem outC {P : PV → Pl → Prop} {r z : PV} {p p' : Pl} (h : Nt.out false r p = some (z, p')) (k : P r p) : P z p' := by
  have h : some (r, p) = some (z, p') := h
  cases h; exact k
/-! what the evaluator told of a word's parts -/
section
variable {P : PV → Pl → Prop} {ρ : List PV} {p p' : Pl} {z : PV} {m : Bool}
@[elab_as_elim] theorem iv_un {a : E} {f : PV → Option PV} (q : @Nt.bnd _ _ (ev call a false ρ p) ⟨fun x => @Nt.bnd _ _ (f x.1) ⟨fun r => Nt.out false r x.2⟩⟩ = some (z, p')) (k : ∀ x o, ev call a false ρ p = some x → f x.1 = some o → P o x.2) : P z p' :=
  bndC q fun x e1 q => bndC q fun o e2 q => outC q (k x o e1 e2)
@[elab_as_elim] theorem iv_bin {a b : E} {f : PV → PV → Pl → Option PV} (q : @Nt.bnd _ _ (ev call a false ρ p) ⟨fun x => @Nt.bnd _ _ (ev call b false ρ x.2) ⟨fun y => @Nt.bnd _ _ (f x.1 y.1 y.2) ⟨fun r => Nt.out false r y.2⟩⟩⟩ = some (z, p'))
    (k : ∀ x y o, ev call a false ρ p = some x → ev call b false ρ x.2 = some y → f x.1 y.1 y.2 = some o → P o y.2) : P z p' :=
  bndC q fun x e1 q => bndC q fun y e2 q => bndC q fun o e3 q => outC q (k x y o e1 e2 e3)
@[elab_as_elim] theorem iv_es {es : Es} {f : List PV → Option PV} (q : @Nt.bnd _ _ (evs call es ρ p) ⟨fun x => @Nt.bnd _ _ (f x.1) ⟨fun r => Nt.out false r x.2⟩⟩ = some (z, p')) (k : ∀ x o, evs call es ρ p = some x → f x.1 = some o → P o x.2) : P z p' :=
  bndC q fun x e1 q => bndC q fun o e2 q => outC q (k x o e1 e2)
@[elab_as_elim] theorem iv_es1 {es : Es} {f : List PV → PV} (q : @Nt.bnd _ _ (evs call es ρ p) ⟨fun x => Nt.out false (f x.1) x.2⟩ = some (z, p')) (k : ∀ x, evs call es ρ p = some x → P (f x.1) x.2) : P z p' :=
  bndC q fun x e1 q => outC q (k x e1)
end
theorem Name_snd {x : Str} {pos : Pos} {i : Nat} {k : VK} (hv : c.vars[i]? = some (x, k)) : EvC b0 g prog w d c call (.Name x pos) (.var i) := fun A s pr B ρ p r p' R I ht q =>
  bndC (x := getV ρ i) q fun z e1 q => outC q (G.leaf ht fun Q hQ => I.var rfl hv (getV_inv e1).1 (getV_inv e1).2.2 (getV_inv e1).2.1 fun v rv => hQ.now I.kp rv s.toks)
theorem gconst_snd (W : Wd b0 g prog w fa) {x : Str} {pos : Pos} {v : PV} (hx : c.names.lookup x = some .globalImplicit) (hd : (x == Str.ofString "__debug__") = false) (hc : gconst x = some v) : EvC b0 g prog w d c call (.Name x pos) (.cst v) := fun A s pr B ρ p r p' R I ht q => outC q (
  let ⟨_, _, N⟩ := W.ns
  let ⟨_, hu, rd⟩ := N.gc x _ hc
  G.leaf ht fun Q hQ => glob_eval I N.hg hx hd hu (hQ.now I.kp (rd B I.base) s.toks))
theorem cst_snd {k : Const} {n : Nat} {pos : Pos} {v : PV} (h : constOf k = some v) : EvC b0 g prog w d c call (.Constant k n pos) (.cst v) := fun A s pr B ρ p r p' R I ht q => outC q (G.leaf ht fun Q hQ => by
  cases k <;> first | exact noneN h | skip
  · exact wpAny_Constant_none (hQ.nowE I.kp h .none s.toks)
  · exact wpAny_Constant_bool (hQ.nowE I.kp h (.bool _) s.toks)
  · exact wpAny_Constant_int (hQ.nowE I.kp h (.int _ _) _)
  · exact wpAny_Constant_str (hQ.nowE I.kp h (.str _ _) _)
  · exact fun _ _ _ => hQ.nowE I.kp h (.bytes _ _) _)
theorem BinOp_snd {l r : Expr} {op : Operator} {pos : Pos} {a b : E} (ha : EvC b0 g prog w d c call l a) (hb : EvC b0 g prog w d c call r b) : EvC b0 g prog w d c call (.BinOp l op r pos) (.bin op a b) := fun A s pr B ρ p z p' R I ht q =>
  iv_bin (P := fun z p' => wpG (model prog w) A (eval _ c.env) (Ok g B s p' z) s) (f := fun x y _ => binOp op x y) q fun x y o e1 e2 e3 => by
    rw [arm_eval_BinOp]
    refine OkT.step (ha A s pr B ρ p _ _ R I ht e1) fun v B₁ h₁ tk X rv ht1 => ?_
    refine OkT.step (G.holding (hb A _ pr B₁ ρ _ _ _ R (I.evo X) ht1 e2)) fun u B₂ h₂ tk2 X2 ru ht2 => ?_
    exact g_stand (G.operate (G.leaf ht2 fun Q hQ => binOp_snd ((I.evo X).evo X2).kp (rv.mono X2.mono) ru e3 hQ))
theorem USub_snd {x : Expr} {pos : Pos} {a : E} (ha : EvC b0 g prog w d c call x a) : EvC b0 g prog w d c call (.UnaryOp .USub x pos) (.neg a) := fun A s pr B ρ p z p' R I ht q =>
  iv_un (P := fun z p' => wpG (model prog w) A (eval _ c.env) (Ok g B s p' z) s) (f := negOp) q fun x o e1 e2 => by
    rw [arm_eval_UnaryOp]
    refine OkT.step (ha A s pr B ρ p _ _ R I ht e1) fun v B₁ h₁ tk X rv ht1 => ?_
    exact g_stand (G.holding (G.leaf ht1 fun Q hQ => neg_snd (I.evo X).kp rv e2 hQ))
theorem units_lt {A : Around} (R : RoomC d c A) : A.units < cLine := Nat.lt_of_le_of_lt (Nat.le_trans (Nat.le_add_right _ _) (Nat.le_add_right _ _)) R.units
theorem OkT.boolR {B : Bm} {s : Shared} {p' : Pl} {B₁ : Bm} {h₁ : Heap} {tk : Nat} {t : Bool} (X : Evo g B s.heap p' B₁ h₁) (ht : 1 ≤ tk) : OkT g B₁ (upd s h₁ tk) p' (fun B v => Rd g B v (.bool t)) (.bool t) (upd s h₁ tk) :=
  OkT.ret (s := (upd s h₁ tk)) X.keep X.pool (.bool t) ht
theorem OkT.boolT {B : Bm} {s : Shared} {p' : Pl} {B₁ : Bm} {h₁ : Heap} {tk : Nat} {t : Bool} (X : Evo g B s.heap p' B₁ h₁) (ht : 1 ≤ tk) : OkT g B₁ (upd s h₁ tk) p' (fun _ v => v = t) t (upd s h₁ tk) :=
  OkT.ret (s := (upd s h₁ tk)) X.keep X.pool rfl ht
/-- a comparison, in either mode: what is done with the answer is f -/
theorem cmp_walk {e : Expr} {a b : Value} {op : CmpOp} {x y : PV} {o : Bool} {A : Around} {s : Shared} {B : Bm} {p : Pl} {α : Type} {P : Bm → α → Prop} {T : Sem Value → Sem Value} (hT : ∀ t, wpG (model prog w) A t (Ok g B s p (.bool o)) s → wpG (model prog w) A (T t) (Ok g B s p (.bool o)) s)
    {f : Value → Sem α} (R : RoomC d c A) (K : Kp b0 g B p s.heap) (ht : 1 ≤ s.toks) (ra : Rd g B a x) (rb : Rd g B b y) (e3 : cmpOp op x y = some o)
    (hf : ∀ B₁ h₁ tk, Evo g B s.heap p B₁ h₁ → 1 ≤ tk → wpG (model prog w) A (f (.bool o)) (OkT g B₁ (upd s h₁ tk) p P) (upd s h₁ tk)) : wpG (model prog w) A (T (compareOp op a b) >>= f) (OkT g B s p P) s :=
  OkT.step (hT _ (G.leaf ht fun Q hQ => cmpOp_snd (units_lt R) K ra rb e3 hQ)) fun r B₃ h₃ tk3 X3 rr ht3 => rr.bool_inv ▸ hf B₃ h₃ tk3 X3 ht3
@[elab_as_elim] theorem iv_cmp {P : PV → Pl → Prop} {op : CmpOp} {a b : E} {m : Bool} {ρ : List PV} {p p' : Pl} {z : PV} (q : ev call (.cmp op a b) m ρ p = some (z, p')) (k : ∀ x y o, ev call a false ρ p = some x → ev call b false ρ x.2 = some y → cmpOp op x.1 y.1 = some o → P (.bool o) y.2) : P z p' :=
  bndC q fun x e1 q => bndC q fun y e2 q => bndC q fun o e3 q => outC q (k x y o e1 e2 e3)
theorem Cmp_pre {l r : Expr} {op : CmpOp} {pos : Pos} {a b : E} {m : Bool} (hm : behindInMarks op r = false) (ha : EvC b0 g prog w d c call l a) (hb : EvC b0 g prog w d c call r b)
    {α : Type} {f : Value → Sem α} {P : PV → Bm → α → Prop} {A : Around} {s : Shared} {pr : List Addr} {B : Bm} {ρ : List PV} {p : Pl} {z : PV} {p' : Pl} (R : RoomC d c A) (I : Inv b0 g c pr B ρ p s.heap) (ht : 1 ≤ s.toks)
    (q : ev call (.cmp op a b) m ρ p = some (z, p')) (hf : ∀ t B s p B₁ h₁ tk, Evo g B s.heap p B₁ h₁ → 1 ≤ tk → wpG (model prog w) A (f (.bool t)) (OkT g B₁ (upd s h₁ tk) p (P (.bool t))) (upd s h₁ tk)) :
    wpG (model prog w) A (eval l c.env >>= fun a => holding [a] (markedBehindIn op r (eval r c.env)) >>= fun b => standAt pos >>= fun _ => operate [a, b] (compareOp op a b) >>= f) (OkT g B s p' (P z)) s :=
  iv_cmp (P := fun z p' => wpG (model prog w) A (eval l c.env >>= fun a => holding [a] (markedBehindIn op r (eval r c.env)) >>= fun b => standAt pos >>= fun _ => operate [a, b] (compareOp op a b) >>= f) (OkT g B s p' (P z)) s) q fun x y o e1 e2 e3 => by
  refine OkT.step (ha A s pr B ρ p _ _ R I ht e1) fun v B₁ h₁ tk X rv ht1 => ?_
  rw [markedBehindIn_of_false hm]
  refine OkT.step (G.holding (hb A _ pr B₁ ρ _ _ _ R (I.evo X) ht1 e2)) fun u B₂ h₂ tk2 X2 ru ht2 => g_stand ?_
  exact cmp_walk (e := l) (T := operate [v, u]) (fun _ => G.operate) R ((I.evo X).evo X2).kp ht2 (rv.mono X2.mono) ru e3 (hf o B₂ _ _)
theorem Cmp_snd {l r : Expr} {op : CmpOp} {pos : Pos} {a b : E} (hm : behindInMarks op r = false) (ha : EvC b0 g prog w d c call l a) (hb : EvC b0 g prog w d c call r b) :
    EvC b0 g prog w d c call (.Compare l [op] [r] pos) (.cmp op a b) := fun A s pr B ρ p z p' R I ht q => by
  rw [eval_Compare1]
  have := Cmp_pre (f := Pure.pure) (P := fun z B v => Rd g B v z) (pos := pos) hm ha hb R I ht q (fun t B s p B₁ h₁ tk X ht1 => G.pure (OkT.boolR X ht1))
  simp only [bind_pure] at this
  exact this
theorem boolT_hf {A : Around} {f : Value → Sem Bool} (hf : ∀ t, f (.bool t) = holding [.bool t] (truthy (.bool t))) : ∀ t B s p B₁ h₁ tk, Evo g B s.heap p B₁ h₁ → 1 ≤ tk → wpG (model prog w) A (f (.bool t)) (OkT g B₁ (upd s h₁ tk) p (fun _ v => PV.bool v = PV.bool t)) (upd s h₁ tk) :=
  fun t B s p B₁ h₁ tk X ht1 => hf t ▸ G.holding (G.any (wpAny_truthy_bool (OkT.ret (s := (upd s h₁ tk)) X.keep X.pool rfl ht1)))
theorem OkT.unb {M : Model} {A : Around} {B : Bm} {s : Shared} {p' : Pl} {b : Bool} {t : Sem Bool} (h : wpG M A t (OkT g B s p' (fun _ v => PV.bool v = PV.bool b)) s) : wpG M A t (OkB g B s p' b) s :=
  G.mono h fun v s' q => by
    cases q with
    | mk x r t => exact .mk x (PV.bool.inj r) t
theorem Cmp_tr {l r : Expr} {op : CmpOp} {pos : Pos} {a₁ a₂ : E} (hm : behindInMarks op r = false) (ha : EvC b0 g prog w d c call l a₁) (hb : EvC b0 g prog w d c call r a₂) :
    TrC b0 g prog w d c call (.Compare l [op] [r] pos) (.cmp op a₁ a₂) := fun A s pr B ρ p b p' R I ht q => by
  rw [isTrue_Compare1]
  exact OkT.unb (Cmp_pre (m := true) (f := fun c => holding [c] (truthy c)) (P := fun z _ v => PV.bool v = z) (pos := pos) hm ha hb R I ht q (boolT_hf (f := fun c => holding [c] (truthy c)) fun _ => rfl))
theorem iv_cmp2 {C : Prop} {o1 o2 : CmpOp} {a b e : E} {m : Bool} {ρ : List PV} {p : Pl} {z : PV × Pl} (q : ev call (.cmp2 o1 o2 a b e) m ρ p = some z)
    (k : ∀ x y o, ev call a false ρ p = some x → ev call b false ρ x.2 = some y → cmpOp o1 x.1 y.1 = some o → (if o = true then ∃ w r, ev call e false ρ y.2 = some w ∧ cmpOp o2 y.1 w.1 = some r ∧ (PV.bool r, w.2) = z else (PV.bool false, y.2) = z) → C) : C :=
  bndC q fun x e1 q => bndC q fun y e2 q => bndC q fun o e3 q => k x y o e1 e2 e3 (by
    cases o with
    | false => exact Option.some.inj q
    | true => exact bndC q fun w e4 q => bndC q fun r e5 q => ⟨w, r, e4, e5, Option.some.inj q⟩)
theorem Cmp2_pre {l r1 r2 : Expr} {o1 o2 : CmpOp} {a b₁ b₂ : E} {m : Bool} (hm : behindInMarks o2 r2 = false) (ha : EvC b0 g prog w d c call l a) (hb : EvC b0 g prog w d c call r1 b₁) (hc : EvC b0 g prog w d c call r2 b₂)
    {α : Type} {f : Value → Sem α} {fF : Value → Sem α} {P : PV → Bm → α → Prop} {A : Around} {s : Shared} {pr : List Addr} {B : Bm} {ρ : List PV} {p : Pl} {z : PV × Pl} {pos : Pos} (R : RoomC d c A) (I : Inv b0 g c pr B ρ p s.heap) (ht : 1 ≤ s.toks)
    (q : ev call (.cmp2 o1 o2 a b₁ b₂) m ρ p = some z) (hf : ∀ t B s p B₁ h₁ tk, Evo g B s.heap p B₁ h₁ → 1 ≤ tk → wpG (model prog w) A (f (.bool t)) (OkT g B₁ (upd s h₁ tk) p (P (.bool t))) (upd s h₁ tk))
    (hF : ∀ B s p B₁ h₁ tk, Evo g B s.heap p B₁ h₁ → 1 ≤ tk → wpG (model prog w) A (fF (.bool false)) (OkT g B₁ (upd s h₁ tk) p (P (.bool false))) (upd s h₁ tk)) :
    wpG (model prog w) A (eval l c.env >>= fun left => holding [left] (eval r1 c.env) >>= fun rv => standAt pos >>= fun _ => holding [left, rv] (compareOp o1 left rv) >>= fun cv => release [left, rv] [cv] >>= fun _ =>
      holding [cv, rv] (truthy cv) >>= fun t => if t = true then (holding [rv] (markedBehindIn o2 r2 (eval r2 c.env)) >>= fun rv2 => standAt pos >>= fun _ => operate [rv, rv2] (compareOp o2 rv rv2) >>= f) else fF cv) (OkT g B s z.2 (P z.1)) s :=
  iv_cmp2 q fun x y o e1 e2 e3 q => by
  refine OkT.step (ha A s pr B ρ p _ _ R I ht e1) fun v B₁ h₁ tk X rv ht1 => ?_
  refine OkT.step (G.holding (hb A _ pr B₁ ρ _ _ _ R (I.evo X) ht1 e2)) fun u B₂ h₂ tk2 X2 ru ht2 => g_stand ?_
  have I2 := (I.evo X).evo X2
  refine OkT.step (P₁ := fun B v => Rd g B v (.bool o)) (p₁ := y.2) (G.holding (G.leaf ht2 fun Q hQ => cmpOp_snd (units_lt R) I2.kp (rv.mono X2.mono) ru e3 hQ)) fun r B₃ h₃ tk3 X3 rr ht3 => ?_
  rw [rr.bool_inv]
  refine G.bind (G.any (wpAny_release (G.bind (G.holding (G.any (wpAny_truthy_bool ?_))))))
  cases o with
  | false =>
    have q : (PV.bool false, y.2) = z := q
    exact q ▸ hF B₂ _ _ B₃ h₃ tk3 X3 ht3
  | true =>
    obtain ⟨x2, o', e4, e5, q⟩ := q
    have I3 := I2.evo X3
    show wpG _ A (holding [u] (markedBehindIn o2 r2 (eval r2 c.env)) >>= _) _ _
    rw [markedBehindIn_of_false hm]
    refine q ▸ OkT.step (G.holding (hc A _ pr B₃ ρ _ _ _ R I3 ht3 e4)) fun u2 B₄ h₄ tk4 X4 ru2 ht4 => g_stand ?_
    exact cmp_walk (e := l) (T := operate [u, u2]) (fun _ => G.operate) R (I3.evo X4).kp ht4 ((ru.mono X3.mono).mono X4.mono) ru2 e5 (hf o' B₄ _ _)
theorem Cmp2_snd {l r1 r2 : Expr} {o1 o2 : CmpOp} {pos : Pos} {a b₁ b₂ : E} (hm : behindInMarks o2 r2 = false) (ha : EvC b0 g prog w d c call l a) (hb : EvC b0 g prog w d c call r1 b₁) (hc : EvC b0 g prog w d c call r2 b₂) :
    EvC b0 g prog w d c call (.Compare l [o1, o2] [r1, r2] pos) (.cmp2 o1 o2 a b₁ b₂) := fun A s pr B ρ p z p' R I ht q => by
  have := Cmp2_pre (f := Pure.pure) (fF := Pure.pure) (P := fun z B v => Rd g B v z) (pos := pos) hm ha hb hc R I ht q (fun t B s p B₁ h₁ tk X ht1 => G.pure (OkT.boolR X ht1))
    (fun B s p B₁ h₁ tk X ht1 => G.pure (OkT.boolR X ht1))
  simp only [bind_pure] at this
  exact this
theorem Cmp2_tr {l r1 r2 : Expr} {o1 o2 : CmpOp} {pos : Pos} {a b₁ b₂ : E} (hm : behindInMarks o2 r2 = false) (ha : EvC b0 g prog w d c call l a) (hb : EvC b0 g prog w d c call r1 b₁) (hc : EvC b0 g prog w d c call r2 b₂) :
    TrC b0 g prog w d c call (.Compare l [o1, o2] [r1, r2] pos) (.cmp2 o1 o2 a b₁ b₂) := fun A s pr B ρ p b p' R I ht q =>
  OkT.unb (Cmp2_pre (m := true) (f := fun c => holding [c] (truthy c)) (fF := fun _ => Pure.pure false) (P := fun z _ v => PV.bool v = z) (pos := pos) hm ha hb hc R I ht q (boolT_hf (f := fun c => holding [c] (truthy c)) fun _ => rfl)
    (fun B s p B₁ h₁ tk X ht1 => G.pure (OkT.ret (s := (upd s h₁ tk)) X.keep X.pool rfl ht1)))
/-! not, and, or -/
theorem Not_tr {x : Expr} {pos : Pos} {a : E} (ha : TrC b0 g prog w d c call x a) : TrC b0 g prog w d c call (.UnaryOp .Not x pos) (.not a) := fun A s pr B ρ p b p' R I ht q =>
  iteKC (b := ev call a true ρ p) q fun y p1 e1 q => by
    have q : some (PV.bool (!y), p1) = some (.bool b, p') := by cases y <;> exact q
    cases q
    rw [arm_isTrue_UnaryOp]
    refine OkT.step (ha A s pr B ρ p y _ R I ht e1) fun v B₁ h₁ tk X rv ht1 => ?_
    exact G.pure (OkT.ret X.keep X.pool (by rw [rv]) ht1)
/-- one word of a list that is tested: it stops there, or goes on -/
noncomputable def stopB (op : BoolOp) (y : Bool) : Bool := match op with
  | .And => !y
  | .Or => y
theorem iv_bcons {C : Prop} {op : BoolOp} {e : E} {es : Es} {ρ : List PV} {p : Pl} {z : Bool × Pl} (q : evB call (.cons e es) op ρ p = some z)
    (k : ∀ y p1, ev call e true ρ p = some (.bool y, p1) → (if stopB op y = true then (y, p1) = z else evB call es op ρ p1 = some z) → C) : C :=
  iteKC (b := ev call e true ρ p) q fun y p1 e1 q => k y p1 e1 (by cases op <;> cases y <;> first | exact q | exact Option.some.inj q)
theorem allTrue_snd {op : BoolOp} {es : List Expr} {mes : List E} (h : All2 (fun e me => TrC b0 g prog w d c call e me) es mes) :
    ∀ A s pr B ρ p (z : Bool × Pl), RoomC d c A → Inv b0 g c pr B ρ p s.heap → 1 ≤ s.toks → evB call (toEs mes) op ρ p = some z → wpG (model prog w) A (allTrue op es c.env) (OkB g B s z.2 z.1) s := by
  induction h with
  | nil =>
    intro A s pr B ρ p z R I ht q
    rw [arm_allTrue_nil]
    exact Option.some.inj q ▸ G.pure (OkT.ret I.keep I.pool (by cases op <;> rfl) ht)
  | cons h _ ih =>
    intro A s pr B ρ p z R I ht q
    refine iv_bcons q fun y p1 e1 q => ?_
    rw [arm_allTrue_cons]
    refine OkT.step (h A s pr B ρ p y _ R I ht e1) fun v B₁ h₁ tk X rv ht1 => ?_
    have go := ih A (upd s h₁ tk) pr B₁ ρ p1 z R (I.evo X) ht1
    have st : (y, p1) = z → wpG (model prog w) A (Pure.pure y) (OkB g B₁ (upd s h₁ tk) z.2 z.1) (upd s h₁ tk) := fun e => e ▸ G.pure (OkT.ret X.keep X.pool rfl ht1)
    rw [rv]
    cases op <;> cases y <;> first | exact go q | exact st q
theorem BoolOp_tr {op : BoolOp} {es : List Expr} {pos : Pos} {mes : List E} (h : All2 (fun e me => TrC b0 g prog w d c call e me) es mes) : TrC b0 g prog w d c call (.BoolOp op es pos) (.bop op (toEs mes)) := fun A s pr B ρ p b p' R I ht q =>
  bndC (x := evB call (toEs mes) op ρ p) q fun y e1 q => by
    have q : some (PV.bool y.1, y.2) = some (.bool b, p') := q
    cases q
    rw [arm_isTrue_BoolOp]
    exact allTrue_snd h A s pr B ρ p _ R I ht e1
/-- a word whose value is a bool, tested or not -/
theorem isBoolE_ev {e : E} (h : isBoolE e = true) (m m' : Bool) (ρ : List PV) (p : Pl) : ev call e m ρ p = ev call e m' ρ p := by
  cases e <;> first | (cases h; done) | kernel_rfl
theorem boolOp_snd {op : BoolOp} {pos : Pos} {es : List Expr} {mes : List E} (h : All2 (fun e me => isBoolE me = true ∧ EvC b0 g prog w d c call e me) es mes) : ∀ x mx, isBoolE mx = true → EvC b0 g prog w d c call x mx →
    ∀ A s pr B ρ p (z : Bool × Pl), RoomC d c A → Inv b0 g c pr B ρ p s.heap → 1 ≤ s.toks → evB call (.cons mx (toEs mes)) op ρ p = some z → wpG (model prog w) A (boolOp pos op (evalEach (x :: es) c.env)) (Ok g B s z.2 (.bool z.1)) s := by
  induction h with
  | nil =>
    intro x mx hx h A s pr B ρ p z R I ht q
    refine iv_bcons q fun y p1 e1 q => ?_
    have q : (y, p1) = z := by cases op <;> cases y <;> first | exact q | exact Option.some.inj q
    exact q ▸ h A s pr B ρ p _ p1 R I ht ((isBoolE_ev hx false true ρ p).trans e1)
  | cons h2 _ ih =>
    intro x mx hx h A s pr B ρ p z R I ht q
    refine iv_bcons q fun y p1 e1 q => ?_
    refine OkT.step (h A s pr B ρ p _ p1 R I ht ((isBoolE_ev hx false true ρ p).trans e1)) fun v B₁ h₁ tk X rv ht1 => ?_
    rw [rv.bool_inv]
    refine g_stand (G.bind (G.holding (G.any (wpAny_truthy_bool ?_))))
    have go := ih _ _ h2.1 h2.2 A (upd s h₁ tk) pr B₁ ρ p1 z R (I.evo X) ht1
    have st : (y, p1) = z → wpG (model prog w) A (Pure.pure (.bool y)) (Ok g B₁ (upd s h₁ tk) z.2 (.bool z.1)) (upd s h₁ tk) := fun e => e ▸ G.pure (OkT.ret X.keep X.pool (.bool y) ht1)
    cases op <;> cases y <;> first | exact go q | exact st q
theorem BoolOp_snd {op : BoolOp} {x : Expr} {mx : E} {es : List Expr} {pos : Pos} {mes : List E} (hx : isBoolE mx = true) (hm : EvC b0 g prog w d c call x mx) (h : All2 (fun e me => isBoolE me = true ∧ EvC b0 g prog w d c call e me) es mes) : EvC b0 g prog w d c call (.BoolOp op (x :: es) pos) (.bop op (.cons mx (toEs mes))) := fun A s pr B ρ p z p' R I ht q =>
  bndC (x := evB call (.cons mx (toEs mes)) op ρ p) q fun y e1 q => outC q (by
    rw [arm_eval_BoolOp]
    exact boolOp_snd h x mx hx hm A s pr B ρ p _ R I ht e1)
theorem IfExp_snd {t x y : Expr} {pos : Pos} {a b₁ b₂ : E} (ha : TrC b0 g prog w d c call t a) (hb : EvC b0 g prog w d c call x b₁) (hc : EvC b0 g prog w d c call y b₂) :
    EvC b0 g prog w d c call (.IfExp t x y pos) (.ite a b₁ b₂) := fun A s pr B ρ p z p' R I ht q =>
  iteKC (b := ev call a true ρ p) q fun o p1 e1 q => by
    rw [arm_eval_IfExp]
    refine OkT.step (ha A s pr B ρ p o _ R I ht e1) fun v B₁ h₁ tk X rv ht1 => ?_
    rw [rv]
    cases o with
    | false => exact hc A _ pr B₁ ρ p1 z p' R (I.evo X) ht1 q
    | true => exact hb A _ pr B₁ ρ p1 z p' R (I.evo X) ht1 q
/-! lists and tuples -/
theorem evs_len : ∀ {mes : List E} {ρ : List PV} {p : Pl} {rs : List PV × Pl}, evs call (toEs mes) ρ p = some rs → rs.1.length = mes.length
  | [], ρ, p, rs, q => Option.some.inj q ▸ rfl
  | e :: es, ρ, p, rs, q => bndC (x := ev call e false ρ p) q fun x e1 q => bndC (x := evs call (toEs es) ρ x.2) q fun xs e2 q => Option.some.inj q ▸ congrArg (· + 1) (evs_len (mes := es) e2)
theorem seq_size {B : Bm} {vs : List Value} {rs : List PV} {n : Nat} (rv : RdL g B vs rs) (h : rs.length = n) (hn : n ≤ lim) : vs.toArray.size ≤ sizeLine := by rw [List.size_toArray, rv.1, h]; exact Nat.le_trans hn lim_line
theorem List_snd {es : List Expr} {pos : Pos} {mes : List E} (h : EsC b0 g prog w d c call es (toEs mes)) (hn : mes.length ≤ lim) : EvC b0 g prog w d c call (.List es pos) (.list (toEs mes)) := fun A s pr B ρ p z p' R I ht q =>
  iv_es1 (P := fun z p' => wpG (model prog w) A (eval _ c.env) (Ok g B s p' z) s) (f := .list) q fun rs e1 => by
    rw [arm_eval_List]
    refine g_stand (OkT.step (h A s pos pr B ρ p _ _ R I ht e1) fun vs B₁ h₁ tk X rv ht1 => G.leaf ht1 fun Q hQ => ?_)
    exact wpAny_newObj_type (hQ.allocE (I.evo X).kp rfl _ rfl (Rd.newList (Kp.fresh (s := (upd s h₁ tk)) (I.evo X).kp) rv) tk) (seq_size rv (evs_len e1) hn)
theorem Tuple_snd {es : List Expr} {k : Nat} {pos : Pos} {mes : List E} (h : EsC b0 g prog w d c call es (toEs mes)) (hn : mes.length ≤ lim) : EvC b0 g prog w d c call (.Tuple es k pos) (.tup (toEs mes)) := fun A s pr B ρ p z p' R I ht q =>
  iv_es1 (P := fun z p' => wpG (model prog w) A (eval _ c.env) (Ok g B s p' z) s) (f := .tup) q fun rs e1 => by
    rw [arm_eval_Tuple]
    refine g_stand (OkT.step (h A s pos pr B ρ p _ _ R I ht e1) fun vs B₁ h₁ tk X rv ht1 => G.leaf ht1 fun Q hQ => ?_)
    exact wpAny_newObj_type (hQ.allocE (I.evo X).kp rfl _ rfl (Rd.newTup (Kp.fresh (s := (upd s h₁ tk)) (I.evo X).kp) rv) tk) (seq_size rv (evs_len e1) hn)
end
section
variable {b0 : Heap} {g : Cfg} {prog : Program} {w : World} {d : Nat} {c : Act} {call : Orc} {fa : Nat → Addr}
theorem toEs_all {R : Expr → E → Prop} {es : List Expr} {mes : List E} (h : All2 (fun e me => NonStar e ∧ R e me) es mes) : ∀ e ∈ es, NonStar e := by
  induction h with
  | nil => exact fun e m => nomatch m
  | cons h _ ih => exact fun e m => (List.mem_cons.mp m).elim (fun q => q ▸ h.1) (ih e)
/-- a call of a name -/
theorem CallN_snd {x : Str} {np pos : Pos} {es : List Expr} {mes : List E} {f : Value}
    (hname : ∀ {A : Around} {s : Shared} {pr : List Addr} {B : Bm} {ρ : List PV} {p : Pl} {Q : Value → Shared → Prop}, Inv b0 g c pr B ρ p s.heap → Q f s → wpAny (model prog w) A (eval (.Name x np) c.env) Q No s)
    (hcalm : ∀ s : Shared, (∀ a o, b0.get? a = some o → s.heap.get? a = some o) → Calm f s)
    (hes : All2 (fun e me => NonStar e ∧ EvC b0 g prog w d c call e me) es mes) {A : Around} {s : Shared} {pr : List Addr} {B : Bm} {ρ : List PV} {p p2 : Pl} {rs : List PV × Pl} {r : PV}
    (R : RoomC d c A) (I : Inv b0 g c pr B ρ p s.heap) (ht : 1 ≤ s.toks) (q : evs call (toEs mes) ρ p = some rs)
    (hcall : ∀ vs B₁ h₁ tk, Evo g B s.heap rs.2 B₁ h₁ → RdL g B₁ vs rs.1 → 1 ≤ tk → wpG (model prog w) A (PySem.call f vs) (Ok g B₁ (upd s h₁ tk) p2 r) (upd s h₁ tk)) :
    wpG (model prog w) A (eval (.Call (.Name x np) es [] pos) c.env) (Ok g B s p2 r) s := by
  show wpG _ A (eval (.Name x np) c.env >>= fun f => callWith pos f [] (backTo pos (starEach es c.env)) (backToKw pos (keywordEach [] c.env))) _ s
  refine G.bind (G.any (hname I ?_))
  refine G.callWith (args_plain (toEs_all hes)) (G.mono (EsC.of hes A s pos pr B ρ p _ _ R I ht q) fun vs s' k => ?_)
  cases k with
  | mk X rv ht1 => exact ⟨hcalm _ (I.evo X).kp.heap, G.mono (hcall vs _ _ _ X rv ht1) fun _ _ q => q.trans X⟩
theorem Call_snd (W : Wd b0 g prog w fa) (H : CallOk b0 g prog w fa d call) {x : Str} {np pos : Pos} {es : List Expr} {mes : List E} {k : Nat} (hx : c.names.lookup x = some .globalImplicit) (hd : (x == Str.ofString "__debug__") = false)
    (hk : fnId x = some k) (hes : All2 (fun e me => NonStar e ∧ EvC b0 g prog w d c call e me) es mes) : EvC b0 g prog w d c call (.Call (.Name x np) es [] pos) (.call k (toEs mes)) := fun A s pr B ρ p z p' R I ht q =>
  bndC (x := evs call (toEs mes) ρ p) q fun rs e1 q => bndC (x := call k rs.1 rs.2) q fun r e2 q => outC q (
    let ⟨_, _, N⟩ := W.ns
    CallN_snd (f := .ref (fa k)) (fun I hq => glob_eval I N.hg hx hd (N.fn x k hk) hq) (fun s h => W.calm k s h) hes R I ht e1
      fun vs B₁ h₁ tk X rv ht1 => H A _ B₁ _ k _ _ _ vs R.toRoom ((I.evo X).ff R) (I.evo X).kp rv ht1 e2)
theorem bltCalm (b : BI) (s : Shared) : Calm (bltVal b) s := by cases b <;> first | exact Calm.builtin _ s | exact Calm.type _ s
theorem Blt_snd (W : Wd b0 g prog w fa) {x : Str} {np pos : Pos} {es : List Expr} {mes : List E} {k : BI} (hx : c.names.lookup x = some .globalImplicit) (hd : (x == Str.ofString "__debug__") = false)
    (hk : bltId x = some k) (hes : All2 (fun e me => NonStar e ∧ EvC b0 g prog w d c call e me) es mes) : EvC b0 g prog w d c call (.Call (.Name x np) es [] pos) (.blt k (toEs mes)) := fun A s pr B ρ p z p' R I ht q =>
  iv_es (P := fun z p' => wpG (model prog w) A (eval _ c.env) (Ok g B s p' z) s) (f := bltOp k) q fun rs r e1 e2 =>
    let ⟨_, _, N⟩ := W.ns
    CallN_snd (f := bltVal k) (fun I hq => blt_eval I N.hg N.hb hx hd (N.bl x k hk).1 (N.bl x k hk).2 hq) (fun s h => bltCalm k s) hes R I ht e1
      fun vs B₁ h₁ tk X rv ht1 => G.leaf ht1 fun Q hQ => bltOp_snd R.handled (I.evo X).kp rv e2 hQ
theorem iv_isi {P : PV → Pl → Prop} {a : E} {t : TI} {m : Bool} {ρ : List PV} {p p' : Pl} {z : PV} (q : ev call (.isi a t) m ρ p = some (z, p')) (k : ∀ x r, ev call a false ρ p = some x → isiOp t x.1 = some r → P (.bool r) x.2) : P z p' :=
  bndC (x := ev call a false ρ p) q fun x e1 q => bndC (x := isiOp t x.1) q fun r e2 q => outC q (k x r e1 e2)
theorem Isi_snd (W : Wd b0 g prog w fa) {np np2 pos : Pos} {a : Expr} {ma : E} {tn : Str} {ti : TI} (hx : c.names.lookup ("isinstance" : Str) = some .globalImplicit) (hx2 : c.names.lookup tn = some .globalImplicit) (hd2 : (tn == Str.ofString "__debug__") = false)
    (hk : typId tn = some ti) (hn : NonStar a) (ha : EvC b0 g prog w d c call a ma) : EvC b0 g prog w d c call (.Call (.Name "isinstance" np) [a, .Name tn np2] [] pos) (.isi ma ti) := fun A s pr B ρ p z p' R I ht q =>
  iv_isi (P := fun z p' => wpG (model prog w) A (eval _ c.env) (Ok g B s p' z) s) q fun x r e1 e2 => by
  obtain ⟨_, _, N⟩ := W.ns
  show wpG _ A (eval (.Name "isinstance" np) c.env >>= fun f => callWith pos f [] (backTo pos (starEach [a, .Name tn np2] c.env)) (backToKw pos (keywordEach [] c.env))) _ s
  refine G.bind (G.any (blt_eval I N.hg N.hb hx (by decide) N.is.1 N.is.2 ?_))
  rw [hn]
  refine G.callWith rfl ?_
  show wpG _ A (eval a c.env >>= _) _ _
  refine OkT.to (ha A s pr B ρ p _ _ R I ht e1) fun v B₁ h₁ tk X rv ht1 => ?_
  refine G.bind (G.pure (G.bind (G.holding ?_)))
  show wpG _ A (spliced [(false, eval (.Name tn np2) c.env)]) _ _
  refine G.any (spliced_cons (blt_eval (I.evo X) N.hg N.hb hx2 hd2 (N.ty tn ti hk).1 (N.ty tn ti hk).2 (spliced_nil (G.pure ⟨Calm.builtin _ _, ?_⟩))))
  exact G.mono (G.leaf (r := .bool r) ht1 fun Q hQ => isi_snd (I.evo X).kp rv e2 hQ) fun _ _ q => q.trans X
/-- what is asked of a word's shape -/
noncomputable def NoBase (o : Expr) : Prop := ∀ n env t, attributeBase o n env t = t
/-- a word that stands as an index, not as a slice -/
noncomputable def PlainIx (i : Expr) : Prop := ∀ v u, subscripted i false v u = operate [v, u] (getItem v u)
/-- nothing is done at once with the value -/
noncomputable def NoSwap (v : Expr) : Prop := ∀ target line env, swapsWith v target line env = pure false
structure CompE (e : Expr) : Prop where
  star : NonStar e
  set : ∀ env v, foldedSetIterable e env v = pure v
  sub : PlainIx e
  base : noSuper e = true → NoBase e
  swp : NoSwap e ∨ ∃ a b sc k, e = .ListComp a b sc k
  swt : (∀ ts k tp env, swappedStores [.Tuple ts k tp] e env = pure none) ∨ ∃ vs k p, e = .Tuple vs k p
theorem comp_E {Γ : Gm} {n : Nat} {m : Bool} {e : Expr} {me : E} (h : comp Γ n m e = some me) : CompE e := by
  cases n with
  | zero => exact noneN h
  | succ n =>
    cases e with
    | Call f as ks p =>
      refine ⟨fun _ _ => rfl, fun _ _ => rfl, fun _ _ => rfl, fun q => ?_, .inl fun _ _ _ => rfl, .inl fun _ _ _ _ => rfl⟩
      cases f with
      | Name x _ =>
        cases as with
        | nil =>
          cases ks with
          | nil => exact nomatch q
          | cons _ _ => exact fun _ _ _ => rfl
        | cons _ _ => exact fun _ _ _ => rfl
      | _ => exact fun _ _ _ => rfl
    | ListComp a b sc k => exact ⟨fun _ _ => rfl, fun _ _ => rfl, fun _ _ => rfl, fun _ _ _ _ => rfl, .inr ⟨a, b, sc, k, rfl⟩, .inl fun _ _ _ _ => rfl⟩
    | Tuple vs k p => exact ⟨fun _ _ => rfl, fun _ _ => rfl, fun _ _ => rfl, fun _ _ _ _ => rfl, .inl fun _ _ _ => rfl, .inr ⟨vs, k, p, rfl⟩⟩
    | _ => first | exact noneN h | exact ⟨fun _ _ => rfl, fun _ _ => rfl, fun _ _ => rfl, fun _ _ _ _ => rfl, .inl fun _ _ _ => rfl, .inl fun _ _ _ _ => rfl⟩
theorem CompE.soleT {v : Expr} (h : CompE v) {ts : List Expr} {k : Nat} {tp : Pos} {line : Nat} {env : Env} : swapsWithSole [.Tuple ts k tp] v line env = pure false := h.swp.elim (fun q => q (some (.Tuple ts k tp)) line env) fun ⟨_, _, _, _, e⟩ => e ▸ rfl
theorem CompE.soleS {v : Expr} (h : CompE v) {o i : Expr} {tp : Pos} {line : Nat} {env : Env} : swapsWithSole [.Subscript o i tp] v line env = pure false := h.swp.elim (fun q => q (some (.Subscript o i tp)) line env) fun ⟨_, _, _, _, e⟩ => e ▸ rfl
/-- what is left at the end of a subscript, an attribute -/
theorem letT {A : Around} {s : Shared} {B : Bm} {p : Pl} {z : PV} {t : Sem Value} {e : Expr} {o : Value} (h : wpG (model prog w) A t (Ok g B s p z) s) : wpG (model prog w) A (t >>= fun u => letTemporaryGo e o u >>= fun _ => Pure.pure u) (Ok g B s p z) s :=
  OkT.step h fun u B₂ h₂ tk2 X2 ru ht2 => G.bind (G.any (wpAny_letTemporaryGo (G.pure (OkT.ret X2.keep X2.pool ru ht2))))
theorem Attr_snd (W : Wd b0 g prog w fa) {o : Expr} {f : Str} {pos : Pos} {mo : E} {sg : Bool} (hf : f = if sg then ("sign" : Str) else ("kind" : Str)) (hs : NoBase o) (ho : EvC b0 g prog w d c call o mo) : EvC b0 g prog w d c call (.Attribute o f pos) (.attr mo sg) := fun A s pr B ρ p z p' R I ht q =>
  iv_un (P := fun z p' => wpG (model prog w) A (eval _ c.env) (Ok g B s p' z) s) (f := attrOp sg) q fun x r e1 e2 => by
  rw [arm_eval_Attribute, hs, hf]
  refine OkT.step (ho A s pr B ρ p _ _ R I ht e1) fun v B₁ h₁ tk X rv ht1 => ?_
  exact g_stand (letT (G.holding (G.leaf ht1 fun Q hQ => W.attr A _ B₁ _ v _ r sg Q (I.evo X).kp rv e2 hQ)))
theorem Idx_snd {o i : Expr} {pos : Pos} {mo mi : E} (hi : PlainIx i) (ho : EvC b0 g prog w d c call o mo) (hii : EvC b0 g prog w d c call i mi) : EvC b0 g prog w d c call (.Subscript o i pos) (.idx mo mi) := fun A s pr B ρ p z p' R I ht q =>
  iv_bin (P := fun z p' => wpG (model prog w) A (eval _ c.env) (Ok g B s p' z) s) (f := idxOp) q fun x y r e1 e2 e3 => by
  rw [arm_eval_Subscript]
  refine OkT.step (ho A s pr B ρ p _ _ R I ht e1) fun v B₁ h₁ tk X rv ht1 => ?_
  refine OkT.step (G.holding (hii A _ pr B₁ ρ _ _ _ R (I.evo X) ht1 e2)) fun u B₂ h₂ tk2 X2 ru ht2 => g_stand ?_
  have I2 := (I.evo X).evo X2
  refine G.bind (G.any (idx_native I2.kp (rv.mono X2.mono) e3 ?_))
  rw [hi]
  exact letT (G.operate (G.leaf ht2 fun Q hQ => idx_snd I2.kp (rv.mono X2.mono) ru e3 hQ))
theorem Rank_snd (W : Wd b0 g prog w fa) {np : Pos} {i : Expr} {pos : Pos} {mi : E} (hx : c.names.lookup ("STORAGE_RANKS" : Str) = some .globalImplicit) (hi : PlainIx i) (hii : EvC b0 g prog w d c call i mi) : EvC b0 g prog w d c call (.Subscript (.Name "STORAGE_RANKS" np) i pos) (.rank mi) := fun A s pr B ρ p z p' R I ht q =>
  iv_un (P := fun z p' => wpG (model prog w) A (eval _ c.env) (Ok g B s p' z) s) (f := rankOp) q fun y r e2 e3 => by
  obtain ⟨_, _, N⟩ := W.ns
  obtain ⟨ra, hr, hra⟩ := N.rk
  rw [arm_eval_Subscript]
  refine G.bind (G.any (glob_eval I N.hg hx (by decide) hr ?_))
  refine OkT.step (G.holding (hii A s pr B ρ p _ _ R I ht e2)) fun u B₂ h₂ tk2 X2 ru ht2 => g_stand ?_
  refine G.bind (G.any (rank_native (I.evo X2).kp hra ?_))
  rw [hi]
  exact letT (G.operate (G.leaf ht2 fun Q hQ => rank_snd (I.evo X2).kp hra ru e3 hQ))
/-- a bound of a slice: a word, or none -/
noncomputable def BndC (b0 : Heap) (g : Cfg) (prog : Program) (w : World) (d : Nat) (c : Act) (call : Orc) : Option Expr → E → Prop
  | none, m => m = .cst .none
  | some e, m => EvC b0 g prog w d c call e m
theorem Bnd_snd {e : Option Expr} {m : E} (h : BndC b0 g prog w d c call e m) {A : Around} {s : Shared} {pr : List Addr} {B : Bm} {ρ : List PV} {p p' : Pl} {r : PV} (R : RoomC d c A) (I : Inv b0 g c pr B ρ p s.heap) (ht : 1 ≤ s.toks)
    (q : ev call m false ρ p = some (r, p')) : wpG (model prog w) A (valueOrNone (evalOpt e c.env)) (Ok g B s p' r) s := by
  cases e with
  | none =>
    have h : m = .cst .none := h
    subst h
    exact outC (P := fun r p' => wpG (model prog w) A (valueOrNone (evalOpt none c.env)) (Ok g B s p' r) s) q (G.pure (OkT.ret I.keep I.pool .none ht))
  | some e => exact h A s pr B ρ p r p' R I ht q
theorem iv_slice {P : PV → Pl → Prop} {a lo hi : E} {ρ : List PV} {p p' : Pl} {z : PV} (q : ev call (.slice a lo hi) false ρ p = some (z, p'))
    (k : ∀ x y u r, ev call a false ρ p = some x → ev call lo false ρ x.2 = some y → ev call hi false ρ y.2 = some u → sliceOp x.1 y.1 u.1 = some r → P r u.2) : P z p' :=
  bndC (x := ev call a false ρ p) q fun x e1 q => bndC (x := ev call lo false ρ x.2) q fun y e2 q => bndC (x := ev call hi false ρ y.2) q fun u e3 q => bndC (x := sliceOp x.1 y.1 u.1) q fun r e4 q => outC q (k x y u r e1 e2 e3 e4)
/-- a slice that was made -/
noncomputable def SlAt (g : Cfg) (y z : PV) (B : Bm) (u : Value) : Prop := ∃ sa va vb, u = .ref sa ∧ B sa = some { cls := .type "slice", data := .fields #[va, vb, .none] } ∧ Rd g B va y ∧ Rd g B vb z
theorem slice_made {lo hi : Option Expr} {sp : Pos} {ml mh : E} (hl : BndC b0 g prog w d c call lo ml) (hh : BndC b0 g prog w d c call hi mh) {A : Around} {s : Shared} {pr : List Addr} {B : Bm} {ρ : List PV} {p : Pl} {y z : PV × Pl} (R : RoomC d c A) (I : Inv b0 g c pr B ρ p s.heap) (ht : 1 ≤ s.toks)
    (e2 : ev call ml false ρ p = some y) (e3 : ev call mh false ρ y.2 = some z) : wpG (model prog w) A (eval (.Slice lo hi none sp) c.env) (OkT g B s z.2 (SlAt g y.1 z.1)) s := by
  rw [arm_eval_Slice]
  refine OkT.step (Bnd_snd hl R I ht e2) fun va B₂ h₂ tk2 X2 ra ht2 => ?_
  refine OkT.step (G.holding (Bnd_snd hh (s := (upd s h₂ tk2)) R (I.evo X2) ht2 e3)) fun vb B₃ h₃ tk3 X3 rb ht3 => ?_
  refine G.bind (G.holding (G.pure ?_))
  have K3 := ((I.evo X2).evo X3).kp
  have hs := Evo.alloc K3.keep K3.pool { cls := .type "slice", data := .fields #[va, vb, .none] } rfl
  exact G.any (wpAny_newObj_type (.mk hs ⟨h₃.objs.size, va, vb, rfl, Bm.add_self, (ra.mono X3.mono).mono hs.mono, rb.mono hs.mono⟩ ht3))
theorem Slice_snd {o : Expr} {lo hi : Option Expr} {sp pos : Pos} {mo ml mh : E} (ho : EvC b0 g prog w d c call o mo) (hl : BndC b0 g prog w d c call lo ml) (hh : BndC b0 g prog w d c call hi mh) :
    EvC b0 g prog w d c call (.Subscript o (.Slice lo hi none sp) pos) (.slice mo ml mh) := fun A s pr B ρ p z p' R I ht q =>
  iv_slice (P := fun z p' => wpG (model prog w) A (eval _ c.env) (Ok g B s p' z) s) q fun x y u r e1 e2 e3 e4 => by
  rw [arm_eval_Subscript]
  refine OkT.step (ho A s pr B ρ p _ _ R I ht e1) fun v B₁ h₁ tk X rv ht1 => ?_
  refine OkT.step (G.holding (slice_made hl hh (s := (upd s h₁ tk)) R (I.evo X) ht1 e2 e3)) fun su B₂ h₂ tk2 X2 ru ht2 => g_stand ?_
  obtain ⟨sa, va, vb, rfl, hsa, ra, rb⟩ := ru
  have I2 := (I.evo X).evo X2
  refine G.bind (G.any (slice_native I2.kp (rv.mono X2.mono) e4 ?_))
  exact letT (t := operate [.ref sa, v] (getItem v (.ref sa))) (G.operate (G.leaf ht2 fun Q hQ => slice_snd I2.kp (rv.mono X2.mono) ra rb (I2.keep _ _ hsa) e4 hQ))
/-! methods -/
theorem any_all {l : List (Bool × Sem Value)} (h : l.any (·.1) = false) : l.all (fun x => !x.1) = true := List.all_eq_true.mpr fun x m => by
  have := List.any_eq_false.mp h x m
  rw [Bool.not_eq_true'] ; exact Bool.eq_false_iff.mpr this
theorem Meth_pre {o : Expr} {name : Str} {apos pos : Pos} {es : List Expr} {s : Shared} {A : Around} {Q : Value → Shared → Prop} (hs : NoBase o) (hl : (apos.endLine == pos.line) = true) (hn : es.length < 30) (hp : ∀ e ∈ es, NonStar e)
    (h : wpG (model prog w) A (eval o c.env) (fun ov s₁ => ∀ pl, wpG (model prog w) A (getMethod ov name pl) (fun ff s₂ => wpG (model prog w) A (callWith pos ff.1 ff.2 (backTo pos (starEach es c.env)) []) Q s₂) s₁) s) :
    wpG (model prog w) A (eval (.Call (.Attribute o name apos) es [] pos) c.env) Q s := by
  rw [arm_eval_Call, hs]
  refine G.bind (G.mono h fun ov s₁ h₁ => g_stand ?_)
  have hform : methodCallForm (es.length + ([] : List Keyword).length) (backTo pos (starEach es c.env)) (backToKw pos (keywordEach [] c.env)) = true := by
    unfold methodCallForm
    rw [any_all (args_plain (env := c.env) (pos := pos) hp)]
    exact decide_eq_true (show es.length + 0 + 0 < 30 from hn)
  have hpos : methodCallPos true o c.env apos pos = Pure.pure pos := by unfold methodCallPos; simp [hl]
  unfold methodCall
  rw [hform]
  refine G.bind (G.holding (G.mono (h₁ _) fun ff s₂ h₂ => ?_))
  exact G.e (t := methodCallPos true o c.env apos pos) hpos h₂
theorem iv_meth {P : PV → Pl → Prop} {mi : MI} {a : E} {es : Es} {ρ : List PV} {p p' : Pl} {z : PV} (q : ev call (.meth mi a es) false ρ p = some (z, p'))
    (k : ∀ x y r, ev call a false ρ p = some x → evs call es ρ x.2 = some y → methX call mi x.1 y.1 y.2 = some r → P r.1 r.2) : P z p' :=
  bndC (x := ev call a false ρ p) q fun x e1 q => bndC (x := evs call es ρ x.2) q fun y e2 q => bndC (x := methX call mi x.1 y.1 y.2) q fun r e3 q => outC q (k x y r e1 e2 e3)
/-- a method's object and arguments are walked; what is done then is told by k -/
theorem meth_walk {o : Expr} {name : Str} {apos pos : Pos} {es : List Expr} {mo : E} {mes : List E} {f : Value} (hs : NoBase o) (hl : (apos.endLine == pos.line) = true) (hn : es.length < 30)
    (ho : EvC b0 g prog w d c call o mo) (hes : All2 (fun e me => NonStar e ∧ EvC b0 g prog w d c call e me) es mes) {A : Around} {s : Shared} {pr : List Addr} {B : Bm} {ρ : List PV} {p p' : Pl} {x : PV × Pl} {rs : List PV × Pl} {z : PV} (R : RoomC d c A) (I : Inv b0 g c pr B ρ p s.heap) (ht : 1 ≤ s.toks)
    (e1 : ev call mo false ρ p = some x) (e2 : evs call (toEs mes) ρ x.2 = some rs) (hm : ∀ {s : Shared} {B : Bm} {v : Value} {pl : Sem Bool} {Q : Value × List Value → Shared → Prop}, Kp b0 g B x.2 s.heap → Rd g B v x.1 → Q (f, [v]) s → wpAny (model prog w) A (getMethod v name pl) Q No s)
    (hc : ∀ s : Shared, (∀ a o, b0.get? a = some o → s.heap.get? a = some o) → Calm f s)
    (hk : ∀ v vs B s, FF g B A s.heap → Kp b0 g B rs.2 s.heap → Rd g B v x.1 → RdL g B vs rs.1 → 1 ≤ s.toks → wpG (model prog w) A (PySem.call f ([v] ++ vs)) (Ok g B s p' z) s) :
    wpG (model prog w) A (eval (.Call (.Attribute o name apos) es [] pos) c.env) (Ok g B s p' z) s := by
  refine Meth_pre hs hl hn (toEs_all hes) (G.mono (ho A s pr B ρ p _ _ R I ht e1) fun ov s₁ k pl => ?_)
  cases k with
  | mk X rv ht1 =>
    refine G.any (hm (I.evo X).kp rv (G.callWith (args_plain (toEs_all hes)) (G.mono (EsC.of hes A (upd s _ _) pos pr _ ρ _ _ _ R (I.evo X) ht1 e2) fun vs s' k => ?_)))
    cases k with
    | mk X2 rvs ht2 =>
      have I2 := (I.evo X).evo X2
      exact ⟨hc _ I2.kp.heap, G.mono (hk ov vs _ (upd (upd s _ _) _ _) (I2.ff R) I2.kp (rv.mono X2.mono) rvs ht2) fun _ _ q => (q.trans X2).trans X⟩
theorem methX_inv {mi : MI} (hm : mi ≠ .takes) {x : PV} {vs : List PV} {p : Pl} {r : PV × Pl} (q : methX call mi x vs p = some r) : methOp mi x vs = some r.1 ∧ r.2 = p := by
  cases mi <;> first | exact absurd rfl hm | exact bndC (x := methOp _ x vs) q fun o e q => Option.some.inj q ▸ ⟨e, rfl⟩
theorem Meth_snd {o : Expr} {apos pos : Pos} {es : List Expr} {mi : MI} {mo : E} {mes : List E} (hm : mi ≠ .takes) (hs : NoBase o) (hl : (apos.endLine == pos.line) = true) (hn : es.length < 30)
    (ho : EvC b0 g prog w d c call o mo) (hes : All2 (fun e me => NonStar e ∧ EvC b0 g prog w d c call e me) es mes) :
    EvC b0 g prog w d c call (.Call (.Attribute o (methStr mi) apos) es [] pos) (.meth mi mo (toEs mes)) := fun A s pr B ρ p z p' R I ht q =>
  iv_meth (P := fun z p' => wpG (model prog w) A (eval _ c.env) (Ok g B s p' z) s) q fun x rs r e1 e2 e3 => by
    obtain ⟨e3, e4⟩ := methX_inv hm e3
    exact meth_walk (f := .builtin (methBlt mi)) hs hl hn ho hes R I ht e1 e2 (fun {s B v pl Q} K rv h => rv.strC (P := fun v => Q (.builtin (methBlt mi), [v]) s → wpAny (model prog w) A (getMethod v (methStr mi) pl) Q No s) e3 (fun i t _ h => str_getMethod hm h) noneN h) (fun _ _ => Calm.builtin _ _)
      fun v vs B s ff K rv rvs ht => e4 ▸ G.leaf ht fun Q hQ => methOp_snd K rv rvs e3 hQ
theorem Takes_snd (W : Wd b0 g prog w fa) (H : CallOk b0 g prog w fa d call) {o : Expr} {apos pos : Pos} {es : List Expr} {mo : E} {mes : List E} (hs : NoBase o) (hl : (apos.endLine == pos.line) = true) (hn : es.length < 30)
    (ho : EvC b0 g prog w d c call o mo) (hes : All2 (fun e me => NonStar e ∧ EvC b0 g prog w d c call e me) es mes) (hobj : ∀ xs p r, call fTakes xs p = some r → ∃ k sgn l, xs = .obj k sgn :: l) :
    EvC b0 g prog w d c call (.Call (.Attribute o (methStr .takes) apos) es [] pos) (.meth .takes mo (toEs mes)) := fun A s pr B ρ p z p' R I ht q =>
  iv_meth (P := fun z p' => wpG (model prog w) A (eval _ c.env) (Ok g B s p' z) s) q fun x rs r e1 e2 e3 => by
    have e3 : call fTakes (x.1 :: rs.1) rs.2 = some r := e3
    obtain ⟨k, sgn, l, hx⟩ := hobj _ _ _ e3
    exact meth_walk (f := .ref (fa fTakes)) hs hl hn ho hes R I ht e1 e2 (fun {s B v pl Q} K rv h => W.takes A _ B _ v k sgn pl _ K ((List.cons.inj hx).1 ▸ rv) h) (fun s h => W.calm _ s h)
      fun v vs B s ff K rv rvs ht => H A s B _ fTakes _ _ _ _ R.toRoom ff K (RdL.cons rv rvs) ht e3
/-- two texts that stand as constants -/
theorem two_consts {y z : Str} {py pz : Pos} {ny nz : Nat} {env : Env} {pos : Pos} {M : Model} {A : Around} {s : Shared} {Q : List Value → Shared → Prop} (h : Q [.str y s.toks, .str z (s.toks + 1)] { s with toks := s.toks + 1 + 1 }) :
    wpG M A (spliced (backTo pos (starEach [.Constant (.str y) ny py, .Constant (.str z) nz pz] env))) Q s := by
  show wpG M A (spliced [(false, eval (.Constant (.str y) ny py) env), (false, eval (.Constant (.str z) nz pz) env)]) Q s
  exact G.any (spliced_cons (Constant_str (spliced_cons (Constant_str (spliced_nil h)))))
theorem Repl_snd {o : Expr} {apos pos py pz : Pos} {ny nz : Nat} {y z : Str} {mo : E} (hs : NoBase o) (hl : (apos.endLine == pos.line) = true)
    (ho : EvC b0 g prog w d c call o mo) :
    EvC b0 g prog w d c call (.Call (.Attribute o "replace" apos) [.Constant (.str y) ny py, .Constant (.str z) nz pz] [] pos) (.repl mo y z) := fun A s pr B ρ p r p' R I ht q =>
  iv_un (P := fun z p' => wpG (model prog w) A (eval _ c.env) (Ok g B s p' z) s) (f := fun x => replOp x y z) q fun x o' e1 e2 => by
  have hp : ∀ e ∈ [Expr.Constant (.str y) ny py, .Constant (.str z) nz pz], NonStar e := fun e m => (List.mem_cons.mp m).elim (fun q => q ▸ fun _ _ => rfl) fun m => (List.mem_singleton.mp m) ▸ fun _ _ => rfl
  refine Meth_pre hs hl (by show 2 < 30; decide) hp (G.mono (ho A s pr B ρ p _ _ R I ht e1) fun ov s₁ k pl => ?_)
  cases k with
  | mk X rv ht1 =>
    rename_i B₁ h₁ tk
    refine rv.strC (P := fun ov => wpG (model prog w) A (getMethod ov "replace" pl) _ (upd s h₁ tk)) e2 (fun x' t e2 => ?_) noneN
    refine G.any (repl_getMethod (G.callWith rfl (two_consts ⟨Calm.builtin _ _, ?_⟩)))
    refine G.mono (G.leaf (r := o') (B := B₁) (g := g) (p₁ := x.2) (by show 1 ≤ tk + 1 + 1; exact Nat.le_add_left _ _) fun Q hQ => repl_snd (grdP e2).1 (grdP e2).2.1 (grdP e2).2.2 (Nat.ne_of_gt ht1) (Nat.succ_ne_zero tk) (Nat.ne_of_lt (Nat.lt_succ_self tk)) fun t' tk' => hQ.nowE (K := (I.evo X).kp) (grdE e2) (.str _ _) _) fun v s' q => ?_
    cases q with
    | mk y1 r1 t1 => exact .mk (s := s) (X.trans y1) r1 t1
end
/-! side changes: objects that belong to nobody -/
/-- all stands but for one place -/
noncomputable def Far (X : Addr) (h h' : Heap) : Prop := ∀ a o, a ≠ X → h.get? a = some o → h'.get? a = some o
theorem Far.but {X : Addr} {h h' : Heap} (s : Heap.SameBut X h h') : Far X h h' := fun a o n e => (s.2 a n).trans e
theorem Far.get {X : Addr} {h h' : Heap} (k : Far X h h') {h0 : Heap} (h0X : h0.get? X = none) {a : Addr} {o o' : Obj} (e0 : h0.get? a = some o') (e : h.get? a = some o) : h'.get? a = some o := k a o (fun q => by rw [q, h0X] at e0; cases e0) e
theorem Far.keep {X : Addr} {h h' : Heap} (k : Far X h h') {B : Bm} (hB : B X = none) (q : Keep B h) : Keep B h' := fun a o e => k a o (fun q => by rw [q, hB] at e; cases e) (q a o e)
theorem Far.pool {g : Cfg} {p : Pl} {X : Addr} {h h' : Heap} (k : Far X h h') (hP : g.P ≠ some X) (q : PoolAt g p h) : PoolAt g p h' := fun a e => by
  obtain ⟨t, u, n, e'⟩ := q a e
  exact ⟨t, u, n, k a _ (fun q => hP (q ▸ e)) e'⟩
theorem PoolAt.ne {g : Cfg} {p : Pl} {h : Heap} (q : PoolAt g p h) {a : Addr} (e : h.get? a = none) : g.P ≠ some a := fun z => by
  obtain ⟨t, u, n, e'⟩ := q a z
  rw [e] at e'; cases e'
theorem LocOk.pr {g : Cfg} {B : Bm} {h : Heap} {pr : List Addr} {o : Addr} {v? : Option Value} {z : PV} (x : LocOk g B h pr o v? z) (n : z.isOwn = true) : o ∈ pr := by
  cases z with
  | own xs => exact x.2.1
  | ownb b => exact x.2.1
  | _ => cases n
theorem Inv.side {b0 : Heap} {g : Cfg} {c : Act} {pr : List Addr} {B : Bm} {ρ : List PV} {p : Pl} {h h' : Heap} (I : Inv b0 g c pr B ρ p h) {X : Addr} (hk : Far X h h')
    (hB : B X = none) (hp : X ∉ pr) (hP : g.P ≠ some X) (h0 : c.h0.get? X = none) (hc : ∀ v?, ¬ h.IsCell X v?) : Inv b0 g c pr B ρ p h' :=
  have np : ∀ {a}, a ∈ pr → a ≠ X := fun m q => hp (q ▸ m)
  { ok := I.ok, base := I.base, keep := hk.keep hB I.keep, pool := hk.pool hP I.pool
    old := fun a o e n => (I.old a o e n).map fun o' e' => hk.get h0 e e'
    thereO := fun a o e => let ⟨o', e'⟩ := I.thereO a o e; ⟨o', hk.get h0 e e'⟩
    prv := fun a mm => by
      obtain ⟨q1, q2, q3, o5, q4⟩ := I.prv a mm
      exact ⟨q1, q2, q3, o5, hk a o5 (np mm) q4⟩
    Lpr := I.Lpr
    locs := let ⟨m, ow, L⟩ := I.locs; ⟨m, ow, L.ns.at' fun o e => hk _ o (np I.Lpr) e, fun i x z e1 e2 => (L.loc i x z e1 e2).up (Sub.refl B) (fun n ob e => hk _ ob (np ((L.loc i x z e1 e2).pr n)) e) fun _ m => m, L.apart⟩
    cel := fun i x k z e1 nl e2 => by
      obtain ⟨a, v?, h1, h2, h3⟩ := I.cel i x k z e1 nl e2
      obtain ⟨oc, ho, hd⟩ := id h2
      exact ⟨a, v?, h1, ⟨oc, hk a oc (fun q => hc v? (q ▸ h2)) ho, hd⟩, h3⟩
    len := I.len, pB := I.pB, nf := I.nf }
theorem Evo.side {g : Cfg} {B B' : Bm} {h h' h'' : Heap} {p : Pl} (x : Evo g B h p B' h') {X : Addr} (hk : Far X h' h'') (hB : B' X = none) (h0 : h.get? X = none) (hP : g.P ≠ some X) : Evo g B h p B' h'' where
  mono := x.mono
  new := x.new
  keep := hk.keep hB x.keep
  old := fun a o e n => (x.old a o e n).map fun o' e' => hk.get h0 e e'
  there := fun a o e => let ⟨o', e'⟩ := x.there a o e; ⟨o', hk.get h0 e e'⟩
  pool := hk.pool hP x.pool
theorem Evo.addB {g : Cfg} {B B' : Bm} {h h' : Heap} {p : Pl} (x : Evo g B h p B' h') {D : Addr} {o : Obj} (hD : h'.get? D = some o) (h0 : h.get? D = none) (hB : B' D = none) : Evo g B h p (B'.add D o) h' where
  mono := x.mono.trans (Bm.sub_add hB)
  new := fun a ob e => (Bm.add_inv e).elim (x.new a ob) fun q => .inr (q.1 ▸ h0)
  keep := fun a ob e => (Bm.add_inv e).elim (x.keep a ob) fun q => q.1 ▸ q.2 ▸ hD
  old := x.old
  there := x.there
  pool := x.pool
theorem Evo.gone {g : Cfg} {B B' : Bm} {h h' : Heap} {p : Pl} (x : Evo g B h p B' h') {a : Addr} (e : h'.get? a = none) : h.get? a = none := (x.toS []).gone e
theorem Evo.strans {g : Cfg} {B B' B'' : Bm} {h h' h'' : Heap} {p p' : Pl} {pr pr' : List Addr} (x : Evo g B h p B' h') (y : SEvo g pr B' h' pr' B'' h'') (hpr : ∀ a ∈ pr, h.get? a = none) (k : Keep B'' h'') (q : PoolAt g p' h'') : Evo g B h p' B'' h'' where
  mono := x.mono.trans y.mono
  new := fun a o e => (y.new a o e).elim (x.new a o) fun e => .inr (e.elim x.gone (hpr a))
  keep := k
  old := fun a o e n => (x.old a o e n).trans fun o' e' => y.old a o' e' (fun m => by rw [hpr a m] at e; cases e) n
  there := fun a o e => let ⟨o', e'⟩ := x.there a o e; y.there a o' e'
  pool := q
theorem SEvo.side {g : Cfg} {pr pr' : List Addr} {B B' : Bm} {h h' h'' : Heap} (x : SEvo g pr B h pr' B' h') {X : Addr} (hk : Far X h' h'') (h0 : h.get? X = none) : SEvo g pr B h pr' B' h'' where
  mono := x.mono
  new := x.new
  old := fun a o e n n' => (x.old a o e n n').map fun o' e' => hk.get h0 e e'
  there := fun a o e => let ⟨o', e'⟩ := x.there a o e; ⟨o', hk.get h0 e e'⟩
  prn := x.prn
theorem SEvo.stay {g : Cfg} {pr pr' : List Addr} {B B' : Bm} {h h' : Heap} (x : SEvo g pr B h pr' B' h') {D : Addr} {o : Obj} (hD : h.get? D = some o) (hp : D ∉ pr) (hB : B D = none) : B' D = none ∧ D ∉ pr' := by
  have no : ¬ h.get? D = none := fun e => by rw [hD] at e; cases e
  constructor
  · cases q : B' D with
    | none => rfl
    | some o' => exact (x.new D o' q).elim (fun e => by rw [hB] at e; cases e) fun e => e.elim (fun e => (no e).elim) fun e => (hp e).elim
  · exact fun m => (x.prn D m).elim hp no
theorem Evo.stay {g : Cfg} {B B' : Bm} {h h' : Heap} {p : Pl} (x : Evo g B h p B' h') {D : Addr} {o : Obj} (hD : h.get? D = some o) (hB : B D = none) : B' D = none := ((x.toS []).stay hD (fun m => nomatch m) hB).1
/-- an iterator at work beside an activation -/
structure ItS (g : Cfg) (B₁ : Bm) (Ia : Addr) (St : Nat → Heap → Prop) (i : Nat) (pr : List Addr) (B : Bm) (h : Heap) : Prop where
  st : St i h
  sb : Sub B₁ B
  kp : Keep B h
  bI : B Ia = none
  np : Ia ∉ pr
section
variable {g : Cfg} {B₁ B B' : Bm} {Ia : Addr} {St : Nat → Heap → Prop} {i j : Nat} {pr pr' : List Addr} {h h' : Heap} {prog : Program} {w : World} {items : List PV}
theorem Iter.obj (W : Iter g B₁ prog w items Ia St) (st : St i h) : ∃ o, h.get? Ia = some o ∧ (∀ es ep, o.data ≠ .dict es ep) ∧ ∀ v?, o.data ≠ .cell v? :=
  by
    obtain ⟨ob, _, _, e, _, dd, _⟩ := W.live i h st
    exact ⟨ob, e, (fun _ _ q => nomatch dd.symm.trans q), (fun _ q => nomatch dd.symm.trans q)⟩
theorem Iter.noCell (W : Iter g B₁ prog w items Ia St) (st : St i h) (v? : Option Value) : ¬ h.IsCell Ia v? := fun ⟨oc, ho, hd⟩ => by
  obtain ⟨o, e, _, n⟩ := W.obj st
  rw [ho] at e; cases e
  exact n _ hd
theorem ItS.frame (W : Iter g B₁ prog w items Ia St) {A : Around} (hA : A.handled = none) (T : ItS g B₁ Ia St i pr B h) (sb : Sub B₁ B') (k : Keep B' h') (hi : ∀ o, h.get? Ia = some o → h'.get? Ia = some o) : St i h' :=
  W.frame A i h h' hA T.st (fun a o q => T.kp a o (T.sb a o q)) (fun a o q => k a o (sb a o q)) hi
theorem ItS.sevo (W : Iter g B₁ prog w items Ia St) {A : Around} (hA : A.handled = none) (nP : g.P ≠ some Ia) (T : ItS g B₁ Ia St i pr B h) (Y : SEvo g pr B h pr' B' h') (k : Keep B' h') : ItS g B₁ Ia St i pr' B' h' := by
  obtain ⟨o, e, nd, _⟩ := W.obj T.st
  obtain ⟨b', n'⟩ := Y.stay e T.np T.bI
  exact ⟨T.frame W hA (T.sb.trans Y.mono) k fun o' q => (Y.old Ia o' q T.np nP).exact (Option.some.inj (e.symm.trans q) ▸ nd), T.sb.trans Y.mono, k, b', n'⟩
theorem ItS.move (T : ItS g B₁ Ia St i pr B h) (far : Far Ia h h') (st : St j h') : ItS g B₁ Ia St j pr B h' := ⟨st, T.sb, far.keep T.bI T.kp, T.bI, T.np⟩
end
/-! closures -/
theorem freesOf_cons {n : Str} {k : NameKind} {r : List (Str × NameKind)} : freesOf ((n, k) :: r) = if (k == NameKind.free) = true then n :: freesOf r else freesOf r := by
  unfold freesOf
  rw [List.filter_cons]
  show List.map _ (if (k == NameKind.free) = true then _ else _) = _
  split <;> rfl
theorem closure_snd {env : Env} {scope : Scope} (h : ∀ y ∈ freesOf scope.names, ∃ a, env.cells.lookup y = some a) :
    ∃ cl, closureFor scope env = pure cl ∧ (∀ y a, cl.lookup y = some a → env.cells.lookup y = some a) ∧ ∀ y ∈ freesOf scope.names, ∃ a, cl.lookup y = some a := by
  unfold closureFor
  have key : ∀ (names : List (Str × NameKind)) (acc : List (Str × Addr)), (∀ y ∈ freesOf names, ∃ a, env.cells.lookup y = some a) → (∀ x ∈ acc, env.cells.lookup x.1 = some x.2) →
      ∃ cl : List (Str × Addr), (forIn names acc fun x cs => (match x with | (name, kind) => if kind == NameKind.free then (do let a ← cellOf env name; pure (ForInStep.yield ((name, a) :: cs)) : Sem (ForInStep (List (Str × Addr)))) else pure (ForInStep.yield cs))) = pure cl ∧
        (∀ x ∈ cl, env.cells.lookup x.1 = some x.2) ∧ (∀ x ∈ acc, x ∈ cl) ∧ ∀ y ∈ freesOf names, ∃ a, (y, a) ∈ cl := by
    intro names
    induction names with
    | nil => intro acc _ ha; exact ⟨acc, rfl, ha, fun x m => m, fun y m => by simp [freesOf] at m⟩
    | cons x r ih =>
      intro acc hf ha
      obtain ⟨n, k⟩ := x
      rw [List.forIn_cons]
      by_cases hk : (k == NameKind.free) = true
      · have hf1 : freesOf ((n, k) :: r) = n :: freesOf r := by rw [freesOf_cons, if_pos hk]
        have hm : n ∈ freesOf ((n, k) :: r) := by rw [hf1]; exact List.mem_cons_self
        obtain ⟨a, hl⟩ := hf n hm
        obtain ⟨cl, e, h1, h2, h3⟩ := ih ((n, a) :: acc) (fun y m => hf y (by rw [hf1]; exact List.mem_cons_of_mem _ m)) (fun x m => by
          rcases List.mem_cons.mp m with rfl | m
          · exact hl
          · exact ha x m)
        refine ⟨cl, ?_, h1, fun x m => h2 x (List.mem_cons_of_mem _ m), fun y m => ?_⟩
        · simp only [hk, if_true, cellOf, hl, pure_bind]
          exact e
        · rw [hf1] at m
          rcases List.mem_cons.mp m with rfl | m
          · exact ⟨a, h2 _ List.mem_cons_self⟩
          · exact h3 y m
      · have hf1 : freesOf ((n, k) :: r) = freesOf r := by rw [freesOf_cons, if_neg hk]
        obtain ⟨cl, e, h1, h2, h3⟩ := ih acc (fun y m => hf y (by rw [hf1]; exact m)) ha
        refine ⟨cl, ?_, h1, h2, fun y m => ?_⟩
        · simp only [hk]
          exact e
        · rw [hf1] at m
          exact h3 y m
  obtain ⟨cl, e, h1, _, h3⟩ := key scope.names [] h (fun x m => by cases m)
  refine ⟨cl, ?_, fun y a q => h1 _ (mem_of_lookup q), fun y m => ?_⟩
  · have : ∀ {x : Sem (List (Str × Addr))}, x = pure cl → (x >>= fun cs => pure cs) = pure cl := fun e => by rw [e]; rfl
    exact this e
  · obtain ⟨a, ma⟩ := h3 y m
    have : ∀ (l : List (Str × Addr)) , (y, a) ∈ l → ∃ b, l.lookup y = some b := by
      intro l
      induction l with
      | nil => intro m; cases m
      | cons x r ih =>
        intro m
        obtain ⟨k, v⟩ := x
        rw [List.lookup_cons]
        cases hb : y == k with
        | true => exact ⟨v, rfl⟩
        | false =>
          rcases List.mem_cons.mp m with e | m
          · cases e; simp at hb
          · exact ih m
    exact this cl ma
theorem lookup_mapK (r : Str → NameKind → NameKind) : ∀ (names : List (Str × NameKind)) (x : Str), (names.map fun y => (y.1, r y.1 y.2)).lookup x = (names.lookup x).map (r x)
  | [], _ => rfl
  | (n, k) :: l, x => by
    rw [List.map_cons, List.lookup_cons, List.lookup_cons]
    show (match x == n with | true => some (r n k) | false => _) = _
    cases hx : x == n with
    | true =>
      have : x = n := eq_of_beq hx
      subst this; rfl
    | false => exact lookup_mapK r l x
theorem lookup_relabel {env : Env} {scope : Scope} {x : Str} :
    (relabel scope env).names.lookup x =
      (scope.names.lookup x).map fun k => if (k == NameKind.free && env.scope.kind == .function && env.kindOf x == some .cell) then NameKind.cell else k := by
  have : (relabel scope env).names = scope.names.map fun y => (y.1, (fun n k => if (k == NameKind.free && env.scope.kind == .function && env.kindOf n == some .cell) then NameKind.cell else k) y.1 y.2) := by
    unfold relabel
    dsimp only
    refine List.map_congr_left fun y _ => ?_
    obtain ⟨n, k⟩ := y
    dsimp only
    split <;> rfl
  rw [this]
  exact lookup_mapK (fun n k => if (k == NameKind.free && env.scope.kind == .function && env.kindOf n == some .cell) then NameKind.cell else k) _ _
/-- the activation of a comprehension -/
noncomputable def compAct (x : Str) (scope : Scope) (cl : List (Str × Addr)) (C : Addr) (c : Act) (h0 : Heap) : Act :=
  ⟨compEnvC scope cl C c.env, h0, (compGm x scope).names, (compGm x scope).vars, c.env.locals :: c.F⟩
theorem RoomC.comp {d : Nat} {c : Act} {A : Around} (R : RoomC d c A) (x : Str) (scope : Scope) (cl : List (Str × Addr)) (C : Addr) (h0 : Heap) : RoomC d (compAct x scope cl C c h0) A :=
  ⟨R.toRoom, let ⟨l, e, H⟩ := R.frm; ⟨l, e, fun env m => let ⟨k, L, hf, hL⟩ := H env m; ⟨k, L, hf, .inr (hL.elim (fun e => e ▸ List.mem_cons_self) fun m => List.mem_cons_of_mem _ m)⟩⟩⟩
theorem nodupN_lookup {α : Type} : ∀ {l : List (Str × α)} {x : Str} {k : α}, nodupN (l.map (·.1)) = true → (x, k) ∈ l → l.lookup x = some k
  | (n, v) :: r, x, k, h, m => by
    rw [List.map_cons] at h
    unfold nodupN at h
    rw [Bool.and_eq_true] at h
    rw [List.lookup_cons]
    rcases List.mem_cons.mp m with e | m2
    · cases e; rw [beq_self_eq_true]
    · have hx : (x == n) = false := by
        rw [beq_eq_false_iff_ne]; rintro rfl
        have h1 : (!(r.map (·.1)).contains x) = true := h.1
        rw [Bool.not_eq_true', List.contains_eq_mem, decide_eq_false_iff_not] at h1
        exact h1 (List.mem_map_of_mem (f := (·.1)) m2)
      rw [hx]
      exact nodupN_lookup h.2 m2
structure CompOk (x : Str) (scope : Scope) : Prop where
  kind : scope.kind = .function
  xl : scope.names.lookup x = some .local
  kinds : ∀ y ∈ scope.names, y.2 = .globalImplicit ∨ y.2 = .free ∨ y.2 = .local
  nd : nodupN (scope.names.map (·.1)) = true
  free : ∀ y ∈ freesOf scope.names, (y == Str.ofString "__classdict__") = false ∧ (y == Str.ofString "__debug__") = false
  dbg : (x == Str.ofString "__debug__") = false
theorem compOk_inv {x : Str} {scope : Scope} (h : compOk x scope = true) : CompOk x scope := by
  unfold compOk at h
  simp only [Bool.and_eq_true, List.all_eq_true, Bool.or_eq_true, beq_iff_eq, Bool.not_eq_true'] at h
  obtain ⟨⟨⟨⟨⟨h1, h2⟩, h3⟩, h4⟩, h5⟩, h6⟩ := h
  refine ⟨h1, h2, fun y m => ?_, h4, fun y m => ?_, h6⟩
  · rcases h3 y m with (q | q) | q
    · exact .inl q
    · exact .inr (.inl q)
    · exact .inr (.inr q.1)
  · exact h5 y m
theorem CompOk.freeL {x : Str} {scope : Scope} (K : CompOk x scope) {y : Str} (m : y ∈ freesOf scope.names) : scope.names.lookup y = some .free := by
  unfold freesOf at m
  obtain ⟨z, mz, rfl⟩ := List.mem_map.mp m
  obtain ⟨m1, m2⟩ := List.mem_filter.mp mz
  obtain ⟨n, k⟩ := z
  have : k = .free := by simpa using m2
  subst this
  exact nodupN_lookup K.nd m1
theorem CompOk.cell {x : Str} {scope : Scope} (K : CompOk x scope) : ∀ y ∈ scope.names, y.2 ≠ .cell := fun y m q => by
  rcases K.kinds y m with e | e | e <;> rw [q] at e <;> cases e
theorem CompOk.locs {x : Str} {scope : Scope} (K : CompOk x scope) : ∀ y ∈ scope.names, y.2 = .local → scope.names.lookup y.1 = some .local := fun y m q => by
  obtain ⟨n, k⟩ := y
  have q : k = .local := q
  subst q
  exact nodupN_lookup K.nd m
theorem nodupN_get {l : List Str} : ∀ {i j : Nat} {x : Str}, nodupN l = true → l[i]? = some x → l[j]? = some x → i = j := by
  induction l with
  | nil => intro i j x _ h; simp at h
  | cons y r ih =>
    intro i j x h e1 e2
    unfold nodupN at h
    rw [Bool.and_eq_true] at h
    have hn : y ∉ r := by
      have h1 : (!r.contains y) = true := h.1
      rw [Bool.not_eq_true', List.contains_eq_mem, decide_eq_false_iff_not] at h1
      exact h1
    cases i with
    | zero =>
      cases j with
      | zero => rfl
      | succ j =>
        simp at e1 e2
        subst e1
        exact absurd (List.mem_of_getElem? e2) hn
    | succ i =>
      cases j with
      | zero =>
        simp at e1 e2
        subst e2
        exact absurd (List.mem_of_getElem? e1) hn
      | succ j =>
        simp at e1 e2
        rw [ih h.2 e1 e2]
theorem nodupN_filter {p : Str × NameKind → Bool} : ∀ {l : List (Str × NameKind)}, nodupN (l.map (·.1)) = true → nodupN ((l.filter p).map (·.1)) = true
  | [], _ => rfl
  | y :: r, h => by
    rw [List.map_cons] at h
    unfold nodupN at h
    rw [Bool.and_eq_true] at h
    rw [List.filter_cons]
    split
    · rw [List.map_cons]
      unfold nodupN
      rw [Bool.and_eq_true]
      refine ⟨?_, nodupN_filter h.2⟩
      have h1 : (!(r.map (·.1)).contains y.1) = true := h.1
      rw [Bool.not_eq_true', List.contains_eq_mem, decide_eq_false_iff_not] at h1 ⊢
      intro m
      obtain ⟨z, mz, e⟩ := List.mem_map.mp m
      exact h1 (e ▸ List.mem_map_of_mem (f := (·.1)) (List.mem_filter.mp mz).1)
    · exact nodupN_filter h.2
section
variable {b0 : Heap} {g : Cfg} {prog : Program} {w : World} {d : Nat} {c : Act} {call : Orc} {fa : Nat → Addr}
variable {pr : List Addr} {B : Bm} {ρ : List PV} {p : Pl} {h : Heap}
theorem compAct_ok {x : Str} {scope : Scope} (K : CompOk x scope) {cl : List (Str × Addr)} {C : Addr} {h0 : Heap} (O : EnvOk c) (hcl : ∀ y a, cl.lookup y = some a → c.env.cells.lookup y = some a) (hF : ∀ a ∈ c.env.locals :: c.F, ∃ o es n, h0.get? a = some o ∧ o.data = .dict es n) : EnvOk (compAct x scope cl C c h0) := by
  have hlk : ∀ y, (compAct x scope cl C c h0).env.kindOf y = (scope.names.lookup y).map fun k => if (k == NameKind.free && c.env.scope.kind == .function && c.env.kindOf y == some .cell) then NameKind.cell else k := fun y => lookup_relabel
  have vars : ∀ (i : Nat) y k, (compAct x scope cl C c h0).vars[i]? = some (y, k) → (i = 0 ∧ y = x ∧ k = .loc) ∨ (∃ j, i = j + 1 ∧ (freesOf scope.names)[j]? = some y ∧ k = .cap) := fun i y k e => by
    show _ ∨ _
    have e : ((x, VK.loc) :: (freesOf scope.names).map fun y => (y, VK.cap))[i]? = some (y, k) := e
    cases i with
    | zero => simp at e; exact .inl ⟨rfl, e.1.symm, e.2.symm⟩
    | succ j =>
      simp only [List.getElem?_cons_succ, List.getElem?_map] at e
      cases q : (freesOf scope.names)[j]? with
      | none => rw [q] at e; cases e
      | some z => rw [q] at e; simp at e; exact .inr ⟨j, rfl, by rw [e.1] at q; exact q, e.2.symm⟩
  have xnf : ∀ j y, (freesOf scope.names)[j]? = some y → y ≠ x := fun j y e q => by
    have := K.freeL (List.mem_of_getElem? e)
    rw [q, K.xl] at this; cases this
  refine ⟨K.kind, O.glob, O.blt, fun i y e => ?_, fun i y e => ?_, fun i y e => ?_, fun y e => ?_, fun y z a e1 e2 => O.inj y z a (hcl _ _ e1) (hcl _ _ e2), fun i j y k k' e1 e2 => ?_, fun i y k e => ?_, hF⟩
  · rcases vars i y _ e with ⟨_, rfl, _⟩ | ⟨j, _, _, q⟩
    · rw [hlk, K.xl]; rfl
    · cases q
  · rcases vars i y _ e with ⟨_, _, q⟩ | ⟨j, _, _, q⟩ <;> cases q
  · rcases vars i y _ e with ⟨_, _, q⟩ | ⟨j, _, q, _⟩
    · cases q
    · have m := List.mem_of_getElem? q
      refine ⟨?_, (K.free y m).1⟩
      rw [hlk, K.freeL m]
      show some (if _ then NameKind.cell else NameKind.free) = some NameKind.cell ∨ some (if _ then NameKind.cell else NameKind.free) = some NameKind.free
      split
      · exact .inl rfl
      · exact .inr rfl
  · have e : scope.names.lookup y = some .globalImplicit := e
    rw [hlk, e]; rfl
  · rcases vars i y _ e1 with ⟨rfl, rfl, _⟩ | ⟨j1, rfl, q1, _⟩ <;> rcases vars j y _ e2 with ⟨rfl, q, _⟩ | ⟨j2, rfl, q2, _⟩
    · rfl
    · exact absurd rfl (xnf _ _ q2)
    · exact absurd q (xnf _ _ q1)
    · rw [nodupN_get (nodupN_filter K.nd) q1 q2]
  · rcases vars i y _ e with ⟨_, rfl, _⟩ | ⟨j, _, q, _⟩
    · exact K.dbg
    · exact (K.free y (List.mem_of_getElem? q)).2
theorem tests_false {env : Env} : ∀ (xs : List Expr), (forIn xs false fun c r => if r = true then do let ok ← isTrue c env (eval c env); pure (ForInStep.yield ok) else pure (ForInStep.yield r) : Sem Bool) = pure false
  | [] => rfl
  | x :: xs => by
    rw [List.forIn_cons]
    rw [if_neg Bool.false_ne_true, pure_bind]
    exact tests_false (env := env) xs
/-- the tests of a comprehension -/
theorem conds_snd {c' : Act} {ifs : List Expr} {mes : List E} (h : All2 (fun e me => TrC b0 g prog w d c' call e me) ifs mes) :
    ∀ A s pr B ρ p (z : Bool × Pl), RoomC d c' A → Inv b0 g c' pr B ρ p s.heap → 1 ≤ s.toks → evB call (toEs mes) .And ρ p = some z →
      wpG (model prog w) A (forIn ifs true fun c r => if r = true then do let ok ← isTrue c c'.env (eval c c'.env); pure (ForInStep.yield ok) else pure (ForInStep.yield r)) (OkB g B s z.2 z.1) s := by
  induction h with
  | nil =>
    intro A s pr B ρ p z R I ht q
    exact Option.some.inj q ▸ G.pure (OkT.ret I.keep I.pool rfl ht)
  | cons h _ ih =>
    intro A s pr B ρ p z R I ht q
    refine iv_bcons q fun y p1 e1 q => ?_
    rw [List.forIn_cons]
    refine G.bind (G.bind (G.mono (h A s pr B ρ p y p1 R I ht e1) fun v s' k => ?_))
    cases k with
    | mk X rv ht1 =>
      rw [rv]
      refine G.pure ?_
      cases y with
      | true => exact G.mono (ih A (upd s _ _) pr _ ρ p1 z R (I.evo X) ht1 q) fun _ _ q => q.trans X
      | false =>
        have q : (false, p1) = z := q
        exact G.of_eq (tests_false _) (q ▸ OkT.mk X rfl ht1)
end
section
variable {prog : Program} {w : World} {A : Around} {s : Shared} {R : Flow → Shared → Prop}
theorem g_standIf {α : Type} {M : Model} {c : Prop} [Decidable c] {pos : Pos} {k : PUnit → Sem α} {Q : α → Shared → Prop} (h : wpG M A (k ()) Q s) : wpG M A (if c then standAt pos >>= fun x => k x else k ()) Q s := G.ite (fun _ => g_stand h) fun _ => h
/-- one turn of a comprehension's loop -/
theorem g_compTurn {elt target iter : Expr} {ifs : List Expr} {scope : Scope} {pos : Pos} {it acc : Value} {env : Env} (ht : ∀ v, letOwnedTupleGo target it v = pure ())
    (turn : wpG (model prog w) A (pyNext it) (fun r s₁ => match r with
      | none => R .next s₁
      | some v => wpG (model prog w) A (assign target env v) (fun _ s₂ =>
          wpG (model prog w) A (forIn ifs true fun c r => if r = true then do let ok ← isTrue c env (eval c env); pure (ForInStep.yield ok) else pure (ForInStep.yield r)) (fun ok s₃ =>
            if ok = true then wpG (model prog w) A (eval elt env) (fun x s₄ =>
              wpG (model prog w) A (call (.builtin "list.append") [acc, x]) (fun _ s₅ => codeG (model prog w) A (.compLoop (.ListComp elt [⟨target, iter, ifs, 0⟩] scope pos) 0 it acc env) R s₅) s₄) s₃
            else codeG (model prog w) A (.compLoop (.ListComp elt [⟨target, iter, ifs, 0⟩] scope pos) 0 it acc env) R s₃) s₂) s₁) s) :
    codeG (model prog w) A (.compLoop (.ListComp elt [⟨target, iter, ifs, 0⟩] scope pos) 0 it acc env) R s := by
  refine G.code ?_ (fun _ _ => rfl)
  show wpG _ A ((compTurn (.ListComp elt [⟨target, iter, ifs, 0⟩] scope pos) 0 it acc env).onRaise (fun x => do noteFrame x env; theTreesLotGoes x)) _ s
  refine G.onRaise ?_
  rw [compTurn_list]
  refine g_stand (G.bind (G.mono turn fun r s₁ h₁ => ?_))
  cases r with
  | none => exact G.pure h₁
  | some v =>
    refine G.e (ht v) (G.bind (G.mono h₁ fun _ s₂ h₂ => G.bind (G.mono h₂ fun ok s₃ h₃ => ?_)))
    cases ok with
    | false => exact G.pure ⟨rfl, (fun _ _ => rfl), h₃⟩
    | true => exact G.bind (G.bind (G.mono h₃ fun x s₄ h₄ => G.bind (G.mono h₄ fun _ s₅ h₅ => G.pure (G.pure ⟨rfl, (fun _ _ => rfl), h₅⟩))))
theorem g_compStart {elt target iter : Expr} {ifs : List Expr} {scope : Scope} {pos : Pos} {it acc : Value} {env : Env}
    (h0 : codeG (model prog w) A (.compLoop (.ListComp elt [⟨target, iter, ifs, 0⟩] scope pos) 0 it acc env) R s)
    (hself : ∀ Q : Value → Shared → Prop, Q it s → wpAny (model prog w) A (pyIter it) Q No s) :
    codeG (model prog w) A (.compStart (.ListComp elt [⟨target, iter, ifs, 0⟩] scope pos) 0 it acc env) R s := by
  refine G.code ?_ (fun _ _ => rfl)
  show wpG _ A ((compStart (.ListComp elt [⟨target, iter, ifs, 0⟩] scope pos) 0 it acc env).onRaise (fun x => do noteFrame x env; standAt theWindowsPlace)) _ s
  refine G.onRaise ?_
  unfold compStart
  refine G.any ?_
  show wpAny _ _ (ask >>= _) _ _ s
  refine wpAny_bind (wpAny_askSetting (wpAny_ite ?_))
  split
  · first
      | exact wpAny_bind (wpAny_pure (wpAny_pure ⟨rfl, (fun _ _ => rfl), h0⟩))
      | exact wpAny_pure ⟨rfl, (fun _ _ => rfl), h0⟩
  · refine wpAny_bind (wpAny_rule ?_)
    show wpAny _ _ (standAt iter.pos >>= _) _ _ s
    exact wpAny_bind (wpAny_standAt (wpAny_bind (hself _ (wpAny_pure ⟨rfl, (fun _ _ => rfl), h0⟩))))
end
theorem getAll_inv {ρ : List PV} : ∀ {caps : List Nat} {cs : List PV}, getAll ρ caps = some cs → cs.length = caps.length ∧ ∀ (j k : Nat), caps[j]? = some k → ∃ z, cs[j]? = some z ∧ getV ρ k = some z
  | [], cs, e => Option.some.inj e ▸ ⟨rfl, fun _ _ e => nomatch e⟩
  | k :: l, cs, e => bndC (x := getV ρ k) e fun z e1 e => bndC (x := getAll ρ l) e fun zs e2 e => by
    have e : some (z :: zs) = some cs := e
    rw [← Option.some.inj e]
    obtain ⟨h1, h2⟩ := getAll_inv e2
    refine ⟨congrArg (· + 1) h1, fun j k' q => ?_⟩
    cases j with
    | zero => exact ⟨z, rfl, Option.some.inj q ▸ e1⟩
    | succ j => exact h2 j k' q
theorem All2.get {α β : Type} {R : α → β → Prop} {xs : List α} {ys : List β} (h : All2 R xs ys) : ∀ {i : Nat} {x : α}, xs[i]? = some x → ∃ y, ys[i]? = some y ∧ R x y := by
  induction h with
  | nil => exact fun e => nomatch e
  | cons h _ ih =>
    intro i x e
    cases i with
    | zero => exact ⟨_, rfl, Option.some.inj e ▸ h⟩
    | succ i => exact ih e
theorem All2.len {α β : Type} {R : α → β → Prop} {xs : List α} {ys : List β} (h : All2 R xs ys) : xs.length = ys.length := by
  induction h with
  | nil => rfl
  | cons _ _ ih => exact congrArg (· + 1) ih
section
variable {b0 : Heap} {g : Cfg} {prog : Program} {w : World} {d : Nat} {c : Act} {call : Orc} {fa : Nat → Addr}
/-- a captured name stands in a cell -/
noncomputable def CapOk (c : Act) (y : Str) (k : Nat) : Prop := c.vars[k]? = some (y, .cell) ∨ c.vars[k]? = some (y, .cap)
theorem CapOk.cel {pr : List Addr} {B : Bm} {ρ : List PV} {p : Pl} {h : Heap} {y : Str} {k : Nat} {z : PV} (hk : CapOk c y k) (I : Inv b0 g c pr B ρ p h) (e : getV ρ k = some z) : ∃ a v?, c.env.cells.lookup y = some a ∧ h.IsCell a v? ∧ Val g B v? z ∧ g.P ≠ some a := by
  have f : ∀ kk, c.vars[k]? = some (y, kk) → kk ≠ .loc → ∃ a v?, c.env.cells.lookup y = some a ∧ h.IsCell a v? ∧ Val g B v? z ∧ g.P ≠ some a := fun kk q n => by
    obtain ⟨a, v?, h1, h2, h3, _, h5⟩ := I.cel k y kk z q n (getV_inv e).1
    exact ⟨a, v?, h1, h2, h3, h5⟩
  exact hk.elim (fun q => f _ q (by decide)) fun q => f _ q (by decide)
/-- what the loop of a comprehension leaves -/
inductive CDone (g : Cfg) (B₁ : Bm) (s : Shared) (C D : Addr) (rs : List PV) (p' : Pl) : Flow → Shared → Prop
  | mk {f : Flow} {B' : Bm} {h' : Heap} {tk : Nat} (X : Evo g B₁ s.heap p' B' h') (rd : Rd g B' (.ref D) (.list rs)) (bC : B' C = none) (ns : ∃ m, h'.Ns C m) (t : 1 ≤ tk) : CDone g B₁ s C D rs p' f (upd s h' tk)
/-- the places of the iterator, of the list and of the frame -/
structure CF (g : Cfg) (h₁ : Heap) (Ia D C : Addr) : Prop where
  fI : h₁.get? Ia = none
  fD : h₁.get? D = none
  fC : h₁.get? C = none
  nI : g.P ≠ some Ia
  nD : g.P ≠ some D
  DI : D ≠ Ia
  CI : Ia ∉ [C]
  CD : D ∉ [C]
/-- the state of the loop -/
structure CT (b0 : Heap) (g : Cfg) (cA : Act) (B₁ : Bm) (h₁ : Heap) (St : Nat → Heap → Prop) (Ia D C : Addr) (i : Nat) (ρ : List PV) (p : Pl) (B : Bm) (h : Heap) (ys : Array Value) (rs : List PV) : Prop where
  X : Evo g B₁ h₁ p B h
  I : Inv b0 g cA [C] B ρ p h
  T : ItS g B₁ Ia St i [C] B h
  ac : ∃ n, h.get? D = some (listO ys n)
  rd : RdL g B ys.toList rs
  bD : B D = none
section
variable {cA : Act} {B₁ B B' : Bm} {h₁ h h' : Heap} {St : Nat → Heap → Prop} {Ia D C : Addr} {i : Nat} {ρ ρ' : List PV} {p p' : Pl} {ys : Array Value} {rs : List PV} {items : List PV} {A : Around}
theorem CT.evo (F : CF g h₁ Ia D C) (W : Iter g B₁ prog w items Ia St) (hA : A.handled = none) (T : CT b0 g cA B₁ h₁ St Ia D C i ρ p B h ys rs) (Y : Evo g B h p' B' h') : CT b0 g cA B₁ h₁ St Ia D C i ρ p' B' h' ys rs := by
  obtain ⟨n, hD⟩ := T.ac
  exact ⟨T.X.trans Y, T.I.evo Y, T.T.sevo W hA F.nI (Y.toS _) Y.keep, ⟨n, (Y.old D _ hD F.nD).exact (fun _ _ e => nomatch e)⟩, T.rd.mono Y.mono, Y.stay hD T.bD⟩
theorem CT.next (F : CF g h₁ Ia D C) (W : Iter g B₁ prog w items Ia St) (h0 : cA.h0 = h₁) (T : CT b0 g cA B₁ h₁ St Ia D C i ρ p B h ys rs) {j : Nat} (far : Far Ia h h') (st : St j h') : CT b0 g cA B₁ h₁ St Ia D C j ρ p B h' ys rs := by
  obtain ⟨n, hD⟩ := T.ac
  exact ⟨T.X.side far T.T.bI F.fI F.nI, T.I.side far T.T.bI F.CI F.nI (h0 ▸ F.fI) (W.noCell T.T.st), T.T.move far st, ⟨n, far D _ F.DI hD⟩, T.rd, T.bD⟩
theorem CT.store (F : CF g h₁ Ia D C) (W : Iter g B₁ prog w items Ia St) (hA : A.handled = none) (T : CT b0 g cA B₁ h₁ St Ia D C i ρ p B h ys rs) (I' : Inv b0 g cA [C] B ρ' p h') (S : SEvo g [C] B h [C] B h') : CT b0 g cA B₁ h₁ St Ia D C i ρ' p B h' ys rs := by
  obtain ⟨n, hD⟩ := T.ac
  exact ⟨T.X.strans S (fun a m => (List.mem_singleton.mp m) ▸ F.fC) I'.keep I'.pool, I', T.T.sevo W hA F.nI S I'.keep, ⟨n, (S.old D _ hD F.CD F.nD).exact (fun _ _ e => nomatch e)⟩, T.rd, T.bD⟩
theorem CT.push (F : CF g h₁ Ia D C) (W : Iter g B₁ prog w items Ia St) (hA : A.handled = none) (h0 : cA.h0 = h₁) (T : CT b0 g cA B₁ h₁ St Ia D C i ρ p B h ys rs) {v : Value} {x : PV} (rv : Rd g B v x) (hs : Heap.SameBut D h h') {n : Nat} (hD : h'.get? D = some (listO (ys.push v) n)) :
    CT b0 g cA B₁ h₁ St Ia D C i ρ p B h' (ys.push v) (rs ++ [x]) := by
  obtain ⟨m, hD0⟩ := T.ac
  have far := Far.but hs
  exact ⟨T.X.side far T.bD F.fD F.nD, T.I.side far T.bD F.CD F.nD (h0 ▸ F.fD) (fun v? ⟨oc, ho, hd⟩ => by rw [hD0] at ho; cases ho; cases hd),
    ⟨T.T.frame W hA T.T.sb (far.keep T.bD T.T.kp) (fun o e => far Ia o F.DI.symm e), T.T.sb, far.keep T.bD T.T.kp, T.T.bI, T.T.np⟩, ⟨n, hD⟩, by rw [Array.toList_push]; exact T.rd.snoc rv, T.bD⟩
theorem CT.done (F : CF g h₁ Ia D C) (h0 : cA.env.locals = C) (T : CT b0 g cA B₁ h₁ St Ia D C i ρ p B h ys rs) {s : Shared} (hs : s.heap = h₁) {f : Flow} {tk : Nat} (far : Far Ia h h') (ht : 1 ≤ tk) : CDone g B₁ s C D rs p f (upd s h' tk) := by
  subst hs
  obtain ⟨n, hD⟩ := T.ac
  have hD' := far D _ F.DI hD
  have X := (T.X.side far T.T.bI F.fI F.nI).addB hD' F.fD T.bD
  obtain ⟨m, ow, L⟩ := T.I.locs
  have ci : C ≠ Ia := fun q => F.CI (q ▸ List.mem_singleton.mpr rfl)
  have cd : C ≠ D := fun q => F.CD (q ▸ List.mem_singleton.mpr rfl)
  exact .mk (s := s) X (Rd.newList T.bD T.rd) (by unfold Bm.add; rw [if_neg cd]; exact (T.I.prv C (List.mem_singleton.mpr rfl)).2.1) ⟨m, (h0 ▸ L.ns).at' fun ob e => far C ob ci e⟩ ht
end
theorem iv_loop {F : PV → Pl → Option (Option PV × Pl)} {x : PV} {xs : List PV} {p : Pl} {z : List PV × Pl} {C : Prop} (q : compLoop F (x :: xs) p = some z) (k : ∀ r y, F x p = some r → compLoop F xs r.2 = some y → (consO r.1 y.1, y.2) = z → C) : C :=
  bndC (x := F x p) q fun r e1 q => bndC (x := compLoop F xs r.2) q fun y e2 q => k r y e1 e2 (Option.some.inj q)
theorem iv_turn {cf : List PV → Pl → Option (Bool × Pl)} {ef : List PV → Pl → Option (PV × Pl)} {cs : List PV} {x : PV} {p : Pl} {r : Option PV × Pl} (q : turnX cf ef cs x p = some r) :
    ∃ b, cf (x :: cs) p = some b ∧ (if b.1 = true then ∃ v, ef (x :: cs) b.2 = some v ∧ (some v.1, v.2) = r else (none, b.2) = r) :=
  bndC (x := cf (x :: cs) p) q fun b e q => ⟨b, e, by
    obtain ⟨b, p1⟩ := b
    cases b with
    | false => exact Option.some.inj q
    | true => exact bndC (x := ef (x :: cs) p1) q fun v e q => ⟨v, e, Option.some.inj q⟩⟩
theorem comp_loop {elt it : Expr} {x : Str} {px pos : Pos} {ifs : List Expr} {scope : Scope} {melt : E} {mconds : List E} {cl : List (Str × Addr)} {C Ia D : Addr} {s : Shared} {B₁ : Bm} {cs items : List PV} {St : Nat → Heap → Prop} {A : Around}
    (helt : EvC b0 g prog w d (compAct x scope cl C c s.heap) call elt melt) (hcond : All2 (fun e me => TrC b0 g prog w d (compAct x scope cl C c s.heap) call e me) ifs mconds) (W : Iter g B₁ prog w items Ia St) (F : CF g s.heap Ia D C) (R : RoomC d c A) (hl : items.length ≤ lim) :
    ∀ (xs : List PV) (i : Nat), items.drop i = xs → i ≤ items.length → ∀ {h : Heap} {tk : Nat} {p : Pl} {B : Bm} {z0 : PV} {ys : Array Value} {rs : List PV} {z : List PV × Pl}, CT b0 g (compAct x scope cl C c s.heap) B₁ s.heap St Ia D C i (z0 :: cs) p B h ys rs → rs.length ≤ i → 1 ≤ tk →
      compLoop (turnX (fun ρ p => evB call (toEs mconds) .And ρ p) (fun ρ p => ev call melt false ρ p) cs) xs p = some z →
      codeG (model prog w) A (.compLoop (.ListComp elt [⟨.Name x px, it, ifs, 0⟩] scope pos) 0 (.ref Ia) (.ref D) (compEnvC scope cl C c.env)) (CDone g B₁ s C D (rs ++ z.1) z.2) (upd s h tk) := by
  intro xs
  induction xs with
  | nil =>
    intro i hx hi h tk p B z0 ys rs z T hr ht q
    have e : i = items.length := by
      have := congrArg List.length hx
      rw [List.length_drop] at this
      exact Nat.le_antisymm hi (Nat.sub_eq_zero_iff_le.mp this)
    subst e
    refine g_compTurn (fun _ => rfl) (G.toks (n := 1) ht (G.any (W.done A _ _ R.handled T.T.st fun h' tk' far ht' => ?_)))
    have q : ([], p) = z := Option.some.inj q
    rw [← q, List.append_nil]
    exact T.done F rfl rfl far ht'
  | cons y xs ih =>
    intro i hx hi h tk p B z0 ys rs z T hr ht q
    have ey : items[i]? = some y := by
      have := congrArg (·[0]?) hx
      rwa [List.getElem?_drop] at this
    have hx' : items.drop (i + 1) = xs := by rw [← List.tail_drop, hx]; rfl
    have hi' : i < items.length := (List.getElem?_eq_some_iff.mp ey).1
    refine iv_loop q fun r z' e1 e2 e3 => ?_
    obtain ⟨b, e4, e5⟩ := iv_turn e1
    refine g_compTurn (fun _ => rfl) (G.toks (n := 1) ht (G.any (W.next A _ i _ y R.handled ey T.T.st fun v h1 tk1 rv st far ht1 => ?_)))
    have ht1 : 1 ≤ tk1 := ht1
    have T1 := T.next F W rfl far st
    refine G.toks (n := 1) ht1 (G.any (wpAny_assign_Name (Inv.store (s := upd s h1 tk1) T1.I rfl (i := 0) (x := x) (k := .loc) rfl (by decide) (rv.mono T1.T.sb) fun h2 tk2 I2 S2 ht2 => ?_)))
    have ht2 : 1 ≤ tk2 := ht2
    have T2 : CT b0 g (compAct x scope cl C c s.heap) B₁ s.heap St Ia D C (i + 1) (y :: cs) p B h2 ys rs := T1.store F W R.handled I2 S2
    refine G.mono (conds_snd hcond A (upd s h2 tk2) [C] B (y :: cs) p b (R.comp ..) T2.I ht2 e4) fun ok s3 k => ?_
    cases k with
    | mk Y3 eok ht3 =>
      have T3 := T2.evo F W R.handled Y3
      rw [eok]
      by_cases hb : b.1 = true
      · rw [if_pos hb] at e5 ⊢
        obtain ⟨v', e6, e7⟩ := e5
        refine G.mono (helt A (upd s _ _) [C] _ (y :: cs) b.2 _ _ (R.comp ..) T3.I ht3 e6) fun v4 s4 k => ?_
        cases k with
        | mk Y4 rv4 ht4 =>
          have T4 := T3.evo F W R.handled Y4
          obtain ⟨n, hD4⟩ := T4.ac
          refine G.toks (n := 1) ht4 (G.any (wpAny_list_append_plain (l := D) (items := ys) ⟨n, hD4⟩ (fun h5 hpl hs5 ht5 => ?_) (by rw [T4.rd.size]; exact Nat.le_trans (Nat.le_trans hr hi) (Nat.le_trans hl (by unfold lim sizeLine; decide)))))
          obtain ⟨n5, hD5⟩ := hpl
          have T5 := T4.push F W R.handled rfl rv4 hs5 hD5
          have := ih (i + 1) hx' hi' T5 (by rw [List.length_append]; exact Nat.succ_le_succ hr) ht4 (e7 ▸ e2)
          rw [← e3, ← e7]
          exact codeG_mono this fun f s' q => by rw [List.append_assoc] at q; exact q
      · rw [if_neg hb] at e5 ⊢
        rw [← e3, ← e5]
        exact ih (i + 1) hx' hi' (z := z') T3 (Nat.le_succ_of_le hr) ht3 ((congrArg Prod.snd e5 : b.2 = r.2) ▸ e2)
theorem CDone.trans {B B₁ : Bm} {s s' : Shared} {p₁ p' : Pl} {h₁ : Heap} {tk : Nat} {C D : Addr} {rs : List PV} {f : Flow} (X : Evo g B s.heap p₁ B₁ h₁) (h : CDone g B₁ (upd s h₁ tk) C D rs p' f s') : CDone g B s C D rs p' f s' := by
  cases h with
  | mk Y rd bC ns t => exact .mk (s := s) (X.trans Y) rd bC ns t
theorem fresh_at {h : Heap} {a : Addr} (ha : h.objs.size ≤ a) : h.get? a = none := by
  cases q : h.get? a with
  | none => rfl
  | some o => exact absurd (Heap.lt_size q) (Nat.not_lt.mpr ha)
theorem CF.of {p : Pl} {h : Heap} (q : PoolAt g p h) : CF g h h.objs.size (h.objs.size + 1) (h.objs.size + 2) where
  fI := fresh_at (Nat.le_refl _)
  fD := fresh_at (Nat.le_succ _)
  fC := fresh_at (Nat.le_add_right _ _)
  nI := q.ne (fresh_at (Nat.le_refl _))
  nD := q.ne (fresh_at (Nat.le_succ _))
  DI := Nat.succ_ne_self _
  CI := fun m => absurd (List.mem_singleton.mp m) (Nat.ne_of_lt (Nat.lt_add_of_pos_right (by decide)))
  CD := fun m => absurd (List.mem_singleton.mp m) (Nat.ne_of_lt (Nat.lt_succ_self _))
/-- the frame of a comprehension, at its start -/
theorem comp_inv {x : Str} {scope : Scope} (K : CompOk x scope) {cl : List (Str × Addr)} {caps : List Nat} {cs : List PV} (hcl1 : ∀ y a, cl.lookup y = some a → c.env.cells.lookup y = some a) (hcl2 : ∀ y ∈ freesOf scope.names, ∃ a, cl.lookup y = some a)
    (hcaps : All2 (CapOk c) (freesOf scope.names) caps) {pr : List Addr} {B : Bm} {ρ : List PV} {p : Pl} {h H : Heap} (I : Inv b0 g c pr B ρ p h) (e3 : getAll ρ caps = some cs) (gr : Grow h H) {C : Addr} (hC : h.get? C = none) {m : Str → Option Value} (hn : H.Ns C m) (hm : m x = none) :
    Inv b0 g (compAct x scope cl C c h) [C] B (.unb :: cs) p H := by
  have X := Evo.grow I.keep I.pool gr
  obtain ⟨len, get⟩ := getAll_inv e3
  have cap : ∀ (j : Nat) y k, ((freesOf scope.names).map fun y => (y, VK.cap))[j]? = some (y, k) → (freesOf scope.names)[j]? = some y ∧ k = .cap := fun j y k q => by
    rw [List.getElem?_map] at q
    obtain ⟨y', ey, q⟩ := Option.map_eq_some_iff.mp q
    cases q; exact ⟨ey, rfl⟩
  have notOwn : ∀ (j : Nat) z, (PV.unb :: cs)[j]? = some z → z.isOwn = false := fun j z q => by
    cases j with
    | zero => exact Option.some.inj q ▸ rfl
    | succ j =>
      have hj : j < caps.length := len ▸ Nat.lt_of_succ_lt_succ (List.getElem?_eq_some_iff.mp q).1
      obtain ⟨z', ez, hz⟩ := get j _ (List.getElem?_eq_getElem hj)
      exact Option.some.inj (ez.symm.trans q) ▸ (getV_inv hz).2.2
  exact { ok := compAct_ok K I.ok hcl1 (fun a m => (I.frs a m).1), base := I.base, keep := X.keep, pool := X.pool, old := X.old, thereO := X.there
          prv := fun a q => by
            rw [List.mem_singleton.mp q]
            obtain ⟨oC, _, _, hoC, _⟩ := hn
            exact ⟨hC, I.keep.fresh hC, I.pool.ne hC, oC, hoC⟩
          Lpr := List.mem_singleton.mpr rfl
          locs := ⟨m, fun _ => 0, hn, fun i y z q1 q2 => by
            cases i with
            | zero =>
              have q1 : some (x, VK.loc) = some (y, VK.loc) := q1
              cases q1
              exact Option.some.inj q2 ▸ hm
            | succ j => exact absurd (cap j y _ q1).2 (by decide), fun i j zi zj q1 _ o1 => absurd ((notOwn i zi q1).symm.trans o1) Bool.false_ne_true⟩
          cel := fun i y k z q1 nl q2 => by
            cases i with
            | zero =>
              have q1 : some (x, VK.loc) = some (y, k) := q1
              cases q1; exact absurd rfl nl
            | succ j =>
              obtain ⟨ey, rfl⟩ := cap j y k q1
              obtain ⟨k', ek, hk⟩ := hcaps.get ey
              obtain ⟨z', ez, hz⟩ := get j k' ek
              cases ez.symm.trans q2
              obtain ⟨a, ha⟩ := hcl2 y (List.mem_of_getElem? ey)
              obtain ⟨a', v?, h1, ⟨oc, hoc, hd⟩, h3, h5⟩ := hk.cel I hz
              cases (hcl1 y a ha).symm.trans h1
              exact ⟨a, v?, ha, ⟨oc, gr _ _ hoc, hd⟩, h3, (fun e => nomatch e), h5⟩
          len := by
            show (PV.unb :: cs).length = ((x, VK.loc) :: (freesOf scope.names).map fun y => (y, VK.cap)).length
            rw [List.length_cons, List.length_cons, List.length_map, len, hcaps.len]
          pB := I.pB, nf := fun a m => (I.frs a m).2 }
/-- what is done with a list that a comprehension made -/
noncomputable def UseOk (prog : Program) (w : World) (A : Around) (use : Option (Value → Sem Unit)) (Q : Value → Shared → Prop) (C : Addr) (acc : Value) (s' : Shared) : Prop := match use with
  | none => ∃ m, s'.heap.Ns C m ∧ ∀ h' m', h'.Ns C m' → Heap.SameBut C s'.heap h' → Q acc { s' with heap := h' }
  | some u => wpG (model prog w) A (u acc) (fun _ s'' => ∃ m, s''.heap.Ns C m ∧ ∀ h' m', h'.Ns C m' → Heap.SameBut C s''.heap h' → Q .none { s'' with heap := h' }) s'
theorem g_comprehension {elt it : Expr} {x : Str} {px pos pos2 : Pos} {ifs : List Expr} {scope : Scope} {env : Env} {newAcc first : Sem Value} {cl : List (Str × Addr)} {A : Around} {s : Shared} {use : Option (Value → Sem Unit)} {Q : Value → Shared → Prop}
    (K : CompOk x scope) (hs : ∀ v, foldedSetIterable it env v = pure v) (hclos : closureFor scope env = pure cl)
    (h : wpG (model prog w) A first (fun v s₁ => wpG (model prog w) A (pyIter v) (fun iv s₂ => wpG (model prog w) A newAcc (fun acc s₃ => wpG (model prog w) A (newFunctionEnv scope env.globals cl [] env.qual none .none (some env)) (fun cenv s₄ =>
      codeG (model prog w) A (.compStart (.ListComp elt [⟨.Name x px, it, ifs, 0⟩] scope pos) 0 iv acc { cenv with scope := relabel scope env }) (fun _ s' => UseOk prog w A use Q cenv.locals acc s') s₄) s₃) s₂) s₁) s) :
    wpG (model prog w) A (comprehension (.ListComp elt [⟨.Name x px, it, ifs, 0⟩] scope pos) scope env pos2 newAcc false first use) Q s := by
  refine G.bind (m := first) (G.mono h fun v s₁ h₁ => g_stand (G.e (hs v) (G.bind (G.holding (G.mono h₁ fun iv s₂ h₂ => g_standIf (G.bind (G.mono h₂ fun acc s₃ h₃ => G.e hclos (G.bind (G.mono h₃ fun cenv s₄ h₄ => ?_)))))))))
  have hv : ∀ vs : List (Str × NameKind), (∀ y ∈ vs, y ∈ scope.names) → ∀ y ∈ vs, y.2 = .local → Env.kindOf { cenv with scope := relabel scope env } y.1 = some .local := fun vs hm y m e => lookup_relabel_local (K.locs y (hm y m) e)
  have hr : ∀ {p : Str × NameKind → Bool} y, y ∈ (scope.names.filter p).reverse → y ∈ scope.names := fun y m => (List.mem_filter.mp (List.mem_reverse.mp m)).1
  refine G.holding (G.bind (G.attempt (G.holding (G.run (fun _ _ => rfl) (codeG_mono h₄ fun f s' hr' => ?_)))))
  cases use with
  | none =>
    obtain ⟨m, hn, hr'⟩ := hr'
    exact G.bind (G.holding (G.any (wpAny_comp_letGo (cenv := { cenv with scope := relabel scope env }) K.kind _ s' m (hv _ hr) hn fun h' m' hn' hs' => G.pure (hr' h' m' hn' hs'))))
  | some u =>
    refine G.bind (G.any (wpAny_rule (G.bind (G.holding (G.mono hr' fun _ s'' hr'' => ?_)))))
    obtain ⟨m, hn, hr''⟩ := hr''
    exact G.bind (G.any (wpAny_comp_letGo (cenv := { cenv with scope := relabel scope env }) K.kind _ s'' m (hv _ fun y m => (List.mem_append.mp m).elim (fun m => hr y (List.mem_of_mem_drop m)) fun m => hr y (List.mem_of_mem_take m)) hn fun h' m' hn' hs' => G.pure (hr'' h' m' hn' hs')))
/-- the places of a comprehension, and what stands in them -/
theorem comp_start {elt it : Expr} {x : Str} {px pos : Pos} {ifs : List Expr} {scope : Scope} {melt : E} {mconds : List E} {caps : List Nat} {cl : List (Str × Addr)} (K : CompOk x scope) (hcl1 : ∀ y a, cl.lookup y = some a → c.env.cells.lookup y = some a) (hcl2 : ∀ y ∈ freesOf scope.names, ∃ a, cl.lookup y = some a)
    (helt : ∀ cl C h0, EvC b0 g prog w d (compAct x scope cl C c h0) call elt melt)
    (hcond : ∀ cl C h0, All2 (fun e me => TrC b0 g prog w d (compAct x scope cl C c h0) call e me) ifs mconds) (hcaps : All2 (CapOk c) (freesOf scope.names) caps)
    {A : Around} {s : Shared} {pr : List Addr} {B : Bm} {ρ : List PV} {p : Pl} {xs cs : List PV} {rs : List PV × Pl} (R : RoomC d c A) (I : Inv b0 g c pr B ρ p s.heap) (ht : 1 ≤ s.toks) (e3 : getAll ρ caps = some cs) (hlim : xs.length ≤ lim)
    (e4 : compLoop (turnX (fun ρ p => evB call (toEs mconds) .And ρ p) (fun ρ p => ev call melt false ρ p) cs) xs p = some rs) {o : Obj} {St : Nat → Heap → Prop} (hf : o.isFreed = false) (st0 : St 0 (s.heap.push o)) (W : Iter g B prog w xs s.heap.objs.size St)
    {tk : Nat} (ht' : 1 ≤ tk) {H3 : Heap} {m : Str → Option Value} {C D : Addr} (hD : (s.heap.push o).objs.size = D) (hC : ((s.heap.push o).push (listO #[] 0)).objs.size = C) (hns : H3.Ns C m) (hm : m x = none) (far : Grow ((s.heap.push o).push (listO #[] 0)) H3) :
    codeG (model prog w) A (.compStart (.ListComp elt [⟨.Name x px, it, ifs, 0⟩] scope pos) 0 (.ref s.heap.objs.size) (.ref D) (compEnvC scope cl C c.env)) (CDone g B s C D rs.1 rs.2) (upd s H3 tk) := by
  have sz : D = s.heap.objs.size + 1 := hD.symm.trans (Array.size_push _)
  have sc : C = s.heap.objs.size + 2 := hC.symm.trans ((Array.size_push _).trans (congrArg (· + 1) (Array.size_push _)))
  have hd : H3.get? D = some (listO #[] 0) := far _ _ (hD ▸ Heap.get?_push_size _ rfl)
  subst sz sc
  have g1 : Grow s.heap (s.heap.push o) := Grow.push _ o
  have g2 : Grow (s.heap.push o) H3 := (Grow.push _ _).trans far
  have F := CF.of (g := g) I.pool
  have X := Evo.grow I.keep I.pool (g1.trans g2)
  have T : ItS g B s.heap.objs.size St 0 [s.heap.objs.size + 2] B H3 := ⟨W.frame A 0 _ _ R.handled st0 (fun a o e => g1 _ _ (I.keep a o e)) (fun a o e => X.keep a o e) fun ob e => g2 _ _ e, Sub.refl B, X.keep, I.keep.fresh F.fI, F.CI⟩
  have T0 : CT b0 g (compAct x scope cl (s.heap.objs.size + 2) c s.heap) B s.heap St s.heap.objs.size (s.heap.objs.size + 1) (s.heap.objs.size + 2) 0 (.unb :: cs) p B H3 #[] [] :=
    ⟨X, comp_inv K hcl1 hcl2 hcaps I e3 (g1.trans g2) F.fC hns hm, T, ⟨0, hd⟩, RdL.nil, I.keep.fresh F.fD⟩
  exact g_compStart (comp_loop (s := s) (helt cl _ _) (hcond cl _ _) W F R hlim xs 0 rfl (Nat.zero_le _) T0 (Nat.le_refl _) ht' e4) fun Q' hQ' => W.self A _ 0 _ R.handled T.st hQ'
theorem Comp_core {elt it : Expr} {x : Str} {px pos pos2 : Pos} {ifs : List Expr} {scope : Scope} {melt mit : E} {mconds : List E} {caps : List Nat} (K : CompOk x scope) (hset : ∀ v, foldedSetIterable it c.env v = pure v)
    (hit : EvC b0 g prog w d c call it mit) (helt : ∀ cl C h0, EvC b0 g prog w d (compAct x scope cl C c h0) call elt melt)
    (hcond : ∀ cl C h0, All2 (fun e me => TrC b0 g prog w d (compAct x scope cl C c h0) call e me) ifs mconds) (hcaps : All2 (CapOk c) (freesOf scope.names) caps)
    {use : Option (Value → Sem Unit)} {Q : Value → Shared → Prop} {A : Around} {s : Shared} {pr : List Addr} {B : Bm} {ρ : List PV} {p : Pl} {xv : PV × Pl} {xs cs : List PV} {rs : List PV × Pl}
    (R : RoomC d c A) (I : Inv b0 g c pr B ρ p s.heap) (ht : 1 ≤ s.toks) (e1 : ev call mit false ρ p = some xv) (e2 : itemsOf xv.1 = some xs) (e3 : getAll ρ caps = some cs) (hlim : xs.length ≤ lim)
    (e4 : compLoop (turnX (fun ρ p => evB call (toEs mconds) .And ρ p) (fun ρ p => ev call melt false ρ p) cs) xs xv.2 = some rs)
    (fin : ∀ D C f s', CDone g B s C D rs.1 rs.2 f s' → s.heap.get? C = none → g.P ≠ some C → UseOk prog w A use Q C (.ref D) s') :
    wpG (model prog w) A (comprehension (.ListComp elt [⟨.Name x px, it, ifs, 0⟩] scope pos) scope c.env pos2 (newList []) false (eval it c.env) use) Q s := by
  have hcell : ∀ y ∈ freesOf scope.names, ∃ a, c.env.cells.lookup y = some a := fun y m => by
    obtain ⟨j, hj, ej⟩ := List.getElem_of_mem m
    obtain ⟨k, ek, hk⟩ := hcaps.get (i := j) (x := y) (by rw [← ej]; exact List.getElem?_eq_getElem hj)
    obtain ⟨z, _, hz⟩ := (getAll_inv e3).2 j k ek
    obtain ⟨a, _, h, _⟩ := hk.cel I hz
    exact ⟨a, h⟩
  obtain ⟨cl, hclos, hcl1, hcl2⟩ := closure_snd hcell
  refine g_comprehension K hset hclos (G.mono (hit A s pr B ρ p _ _ R I ht e1) fun v s₁ k => ?_)
  cases k with
  | mk X rv ht1 =>
    rename_i B₁ h₁ tk
    have I1 := I.evo X
    refine G.any (iter_snd (s := upd s h₁ tk) I1.kp rv e2 fun o St hf st0 W => G.any (wpAny_newObj_type (G.any (wpAny_newFunctionEnv K.cell (fun y hy => nomatch hy) (fun H3 hns hsb => ?_) K.kind))))
    have far : Grow ((h₁.push o).push (listO #[] 0)) H3 := fun b ob q => (hsb.2 b (Heap.ne_new q)).trans (Heap.get?_push_of_some _ q)
    have hC := X.gone (fresh_at (a := ((h₁.push o).push (listO #[] 0)).objs.size) (by show h₁.objs.size ≤ ((h₁.objs.push o).push _).size; rw [Array.size_push, Array.size_push]; exact Nat.le_add_right _ 2))
    exact codeG_mono (comp_start (s := upd s h₁ tk) (px := px) (pos := pos) (it := it) K hcl1 hcl2 helt hcond hcaps R I1 ht1 e3 hlim e4 hf st0 W (tk := tk) ht1 rfl rfl hns rfl far) fun f s' k => fin _ _ f s' (k.trans X) hC (I.pool.ne hC)
end
section
variable {b0 : Heap} {g : Cfg} {prog : Program} {w : World} {d : Nat} {call : Orc} {fa : Nat → Addr}
noncomputable def Good (b0 : Heap) (g : Cfg) (prog : Program) (w : World) (d : Nat) (c : Act) (call : Orc) (m : Bool) (e : Expr) (me : E) : Prop :=
  (m = false → EvC b0 g prog w d c call e me) ∧ (m = true → TrC b0 g prog w d c call e me)
theorem Good.of_ev {c : Act} {m : Bool} {e : Expr} {me : E} (h : EvC b0 g prog w d c call e me) (hi : ∀ whole, isTrue e c.env whole = (do let v ← whole; standAt e.pos; holding [v] (truthy v)))
    (hg : ∀ ρ p, Outy fun m => ev call me m ρ p) : Good b0 g prog w d c call m e me := ⟨fun _ => h, fun _ => TrC.gen h hi hg⟩
theorem Good.of_ev' {c : Act} {m : Bool} {e : Expr} {me : E} (h : EvC b0 g prog w d c call e me) (hm : (!m) = true) : Good b0 g prog w d c call m e me := ⟨fun _ => h, fun q => by rw [q] at hm; cases hm⟩
theorem Good.of_tr {c : Act} {m : Bool} {e : Expr} {me : E} (h : TrC b0 g prog w d c call e me) (hm : m = true) : Good b0 g prog w d c call m e me := ⟨(fun q => by rw [q] at hm; cases hm), fun _ => h⟩
theorem iv_comp {P : PV → Pl → Prop} {elt it : E} {conds : Es} {caps : List Nat} {ρ : List PV} {p p' : Pl} {z : PV} (q : ev call (.comp elt it conds caps) false ρ p = some (z, p'))
    (k : ∀ xv xs cs rs, ev call it false ρ p = some xv → itemsOf xv.1 = some xs → getAll ρ caps = some cs → xs.length ≤ lim → compLoop (turnX (fun ρ p => evB call conds .And ρ p) (fun ρ p => ev call elt false ρ p) cs) xs xv.2 = some rs → P (.list rs.1) rs.2) : P z p' :=
  bndC (x := ev call it false ρ p) q fun xv e1 q => bndC (x := itemsOf xv.1) q fun xs e2 q => bndC (x := getAll ρ caps) q fun cs e3 q =>
    bndC (x := if xs.length ≤ lim then compLoop (turnX (fun ρ p => evB call conds .And ρ p) (fun ρ p => ev call elt false ρ p) cs) xs xv.2 else none) q fun rs e4 q => outC q (by
      by_cases hl : xs.length ≤ lim
      · rw [if_pos hl] at e4; exact k xv xs cs rs e1 e2 e3 hl e4
      · rw [if_neg hl] at e4; exact noneN e4)
/-- a comprehension -/
theorem ListComp_snd {c : Act} {elt it : Expr} {x : Str} {px pos : Pos} {ifs : List Expr} {scope : Scope} {melt mit : E} {mconds : List E} {caps : List Nat} (K : CompOk x scope) (hset : ∀ v, foldedSetIterable it c.env v = pure v)
    (hit : EvC b0 g prog w d c call it mit) (helt : ∀ cl C h0, EvC b0 g prog w d (compAct x scope cl C c h0) call elt melt)
    (hcond : ∀ cl C h0, All2 (fun e me => TrC b0 g prog w d (compAct x scope cl C c h0) call e me) ifs mconds) (hcaps : All2 (CapOk c) (freesOf scope.names) caps) :
    EvC b0 g prog w d c call (.ListComp elt [⟨.Name x px, it, ifs, 0⟩] scope pos) (.comp melt mit (toEs mconds) caps) := fun A s pr B ρ p r p' R I ht q =>
  iv_comp (P := fun z p' => wpG (model prog w) A (eval _ c.env) (Ok g B s p' z) s) q fun xv xs cs rs e1 e2 e3 hl e4 => by
    rw [eval_ListComp]
    refine Comp_core (use := none) K hset hit helt hcond hcaps R I ht e1 e2 e3 hl e4 fun D C f s' k hC nC => ?_
    cases k with
    | mk X rd bC ns t =>
      obtain ⟨m, hns⟩ := ns
      exact ⟨m, hns, fun h'' _ _ hs => .mk (s := s) (X.side (Far.but hs) bC hC nC) rd t⟩
theorem Gm.idx_inv {Γ : Gm} {x : Str} {i : Nat} (h : Γ.idx x = some i) : ∃ k, Γ.vars[i]? = some (x, k) := by
  obtain ⟨hi, hp, _⟩ := List.findIdx?_eq_some_iff_getElem.mp h
  exact ⟨Γ.vars[i].2, (List.getElem?_eq_getElem hi).trans (congrArg some (Prod.ext (eq_of_beq hp) rfl))⟩
theorem isConstStr_inv {e : Expr} {y : Str} (h : isConstStr e = some y) : ∃ n p, e = .Constant (.str y) n p := by
  unfold isConstStr at h
  cases hc : cstOf e with
  | none => rw [hc] at h; exact noneN h
  | some c =>
    rw [hc] at h
    cases c with
    | str s => exact Option.some.inj h ▸ cstOf_inv hc
    | _ => exact noneN h
theorem All2.memR {α β : Type} {R : α → β → Prop} {P : β → Prop} {xs : List α} {ys : List β} (h : All2 R xs ys) : (∀ y ∈ ys, P y) → All2 (fun x y => P y ∧ R x y) xs ys := by
  induction h with
  | nil => exact fun _ => .nil
  | cons q _ ih => exact fun k => .cons ⟨k _ List.mem_cons_self, q⟩ (ih fun y m => k y (List.mem_cons_of_mem _ m))
theorem cap_ok {Γ : Gm} {c : Act} (hv : c.vars = Γ.vars) {y : Str} {k : Nat} (q : Γ.capi y = some k) : CapOk c y k := by
  unfold Gm.capi at q
  cases hi : Γ.idx y with
  | none => rw [hi] at q; exact noneN q
  | some i =>
    rw [hi] at q
    have q : (if Γ.vars[i]? = some (y, .cell) ∨ Γ.vars[i]? = some (y, .cap) then some i else none) = some k := q
    by_cases hh : Γ.vars[i]? = some (y, .cell) ∨ Γ.vars[i]? = some (y, .cap)
    · rw [if_pos hh] at q
      rw [← Option.some.inj q]
      unfold CapOk
      rw [hv]; exact hh
    · rw [if_neg hh] at q; exact noneN q
theorem lim1000 {α : Type} {xs : List α} {ys : List E} {R : α → E → Prop} (h : All2 R xs ys) (hl : decide (xs.length ≤ 1000) = true) : ys.length ≤ lim := by
  rw [← h.len]; exact Nat.le_trans (of_decide_eq_true hl) (by decide)
theorem and_inv {a b : Bool} (h : (a && b) = true) : a = true ∧ b = true := (Bool.and_eq_true _ _).mp h
theorem not_inv {a : Bool} (h : (!a) = true) : a = false := (Bool.not_eq_true' _).mp h
section
variable {c : Act} {Γ : Gm} {m : Bool} {f : Expr → Option E} {me : E}
/-- a call of a name, compiled -/
theorem call_good (W : Wd b0 g prog w fa) (H : CallOk b0 g prog w fa d call) (glob : ∀ {x : Str}, Γ.glob x = true → c.names.lookup x = some .globalImplicit ∧ (x == Str.ofString "__debug__") = false) (ce : ∀ {e me}, f e = some me → CompE e) (sub : ∀ {e me}, f e = some me → EvC b0 g prog w d c call e me)
    {x : Str} {np pos : Pos} {args : List Expr} (h : c_call Γ f x args = some me) : Good b0 g prog w d c call m (.Call (.Name x np) args [] pos) me :=
  grC h fun hg h' => by
    obtain ⟨h1, h2⟩ := glob (and_inv hg).2
    by_cases hf : x = Str.ofString "isinstance"
    · rw [if_pos hf] at h'
      subst hf
      exact twoC (P := fun args => Good b0 g prog w d c call m (.Call (.Name (Str.ofString "isinstance") np) args [] pos) me) h' fun a t h => thnC h fun t' ht h => grC h fun hg h => thnC h fun x hx h => thnC h fun ti hti h => by
        obtain ⟨p2, et⟩ := nameOf_inv ht
        rw [et]
        obtain ⟨g1, g2⟩ := glob (and_inv hg).2
        exact Option.some.inj h ▸ Good.of_ev (Isi_snd W h1 g1 g2 hti (ce hx).star (sub hx)) (fun _ => rfl) fun _ _ => Outy.bnd fun _ => Outy.bnd fun _ => Outy.bool
    · rw [if_neg hf] at h'
      exact thnC h' fun es hes h => optC h (fun k hk h => Option.some.inj h ▸ Good.of_ev (Call_snd W H h1 h2 hk (All2.of_mapO hes fun _ _ _ q => ⟨(ce q).star, sub q⟩)) (fun _ => rfl) fun _ _ => Outy.bnd fun _ => Outy.bnd fun _ => Outy.out)
        fun _ h => thnC h fun b hb h => Option.some.inj h ▸ Good.of_ev (Blt_snd W h1 h2 hb (All2.of_mapO hes fun _ _ _ q => ⟨(ce q).star, sub q⟩)) (fun _ => rfl) fun _ _ => Outy.bnd fun _ => Outy.bnd fun _ => Outy.out
theorem meth_good (W : Wd b0 g prog w fa) (H : CallOk b0 g prog w fa d call) (hobj : ∀ xs p r, call fTakes xs p = some r → ∃ k sgn l, xs = .obj k sgn :: l) (ce : ∀ {e me}, f e = some me → CompE e) (sub : ∀ {e me}, f e = some me → EvC b0 g prog w d c call e me)
    {o : Expr} {nm : Str} {ap pos : Pos} {args : List Expr} (h : c_meth f pos (o, nm, ap) args = some me) : Good b0 g prog w d c call m (.Call (.Attribute o nm ap) args [] pos) me :=
  grC h fun hc h => thnC h fun x hx h => by
    obtain ⟨hc, hc3⟩ := and_inv hc
    obtain ⟨hc1, hc2⟩ := and_inv hc
    have base := (ce hx).base hc2
    by_cases hf : nm = Str.ofString "replace"
    · subst hf
      rw [if_pos rfl] at h
      exact twoC (P := fun args => Good b0 g prog w d c call m (.Call (.Attribute o (Str.ofString "replace") ap) args [] pos) me) h fun y z h => thnC h fun y' hy h => thnC h fun z' hz h => by
        obtain ⟨n1, p1, ey⟩ := isConstStr_inv hy
        obtain ⟨n2, p2, ez⟩ := isConstStr_inv hz
        rw [ey, ez]
        exact Option.some.inj h ▸ Good.of_ev (Repl_snd base hc1 (sub hx)) (fun _ => rfl) fun _ _ => Outy.bnd fun _ => Outy.bnd fun _ => Outy.out
    · rw [if_neg hf] at h
      refine thnC h fun es hes h => thnC h fun mi hmi h => ?_
      have hmi : methId nm = some mi := hmi
      rw [methName_ok hmi, ← Option.some.inj h]
      have hes := All2.of_mapO (R := fun e me => NonStar e ∧ EvC b0 g prog w d c call e me) hes fun _ _ _ q => ⟨(ce q).star, sub q⟩
      refine Good.of_ev ?_ (fun _ => rfl) fun _ _ => Outy.bnd fun _ => Outy.bnd fun _ => Outy.bnd fun _ => Outy.out
      by_cases hm : mi = .takes
      · subst hm; exact Takes_snd W H base hc1 (of_decide_eq_true hc3) (sub hx) hes hobj
      · exact Meth_snd hm base hc1 (of_decide_eq_true hc3) (sub hx) hes
theorem attr_good (W : Wd b0 g prog w fa) (ce : ∀ {e me}, f e = some me → CompE e) (sub : ∀ {e me}, f e = some me → EvC b0 g prog w d c call e me) {o : Expr} {nm : Str} {pos : Pos} (h : c_attr f o nm = some me) : Good b0 g prog w d c call m (.Attribute o nm pos) me :=
  grC h fun hs h => thnC h fun x hx h => by
    have fin : ∀ {sg : Bool}, nm = (if sg then ("sign" : Str) else ("kind" : Str)) → some (E.attr x sg) = some me → Good b0 g prog w d c call m (.Attribute o nm pos) me := fun hn h =>
      Option.some.inj h ▸ Good.of_ev (Attr_snd W hn ((ce hx).base hs) (sub hx)) (fun _ => rfl) fun _ _ => Outy.bnd fun _ => Outy.bnd fun _ => Outy.out
    by_cases hk : nm = Str.ofString "kind"
    · rw [if_pos hk] at h; exact fin (sg := false) hk h
    · rw [if_neg hk] at h
      by_cases hg : nm = Str.ofString "sign"
      · rw [if_pos hg] at h; exact fin (sg := true) hg h
      · rw [if_neg hg] at h; exact noneN h
theorem bound_good (sub : ∀ {e me}, f e = some me → EvC b0 g prog w d c call e me) {l : Option Expr} (h : boundOf f l = some me) : BndC b0 g prog w d c call l me := by
  cases l with
  | none => exact (Option.some.inj h).symm
  | some e => exact sub h
theorem sub_good (W : Wd b0 g prog w fa) (glob : ∀ {x : Str}, Γ.glob x = true → c.names.lookup x = some .globalImplicit ∧ (x == Str.ofString "__debug__") = false) (ce : ∀ {e me}, f e = some me → CompE e) (sub : ∀ {e me}, f e = some me → EvC b0 g prog w d c call e me)
    {o i : Expr} {pos : Pos} (h : c_sub Γ f o i = some me) : Good b0 g prog w d c call m (.Subscript o i pos) me :=
  optC h (fun s hs h => optC h (fun _ _ h => noneN h) fun hst h => by
    obtain ⟨p1, es⟩ := sliceOf_inv hs
    rw [es, hst]
    exact thnC h fun x hx h => thnC h fun a ha h => thnC h fun b hb h => Option.some.inj h ▸ Good.of_ev (Slice_snd (sub hx) (bound_good sub ha) (bound_good sub hb)) (fun _ => rfl) fun _ _ => Outy.bnd fun _ => Outy.bnd fun _ => Outy.bnd fun _ => Outy.bnd fun _ => Outy.out) fun _ h => by
    by_cases hn : nameOf o = some (Str.ofString "STORAGE_RANKS")
    · rw [if_pos hn] at h
      obtain ⟨p1, eo⟩ := nameOf_inv hn
      rw [eo]
      exact grC h fun hg h => thnC h fun a ha h => Option.some.inj h ▸ Good.of_ev (Rank_snd W (glob (and_inv hg).2).1 (ce ha).sub (sub ha)) (fun _ => rfl) fun _ _ => Outy.bnd fun _ => Outy.bnd fun _ => Outy.out
    · rw [if_neg hn] at h
      exact thnC h fun x hx h => thnC h fun a ha h => Option.some.inj h ▸ Good.of_ev (Idx_snd (ce ha).sub (sub hx) (sub ha)) (fun _ => rfl) fun _ _ => Outy.bnd fun _ => Outy.bnd fun _ => Outy.bnd fun _ => Outy.out
end
theorem comp_snd (W : Wd b0 g prog w fa) (H : CallOk b0 g prog w fa d call) (hobj : ∀ xs p r, call fTakes xs p = some r → ∃ k sgn l, xs = .obj k sgn :: l) :
    ∀ (n : Nat) (Γ : Gm) (c : Act) (m : Bool) (e : Expr) (me : E), comp Γ n m e = some me → c.names = Γ.names → c.vars = Γ.vars → Good b0 g prog w d c call m e me := by
  intro n
  induction n with
  | zero => exact fun Γ c m e me h => noneN h
  | succ n ih =>
    intro Γ c m e me h hn hv
    have sub : ∀ {e : Expr} {me : E}, comp Γ n false e = some me → EvC b0 g prog w d c call e me := fun h => (ih Γ c false _ _ h hn hv).1 rfl
    have subT : ∀ {e : Expr} {me : E}, comp Γ n true e = some me → TrC b0 g prog w d c call e me := fun h => (ih Γ c true _ _ h hn hv).2 rfl
    have subs : ∀ {es : List Expr} {mes : List E}, mapO (comp Γ n false) es = some mes → All2 (fun e me => NonStar e ∧ EvC b0 g prog w d c call e me) es mes := fun h =>
      All2.of_mapO h fun x y _ q => ⟨(comp_E q).star, sub q⟩
    have glob : ∀ {x : Str}, Γ.glob x = true → c.names.lookup x = some .globalImplicit ∧ (x == Str.ofString "__debug__") = false := fun h => hn ▸ Gm.glob_inv h
    cases e with
    | Name x p =>
      exact optC h (fun i hi h => let ⟨k, hk⟩ := Gm.idx_inv hi; Option.some.inj h ▸ Good.of_ev (Name_snd (hv ▸ hk)) (fun _ => rfl) fun _ _ => Outy.bnd fun _ => Outy.out)
        fun _ h => grC h fun hg h => thnC h fun v hc h => Option.some.inj h ▸ Good.of_ev (gconst_snd W (glob hg).1 (glob hg).2 hc) (fun _ => rfl) fun _ _ => Outy.out
    | Constant k q p => exact thnC h fun v hc h => Option.some.inj h ▸ Good.of_ev (cst_snd hc) (fun _ => rfl) fun _ _ => Outy.out
    | BinOp l op r p => exact thnC h fun a ha h => thnC h fun b hb h => Option.some.inj h ▸ Good.of_ev (BinOp_snd (sub ha) (sub hb)) (fun _ => rfl) fun _ _ => Outy.bnd fun _ => Outy.bnd fun _ => Outy.bnd fun _ => Outy.out
    | UnaryOp op x p =>
      cases op with
      | USub => exact thnC h fun a ha h => Option.some.inj h ▸ Good.of_ev (USub_snd (sub ha)) (fun _ => rfl) fun _ _ => Outy.bnd fun _ => Outy.bnd fun _ => Outy.out
      | Not => exact grC h fun hm h => thnC h fun a ha h => Option.some.inj h ▸ Good.of_tr (Not_tr (subT ha)) hm
      | _ => exact noneN h
    | Compare l ops rs p =>
      cases ops with
      | nil => exact noneN h
      | cons o1 os =>
        cases os with
        | nil => exact oneC (P := fun rs => Good b0 g prog w d c call m (.Compare l [o1] rs p) me) h fun r h => grC h fun hb h => thnC h fun a ha h => thnC h fun b hb' h => Option.some.inj h ▸ ⟨fun _ => Cmp_snd (not_inv hb) (sub ha) (sub hb'), fun _ => Cmp_tr (not_inv hb) (sub ha) (sub hb')⟩
        | cons o2 os => exact nilC (P := fun os => Good b0 g prog w d c call m (.Compare l (o1 :: o2 :: os) rs p) me) h fun h => twoC (P := fun rs => Good b0 g prog w d c call m (.Compare l [o1, o2] rs p) me) h fun r1 r2 h => grC h fun hb h => thnC h fun a ha h => thnC h fun b hb' h => thnC h fun e hc h =>
            Option.some.inj h ▸ ⟨fun _ => Cmp2_snd (not_inv hb) (sub ha) (sub hb') (sub hc), fun _ => Cmp2_tr (not_inv hb) (sub ha) (sub hb') (sub hc)⟩
    | BoolOp op vs p =>
      exact thnC h fun es hes h => grC h fun hm h => by
        rw [← Option.some.inj h]
        cases m with
        | true => exact Good.of_tr (BoolOp_tr (All2.of_mapO hes fun x y _ q => subT q)) rfl
        | false =>
          obtain ⟨hb, hne⟩ := and_inv hm
          have k := (All2.of_mapO (R := fun e me => EvC b0 g prog w d c call e me) hes fun _ _ _ q => sub q).memR (P := fun me => isBoolE me = true) (List.all_eq_true.mp hb)
          cases k with
          | nil => cases hne
          | cons q qs => exact Good.of_ev' (BoolOp_snd q.1 q.2 qs) rfl
    | IfExp a b e p => exact grC h fun hm h => thnC h fun x hx h => thnC h fun y hy h => thnC h fun z hz h => Option.some.inj h ▸ Good.of_ev' (IfExp_snd (subT hx) (sub hy) (sub hz)) hm
    | Call f args ks p =>
      exact nilC (P := fun ks => Good b0 g prog w d c call m (.Call f args ks p) me) h fun h => optC h (fun x hx h => by
        obtain ⟨p1, rfl⟩ := nameOf_inv hx
        exact call_good W H glob comp_E sub h) fun _ h => thnC h fun a ha h => by
        rw [attrOf_inv ha]; exact meth_good W H hobj comp_E sub h
    | Attribute o nm p => exact attr_good W comp_E sub h
    | Subscript o i p => exact sub_good W glob comp_E sub h
    | List es p => exact grC h fun hl h => thnC h fun x hx h => Option.some.inj h ▸ Good.of_ev (List_snd (EsC.of (subs hx)) (lim1000 (subs hx) hl)) (fun _ => rfl) fun _ _ => Outy.bnd fun _ => Outy.out
    | Tuple es k p => exact grC h fun hl h => thnC h fun x hx h => Option.some.inj h ▸ Good.of_ev' (Tuple_snd (EsC.of (subs hx)) (lim1000 (subs hx) (and_inv hl).2)) (and_inv hl).1
    | ListComp elt gs scope p =>
      exact oneC (P := fun gs => Good b0 g prog w d c call m (.ListComp elt gs scope p) me) h fun gg h => by
        obtain ⟨t, it, ifs, as⟩ := gg
        exact thnC h fun x hx h => grC h fun hk h => thnC h fun a ha h => thnC h fun b hb h => thnC h fun cs hcs h => thnC h fun ks hks h => by
          obtain ⟨px, ht⟩ := nameOf_inv hx
          have ht : t = .Name x px := ht
          have has : as = 0 := of_decide_eq_true (and_inv hk).2
          rw [ht, has]
          exact Option.some.inj h ▸ Good.of_ev (ListComp_snd (compOk_inv (and_inv hk).1) ((comp_E ha).set c.env) (sub ha) (fun cl C h0 => (ih _ _ false _ _ hb rfl rfl).1 rfl) (fun cl C h0 => All2.of_mapO hcs fun x y _ q => (ih _ _ true _ _ q rfl rfl).2 rfl) (All2.of_mapO hks fun y k _ q => cap_ok hv q)) (fun _ => rfl)
            fun _ _ => Outy.bnd fun _ => Outy.bnd fun _ => Outy.bnd fun _ => Outy.bnd fun _ => Outy.out
    | _ => exact noneN h
end
/-- how a statement ended -/
noncomputable def FlowIs (g : Cfg) (B : Bm) (f : Flow) : Option PV → Prop
  | none => f = .next
  | some v => ∃ u, f = .ret u ∧ Rd g B u v
/-- what a statement leaves -/
inductive OkS (b0 : Heap) (g : Cfg) (c : Act) (pr : List Addr) (B : Bm) (s : Shared) (z : Option PV × List PV × Pl) : Flow → Shared → Prop
  | mk {f : Flow} {pr' : List Addr} {B' : Bm} {h' : Heap} {tk : Nat} (Y : SEvo g pr B s.heap pr' B' h') (I : Inv b0 g c pr' B' z.2.1 z.2.2 h') (t : 1 ≤ tk) (e : FlowIs g B' f z.1) : OkS b0 g c pr B s z f (upd s h' tk)
section
variable {b0 : Heap} {g : Cfg} {c : Act} {pr : List Addr} {B : Bm} {s : Shared}
theorem OkS.trans {pr₁ : List Addr} {B₁ : Bm} {h₁ : Heap} {tk : Nat} {z : Option PV × List PV × Pl} {f : Flow} {s' : Shared} (x : SEvo g pr B s.heap pr₁ B₁ h₁) (h : OkS b0 g c pr₁ B₁ (upd s h₁ tk) z f s') : OkS b0 g c pr B s z f s' := by
  cases h with
  | mk Y I t e => exact .mk (s := s) (x.trans Y) I t e
theorem OkS.next {pr' : List Addr} {B' : Bm} {h' : Heap} {tk : Nat} {ρ : List PV} {p : Pl} (Y : SEvo g pr B s.heap pr' B' h') (I : Inv b0 g c pr' B' ρ p h') (t : 1 ≤ tk) : OkS b0 g c pr B s (none, ρ, p) .next (upd s h' tk) := .mk Y I t rfl
end
section
variable (b0 : Heap) (g : Cfg) (prog : Program) (w : World) (d : Nat) (c : Act) (call : Orc) (N : Md)
noncomputable def StC (st : Stmt) (ms : S) : Prop := ∀ A s pr B ρ p z, RoomC d c A → Inv b0 g c pr B ρ p s.heap → 1 ≤ s.toks → xS call N ms ρ p = some z → wpG (model prog w) A (exec st c.env) (OkS b0 g c pr B s z) s
noncomputable def SsB (sts : List Stmt) (Bd : List PV → Pl → XR) : Prop := ∀ A s pr B ρ p z, RoomC d c A → Inv b0 g c pr B ρ p s.heap → 1 ≤ s.toks → Bd ρ p = some z → wpG (model prog w) A (execs sts c.env) (OkS b0 g c pr B s z) s
noncomputable def SsC (sts : List Stmt) (ms : Ss) : Prop := SsB b0 g prog w d c sts (xSs call N ms)
end
section
variable {b0 : Heap} {g : Cfg} {prog : Program} {w : World} {d : Nat} {c : Act} {call : Orc} {N : Md}
theorem G.store {pr : List Addr} {B : Bm} {ρ : List PV} {p : Pl} {s : Shared} {M : Model} {A : Around} (I : Inv b0 g c pr B ρ p s.heap) {i : Nat} {x : Str} {k : VK} {z : PV} {v : Value} (ht : 1 ≤ s.toks)
    (e1 : c.vars[i]? = some (x, k)) (nk : k ≠ .cap) (r : Rd g B v z) {Q : Unit → Shared → Prop}
    (hQ : ∀ h' tk, 1 ≤ tk → Inv b0 g c pr B (ρ.set i z) p h' → SEvo g pr B s.heap pr B h' → Q () (upd s h' tk)) : wpG M A (bindName c.env x v) Q s := fun Γ q hΓ hc => by
  rw [Sem.wp_bindName]
  exact G.toks ht (G.any (I.store rfl e1 nk r fun h' tk i' s' ht' => hQ h' tk ht' i' s')) Γ q hΓ hc
theorem seqC {x : XR} {K : KX} {z : Option PV × List PV × Pl} {C : Prop} (q : @seqX x K = some z) (k : ∀ y, x = some y → goX (some y) K.k y.1 y.2.1 y.2.2 = some z → C) : C := by
  cases x with
  | none => cases q
  | some y => exact k y rfl q
theorem Ss_nil : SsC b0 g prog w d c call N [] .nil := fun A s pr B ρ p z R I ht q => by
  have q : (none, ρ, p) = z := Option.some.inj q
  exact q ▸ G.pure (OkS.next (s := s) (SEvo.refl ..) I ht)
theorem Ss_cons {st : Stmt} {sts : List Stmt} {ms : S} {mss : Ss} (h : StC b0 g prog w d c call N st ms) (hs : SsC b0 g prog w d c call N sts mss) : SsC b0 g prog w d c call N (st :: sts) (.cons ms mss) := fun A s pr B ρ p z R I ht q =>
  seqC (x := xS call N ms ρ p) q fun y e q => by
  rw [execs_cons]
  refine G.bind (G.mono (h A s pr B ρ p y R I ht e) fun f s' k => ?_)
  cases k with
  | mk Y I' ht' hf =>
    obtain ⟨r1, ρ1, p1⟩ := y
    cases r1 with
    | none =>
      have hf : f = .next := hf
      rw [hf]
      exact G.mono (hs A (upd s _ _) _ _ ρ1 p1 z R I' ht' q) fun _ _ k => OkS.trans Y k
    | some v =>
      obtain ⟨u, hu, ru⟩ := hf
      rw [hu, ← Option.some.inj q]
      exact G.pure (.mk (s := s) Y I' ht' ⟨u, rfl, ru⟩)
theorem Inv.fzq {pr : List Addr} {B : Bm} {ρ : List PV} {p : Pl} {h : Heap} (I : Inv b0 g c pr B ρ p h) (b : Bool) (l : List Nat) : ∃ pr' B', Inv b0 g c pr' B' (Nt.fzq b ρ l) p h ∧ SEvo g pr B h pr' B' h := by
  cases b with
  | true => exact I.freeze l
  | false => exact ⟨pr, B, I, SEvo.refl ..⟩
/-- the value of a word, after its names were given up -/
theorem ev_frozen {e : Expr} {me : E} (h : EvC b0 g prog w d c call e me) {A : Around} {s : Shared} {pr : List Addr} {B : Bm} {ρ : List PV} {p : Pl} {x : PV × Pl} {b : Bool} {l : List Nat} (R : RoomC d c A) (I : Inv b0 g c pr B ρ p s.heap) (ht : 1 ≤ s.toks)
    (q : ev call me false (fzq b ρ l) p = some x) {β : Type} {f : Value → Sem β} {Q : β → Shared → Prop}
    (k : ∀ u pr' B' h' tk, Inv b0 g c pr' B' (fzq b ρ l) x.2 h' → SEvo g pr B s.heap pr' B' h' → Rd g B' u x.1 → 1 ≤ tk → wpG (model prog w) A (f u) Q (upd s h' tk)) : wpG (model prog w) A (eval e c.env >>= f) Q s := by
  obtain ⟨pr1, B1, I1, Y1⟩ := I.fzq b l
  exact OkT.to (h A s pr1 B1 _ p _ _ R I1 ht q) fun u B2 h2 tk2 X ru ht2 => k u pr1 B2 h2 tk2 (I1.evo X) (Y1.trans (X.toS pr1)) ru ht2
theorem tr_frozen {e : Expr} {me : E} (h : TrC b0 g prog w d c call e me) {A : Around} {s : Shared} {pr : List Addr} {B : Bm} {ρ : List PV} {p : Pl} {t : Bool} {p' : Pl} {b : Bool} {l : List Nat} (R : RoomC d c A) (I : Inv b0 g c pr B ρ p s.heap) (ht : 1 ≤ s.toks)
    (q : ev call me true (fzq b ρ l) p = some (.bool t, p')) {β : Type} {f : Bool → Sem β} {Q : β → Shared → Prop}
    (k : ∀ pr' B' h' tk, Inv b0 g c pr' B' (fzq b ρ l) p' h' → SEvo g pr B s.heap pr' B' h' → 1 ≤ tk → wpG (model prog w) A (f t) Q (upd s h' tk)) : wpG (model prog w) A (isTrue e c.env (eval e c.env) >>= f) Q s := by
  obtain ⟨pr1, B1, I1, Y1⟩ := I.fzq b l
  exact OkT.to (h A s pr1 B1 _ p t p' R I1 ht q) fun u B2 h2 tk2 X ru ht2 => ru ▸ k pr1 B2 h2 tk2 (I1.evo X) (Y1.trans (X.toS pr1)) ht2
theorem Return_st {e : Expr} {pos : Pos} {me : E} (h : EvC b0 g prog w d c call e me) : StC b0 g prog w d c call N (.Return (some e) pos) (.ret me) := fun A s pr B ρ p z R I ht q =>
  bndC (x := ev call me false (fzq N.fz ρ me.vars) p) q fun x e1 q => by
    rw [exec_Return_some, ← Option.some.inj q]
    exact g_stand (ev_frozen h R I ht e1 fun u pr' B' h' tk I' Y ru ht' => G.pure (.mk (s := s) Y I' ht' ⟨u, rfl, ru⟩))
theorem If_st {t : Expr} {body orelse : List Stmt} {pos : Pos} {me : E} {mb mo : Ss} (h : TrC b0 g prog w d c call t me) (hb : SsC b0 g prog w d c call N body mb) (ho : SsC b0 g prog w d c call N orelse mo) :
    StC b0 g prog w d c call N (.If t body orelse pos) (.ite me mb mo) := fun A s pr B ρ p z R I ht q =>
  iteKC (b := ev call me true (fzq N.fz ρ me.vars) p) q fun v p1 e1 q => by
    rw [exec_If]
    refine g_stand (tr_frozen h R I ht e1 fun pr' B' h' tk I' Y ht' => ?_)
    cases v with
    | true => exact G.mono (hb A (upd s h' tk) pr' B' _ p1 z R I' ht' q) fun _ _ k => OkS.trans Y k
    | false => exact G.mono (ho A (upd s h' tk) pr' B' _ p1 z R I' ht' q) fun _ _ k => OkS.trans Y k
theorem Assign_st {x : Str} {px pos : Pos} {v : Expr} {mv : E} {i : Nat} {k : VK} (hs : swapsWith v (some (.Name x px)) pos.line c.env = pure false) (h : EvC b0 g prog w d c call v mv) (hi : c.vars[i]? = some (x, k)) (hk : k ≠ .cap) :
    StC b0 g prog w d c call N (.Assign [.Name x px] v pos) (.asg i mv) := fun A s pr B ρ p z R I ht q =>
  bndC (x := ev call mv false (fzq N.fz ρ mv.vars) p) q fun y e1 q => by
    rw [exec_Assign_Name _ _ _ _ _ hs, ← Option.some.inj q]
    refine g_stand (ev_frozen h R I ht e1 fun u pr' B' h' tk I' Y ru ht' => g_stand (G.bind ?_))
    exact G.store (s := upd s h' tk) I' ht' hi hk ru fun h2 tk2 ht2 I2 Y2 => G.pure (OkS.next (s := s) (Y.trans Y2) I2 ht2)
end
theorem g_runOwn {M : Model} {A : Around} {s : Shared} {code : Code} {env : Env} {Q : Flow → Shared → Prop} (hd : notDec code) (h : codeG M A code Q s) : wpG M A (runOwn code env) Q s := G.onRaise (G.run hd h)
section
variable {b0 : Heap} {g : Cfg} {prog : Program} {w : World} {d : Nat} {c : Act} {call : Orc} {N : Md}
/-! while -/
theorem while_loop {test : Expr} {body : List Stmt} {mt : E} {mb : Ss} {fz : Bool} (ht : TrC b0 g prog w d c call test mt) (hb : SsC b0 g prog w d c call N body mb) : ∀ (n : Nat) A s pr B ρ p z, RoomC d c A → Inv b0 g c pr B ρ p s.heap → 1 ≤ s.toks →
    whileLoop (fun ρ => fzq fz ρ mt.vars) (fun ρ p => ev call mt true ρ p) (fun ρ p => xSs call N mb ρ p) n ρ p = some z → codeG (model prog w) A (.whileLoop test body [] c.env) (OkS b0 g c pr B s z) s := by
  intro n
  induction n with
  | zero => exact fun A s pr B ρ p z R I h1 q => noneN q
  | succ n ih =>
    intro A s pr B ρ p z R I h1 q
    refine iteKC (b := ev call mt true (fzq fz ρ mt.vars) p) q fun b p1 e q => ?_
    refine G.code ?_ (fun _ _ => rfl)
    refine G.onRaise (m := whileTurn test body [] c.env) (tr_frozen ht R I h1 e fun pr' B' h' tk I' Y ht' => ?_)
    cases b with
    | false =>
      have q : (none, fzq fz ρ mt.vars, p1) = z := Option.some.inj q
      exact G.bind (m := execs [] c.env) (G.pure (G.pure (q ▸ OkS.next (s := s) Y I' ht')))
    | true =>
      refine seqC (x := xSs call N mb (fzq fz ρ mt.vars) p1) q fun y e2 q => G.bind (m := execs body c.env) (G.mono (hb A (upd s h' tk) pr' B' _ p1 y R I' ht' e2) fun f s' k => ?_)
      cases k with
      | mk Y2 I2 ht2 hf =>
        obtain ⟨r1, ρ1, p2⟩ := y
        cases r1 with
        | none =>
          have hf : f = .next := hf
          rw [hf]
          exact G.pure ⟨rfl, (fun _ _ => rfl), codeG_mono (ih A (upd s _ _) _ _ ρ1 p2 z R I2 ht2 q) fun _ _ k => OkS.trans (Y.trans Y2) k⟩
        | some v =>
          obtain ⟨u, hu, ru⟩ := hf
          rw [hu, ← Option.some.inj q]
          exact G.pure (OkS.mk (s := s) (Y.trans Y2) I2 ht2 ⟨u, rfl, ru⟩)
theorem While_st {test : Expr} {body : List Stmt} {pos : Pos} {mt : E} {mb : Ss} (ht : TrC b0 g prog w d c call test mt) (hb : SsC b0 g prog w d c call N body mb) : StC b0 g prog w d c call N (.While test body [] pos) (.whl mt mb) := fun A s pr B ρ p z R I h1 q => by
  rw [exec_While]
  exact g_stand (g_runOwn (fun _ _ => rfl) (while_loop ht hb N.n A s pr B ρ p z R I h1 q))
/-! stores in order -/
inductive OkU (b0 : Heap) (g : Cfg) (c : Act) (pr : List Addr) (B : Bm) (s : Shared) (ρ' : List PV) (p' : Pl) : Shared → Prop
  | mk {pr' : List Addr} {B' : Bm} {h' : Heap} {tk : Nat} (Y : SEvo g pr B s.heap pr' B' h') (I : Inv b0 g c pr' B' ρ' p' h') (t : 1 ≤ tk) : OkU b0 g c pr B s ρ' p' (upd s h' tk)
noncomputable def SetC (b0 : Heap) (g : Cfg) (prog : Program) (w : World) (c : Act) (t : Value → Sem Unit) (i : Nat) : Prop := ∀ A s pr B ρ p x v, Inv b0 g c pr B ρ p s.heap → 1 ≤ s.toks → Rd g B v x → wpG (model prog w) A (t v) (fun _ => OkU b0 g c pr B s (ρ.set i x) p) s
theorem OkU.trans {pr pr₁ : List Addr} {B B₁ : Bm} {s : Shared} {h₁ : Heap} {tk : Nat} {ρ' : List PV} {p' : Pl} {s' : Shared} (x : SEvo g pr B s.heap pr₁ B₁ h₁) (h : OkU b0 g c pr₁ B₁ (upd s h₁ tk) ρ' p' s') : OkU b0 g c pr B s ρ' p' s' := by
  cases h with
  | mk Y I t => exact .mk (s := s) (x.trans Y) I t
theorem RdL.stay {pr pr' : List Addr} {B B' : Bm} {h h' : Heap} (Y : SEvo g pr B h pr' B' h') {vs : List Value} {xs : List PV} (r : RdL g B vs xs) : RdL g B' vs xs := r.mono Y.mono
theorem stores_snd {ts : List (Value → Sem Unit)} {is : List Nat} (h : All2 (SetC b0 g prog w c) ts is) : ∀ {A : Around} {s : Shared} {pr : List Addr} {B : Bm} {ρ : List PV} {p : Pl} {xs : List PV} {vs : List Value},
    Inv b0 g c pr B ρ p s.heap → 1 ≤ s.toks → RdL g B vs xs → xs.length = is.length → wpG (model prog w) A (assignInOrder ts vs) (fun _ => OkU b0 g c pr B s (storeL ρ is xs) p) s := by
  induction h with
  | nil =>
    intro A s pr B ρ p xs vs I ht r hl
    obtain rfl := List.length_eq_zero_iff.mp hl
    rw [r.nil_inv]
    exact G.pure (OkU.mk (s := s) (SEvo.refl ..) I ht)
  | cons h _ ih =>
    intro A s pr B ρ p xs vs I ht r hl
    cases xs with
    | nil => exact nomatch hl
    | cons x xs =>
      cases vs with
      | nil => exact nomatch r.1
      | cons v vs =>
        refine G.bind (G.holding (G.mono (h A s pr B ρ p x v I ht r.head) fun _ s' k => ?_))
        cases k with
        | mk Y I' ht' => exact G.mono (ih (s := upd s _ _) I' ht' (r.tail.mono Y.mono) (Nat.succ.inj hl)) fun _ _ k => OkU.trans Y k
theorem storeL_set {i : Nat} {x : PV} : ∀ {is : List Nat} {ρ vs : List PV}, i ∉ is → storeL (ρ.set i x) is vs = (storeL ρ is vs).set i x
  | [], ρ, vs, _ => by cases vs <;> rfl
  | j :: is, ρ, [], _ => rfl
  | j :: is, ρ, v :: vs, h => by
    have hj : i ≠ j := fun q => h (q ▸ List.mem_cons_self)
    show storeL ((ρ.set i x).set j v) is vs = (storeL (ρ.set j v) is vs).set i x
    rw [List.set_comm _ _ hj]
    exact storeL_set fun m => h (List.mem_cons_of_mem _ m)
theorem storeL_append : ∀ {is js : List Nat} {ρ vs us : List PV}, is.length = vs.length → storeL ρ (is ++ js) (vs ++ us) = storeL (storeL ρ is vs) js us
  | [], js, ρ, [], us, _ => rfl
  | i :: is, js, ρ, v :: vs, us, h => by
    show storeL (ρ.set i v) (is ++ js) (vs ++ us) = storeL (storeL (ρ.set i v) is vs) js us
    exact storeL_append (by simpa using h)
theorem storeL_rev : ∀ {is : List Nat} {ρ vs : List PV}, nodupI is = true → is.length = vs.length → storeL ρ is.reverse vs.reverse = storeL ρ is vs
  | [], ρ, [], _, _ => rfl
  | i :: is, ρ, v :: vs, h, hl => by
    unfold nodupI at h
    rw [Bool.and_eq_true, Bool.not_eq_true', List.contains_eq_mem, decide_eq_false_iff_not] at h
    have hl' : is.length = vs.length := by simpa using hl
    rw [List.reverse_cons, List.reverse_cons, storeL_append (by simpa using hl'), storeL_rev h.2 hl']
    exact (storeL_set h.1).symm
noncomputable def NmOk (c : Act) (t : Expr) (i : Nat) : Prop := ∃ x px k, t = .Name x px ∧ c.vars[i]? = some (x, k) ∧ k ≠ .cap
theorem SetC.bind {x : Str} {i : Nat} {k : VK} (hi : c.vars[i]? = some (x, k)) (hk : k ≠ .cap) : SetC b0 g prog w c (fun v => bindName c.env x v) i := fun A s pr B ρ p z v I ht r =>
  G.store I ht hi hk r fun h' tk ht' I' Y => .mk (s := s) Y I' ht'
theorem SetC.name {t : Expr} {i : Nat} (h : NmOk c t i) : SetC b0 g prog w c (assign t c.env) i := fun A s pr B ρ p z v I ht r => by
  obtain ⟨x, px, k, rfl, hi, hk⟩ := h
  rw [PySem.assign_Name]
  exact g_stand (SetC.bind hi hk A s pr B ρ p z v I ht r)
theorem assignEach_names {ts : List Expr} {is : List Nat} (h : All2 (NmOk c) ts is) : (assignEach ts c.env).map (·.2) = ts.map (fun t => assign t c.env) ∧ (assignEach ts c.env).findIdx? (·.1) = none ∧ (assignEach ts c.env).length = ts.length := by
  induction h with
  | nil => exact ⟨rfl, rfl, rfl⟩
  | cons h _ ih =>
    obtain ⟨x, px, k, rfl, hi, hk⟩ := h
    obtain ⟨h1, h2, h3⟩ := ih
    refine ⟨congrArg (List.cons _) h1, ?_, congrArg (· + 1) h3⟩
    show List.findIdx? _ ((false, assign (.Name x px) c.env) :: assignEach _ c.env) = none
    rw [List.findIdx?_cons, h2]; rfl
theorem sets_names {ts : List Expr} {is : List Nat} (h : All2 (NmOk c) ts is) : All2 (SetC b0 g prog w c) (ts.map (fun t => assign t c.env)) is := by
  induction h with
  | nil => exact .nil
  | cons h _ ih => exact .cons (SetC.name h) ih
/-! unpacking -/
/-- what is drawn from an iterator -/
theorem draw_walk {A : Around} (hA : A.handled = none) {B : Bm} {items : List PV} {Ia : Addr} {St : Nat → Heap → Prop} (W : Iter g B prog w items Ia St) :
    ∀ (xs : List PV) (i : Nat) (s : Shared) (Q : List Value → Shared → Prop), items.drop i = xs → St i s.heap →
      (∀ us h' tk, RdL g B us xs → St (i + xs.length) h' → Far Ia s.heap h' → Q us (upd s h' tk)) → wpAny (model prog w) A (draw (.ref Ia) xs.length) Q No s
  | [], i, s, Q, hx, st, hQ => wpAny_pure (hQ [] s.heap s.toks RdL.nil st fun _ _ _ e => e)
  | x :: xs, i, s, Q, hx, st, hQ => by
    have ex : items[i]? = some x := by
      have := congrArg (·[0]?) hx
      rwa [List.getElem?_drop] at this
    have hx' : items.drop (i + 1) = xs := by rw [← List.tail_drop, hx]; rfl
    refine wpAny_bind (W.next A s i _ x hA ex st fun v h₁ tk₁ rv st₁ hk₁ => wpAny_bind (wpAny_holding (draw_walk hA W xs (i + 1) (upd s h₁ tk₁) _ hx' st₁ fun us h₂ tk₂ rus st₂ hk₂ => wpAny_pure ?_)))
    exact hQ (v :: us) h₂ tk₂ (RdL.cons rv rus) (by rw [List.length_cons, Nat.add_comm xs.length, ← Nat.add_assoc]; exact st₂) fun b o ne e => hk₂ b o ne (hk₁ b o ne e)
theorem seq_items {x : PV} {xs : List PV} (h : seqOf x = some xs) : itemsOf x = some xs := by cases x <;> first | exact h | exact noneN h
theorem unpackItems_snd {A : Around} {s : Shared} {B : Bm} {p : Pl} {v : Value} {x : PV} {xs : List PV} {Q : List Value → Shared → Prop} (hh : A.handled = none) (K : Kp b0 g B p s.heap) (r : Rd g B v x) (hx : seqOf x = some xs)
    (hQ : ∀ us h' tk, RdL g B us xs → Grow s.heap h' → Q us (upd s h' tk)) : wpAny (model prog w) A (unpackItems v xs.length none) Q No s := by
  have hni : ∀ {Q : Bool → Shared → Prop}, Q false s → wpAny (model prog w) A (notIterableAtAll v) Q No s := fun {Q} h =>
    r.tupC (P := fun v => wpAny (model prog w) A (notIterableAtAll v) Q No s) hx (fun a vs n xs ha _ _ => wpAny_bind (wpAny_specialOf ⟨_, K.keep _ _ ha, rfl⟩ F.slot_tuple_iter.lookup (wpAny_pure h)))
      fun e => r.listC (P := fun v => wpAny (model prog w) A (notIterableAtAll v) Q No s) e (fun a vs n xs ha _ _ => wpAny_bind (wpAny_specialOf ⟨_, K.isL ha, rfl⟩ slot_list_iter.lookup (wpAny_pure h))) noneN
  refine wpAny_bind (m := notIterableAtAll v) (hni ?_)
  refine wpAny_bind (wpAny_holding (iter_snd K r (seq_items hx) fun o St hf st0 W => ?_))
  refine wpAny_bind (wpAny_holding (draw_walk hh W xs 0 _ _ rfl st0 fun us h₁ tk₁ rus st₁ hk₁ => ?_))
  rw [if_neg (by rw [rus.1]; exact Nat.lt_irrefl _)]
  refine wpAny_bind (wpAny_holding (W.done A _ _ hh (Nat.zero_add xs.length ▸ st₁) fun h₂ tk₂ hk₂ => ?_))
  exact wpAny_pure (hQ us h₂ tk₂ rus fun b ob e => hk₂ b ob (Heap.ne_new e) (hk₁ b ob (Heap.ne_new e) (Heap.get?_push_of_some _ e)))
/-- a value is unpacked into names -/
theorem assignT_snd {ts : List Expr} {is : List Nat} {k : Nat} {tp : Pos} (hts : All2 (NmOk c) ts is) {A : Around} {s : Shared} {pr : List Addr} {B : Bm} {ρ : List PV} {p : Pl} {v : Value} {x : PV} {xs : List PV} (hh : A.handled = none)
    (I : Inv b0 g c pr B ρ p s.heap) (ht : 1 ≤ s.toks) (r : Rd g B v x) (hx : seqOf x = some xs) (hl : xs.length = is.length) :
    wpG (model prog w) A (assign (.Tuple ts k tp) c.env v) (fun _ => OkU b0 g c pr B s (storeL ρ is xs) p) s := by
  rw [arm_assign_Tuple]
  refine g_stand ?_
  unfold unpack
  obtain ⟨h1, h2, h3⟩ := assignEach_names hts
  rw [h1, h2, h3, hts.len, ← hl]
  refine G.bind (G.holding (G.toks ht (G.any (unpackItems_snd hh I.kp r hx fun us h' tk ru gr ht' => ?_))))
  have X := Evo.grow I.keep I.pool gr
  exact G.mono (stores_snd (sets_names hts) (s := upd s h' tk) (I.evo X) ht' ru hl) fun _ _ k => OkU.trans (X.toS pr) k
end
section
variable {b0 : Heap} {g : Cfg} {prog : Program} {w : World} {d : Nat} {c : Act} {call : Orc} {N : Md}
/-! for -/
/-- what the head of a loop does with an item -/
noncomputable def TgtC (b0 : Heap) (g : Cfg) (prog : Program) (w : World) (c : Act) (target : Expr) (upd : PV → List PV → Option (List PV)) : Prop := ∀ A s pr B ρ p x ρ1 v, A.handled = none → Inv b0 g c pr B ρ p s.heap → 1 ≤ s.toks → Rd g B v x → upd x ρ = some ρ1 →
  wpG (model prog w) A (assign target c.env v) (fun _ => OkU b0 g c pr B s ρ1 p) s
/-- what the head of a loop lets go -/
noncomputable def GoC (prog : Program) (w : World) (target : Expr) : Prop := ∀ (A : Around) (s : Shared) (Ia : Addr) (v : Value) (Q : Unit → Shared → Prop) (ob : Obj) (T : String) (vs : Array Value), s.heap.get? Ia = some ob → ob.cls = .type T → ob.data = .fields vs →
  (["enumerate", "zip", "dict_itemiterator", "dict_reverseitemiterator", "odict_iterator", "itertools.zip_longest", "itertools.pairwise"].contains T) = false → Q () s → wpG (model prog w) A (letOwnedTupleGo target (.ref Ia) v) Q s
theorem GoC.name {x : Str} {p : Pos} : GoC prog w (.Name x p) := fun A s Ia v Q ob T vs e1 e2 e3 e4 h => G.pure h
theorem GoC.tup {ts : List Expr} {k : Nat} {p : Pos} : GoC prog w (.Tuple ts k p) := fun A s Ia v Q ob T vs e1 e2 e3 e4 h => by
  cases v with
  | ref a =>
    refine G.bind (m := load Ia) (G.any (wpAny_load e1 ?_))
    rw [e2, e3]
    refine G.ite (fun q => ?_) fun _ => G.pure h
    rw [e4] at q; exact nomatch q
  | _ => exact G.pure h
/-- what one turn of the evaluator's loop does: a store, then the body -/
noncomputable def TurnF (upd : PV → List PV → Option (List PV)) (Bd : List PV → Pl → XR) (F : PV → List PV → Pl → XR) : Prop := ∀ x ρ p z, F x ρ p = some z → ∃ ρ1, upd x ρ = some ρ1 ∧ Bd ρ1 p = some z
theorem for_loop {target : Expr} {body : List Stmt} {Bd : List PV → Pl → XR} {upd' : PV → List PV → Option (List PV)} {F : PV → List PV → Pl → XR} (hgo : GoC prog w target) (hT : TgtC b0 g prog w c target upd') (hb : SsB b0 g prog w d c body Bd) (hF : TurnF upd' Bd F)
    {items : List PV} {s₀ : Shared} {pr₀ : List Addr} {B₀ B₁ : Bm} {St : Nat → Heap → Prop} {Ia : Addr} (W : Iter g B₁ prog w items Ia St) (h0 : c.h0.get? Ia = none) (hP : g.P ≠ some Ia) (hs₀ : s₀.heap.get? Ia = none) {A : Around} (R : RoomC d c A) :
    ∀ (xs : List PV) (i : Nat), items.drop i = xs → i ≤ items.length → ∀ {h : Heap} {tk : Nat} {pr : List Addr} {B : Bm} {ρ : List PV} {p : Pl} {z : Option PV × List PV × Pl}, SEvo g pr₀ B₀ s₀.heap pr B h → Inv b0 g c pr B ρ p h → 1 ≤ tk → ItS g B₁ Ia St i pr B h →
      forLoop F xs ρ p = some z → codeG (model prog w) A (.forLoop target (.ref Ia) body [] c.env) (OkS b0 g c pr₀ B₀ s₀ z) (upd s₀ h tk) := by
  intro xs
  induction xs with
  | nil =>
    intro i hx hi h tk pr B ρ p z Y I ht T q
    have e : i = items.length := by
      have := congrArg List.length hx
      rw [List.length_drop] at this
      exact Nat.le_antisymm hi (Nat.sub_eq_zero_iff_le.mp this)
    subst e
    refine G.code (G.onRaise (m := forTurn target (.ref Ia) body [] c.env) (g_stand (G.bind (G.onRaise (G.toks (n := 1) ht (G.any (W.done A _ _ R.handled T.st fun h' tk' far ht' => ?_))))))) (fun _ _ => rfl)
    refine G.pure ⟨rfl, (fun _ _ => rfl), G.code ?_ (fun _ _ => rfl)⟩
    have q : (none, ρ, p) = z := Option.some.inj q
    exact G.bind (G.onRaise (m := execs [] c.env) (G.pure (G.pure (q ▸ OkS.next (s := s₀) (Y.side far hs₀) (I.side far T.bI T.np hP h0 (W.noCell T.st)) ht'))))
  | cons x xs ih =>
    intro i hx hi h tk pr B ρ p z Y I ht T q
    have ex : items[i]? = some x := by
      have := congrArg (·[0]?) hx
      rwa [List.getElem?_drop] at this
    have hx' : items.drop (i + 1) = xs := by rw [← List.tail_drop, hx]; rfl
    have hi' : i < items.length := (List.getElem?_eq_some_iff.mp ex).1
    refine seqC (x := F x ρ p) q fun y ef q => ?_
    obtain ⟨ρ1, hu, hbd⟩ := hF _ _ _ _ ef
    refine G.code (G.onRaise (m := forTurn target (.ref Ia) body [] c.env) (g_stand (G.bind (G.onRaise (G.toks (n := 1) ht (G.any (W.next A _ i _ x R.handled ex T.st fun v h1 tk1 rv st far ht1 => ?_))))))) (fun _ _ => rfl)
    have T1 := T.move far st
    obtain ⟨ob, T', vs, o1, o2, o3, o4⟩ := W.live _ _ st
    refine G.bind (hgo A (upd s₀ h1 tk1) Ia v _ ob T' vs o1 o2 o3 o4 (G.bind (G.mono (hT A (upd s₀ h1 tk1) pr B ρ p x ρ1 v R.handled (I.side far T.bI T.np hP h0 (W.noCell T.st)) ht1 (rv.mono T.sb) hu) fun _ s' k => ?_)))
    cases k with
    | mk Y2 I2 ht2 =>
      have T2 := T1.sevo W R.handled hP Y2 I2.keep
      refine G.bind (G.mono (hb A (upd (upd s₀ h1 tk1) _ _) _ _ ρ1 p y R I2 ht2 hbd) fun f s' k => ?_)
      cases k with
      | mk Y3 I3 ht3 hf =>
        have Y' := ((Y.side far hs₀).trans Y2).trans Y3
        obtain ⟨r1, ρ2, p2⟩ := y
        cases r1 with
        | none =>
          have hf : f = .next := hf
          rw [hf]
          exact G.pure ⟨rfl, (fun _ _ => rfl), ih (i + 1) hx' hi' Y' I3 ht3 (T2.sevo W R.handled hP Y3 I3.keep) q⟩
        | some v =>
          obtain ⟨u, hu, ru⟩ := hf
          rw [hu, ← Option.some.inj q]
          exact G.pure (OkS.mk (s := s₀) Y' I3 ht3 ⟨u, rfl, ru⟩)
theorem For_pre {target it : Expr} {body : List Stmt} {pos : Pos} {mit : E} {Bd : List PV → Pl → XR} {upd' : PV → List PV → Option (List PV)} {F : PV → List PV → Pl → XR} (hset : ∀ env v, foldedSetIterable it env v = pure v) (hit : EvC b0 g prog w d c call it mit)
    (hgo : GoC prog w target) (hT : TgtC b0 g prog w c target upd') (hb : SsB b0 g prog w d c body Bd) (hF : TurnF upd' Bd F) {fz : Bool} {l : List Nat}
    {A : Around} {s : Shared} {pr : List Addr} {B : Bm} {ρ : List PV} {p : Pl} {xv : PV × Pl} {xs : List PV} {z : Option PV × List PV × Pl} (R : RoomC d c A) (I : Inv b0 g c pr B ρ p s.heap) (ht : 1 ≤ s.toks) (e1 : ev call mit false (fzq fz ρ l) p = some xv) (e2 : itemsOf xv.1 = some xs)
    (q : forLoop F xs (fzq fz ρ l) xv.2 = some z) : wpG (model prog w) A (exec (.For target it body [] pos) c.env) (OkS b0 g c pr B s z) s := by
  rw [exec_For]
  refine g_stand (ev_frozen hit R I ht e1 fun u pr1 B1 h1 tk1 I1 Y1 ru ht1 => G.e (hset _ u) (g_stand (G.bind (G.holding (G.any (iter_snd (s := upd s h1 tk1) I1.kp ru e2 fun o St hf st0 W => ?_))))))
  have hIa : h1.get? h1.objs.size = none := Heap.get_size h1
  have X := Evo.grow I1.keep I1.pool (Grow.push h1 o)
  have h0 : c.h0.get? h1.objs.size = none := by
    cases z : c.h0.get? h1.objs.size with
    | none => rfl
    | some o' => obtain ⟨o2, e⟩ := I1.thereO _ o' z; rw [hIa] at e; cases e
  have hpr : h1.objs.size ∉ pr1 := fun m => by
    obtain ⟨_, _, _, o', e⟩ := I1.prv _ m
    rw [hIa] at e; cases e
  exact g_runOwn (fun _ _ => rfl) (for_loop hgo hT hb hF W h0 (I1.pool.ne hIa) (Y1.gone hIa) R xs 0 rfl (Nat.zero_le _) (Y1.trans (X.toS pr1)) (I1.evo X) ht1 ⟨st0, Sub.refl B1, X.keep, I1.keep.fresh hIa, hpr⟩ q)
theorem lim_inv {α : Type} {C : Prop} {r : α} {xs : List PV} {o : Option α} (q : (if xs.length ≤ lim then o else none) = some r) (k : o = some r → C) : C := by
  by_cases h : xs.length ≤ lim
  · rw [if_pos h] at q; exact k q
  · rw [if_neg h] at q; exact noneN q
theorem For_st {x : Str} {px pos : Pos} {it : Expr} {body : List Stmt} {i : Nat} {k : VK} {mit : E} {mb : Ss} (hset : ∀ env v, foldedSetIterable it env v = pure v) (hi : c.vars[i]? = some (x, k)) (hk : k ≠ .cap) (hit : EvC b0 g prog w d c call it mit)
    (hb : SsC b0 g prog w d c call N body mb) : StC b0 g prog w d c call N (.For (.Name x px) it body [] pos) (.forv i mit mb) := fun A s pr B ρ p z R I ht q =>
  bndC (x := ev call mit false (fzq N.fz ρ mit.vars) p) q fun xv e1 q => bndC (x := itemsOf xv.1) q fun xs e2 q => lim_inv q fun q =>
    For_pre (Bd := xSs call N mb) (upd' := fun x ρ => some (ρ.set i x)) hset hit GoC.name (fun A s pr B ρ p y ρ1 v hh I ht r e => Option.some.inj e ▸ SetC.name ⟨x, px, k, rfl, hi, hk⟩ A s pr B ρ p y v I ht r) hb (fun x ρ p r e => ⟨_, rfl, e⟩) R I ht e1 e2 q
noncomputable def seqUpd (is : List Nat) (x : PV) (ρ : List PV) : Option (List PV) := @bnd _ _ (seqOf x) ⟨fun vs => if vs.length = is.length then some (storeL ρ is vs) else none⟩
theorem ForT_st {ts : List Expr} {is : List Nat} {k : Nat} {tp pos : Pos} {it : Expr} {body : List Stmt} {mit : E} {mb : Ss} (hset : ∀ env v, foldedSetIterable it env v = pure v) (hts : All2 (NmOk c) ts is) (hit : EvC b0 g prog w d c call it mit)
    (hb : SsC b0 g prog w d c call N body mb) : StC b0 g prog w d c call N (.For (.Tuple ts k tp) it body [] pos) (.forT is mit mb) := fun A s pr B ρ p z R I ht q =>
  bndC (x := ev call mit false (fzq N.fz ρ mit.vars) p) q fun xv e1 q => bndC (x := itemsOf xv.1) q fun xs e2 q => lim_inv q fun q =>
    For_pre (Bd := xSs call N mb) (upd' := seqUpd is) hset hit GoC.tup (fun A s pr B ρ p y ρ1 v hh I ht r e => bndC (x := seqOf y) e fun vs ez e => by
      by_cases hl : vs.length = is.length
      · have e : (if vs.length = is.length then some (storeL ρ is vs) else none) = some ρ1 := e
        rw [if_pos hl] at e
        exact Option.some.inj e ▸ assignT_snd hts hh I ht r ez hl
      · exact noneN ((if_neg hl).symm.trans e)) hb (fun x ρ p r e => bndC (x := seqOf x) e fun vs ez e => by
      by_cases hl : vs.length = is.length
      · refine ⟨storeL ρ is vs, ?_, (if_pos hl).symm.trans e⟩
        unfold seqUpd
        rw [ez]; exact if_pos hl
      · exact noneN ((if_neg hl).symm.trans e)) R I ht e1 e2 q
theorem Try_st {body : List Stmt} {hs : List ExceptHandler} {pos : Pos} {mb : Ss} (hb : SsC b0 g prog w d c call N body mb) : StC b0 g prog w d c call N (.Try body hs [] [] pos) (.tri mb) := fun A s pr B ρ p z R I ht q => by
  show wpG _ A (standAt pos >>= fun _ => tryStmt false (execs body c.env) hs (execs [] c.env) [] c.env) _ s
  refine g_stand ?_
  refine G.bind (m := (execs body c.env).attempt) (G.attempt (G.mono (hb A s pr B ρ p z R I ht q) fun f s' k => ?_))
  cases k with
  | mk Y I' ht' hf =>
    obtain ⟨r, ρ', p'⟩ := z
    cases r with
    | none =>
      have hf : f = .next := hf
      rw [hf]
      exact G.pure (OkS.next (s := s) Y I' ht')
    | some v =>
      obtain ⟨u, hu, ru⟩ := hf
      rw [hu]
      exact G.pure (OkS.mk (s := s) Y I' ht' ⟨u, rfl, ru⟩)
end
section
variable {b0 : Heap} {g : Cfg} {prog : Program} {w : World} {d : Nat} {c : Act} {call : Orc} {N : Md} {fa : Nat → Addr}
/-- inplace: + and - of ints and texts -/
theorem inpOp_snd {B : Bm} {p : Pl} {A : Around} {E : Value → Shared → Prop} {s : Shared} {Q : Value → Shared → Prop} {op : Operator} {v1 v2 : Value} {x y r : PV} (hop : op = .Add ∨ op = .Sub) (nl : isLst x = false) (K : Kp b0 g B p s.heap) (h1 : Rd g B v1 x) (h2 : Rd g B v2 y) (e : binOp op x y = some r) (R : Res g B s p Q r) :
    wpAny (model prog w) A (inplaceOp op v1 v2) Q E s := by
  rcases hop with rfl | rfl
  · exact h1.intC e (fun a t e => h2.intC e (fun b u e => wpAny_iadd_int (R.nowE K e (.int _ _) _)) noneN) fun e =>
      h1.strC e (fun a t e => h2.strC e (fun b u e => iadd_str (fun t' tk => R.nowE K (grdE e) (.str _ _) _) (Nat.le_trans (grdP e) lim_line)) noneN) fun e => by
        cases x <;> first | exact noneN e | cases nl
  · exact h1.two h2 e fun a t b u e => isub_int (R.nowE K e (.int _ _) _)
theorem noLst_inv {α : Type} {o : Option α} {b : Bool} {r : α} (h : noLst o b = some r) : b = false ∧ o = some r := by
  cases b with
  | true => exact noneN h
  | false => exact ⟨rfl, h⟩
theorem Aug_st {x : Str} {px pos : Pos} {op : Operator} {v : Expr} {mv : E} {i : Nat} {k : VK} (hop : op = .Add ∨ op = .Sub) (h : EvC b0 g prog w d c call v mv) (hi : c.vars[i]? = some (x, k)) (hk : k ≠ .cap) :
    StC b0 g prog w d c call N (.AugAssign (.Name x px) op v pos) (.aug i op mv) := fun A s pr B ρ p z R I ht q =>
  bndC (x := getV (fzq N.fz ρ (i :: mv.vars)) i) q fun v0 e0 q => by
  obtain ⟨hl, q⟩ := noLst_inv q
  refine bndC (x := ev call mv false (fzq N.fz ρ (i :: mv.vars)) p) q fun y e1 q => bndC (x := binOp op v0 y.1) q fun o e2 q => ?_
  rw [exec_AugAssign_Name, ← Option.some.inj q]
  obtain ⟨g1, g2, g3⟩ := getV_inv e0
  obtain ⟨pr1, B1, I1, Y1⟩ := I.fzq N.fz (i :: mv.vars)
  refine g_stand (G.bind (G.any (I1.kindOf_load rfl hi g1 g3 g2 fun old ro => ?_)))
  refine OkT.to (G.holding (h A s pr1 B1 _ p _ _ R I1 ht e1)) fun u B2 h2 tk2 X ru ht2 => g_stand ?_
  refine OkT.to (P := fun B v => Rd g B v o) (G.operate (G.leaf ht2 fun Q hQ => inpOp_snd hop hl (I1.evo X).kp (ro.mono X.mono) ru e2 hQ)) fun nv B3 h3 tk3 X3 rn ht3 => g_stand (G.bind ?_)
  exact G.store (s := upd (upd s h2 tk2) h3 tk3) ((I1.evo X).evo X3) ht3 hi hk rn fun h4 tk4 ht4 I4 Y4 => G.pure (OkS.next (s := s) (Y1.trans (((X.trans X3).toS pr1).trans Y4)) I4 ht4)
theorem exec_Assign (targets : List Expr) (value : Expr) (pos : Pos) (env : Env) : exec (.Assign targets value pos) env = (do
    standAt pos
    if ← swapsWithSole targets value pos.line env then do
      evalThenUse value env fun v => assignAll v ((assignEach targets env).map (·.2))
      pure .next
    else do
      let v ← eval value env
      assignStores env v (← swappedStores targets value env) ((assignEach targets env).map (·.2))) := rfl
theorem swaps_sole {t v : Expr} {line : Nat} (ht : ∀ line, swapsWith v (some t) line c.env = pure false) : swapsWithSole [t] v line c.env = pure false := ht line
theorem filterMap_all {α β : Type} {f : α → Option β} : ∀ {l : List α}, (l.filterMap f).length = l.length → All2 (fun x y => f x = some y) l (l.filterMap f)
  | [], _ => .nil
  | x :: l, h => by
    rw [List.filterMap_cons] at h ⊢
    cases e : f x with
    | none =>
      rw [e] at h
      have := List.length_filterMap_le f l
      simp at h
      omega
    | some y =>
      rw [e] at h
      exact .cons e (filterMap_all (by simpa using h))
theorem All2.imp {α β : Type} {R R' : α → β → Prop} (i : ∀ x y, R x y → R' x y) {xs : List α} {ys : List β} (h : All2 R xs ys) : All2 R' xs ys := by
  induction h with
  | nil => exact .nil
  | cons h _ ih => exact .cons (i _ _ h) ih
theorem All2.append {α β : Type} {R : α → β → Prop} {xs xs' : List α} {ys ys' : List β} (h : All2 R xs ys) (h' : All2 R xs' ys') : All2 R (xs ++ xs') (ys ++ ys') := by
  induction h with
  | nil => exact h'
  | cons h _ ih => exact .cons h ih
theorem All2.reverse {α β : Type} {R : α → β → Prop} {xs : List α} {ys : List β} (h : All2 R xs ys) : All2 R xs.reverse ys.reverse := by
  induction h with
  | nil => exact .nil
  | cons h _ ih => rw [List.reverse_cons, List.reverse_cons]; exact ih.append (.cons h .nil)
theorem All2.map {α β γ : Type} {R : γ → β → Prop} {f : α → γ} {xs : List α} {ys : List β} (h : All2 (fun x y => R (f x) y) xs ys) : All2 R (xs.map f) ys := by
  induction h with
  | nil => exact .nil
  | cons h _ ih => exact .cons h ih
theorem All2.join {α β γ : Type} {R : α → β → Prop} {R' : α → γ → Prop} {S : β → γ → Prop} (i : ∀ x y z, R x y → R' x z → S y z) {xs : List α} {ys : List β} (h : All2 R xs ys) : ∀ {zs : List γ}, All2 R' xs zs → All2 S ys zs := by
  induction h with
  | nil => exact fun h => by cases h; exact .nil
  | cons h _ ih => exact fun h' => by cases h' with | cons q qs => exact .cons (i _ _ _ h q) (ih qs)
theorem RdL.reverse {B : Bm} : ∀ {vs : List Value} {xs : List PV}, RdL g B vs xs → RdL g B vs.reverse xs.reverse
  | [], xs, h => by
    have : xs = [] := by have := h.1; simpa using this.symm
    subst this; exact RdL.nil
  | v :: vs, xs, h => by
    cases xs with
    | nil => have := h.1; simp at this
    | cons x xs => rw [List.reverse_cons, List.reverse_cons]; exact (RdL.reverse h.tail).snoc h.head
/-- the stores of a tuple: in order, or told in another -/
noncomputable def SwOk (ts : List Expr) (X : Sem (Option (List Str))) : Prop := X = pure none ∨ ∃ names : List Str, X = pure (some names) ∧ names.length = ts.length ∧ All2 (fun t n => ∃ p, t = Expr.Name n p) ts names
theorem SwOk.ite {ts : List Expr} {b : Bool} {X Y : Sem (Option (List Str))} (h1 : b = true → SwOk ts X) (h : b = false → SwOk ts Y) : SwOk ts (if b = true then X else Y) := by
  cases b with
  | true => exact h1 rfl
  | false => exact h rfl
theorem swapped_snd {ts : List Expr} {k : Nat} {tp : Pos} {v : Expr} (hc : CompE v) (hv : swapOk v = true) : SwOk ts (swappedStores [.Tuple ts k tp] v c.env) := by
  rcases hc.swt with h | ⟨vs, k2, p2, rfl⟩
  · exact .inl (h ..)
  · have hv : (vs.all (foldedForSure 8) || !vs.all (constantsAlone 8)) = true := hv
    unfold swappedStores
    dsimp only
    refine SwOk.ite (fun _ => .inl rfl) fun _ => SwOk.ite (fun _ => .inl rfl) fun _ => SwOk.ite (fun _ => .inl rfl) fun hn => SwOk.ite (fun _ => .inl rfl) fun hf => SwOk.ite (fun hq => ?_) fun _ => ?_
    · rw [hf, hq] at hv; exact nomatch hv
    · have hn := (Bool.or_eq_false_iff.mp hn).1
      have hl := bne_eq_false_iff_eq.mp hn
      refine .inr ⟨_, rfl, hl, All2.imp (fun t n e => ?_) (filterMap_all hl)⟩
      cases t with
      | Name id p => exact iteC e (fun q => ⟨p, by rw [Option.some.inj q]⟩) noneN
      | _ => exact noneN e
theorem AssignT_st {ts : List Expr} {is : List Nat} {k : Nat} {tp pos : Pos} {v : Expr} {mv : E} (hc : CompE v) (hs : swapOk v = true) (hts : All2 (NmOk c) ts is) (hnd : nodupI is = true) (h : EvC b0 g prog w d c call v mv) :
    StC b0 g prog w d c call N (.Assign [.Tuple ts k tp] v pos) (.asgT is mv) := fun A s pr B ρ p z R I ht q =>
  bndC (x := ev call mv false (fzq N.fz ρ mv.vars) p) q fun x e1 q => bndC (x := seqOf x.1) q fun vs e2 q => by
  by_cases hl : vs.length = is.length
  rotate_left
  · exact noneN ((if_neg hl).symm.trans q)
  have q : some (none, storeL (fzq N.fz ρ mv.vars) is vs, x.2) = some z := (if_pos hl).symm.trans q
  rw [exec_Assign, ← Option.some.inj q]
  refine g_stand (G.e hc.soleT (ev_frozen h R I ht e1 fun u pr' B' h' tk I' Y ru ht' => ?_))
  have fin : ∀ {s'}, OkU b0 g c pr' B' (upd s h' tk) (storeL (fzq N.fz ρ mv.vars) is vs) x.2 s' → OkS b0 g c pr B s (none, storeL (fzq N.fz ρ mv.vars) is vs, x.2) .next s' := fun {s'} k => by
    cases k with
    | mk Y2 I2 t2 => exact OkS.next (s := s) (Y.trans Y2) I2 t2
  rcases swapped_snd (c := c) (ts := ts) (k := k) (tp := tp) hc hs with e | ⟨names, e, hn, hnm⟩
  · exact G.e e (G.bind (m := assign (.Tuple ts k tp) c.env u) (G.mono (assignT_snd hts R.handled (s := upd s h' tk) I' ht' ru e2 hl) fun _ s' k => G.pure (fin k)))
  · refine G.e e ?_
    have hnl : names.length = vs.length := by rw [hn, hts.len, hl]
    have hset : All2 (SetC b0 g prog w c) (names.reverse.map fun n => bindName c.env n) is.reverse := (All2.join (fun t n i h1 h2 => by
      obtain ⟨p1, rfl⟩ := h1
      obtain ⟨x, px, k, e, hi, hk⟩ := h2
      cases e
      exact SetC.bind hi hk) hnm hts).reverse.map
    unfold assignStores
    refine G.bind (G.any (wpAny_rule ?_))
    rw [hnl]
    refine G.bind (G.toks (n := 1) ht' (G.any (unpackItems_snd R.handled (s := upd s h' tk) I'.kp ru e2 fun us h2 tk2 rus gr ht2 => ?_)))
    have X := Evo.grow I'.keep I'.pool gr
    refine G.bind (G.mono (stores_snd hset (s := upd (upd s h' tk) h2 tk2) (I'.evo X) ht2 (RdL.reverse rus) (by rw [List.length_reverse, List.length_reverse, hl])) fun _ s' k => G.pure (fin ?_))
    rw [storeL_rev hnd hl.symm] at k
    exact OkU.trans (X.toS pr') k
/-- one of two items of a list is set: the list stands as before but for it -/
theorem setItem_exact {A : Around} {E : Value → Shared → Prop} {s : Shared} {P : Addr} {x y v : Value} {n : Nat} {k : Int} {t : Tok} (e : s.heap.get? P = some (listO #[x, y] n)) (hk : k = 0 ∨ k = 1) {Q : Unit → Shared → Prop}
    (hQ : ∀ h', h'.get? P = some (listO (#[x, y].setIfInBounds k.toNat v) n) → Heap.SameBut P s.heap h' → Q () { s with heap := h' }) : wpAny (model prog w) A (setItem (.ref P) (.int k t) v) Q E s := by
  have hl : s.heap.IsList P #[x, y] := ⟨_, e, rfl, n, rfl⟩
  have fin : ∀ j : Nat, j = k.toNat → j = 0 ∨ j = 1 → Q () { s with heap := s.heap.update P (Obj.mapSeq (·.setIfInBounds j v)) } := fun j ej hj => hQ _ (by
    subst ej
    have q := Heap.get?_update_self (Obj.mapSeq (·.setIfInBounds k.toNat v)) e (by rcases hj with hj | hj <;> rw [hj] <;> rfl)
    rw [q]
    rcases hj with hj | hj <;> rw [hj] <;> rfl) (Heap.SameBut.update ..)
  unfold setItem
  try with_reducible refine wpAny_holding ?_
  refine wpAny_bind (wpAny_sequenceKey hl.typeIs (by decide) ?_)
  refine wpAny_bind (wpAny_callSpecial?_slot (name := Str.ofString "__setitem__") hl.typeIs slot_list_setitem (wpAny_call_entry slot_list_setitem hl.typeIs entry_list_setitem ?_ (args_list_setitem _ _ _)))
  show wpAny _ _ (Builtin.List.listSubscript? (.int k t) >>= _) _ _ s
  refine wpAny_bind (wpAny_listSubscript_int (fitsIndex_of (by omega) (by omega)) ?_)
  rcases hk with rfl | rfl
  · show wpAny _ _ ((seqItemAt P 0 >>= fun r => pure (r.map (0, ·))) >>= _) _ _ s
    refine wpAny_bind (wpAny_bind (wpAny_seqItemAt e rfl (wpAny_pure ?_)))
    show wpAny _ _ (setSeqItemAt P 0 v >>= _) _ _ s
    exact wpAny_bind (wpAny_setSeqItemAt e rfl (wpAny_pure ⟨.none, rfl, wpAny_pure (fin 0 rfl (.inl rfl))⟩))
  · show wpAny _ _ ((seqItemAt P 1 >>= fun r => pure (r.map (1, ·))) >>= _) _ _ s
    refine wpAny_bind (wpAny_bind (wpAny_seqItemAt e rfl (wpAny_pure ?_)))
    show wpAny _ _ (setSeqItemAt P 1 v >>= _) _ _ s
    exact wpAny_bind (wpAny_setSeqItemAt e rfl (wpAny_pure ⟨.none, rfl, wpAny_pure (fin 1 rfl (.inr rfl))⟩))
/-- a value of the pool is set -/
theorem Evo.pset {B : Bm} {h h' : Heap} {p p' : Pl} {P : Addr} (hP : g.P = some P) (K : Kp b0 g B p h) (hs : Heap.SameBut P h h') (hl : ∃ t u n, h'.get? P = some (listO #[.int p'.1 t, .int p'.2 u] n)) : Evo g B h p' B h' where
  mono := Sub.refl B
  new := fun _ _ e => .inl e
  keep := fun a o e => (hs.2 a fun q => by rw [q, K.pB P hP] at e; cases e).trans (K.keep a o e)
  old := fun a o e n => .inl ((hs.2 a fun q => n (q ▸ hP)).trans e)
  there := fun a o e => by
    by_cases q : a = P
    · subst q
      obtain ⟨_, _, _, e'⟩ := hl
      exact ⟨_, e'⟩
    · exact ⟨o, (hs.2 a q).trans e⟩
  pool := fun a e => by
    rw [hP] at e; cases e
    obtain ⟨t, u, n, e'⟩ := hl
    exact ⟨t, u, n, e'⟩
theorem Pset_st {o v : Expr} {k : Int} {nk : Nat} {kp sp pos : Pos} {mo mv : E} (hc : CompE v) (hk : k = 0 ∨ k = 1) (ho : EvC b0 g prog w d c call o mo) (h : EvC b0 g prog w d c call v mv) :
    StC b0 g prog w d c call N (.Assign [.Subscript o (.Constant (.int k) nk kp) sp] v pos) (.pset k.toNat mo mv) := fun A s pr B ρ p z R I ht q =>
  bndC (x := ev call mv false (fzq N.fz ρ (mv.vars ++ mo.vars)) p) q fun x e1 q => bndC (x := ev call mo false (fzq N.fz ρ (mv.vars ++ mo.vars)) x.2) q fun y e2 q => by
  rw [exec_Assign]
  refine g_stand (G.e hc.soleS (ev_frozen h R I ht e1 fun u pr' B' h' tk I' Y ru ht' => G.e (t := swappedStores [.Subscript o (.Constant (.int k) nk kp) sp] v c.env) rfl ?_))
  refine G.bind (m := assign (.Subscript o (.Constant (.int k) nk kp) sp) c.env u) ?_
  rw [arm_assign_Subscript]
  refine OkT.to (G.holding (ho A (upd s h' tk) pr' B' _ _ _ _ R I' ht' e2)) fun ov B2 h2 tk2 X ro ht2 => ?_
  have I2 := I'.evo X
  obtain ⟨P, rfl, hP, q⟩ : ∃ P, ov = .ref P ∧ g.P = some P ∧ intE (fun i => match k.toNat with
      | 0 => some (none, fzq N.fz ρ (mv.vars ++ mo.vars), (i, y.2.2))
      | _ + 1 => some (none, fzq N.fz ρ (mv.vars ++ mo.vars), (y.2.1, i))) none x.1 = some z := ro.poolC q (fun a hP e => ⟨a, rfl, hP, e⟩) noneN
  obtain ⟨i, tv, rfl, q⟩ : ∃ i t, u = .int i t ∧ (none, fzq N.fz ρ (mv.vars ++ mo.vars), if k = 0 then (i, y.2.2) else (y.2.1, i)) = z := ru.intC q (fun i t e => ⟨i, t, rfl, by rcases hk with rfl | rfl <;> exact Option.some.inj e⟩) noneN
  obtain ⟨t1, u1, n, e3⟩ := I2.pool P hP
  refine G.bind (G.holding (G.any (wpAny_Constant_int (g_stand (G.bind (G.holding (G.any (setItem_exact (s := { upd s h2 tk2 with toks := tk2 + 1 }) e3 hk fun h3 hL3 hs3 => ?_))))))))
  refine G.any (wpAny_release (G.pure ?_))
  have X3 : Evo g B2 h2 (if k = 0 then (i, y.2.2) else (y.2.1, i)) B2 h3 := Evo.pset hP I2.kp hs3 (by
    rcases hk with rfl | rfl
    · exact ⟨tv, u1, n, hL3⟩
    · exact ⟨t1, tv, n, hL3⟩)
  exact q ▸ OkS.next (s := s) (tk := tk2 + 1) ((Y.trans (X.toS pr')).trans (X3.toS pr')) (I2.evo X3) (Nat.le_add_left _ _)
/-- a comprehension that is stored at once -/
theorem Comp_st {x y : Str} {px py pos cpos : Pos} {elt it : Expr} {ifs : List Expr} {scope : Scope} {melt mit : E} {mconds : List E} {caps : List Nat} {i : Nat} {k : VK}
    (hsw : swapsWith (.ListComp elt [⟨.Name x px, it, ifs, 0⟩] scope cpos) (some (.Name y py)) pos.line c.env = pure true) (K : CompOk x scope) (hset : ∀ v, foldedSetIterable it c.env v = pure v)
    (hit : EvC b0 g prog w d c call it mit) (helt : ∀ cl C h0, EvC b0 g prog w d (compAct x scope cl C c h0) call elt melt)
    (hcond : ∀ cl C h0, All2 (fun e me => TrC b0 g prog w d (compAct x scope cl C c h0) call e me) ifs mconds) (hcaps : All2 (CapOk c) (freesOf scope.names) caps)
    (hi : c.vars[i]? = some (y, k)) (hk : k ≠ .cap) :
    StC b0 g prog w d c call N (.Assign [.Name y py] (.ListComp elt [⟨.Name x px, it, ifs, 0⟩] scope cpos) pos) (.asg i (.comp melt mit (toEs mconds) caps)) := fun A s pr B ρ p z R I ht q =>
  bndC (x := ev call (.comp melt mit (toEs mconds) caps) false (fzq N.fz ρ (E.comp melt mit (toEs mconds) caps).vars) p) q fun v e0 q => by
  have q : (none, (fzq N.fz ρ (E.comp melt mit (toEs mconds) caps).vars).set i v.1, v.2) = z := Option.some.inj q
  obtain ⟨pr1, B1, I1, Y1⟩ := I.fzq N.fz (E.comp melt mit (toEs mconds) caps).vars
  rw [← q]
  generalize fzq N.fz ρ (E.comp melt mit (toEs mconds) caps).vars = ρ1 at e0 I1
  rw [exec_Assign_Name_used _ _ _ _ hsw]
  refine iv_comp (P := fun r p' => wpG (model prog w) A _ (OkS b0 g c pr B s (none, ρ1.set i r, p')) s) e0 fun xv xs cs rs e1 e2 e3 hl e4 => ?_
  refine g_stand (G.bind ?_)
  refine G.bind (Comp_core (use := some (assign (.Name y py) c.env)) K hset hit helt hcond hcaps R I1 ht e1 e2 e3 hl e4 fun D C f s' kk hC0 hCP => ?_)
  cases kk with
  | mk X rd bC ns ht' =>
    obtain ⟨m, hns⟩ := ns
    have hCpr : C ∉ pr1 := fun mm => by
      obtain ⟨_, _, _, o', e⟩ := I1.prv C mm
      rw [hC0] at e; cases e
    have hC00 : c.h0.get? C = none := by
      cases z : c.h0.get? C with
      | none => rfl
      | some o' => obtain ⟨o2, e⟩ := I1.thereO C o' z; rw [hC0] at e; cases e
    refine G.mono (SetC.name ⟨y, py, k, rfl, hi, hk⟩ A (upd s _ _) pr1 _ _ _ _ _ (I1.evo X) ht' rd) fun _ s2 kk => ?_
    cases kk with
    | mk Y2 I2 ht2 =>
      have hns2 := Ns.same hns fun o e => Y2.old C o e hCpr hCP
      obtain ⟨oC, _, _, hoC, hd, _⟩ := hns
      obtain ⟨bC2, hCpr2⟩ := Y2.stay hoC hCpr bC
      refine ⟨m, hns2, fun h3 m3 hns3 hs3 => G.pure (G.pure ?_)⟩
      obtain ⟨od, _, _, ho2, hd2, _⟩ := hns2
      exact OkS.next (s := s) (Y1.trans (((X.toS pr1).trans Y2).side (Far.but hs3) hC0)) (I2.side (Far.but hs3) bC2 hCpr2 hCP hC00 fun v? ⟨oc, ho, hd'⟩ => by rw [ho] at ho2; cases ho2; rw [hd'] at hd2; cases hd2) ht2
/-! owned lists -/
theorem fresh_inv {pr : List Addr} {B : Bm} {ρ : List PV} {p : Pl} {h : Heap} (I : Inv b0 g c pr B ρ p h) : c.h0.get? h.objs.size = none ∧ B h.objs.size = none ∧ g.P ≠ some h.objs.size ∧ h.objs.size ∉ pr := by
  have hn := Heap.get_size h
  refine ⟨?_, I.keep.fresh hn, I.pool.ne hn, fun m => ?_⟩
  · cases z : c.h0.get? h.objs.size with
    | none => rfl
    | some o' => obtain ⟨o2, e⟩ := I.thereO _ o' z; rw [hn] at e; cases e
  · obtain ⟨_, _, _, o', e⟩ := I.prv _ m
    rw [hn] at e; cases e
theorem own_store {x : Str} {i : Nat} {A : Around} {s : Shared} {pr : List Addr} {B : Bm} {ρ : List PV} {p : Pl} {o : Obj} {z : PV} {tk : Nat} {px : Pos} {h1 : Heap} (hi : c.vars[i]? = some (x, .loc)) (I : Inv b0 g c pr B ρ p s.heap) (htk : 1 ≤ tk) (gr : Grow s.heap h1) (e0 : h1.get? s.heap.objs.size = some o) (hz : z.isOwn = true)
    (hL : ∀ h', h'.get? s.heap.objs.size = some o → LocOk g B h' (s.heap.objs.size :: pr) s.heap.objs.size (some (.ref s.heap.objs.size)) z) :
    wpG (model prog w) A (standAt px >>= fun _ => bindName c.env x (.ref s.heap.objs.size) >>= fun _ => pure Flow.next) (OkS b0 g c pr B s (none, ρ.set i z, p)) (upd s h1 tk) := by
  obtain ⟨f1, f2, f3, f4⟩ := fresh_inv I
  have X := Evo.grow I.keep I.pool gr
  refine g_stand (G.bind fun Γ p' hΓ hc => ?_)
  rw [Sem.wp_bindName]
  refine G.toks (n := 1) htk (G.any ((I.evo X).storeOwn (s := upd s h1 tk) rfl hi hz f1 f2 f3 f4 (hL _ e0) fun h' tk' I' hk hth ht' => ?_)) Γ p' hΓ hc
  exact G.pure (OkS.next (s := s) (pr' := s.heap.objs.size :: pr) ⟨Sub.refl B, fun _ _ e => .inl e, fun a ob e n _ => .inl (hk a ob n (gr _ _ e)), fun a ob e => hth a ob (gr _ _ e), fun a m => (List.mem_cons.mp m).elim (fun q => .inr (q ▸ Heap.get_size _)) .inl⟩ I' ht')
theorem Newl_st {x : Str} {px lp pos : Pos} {i : Nat} (hi : c.vars[i]? = some (x, .loc)) : StC b0 g prog w d c call N (.Assign [.Name x px] (.List [] lp) pos) (.newl i) := fun A s pr B ρ p z R I ht q => by
  rw [exec_Assign_Name _ _ _ _ _ rfl, ← Option.some.inj q]
  refine g_stand ?_
  rw [arm_eval_List]
  refine G.bind (g_stand (G.bind (G.pure (G.any (wpAny_newObj_type ?_)))))
  exact own_store (s := s) (tk := s.toks) (o := { cls := .type "list", data := .seq #[] }) hi I ht (Grow.push _ _) (Heap.get?_push_size _ rfl) rfl fun h' e => ⟨rfl, List.mem_cons_self, #[], 0, e, RdL.nil⟩
theorem Newb_st (W : Wd b0 g prog w fa) {x : Str} {px lp np pos : Pos} {i : Nat} (hi : c.vars[i]? = some (x, .loc)) (hx : c.names.lookup ("bytearray" : Str) = some .globalImplicit) :
    StC b0 g prog w d c call N (.Assign [.Name x px] (.Call (.Name "bytearray" np) [] [] lp) pos) (.newb i) := fun A s pr B ρ p z R I ht q => by
  obtain ⟨_, _, W'⟩ := W.ns
  rw [exec_Assign_Name _ _ _ _ _ rfl, ← Option.some.inj q]
  refine g_stand (G.bind (m := eval (.Call (.Name "bytearray" np) [] [] lp) c.env) ?_)
  refine G.bind (m := eval (.Name "bytearray" np) c.env) (G.any (blt_eval I W'.hg W'.hb hx (by decide) W'.ba.1 W'.ba.2 ?_))
  refine G.callWith (args := []) rfl (G.pure ⟨Calm.type _ _, G.toks ht (ba_make fun h1 tk e1 gr ht' => ?_)⟩)
  exact own_store (s := s) hi I ht' gr e1 rfl fun h' e => ⟨rfl, List.mem_cons_self, e⟩
/-- an item is appended to an owned object -/
theorem app_walk {x : Str} {px ap cp pos : Pos} {a : Expr} {ma : E} {i : Nat} (hl : (ap.endLine == cp.line) = true) (hi : c.vars[i]? = some (x, .loc)) (ha : EvC b0 g prog w d c call a ma) (hn : NonStar a) {A : Around} {s : Shared} {pr pr1 : List Addr} {B B1 : Bm} {ρ : List PV} {p : Pl} {z z' : PV} {y : PV × Pl} {id : String}
    (R : RoomC d c A) (ht : 1 ≤ s.toks) (Y1 : SEvo g pr B s.heap pr1 B1 s.heap) (I1 : Inv b0 g c pr1 B1 ρ p s.heap) (e : ρ[i]? = some z) (ho : z.isOwn = true) (ho' : z'.isOwn = true) (e1 : ev call ma false ρ p = some y)
    (hm : ∀ {o : Addr} {pl : Sem Bool} {Q : Value × List Value → Shared → Prop}, LocOk g B1 s.heap pr1 o (some (.ref o)) z → Q (.builtin id, [.ref o]) s → wpAny (model prog w) A (getMethod (.ref o) "append" pl) Q No s)
    (hc : ∀ {o : Addr} {B2 : Bm} {s2 : Shared} {u : Value} {Q : Value → Shared → Prop}, LocOk g B2 s2.heap pr1 o (some (.ref o)) z → Rd g B2 u y.1 → 1 ≤ s2.toks → (∀ h5 tk5, 1 ≤ tk5 → Heap.SameBut o s2.heap h5 → LocOk g B2 h5 pr1 o (some (.ref o)) z' → Q .none (upd s2 h5 tk5)) → wpG (model prog w) A (PySem.call (.builtin id) [.ref o, u]) Q s2) :
    wpG (model prog w) A (exec (.Expr (.Call (.Attribute (.Name x px) "append" ap) [a] [] cp) pos) c.env) (OkS b0 g c pr B s (none, ρ.set i z', y.2)) s := by
  have hint : interactive c.env = false := by unfold interactive; rw [I1.ok.kind]; rfl
  rw [exec_Expr _ _ _ hint rfl]
  obtain ⟨m, ow, L⟩ := I1.locs
  obtain ⟨hlo, hld, _⟩ := I1.turn L e ho ho' hi
  refine g_stand (G.bind (Meth_pre (fun _ _ _ => rfl) hl (by show 1 < 30; decide) (fun e m => (List.mem_singleton.mp m) ▸ hn) ?_))
  refine G.any (wpAny_Name (hld rfl fun pl => G.any (hm hlo ?_)) (I1.ok.nodbg i x .loc hi))
  refine G.callWith (args_plain fun e m => (List.mem_singleton.mp m) ▸ hn) ?_
  rw [hn]
  refine G.bind (m := eval a c.env) (G.mono (ha A s pr1 B1 _ p _ _ R I1 ht e1) fun u s1 k => G.bind (G.pure (G.bind (G.holding (G.pure (G.pure ⟨Calm.builtin _ _, ?_⟩))))))
  cases k with
  | mk X ru ht2 =>
    have I2 := I1.evo X
    have L2 := L.evo X.mono X.old (fun a m => (I1.prv a m).2.2.1) I1.Lpr
    obtain ⟨hlo2, _, hturn⟩ := I2.turn L2 e ho ho' hi
    refine hc (s2 := upd s _ _) hlo2 ru ht2 fun h5 tk5 ht5 hs5 hl5 => ?_
    obtain ⟨I5, Y5⟩ := hturn h5 hs5 hl5
    rw [dropValue_plain (fun a e => by cases e)]
    exact G.pure (OkS.next (s := s) (Y1.trans ((X.toS pr1).trans Y5)) I5 ht5)
theorem App_st {x : Str} {px ap cp pos : Pos} {a : Expr} {ma : E} {i : Nat} (hl : (ap.endLine == cp.line) = true) (hi : c.vars[i]? = some (x, .loc)) (ha : EvC b0 g prog w d c call a ma) (hn : NonStar a) :
    StC b0 g prog w d c call N (.Expr (.Call (.Attribute (.Name x px) "append" ap) [a] [] cp) pos) (.app i ma) := fun A s pr B ρ p z R I ht q =>
  bndC (x := (fzq N.fz ρ ma.vars)[i]?) q fun o e q => bndC (x := ev call ma false (fzq N.fz ρ ma.vars) p) q fun y e1 q => by
  obtain ⟨pr1, B1, I1, Y1⟩ := I.fzq N.fz ma.vars
  have q : appOp (fzq N.fz ρ ma.vars) i o y.1 y.2 = some z := q
  cases o with
  | own xs =>
    have q : grd (xs.length ≤ lim) (none, (fzq N.fz ρ ma.vars).set i (.own (xs ++ [y.1])), y.2) = some z := q
    rw [← Option.some.inj (grdE q)]
    exact app_walk hl hi ha hn R ht Y1 I1 e rfl rfl e1 (id := "list.append") (fun ⟨_, _, us, n, ho, _⟩ k => getMethod_list_append ho rfl rfl k) fun ⟨_, hom, us, n, ho2, rus⟩ ru ht2 k =>
      G.toks (n := 1) ht2 (G.any (wpAny_list_append_plain (items := us) ⟨n, ho2⟩ (fun h5 ⟨n5, e5⟩ hs5 ht5 => k h5 _ ht5 hs5 ⟨rfl, hom, us.push _, n5, e5, by rw [Array.toList_push]; exact rus.snoc ru⟩) (by rw [rus.size]; exact Nat.le_trans (grdP q) (by unfold lim sizeLine; decide))))
  | ownb b =>
    have q : intE (fun k => grd (b.size ≤ lim ∧ 0 ≤ k ∧ k < 256) ((none : Option PV), (fzq N.fz ρ ma.vars).set i (.ownb (b.push (UInt8.ofNat k.toNat))), y.2)) none y.1 = some z := q
    obtain ⟨y1, p1⟩ := y
    cases y1 with
    | int k =>
      have q : grd (b.size ≤ lim ∧ 0 ≤ k ∧ k < 256) ((none : Option PV), (fzq N.fz ρ ma.vars).set i (.ownb (b.push (UInt8.ofNat k.toNat))), p1) = some z := q
      rw [← Option.some.inj (grdE q)]
      obtain ⟨q1, q2, q3⟩ := grdP q
      refine app_walk hl hi ha hn R ht Y1 I1 e rfl rfl e1 (id := "bytearray.append") (fun ⟨_, _, ho⟩ k => ba_getMethod ho k) fun ⟨_, hom, ho2⟩ ru ht2 k => ?_
      cases ru
      exact G.toks (n := 1) ht2 (ba_append ho2 q1 q2 q3 fun h5 tk5 e5 hs5 ht5 => k h5 _ ht5 hs5 ⟨rfl, hom, e5⟩)
    | _ => exact nomatch q
  | _ => exact nomatch q
end
theorem iteD {α : Type} {c C : Prop} [Decidable c] {a d : Option α} {r : α} (e : (if c then a else d) = some r) (H : c → a = some r → C) (D : d = some r → C) : C := by
  by_cases h : c
  · rw [if_pos h] at e; exact H h e
  · rw [if_neg h] at e; exact D e
theorem at_inv {P : Nat → Prop} [∀ i, Decidable (P i)] {o : Option Nat} {i : Nat} (h : (match o with
  | some i => if P i then some i else none
  | none => none) = some i) : P i := by
  cases o with
  | none => exact noneN h
  | some j => exact iteD h (fun q e => Option.some.inj e ▸ q) noneN
theorem Gm.loc_inv {Γ : Gm} {x : Str} {i : Nat} (h : Γ.loc x = some i) : Γ.vars[i]? = some (x, .loc) := at_inv (P := fun i => Γ.vars[i]? = some (x, .loc)) h
theorem Gm.any_inv {Γ : Gm} {x : Str} {i : Nat} (h : Γ.any x = some i) : ∃ k, Γ.vars[i]? = some (x, k) ∧ k ≠ .cap :=
  (at_inv (P := fun i => Γ.vars[i]? = some (x, .loc) ∨ Γ.vars[i]? = some (x, .cell)) h).elim (fun q => ⟨_, q, fun e => nomatch e⟩) fun q => ⟨_, q, fun e => nomatch e⟩
theorem empty_list {v : Expr} (h : (match listOf v with
    | some l => l.isEmpty
    | none => false) = true) : ∃ p, v = .List [] p := by
  cases e : listOf v with
  | none => rw [e] at h; cases h
  | some l =>
    rw [e] at h
    obtain ⟨p, q⟩ := listOf_inv e
    cases l with
    | nil => exact ⟨p, q⟩
    | cons _ _ => cases h
theorem isEmpty_inv {α : Type} {l : List α} (h : l.isEmpty = true) : l = [] := by
  cases l with
  | nil => rfl
  | cons _ _ => cases h
theorem empty_call {v : Expr} {f : Str} {a b : Bool} (h : (match callOf v with
    | some c => decide (nameOf c.1 = some f) && c.2.1.isEmpty && c.2.2.1.isEmpty && a && b
    | none => false) = true) : (∃ np lp, v = .Call (.Name f np) [] [] lp) ∧ b = true := by
  cases e : callOf v with
  | none => rw [e] at h; cases h
  | some l =>
    rw [e] at h
    obtain ⟨h, hb⟩ := and_inv h
    obtain ⟨h, h4⟩ := and_inv (and_inv h).1
    obtain ⟨h1, h3⟩ := and_inv h
    obtain ⟨np, q⟩ := nameOf_inv (of_decide_eq_true h1)
    rw [callOf_inv e, q, isEmpty_inv h3, isEmpty_inv h4]
    exact ⟨⟨np, _, rfl⟩, hb⟩
section
variable {b0 : Heap} {g : Cfg} {prog : Program} {w : World} {d : Nat} {c : Act} {call : Orc} {N : Md} {fa : Nat → Addr}
theorem bad_st {st : Stmt} : StC b0 g prog w d c call N st .bad := fun A s pr B ρ p z R I ht q => noneN q
theorem orBad_st {st : Stmt} {o : Option S} (h : ∀ ms, o = some ms → StC b0 g prog w d c call N st ms) : StC b0 g prog w d c call N st (orBad o) := by
  cases o with
  | none => exact bad_st
  | some ms => exact h ms rfl
section
variable (W : Wd b0 g prog w fa) (H : CallOk b0 g prog w fa d call) (hobj : ∀ xs p r, call fTakes xs p = some r → ∃ k sgn l, xs = .obj k sgn :: l) {Γ : Gm} (hn : c.names = Γ.names) (hv : c.vars = Γ.vars)
include hv
theorem any_ok {x : Str} {i : Nat} (h : Γ.any x = some i) : ∃ k, c.vars[i]? = some (x, k) ∧ k ≠ .cap := hv ▸ Gm.any_inv h
theorem names_ok {ts : List Expr} {is : List Nat} (h : c_names Γ ts = some is) : All2 (NmOk c) ts is :=
  All2.of_mapO h fun t i _ e => thnC e fun x hx e => let ⟨px, q⟩ := nameOf_inv hx; let ⟨k, hk, nk⟩ := any_ok hv e; ⟨x, px, k, q, hk, nk⟩
include W H hobj hn
/-- an assignment to a name -/
theorem asg_snd {x : Str} {px pos : Pos} {v : Expr} {i : Nat} {me : E} (h1 : Γ.any x = some i) (h2 : comp Γ fuel false v = some me) : StC b0 g prog w d c call N (.Assign [.Name x px] v pos) (.asg i me) := by
  obtain ⟨k, hk, nk⟩ := any_ok hv h1
  have hev := (comp_snd W H hobj fuel Γ c false v me h2 hn hv).1 rfl
  rcases (comp_E h2).swp with hs | ⟨elt, gs, scope, p, rfl⟩
  · exact Assign_st (hs _ _ _) hev hk nk
  · obtain ⟨q, hq⟩ : ∃ q, swapsWith (.ListComp elt gs scope p) (some (.Name x px)) pos.line c.env = pure q := ⟨_, rfl⟩
    cases q with
    | false => exact Assign_st hq hev hk nk
    | true =>
      clear hev
      refine oneC (P := fun gs => swapsWith (.ListComp elt gs scope p) (some (.Name x px)) pos.line c.env = pure true → StC b0 g prog w d c call N (.Assign [.Name x px] (.ListComp elt gs scope p) pos) (.asg i me)) (f := compOf Γ (fun Γ => comp Γ 39) scope elt) h2 (fun gg h hq => ?_) hq
      obtain ⟨t, it, ifs, as⟩ := gg
      exact thnC h fun y hx h => grC h fun hk1 h => thnC h fun a ha h => thnC h fun b hb h => thnC h fun cs hcs h => thnC h fun ks hks h => by
        obtain ⟨py, ht⟩ := nameOf_inv hx
        have ht : t = .Name y py := ht
        have has : as = 0 := of_decide_eq_true (and_inv hk1).2
        rw [ht, has] at hq ⊢
        have S := comp_snd W H hobj 39
        exact Option.some.inj h ▸ Comp_st hq (compOk_inv (and_inv hk1).1) ((comp_E ha).set c.env) ((S Γ c false _ _ ha hn hv).1 rfl) (fun cl C h0 => (S _ _ false _ _ hb rfl rfl).1 rfl) (fun cl C h0 => All2.of_mapO hcs fun x y _ q => (S _ _ true _ _ q rfl rfl).2 rfl) (All2.of_mapO hks fun y k _ q => cap_ok hv q) hk nk
theorem asgs_snd {t v : Expr} {pos : Pos} {ms : S} (h : c_asg Γ v t = some ms) : StC b0 g prog w d c call N (.Assign [t] v pos) ms := by
  have sE : ∀ {e : Expr} {me : E}, comp Γ fuel false e = some me → EvC b0 g prog w d c call e me := fun h => (comp_snd W H hobj fuel Γ c false _ _ h hn hv).1 rfl
  refine optC h (fun x hx h => ?_) fun _ h => optC h (fun ts hx h => ?_) fun _ h => thnC h fun oi hx h => ?_
  · obtain ⟨px, rfl⟩ := nameOf_inv hx
    refine iteD h (fun hc h' => ?_) fun h => iteD h (fun hc h' => ?_) fun h => ?_
    · obtain ⟨lp, q⟩ := empty_list hc
      exact q ▸ thnC h' fun i hi h => Option.some.inj h ▸ Newl_st (hv ▸ Gm.loc_inv hi)
    · obtain ⟨⟨np, lp, q⟩, hg⟩ := empty_call hc
      exact q ▸ thnC h' fun i hi h => Option.some.inj h ▸ Newb_st W (hv ▸ Gm.loc_inv hi) (hn ▸ (Gm.glob_inv hg).1)
    · exact thnC h fun i hi h => thnC h fun e he h => Option.some.inj h ▸ asg_snd W H hobj hn hv hi he
  · obtain ⟨k, tp, rfl⟩ := tupOf_inv hx
    exact thnC h fun is hi h => thnC h fun e he h => grC h fun hc h => Option.some.inj h ▸ AssignT_st (comp_E he) (and_inv hc).2 (names_ok hv hi) (and_inv (and_inv hc).1).1 (sE he)
  · obtain ⟨sp, q⟩ := subOf_inv hx
    rw [q]
    refine thnC h fun kc hc h => thnC h fun k hk h => grC h fun hb h => thnC h fun a ha h => thnC h fun b hb' h => ?_
    obtain ⟨nk, kp, e⟩ := cstOf_inv hc
    rw [← Option.some.inj h, e]
    cases kc with
    | int j =>
      rw [← Option.some.inj hk] at hb ⊢
      exact Pset_st (comp_E hb') (of_decide_eq_true hb) (sE ha) (sE hb')
    | _ => exact noneN hk
theorem cS_snd : ∀ n : Nat, (∀ st, StC b0 g prog w d c call N st (cS Γ n st)) ∧ (∀ sts, SsC b0 g prog w d c call N sts (cSs Γ n sts)) := by
  have sE : ∀ {e : Expr} {me : E}, comp Γ fuel false e = some me → EvC b0 g prog w d c call e me := fun h => (comp_snd W H hobj fuel Γ c false _ _ h hn hv).1 rfl
  have sT : ∀ {e : Expr} {me : E}, comp Γ fuel true e = some me → TrC b0 g prog w d c call e me := fun h => (comp_snd W H hobj fuel Γ c true _ _ h hn hv).2 rfl
  intro n
  induction n with
  | zero => exact ⟨fun st => bad_st, fun sts A s pr B ρ p z R I ht q => noneN q⟩
  | succ n ih =>
    obtain ⟨ihs, ihss⟩ := ih
    refine ⟨fun st => ?_, fun sts => ?_⟩
    · cases st with
      | Assign ts v p =>
        exact orBad_st fun ms h => oneC (P := fun ts => StC b0 g prog w d c call N (.Assign ts v p) ms) h fun t h => asgs_snd W H hobj hn hv h
      | AugAssign t op v p =>
        exact orBad_st fun ms h => thnC h fun x hx h => grC h fun hc h => thnC h fun i hi h => thnC h fun e he h => by
          obtain ⟨px, q⟩ := nameOf_inv hx
          obtain ⟨k, hk, nk⟩ := any_ok hv hi
          exact q ▸ Option.some.inj h ▸ Aug_st (of_decide_eq_true hc) (sE he) hk nk
      | Return v p =>
        exact orBad_st fun ms h => thnC h fun v hx h => thnC h fun e he h => Option.some.inj h ▸ hx ▸ Return_st (sE he)
      | If t a b p =>
        exact orBad_st fun ms h => thnC h fun e he h => Option.some.inj h ▸ If_st (sT he) (ihss _) (ihss _)
      | While t a b p =>
        exact orBad_st fun ms h => nilC (P := fun b => StC b0 g prog w d c call N (.While t a b p) ms) h fun h => thnC h fun e he h => Option.some.inj h ▸ While_st (sT he) (ihss _)
      | For t it a b p =>
        exact orBad_st fun ms h => nilC (P := fun b => StC b0 g prog w d c call N (.For t it a b p) ms) h fun h => thnC h fun e he h => optC h (fun x hx h => thnC h fun i hi h => by
          obtain ⟨px, q⟩ := nameOf_inv hx
          obtain ⟨k, hk, nk⟩ := any_ok hv hi
          exact q ▸ Option.some.inj h ▸ For_st (comp_E he).set hk nk (sE he) (ihss _)) fun _ h => thnC h fun ts hx h => thnC h fun is hi h => grC h fun hl h => by
          obtain ⟨k, tp, q⟩ := tupOf_inv hx
          exact q ▸ Option.some.inj h ▸ ForT_st (comp_E he).set (names_ok hv hi) (sE he) (ihss _)
      | Expr e p =>
        exact orBad_st fun ms h => thnC h fun cl hx h => thnC h fun a ha h => thnC h fun x hn h => grC h fun hc h => by
          obtain ⟨hc, hl⟩ := and_inv hc
          obtain ⟨px, hn⟩ := nameOf_inv hn
          rw [callOf_inv hx, attrOf_inv ha, hn, of_decide_eq_true hc]
          generalize cl.2.1 = as, cl.2.2.1 = ks at h ⊢
          exact nilC (P := fun ks => StC b0 g prog w d c call N (.Expr (.Call _ as ks _) p) ms) h fun h => oneC (P := fun as => StC b0 g prog w d c call N (.Expr (.Call _ as [] _) p) ms) h fun v h => thnC h fun i hi h => thnC h fun e he h =>
            Option.some.inj h ▸ App_st hl (hv ▸ Gm.loc_inv hi) (sE he) (comp_E he).star
      | Try b hs o f p =>
        exact orBad_st fun ms h => nilC (P := fun o => StC b0 g prog w d c call N (.Try b hs o f p) ms) h fun h => nilC (P := fun f => StC b0 g prog w d c call N (.Try b hs [] f p) ms) h fun h => Option.some.inj h ▸ Try_st (ihss _)
      | _ => exact bad_st
    · cases sts with
      | nil => exact Ss_nil
      | cons st r => exact Ss_cons (ihs st) (ihss r)
end
end
noncomputable def k_takes : Ss := (.cons (.ite (.cmp .Eq (.attr (.var 0) false) (.cst (.int 1))) (.cons (.ret (.cst (.bool true))) .nil) .nil) (.cons (.ite (.cmp .Eq (.attr (.var 0) false) (.cst (.int 2))) (.cons (.ret (.cmp .Eq (.attr (.var 0) true) (.var 1))) .nil) .nil) (.cons (.asg 2 (.cst (.bool false))) (.cons .bad (.cons .bad .nil)))))
noncomputable def k_utf8_f0 : Ss := (.cons (.asg 3 (.blt .ord (.cons (.var 2) .nil))) (.cons (.ite (.cmp .Lt (.var 3) (.cst (.int 128))) (.cons (.app 1 (.var 3)) .nil) (.cons (.ite (.cmp .Lt (.var 3) (.cst (.int 2048))) (.cons (.app 1 (.bin .BitOr (.cst (.int 192)) (.bin .RShift (.var 3) (.cst (.int 6))))) (.cons (.app 1 (.bin .BitOr (.cst (.int 128)) (.bin .BitAnd (.var 3) (.cst (.int 63))))) .nil)) (.cons (.ite (.cmp .Lt (.var 3) (.cst (.int 65536))) (.cons (.app 1 (.bin .BitOr (.cst (.int 224)) (.bin .RShift (.var 3) (.cst (.int 12))))) (.cons (.app 1 (.bin .BitOr (.cst (.int 128)) (.bin .BitAnd (.bin .RShift (.var 3) (.cst (.int 6))) (.cst (.int 63))))) (.cons (.app 1 (.bin .BitOr (.cst (.int 128)) (.bin .BitAnd (.var 3) (.cst (.int 63))))) .nil))) (.cons (.app 1 (.bin .BitOr (.cst (.int 240)) (.bin .RShift (.var 3) (.cst (.int 18))))) (.cons (.app 1 (.bin .BitOr (.cst (.int 128)) (.bin .BitAnd (.bin .RShift (.var 3) (.cst (.int 12))) (.cst (.int 63))))) (.cons (.app 1 (.bin .BitOr (.cst (.int 128)) (.bin .BitAnd (.bin .RShift (.var 3) (.cst (.int 6))) (.cst (.int 63))))) (.cons (.app 1 (.bin .BitOr (.cst (.int 128)) (.bin .BitAnd (.var 3) (.cst (.int 63))))) .nil))))) .nil)) .nil)) .nil))
noncomputable def k_utf8 : Ss := (.cons (.newb 1) (.cons (.forv 2 (.var 0) k_utf8_f0) (.cons (.ret (.blt .bytes (.cons (.var 1) .nil))) .nil)))
noncomputable def k_fold_ascii_f0 : Ss := (.cons (.ite (.cmp2 .LtE .LtE (.cst (.str ⟨#[65]⟩)) (.var 2) (.cst (.str ⟨#[90]⟩))) (.cons (.app 1 (.blt .chr (.cons (.bin .Add (.blt .ord (.cons (.var 2) .nil)) (.cst (.int 32))) .nil))) .nil) (.cons (.app 1 (.var 2)) .nil)) .nil)
noncomputable def k_fold_ascii : Ss := (.cons (.newl 1) (.cons (.forv 2 (.var 0) k_fold_ascii_f0) (.cons (.ret (.meth .join (.cst (.str ⟨#[]⟩)) (.cons (.var 1) .nil))) .nil)))
noncomputable def k_hex_text_f0 : Ss := (.cons (.app 1 (.idx (.cst (.str ⟨#[48, 49, 50, 51, 52, 53, 54, 55, 56, 57, 65, 66, 67, 68, 69, 70]⟩)) (.bin .RShift (.var 2) (.cst (.int 4))))) (.cons (.app 1 (.idx (.cst (.str ⟨#[48, 49, 50, 51, 52, 53, 54, 55, 56, 57, 65, 66, 67, 68, 69, 70]⟩)) (.bin .BitAnd (.var 2) (.cst (.int 15))))) .nil))
noncomputable def k_hex_text : Ss := (.cons (.newl 1) (.cons (.forv 2 (.var 0) k_hex_text_f0) (.cons (.ret (.meth .join (.cst (.str ⟨#[]⟩)) (.cons (.var 1) .nil))) .nil)))
noncomputable def k_storage_class : Ss := (.cons (.ite (.cmp .Is (.var 0) (.cst .none)) (.cons (.ret (.cst (.str ⟨#[110, 117, 108, 108]⟩))) .nil) .nil) (.cons (.ite (.isi (.var 0) .int) (.cons (.ret (.cst (.str ⟨#[105, 110, 116, 101, 103, 101, 114]⟩))) .nil) .nil) (.cons (.ite (.isi (.var 0) .str) (.cons (.ret (.cst (.str ⟨#[116, 101, 120, 116]⟩))) .nil) .nil) (.cons (.ite (.isi (.var 0) .bytes) (.cons (.ret (.cst (.str ⟨#[98, 108, 111, 98]⟩))) .nil) .nil) (.cons .bad .nil)))))
noncomputable def k_collate_w0 : Ss := (.cons (.aug 2 .Sub (.cst (.int 1))) .nil)
noncomputable def k_collate_w0t : E := (.bop .And (.cons (.cmp .Gt (.var 2) (.cst (.int 0))) (.cons (.cmp .Eq (.idx (.var 0) (.bin .Sub (.var 2) (.cst (.int 1)))) (.cst (.str ⟨#[32]⟩))) .nil)))
noncomputable def k_collate : Ss := (.cons (.ite (.cmp .Eq (.var 1) (.cst (.str ⟨#[98, 105, 110, 97, 114, 121]⟩))) (.cons (.ret (.var 0)) .nil) .nil) (.cons (.ite (.cmp .Eq (.var 1) (.cst (.str ⟨#[110, 111, 99, 97, 115, 101]⟩))) (.cons (.ret (.call 6 (.cons (.var 0) .nil))) .nil) .nil) (.cons (.ite (.cmp .Eq (.var 1) (.cst (.str ⟨#[114, 116, 114, 105, 109]⟩))) (.cons (.asg 2 (.blt .len (.cons (.var 0) .nil))) (.cons (.whl k_collate_w0t k_collate_w0) (.cons (.ret (.slice (.var 0) (.cst .none) (.var 2))) .nil))) .nil) (.cons .bad .nil))))
noncomputable def k_sign_of : Ss := (.cons (.ite (.cmp .Lt (.var 0) (.var 1)) (.cons (.ret (.neg (.cst (.int 1)))) .nil) .nil) (.cons (.ite (.cmp .Lt (.var 1) (.var 0)) (.cons (.ret (.cst (.int 1))) .nil) .nil) (.cons (.ret (.cst (.int 0))) .nil)))
noncomputable def k_compare_values : Ss := (.cons (.asg 3 (.call 8 (.cons (.var 0) .nil))) (.cons (.asg 4 (.call 8 (.cons (.var 1) .nil))) (.cons (.ite (.cmp .NotEq (.var 3) (.var 4)) (.cons (.ret (.call 10 (.cons (.rank (.var 3)) (.cons (.rank (.var 4)) .nil)))) .nil) .nil) (.cons (.ite (.cmp .Eq (.var 3) (.cst (.str ⟨#[110, 117, 108, 108]⟩))) (.cons (.ret (.cst (.int 0))) .nil) .nil) (.cons (.ite (.cmp .Eq (.var 3) (.cst (.str ⟨#[116, 101, 120, 116]⟩))) (.cons (.ret (.call 10 (.cons (.call 9 (.cons (.var 0) (.cons (.var 2) .nil))) (.cons (.call 9 (.cons (.var 1) (.cons (.var 2) .nil))) .nil)))) .nil) .nil) (.cons (.ret (.call 10 (.cons (.var 0) (.cons (.var 1) .nil)))) .nil))))))
noncomputable def k_digits_end_w0 : Ss := (.cons (.aug 1 .Add (.cst (.int 1))) .nil)
noncomputable def k_digits_end_w0t : E := (.bop .And (.cons (.cmp .Lt (.var 1) (.blt .len (.cons (.var 0) .nil))) (.cons (.cmp .In (.idx (.var 0) (.var 1)) (.cst (.str ⟨#[48, 49, 50, 51, 52, 53, 54, 55, 56, 57]⟩))) .nil)))
noncomputable def k_digits_end : Ss := (.cons (.whl k_digits_end_w0t k_digits_end_w0) (.cons (.ret (.var 1)) .nil))
noncomputable def k_number_span_w0 : Ss := (.cons (.aug 1 .Add (.cst (.int 1))) .nil)
noncomputable def k_number_span_w0t : E := (.bop .And (.cons (.cmp .Lt (.var 1) (.blt .len (.cons (.var 0) .nil))) (.cons (.cmp .In (.idx (.var 0) (.var 1)) (.cst (.str ⟨#[32, 9, 10, 11, 12, 13]⟩))) .nil)))
noncomputable def k_number_span : Ss := (.cons (.asg 1 (.cst (.int 0))) (.cons (.whl k_number_span_w0t k_number_span_w0) (.cons (.asg 2 (.var 1)) (.cons (.ite (.bop .And (.cons (.cmp .Lt (.var 2) (.blt .len (.cons (.var 0) .nil))) (.cons (.cmp .In (.idx (.var 0) (.var 2)) (.cst (.str ⟨#[43, 45]⟩))) .nil))) (.cons (.aug 2 .Add (.cst (.int 1))) .nil) .nil) (.cons (.asg 3 (.call 12 (.cons (.var 0) (.cons (.var 2) .nil)))) (.cons (.ite (.cmp .Eq (.var 3) (.var 2)) (.cons (.ret (.cst .none)) .nil) .nil) (.cons (.ret (.tup (.cons (.var 1) (.cons (.var 3) .nil)))) .nil)))))))
noncomputable def k_number_of_f0 : Ss := (.cons (.ite (.cmp .In (.var 2) (.cst (.str ⟨#[48, 49, 50, 51, 52, 53, 54, 55, 56, 57]⟩))) (.cons .bad .nil) .nil) .nil)
noncomputable def k_number_of : Ss := (.cons (.asg 1 (.cst (.int 0))) (.cons (.forv 2 (.var 0) k_number_of_f0) (.cons (.ite (.cmp .Eq (.slice (.var 0) (.cst .none) (.cst (.int 1))) (.cst (.str ⟨#[45]⟩))) (.cons (.ret (.neg (.var 1))) .nil) .nil) (.cons (.ret (.var 1)) .nil))))
noncomputable def k_as_integer : Ss := (.cons (.ite (.bop .Or (.cons (.cmp .Is (.var 0) (.cst .none)) (.cons (.isi (.var 0) .int) .nil))) (.cons (.ret (.var 0)) .nil) .nil) (.cons (.asg 1 (.var 0)) (.cons (.ite (.isi (.var 0) .bytes) (.cons (.asg 1 (.call 4 (.cons (.var 0) .nil))) .nil) .nil) (.cons (.asg 2 (.call 13 (.cons (.var 1) .nil))) (.cons (.ite (.cmp .Is (.var 2) (.cst .none)) (.cons (.ret (.cst (.int 0))) .nil) .nil) (.cons (.ret (.blt .max (.cons (.cst (.int (-9223372036854775808))) (.cons (.blt .min (.cons (.cst (.int 9223372036854775807)) (.cons (.call 14 (.cons (.slice (.var 1) (.idx (.var 2) (.cst (.int 0))) (.idx (.var 2) (.cst (.int 1)))) .nil)) .nil))) .nil)))) .nil))))))
noncomputable def k_as_text : Ss := (.cons (.ite (.bop .Or (.cons (.cmp .Is (.var 0) (.cst .none)) (.cons (.isi (.var 0) .str) .nil))) (.cons (.ret (.var 0)) .nil) .nil) (.cons (.ite (.isi (.var 0) .bytes) (.cons (.ret (.call 4 (.cons (.var 0) .nil))) .nil) .nil) (.cons (.ret (.blt .str (.cons (.var 0) .nil))) .nil)))
noncomputable def k_write_literal : Ss := (.cons (.asg 1 (.call 8 (.cons (.var 0) .nil))) (.cons (.ite (.cmp .Eq (.var 1) (.cst (.str ⟨#[110, 117, 108, 108]⟩))) (.cons (.ret (.cst (.str ⟨#[78, 85, 76, 76]⟩))) .nil) .nil) (.cons (.ite (.cmp .Eq (.var 1) (.cst (.str ⟨#[105, 110, 116, 101, 103, 101, 114]⟩))) (.cons (.ret (.blt .str (.cons (.var 0) .nil))) .nil) .nil) (.cons (.ite (.cmp .Eq (.var 1) (.cst (.str ⟨#[116, 101, 120, 116]⟩))) (.cons (.ret (.bin .Add (.bin .Add (.cst (.str ⟨#[39]⟩)) (.repl (.var 0) ⟨#[39]⟩ ⟨#[39, 39]⟩)) (.cst (.str ⟨#[39]⟩)))) .nil) .nil) (.cons (.ret (.bin .Add (.bin .Add (.cst (.str ⟨#[88, 39]⟩)) (.call 7 (.cons (.var 0) .nil))) (.cst (.str ⟨#[39]⟩)))) .nil)))))
noncomputable def k_matches_w0 : Ss := (.cons (.ite (.bop .And (.cons (.cmp .Lt (.var 2) (.blt .len (.cons (.var 0) .nil))) (.cons (.cmp .Eq (.attr (.idx (.var 0) (.var 2)) false) (.cst (.int 0))) .nil))) (.cons (.asg 4 (.bin .Add (.var 2) (.cst (.int 1)))) (.cons (.asg 5 (.var 3)) (.cons (.aug 2 .Add (.cst (.int 1))) .nil))) (.cons (.ite (.bop .And (.cons (.cmp .Lt (.var 2) (.blt .len (.cons (.var 0) .nil))) (.cons (.meth .takes (.idx (.var 0) (.var 2)) (.cons (.idx (.var 1) (.var 3)) .nil)) .nil))) (.cons (.aug 2 .Add (.cst (.int 1))) (.cons (.aug 3 .Add (.cst (.int 1))) .nil)) (.cons (.ite (.cmp .IsNot (.var 4) (.cst .none)) (.cons (.aug 5 .Add (.cst (.int 1))) (.cons (.asg 2 (.var 4)) (.cons (.asg 3 (.var 5)) .nil))) (.cons (.ret (.cst (.bool false))) .nil)) .nil)) .nil)) .nil)
noncomputable def k_matches_w0t : E := (.cmp .Lt (.var 3) (.blt .len (.cons (.var 1) .nil)))
noncomputable def k_matches_w1 : Ss := (.cons (.aug 2 .Add (.cst (.int 1))) .nil)
noncomputable def k_matches_w1t : E := (.bop .And (.cons (.cmp .Lt (.var 2) (.blt .len (.cons (.var 0) .nil))) (.cons (.cmp .Eq (.attr (.idx (.var 0) (.var 2)) false) (.cst (.int 0))) .nil)))
noncomputable def k_matches : Ss := (.cons (.asg 2 (.cst (.int 0))) (.cons (.asg 3 (.cst (.int 0))) (.cons (.asg 4 (.cst .none)) (.cons (.asg 5 (.cst (.int 0))) (.cons (.whl k_matches_w0t k_matches_w0) (.cons (.whl k_matches_w1t k_matches_w1) (.cons (.ret (.cmp .Eq (.var 2) (.blt .len (.cons (.var 0) .nil)))) .nil)))))))
noncomputable def k_like_parts_w0 : Ss := (.cons (.asg 4 (.idx (.var 0) (.var 3))) (.cons (.ite (.bop .And (.cons (.cmp .IsNot (.var 1) (.cst .none)) (.cons (.cmp .Eq (.var 4) (.var 1)) .nil))) (.cons (.aug 3 .Add (.cst (.int 1))) (.cons (.ite (.cmp .Eq (.var 3) (.blt .len (.cons (.var 0) .nil))) (.cons (.ret (.cst .none)) .nil) .nil) (.cons (.app 2 (.call 0 (.cons (.cst (.int 2)) (.cons (.call 6 (.cons (.idx (.var 0) (.var 3)) .nil)) .nil)))) .nil))) (.cons (.ite (.cmp .Eq (.var 4) (.cst (.str ⟨#[37]⟩))) (.cons (.app 2 (.call 0 (.cons (.cst (.int 0)) .nil))) .nil) (.cons (.ite (.cmp .Eq (.var 4) (.cst (.str ⟨#[95]⟩))) (.cons (.app 2 (.call 0 (.cons (.cst (.int 1)) .nil))) .nil) (.cons (.app 2 (.call 0 (.cons (.cst (.int 2)) (.cons (.call 6 (.cons (.var 4) .nil)) .nil)))) .nil)) .nil)) .nil)) (.cons (.aug 3 .Add (.cst (.int 1))) .nil)))
noncomputable def k_like_parts_w0t : E := (.cmp .Lt (.var 3) (.blt .len (.cons (.var 0) .nil)))
noncomputable def k_like_parts : Ss := (.cons (.newl 2) (.cons (.asg 3 (.cst (.int 0))) (.cons (.whl k_like_parts_w0t k_like_parts_w0) (.cons (.ret (.var 2)) .nil))))
noncomputable def k_like : Ss := (.cons (.ite (.bop .And (.cons (.cmp .IsNot (.var 2) (.cst .none)) (.cons (.cmp .NotEq (.blt .len (.cons (.var 2) .nil)) (.cst (.int 1))) .nil))) (.cons .bad .nil) .nil) (.cons (.asg 3 (.call 19 (.cons (.var 0) (.cons (.var 2) .nil)))) (.cons (.ite (.cmp .Is (.var 3) (.cst .none)) (.cons (.ret (.cst (.bool false))) .nil) .nil) (.cons (.ret (.call 18 (.cons (.var 3) (.cons (.call 6 (.cons (.var 1) .nil)) .nil)))) .nil))))
noncomputable def k_glob_parts_w0 : Ss := (.cons (.asg 3 (.idx (.var 0) (.var 2))) (.cons (.aug 2 .Add (.cst (.int 1))) (.cons (.ite (.cmp .Eq (.var 3) (.cst (.str ⟨#[42]⟩))) (.cons (.app 1 (.call 0 (.cons (.cst (.int 0)) .nil))) .nil) (.cons (.ite (.cmp .Eq (.var 3) (.cst (.str ⟨#[63]⟩))) (.cons (.app 1 (.call 0 (.cons (.cst (.int 1)) .nil))) .nil) (.cons (.ite (.cmp .Eq (.var 3) (.cst (.str ⟨#[91]⟩))) (.cons (.asg 4 (.call 21 (.cons (.var 0) (.cons (.var 2) .nil)))) (.cons (.ite (.cmp .Is (.var 4) (.cst .none)) (.cons (.ret (.cst .none)) .nil) .nil) (.cons (.app 1 (.idx (.var 4) (.cst (.int 0)))) (.cons (.asg 2 (.idx (.var 4) (.cst (.int 1)))) .nil)))) (.cons (.app 1 (.call 0 (.cons (.cst (.int 2)) (.cons (.var 3) .nil)))) .nil)) .nil)) .nil)) .nil)))
noncomputable def k_glob_parts_w0t : E := (.cmp .Lt (.var 2) (.blt .len (.cons (.var 0) .nil)))
noncomputable def k_glob_parts : Ss := (.cons (.newl 1) (.cons (.asg 2 (.cst (.int 0))) (.cons (.whl k_glob_parts_w0t k_glob_parts_w0) (.cons (.ret (.var 1)) .nil))))
noncomputable def k_glob : Ss := (.cons (.asg 2 (.call 22 (.cons (.var 0) .nil))) (.cons (.ite (.cmp .Is (.var 2) (.cst .none)) (.cons (.ret (.cst (.bool false))) .nil) .nil) (.cons (.ret (.call 18 (.cons (.var 2) (.cons (.var 1) .nil)))) .nil)))
noncomputable def k_octets_of : Ss := (.cons (.ret (.ite (.isi (.var 0) .bytes) (.var 0) (.call 2 (.cons (.call 16 (.cons (.var 0) .nil)) .nil)))) .nil)
noncomputable def k_lowered_c0 : E := (.ite (.cmp2 .LtE .LtE (.cst (.str ⟨#[65]⟩)) (.var 0) (.cst (.str ⟨#[90]⟩))) (.blt .chr (.cons (.bin .Add (.blt .ord (.cons (.var 0) .nil)) (.cst (.int 32))) .nil)) (.var 0))
noncomputable def k_lowered_c0k : Es := .nil
noncomputable def k_lowered : Ss := (.cons (.ret (.meth .join (.cst (.str ⟨#[]⟩)) (.cons (.comp k_lowered_c0 (.var 0) k_lowered_c0k []) .nil))) .nil)
noncomputable def k_raised_c0 : E := (.ite (.cmp2 .LtE .LtE (.cst (.str ⟨#[97]⟩)) (.var 0) (.cst (.str ⟨#[122]⟩))) (.blt .chr (.cons (.bin .Sub (.blt .ord (.cons (.var 0) .nil)) (.cst (.int 32))) .nil)) (.var 0))
noncomputable def k_raised_c0k : Es := .nil
noncomputable def k_raised : Ss := (.cons (.ret (.meth .join (.cst (.str ⟨#[]⟩)) (.cons (.comp k_raised_c0 (.var 0) k_raised_c0k []) .nil))) .nil)
noncomputable def k_length_of : Ss := (.cons (.ret (.ite (.isi (.var 0) .bytes) (.blt .len (.cons (.var 0) .nil)) (.blt .len (.cons (.call 16 (.cons (.var 0) .nil)) .nil)))) .nil)
noncomputable def k_place_in : Ss := (.cons (.ite (.bop .And (.cons (.isi (.var 0) .bytes) (.cons (.isi (.var 1) .bytes) .nil))) (.cons (.ret (.bin .Add (.meth .find (.var 0) (.cons (.var 1) .nil)) (.cst (.int 1)))) .nil) .nil) (.cons (.ret (.bin .Add (.meth .find (.call 16 (.cons (.var 0) .nil)) (.cons (.call 16 (.cons (.var 1) .nil)) .nil)) (.cst (.int 1)))) .nil))
noncomputable def k_trimmed_w0 : Ss := (.cons (.aug 4 .Add (.cst (.int 1))) .nil)
noncomputable def k_trimmed_w0t : E := (.bop .And (.cons (.cmp .NotEq (.var 0) (.cst (.str ⟨#[114, 116, 114, 105, 109]⟩))) (.cons (.cmp .Lt (.var 4) (.var 5)) (.cons (.cmp .In (.idx (.var 2) (.var 4)) (.var 3)) .nil))))
noncomputable def k_trimmed_w1 : Ss := (.cons (.aug 5 .Sub (.cst (.int 1))) .nil)
noncomputable def k_trimmed_w1t : E := (.bop .And (.cons (.cmp .NotEq (.var 0) (.cst (.str ⟨#[108, 116, 114, 105, 109]⟩))) (.cons (.cmp .Lt (.var 4) (.var 5)) (.cons (.cmp .In (.idx (.var 2) (.bin .Sub (.var 5) (.cst (.int 1)))) (.var 3)) .nil))))
noncomputable def k_trimmed : Ss := (.cons (.asg 2 (.call 16 (.cons (.idx (.var 1) (.cst (.int 0))) .nil))) (.cons (.asg 3 (.ite (.cmp .Eq (.blt .len (.cons (.var 1) .nil)) (.cst (.int 1))) (.cst (.str ⟨#[32]⟩)) (.call 16 (.cons (.idx (.var 1) (.cst (.int 1))) .nil)))) (.cons (.asg 4 (.cst (.int 0))) (.cons (.asg 5 (.blt .len (.cons (.var 2) .nil))) (.cons (.whl k_trimmed_w0t k_trimmed_w0) (.cons (.whl k_trimmed_w1t k_trimmed_w1) (.cons (.ret (.slice (.var 2) (.var 4) (.var 5))) .nil)))))))
noncomputable def k_part_b : Ss := (.cons (.ite (.var 4) (.cons (.aug 2 .Sub (.var 3)) (.cons (.ite (.cmp .Lt (.var 2) (.cst (.int 0))) (.cons (.aug 3 .Add (.var 2)) (.cons (.asg 2 (.cst (.int 0))) .nil)) .nil) .nil)) .nil) (.cons (.ret (.slice (.var 1) (.var 2) (.bin .Add (.var 2) (.blt .max (.cons (.cst (.int 0)) (.cons (.var 3) .nil)))))) .nil))
noncomputable def k_part_a : Ss := (.cons (.ite (.cmp .Lt (.var 2) (.cst (.int 0))) (.cons (.aug 2 .Add (.blt .len (.cons (.var 1) .nil))) (.cons (.ite (.cmp .Lt (.var 2) (.cst (.int 0))) (.cons (.asg 3 (.blt .max (.cons (.cst (.int 0)) (.cons (.bin .Add (.var 3) (.var 2)) .nil)))) (.cons (.asg 2 (.cst (.int 0))) .nil)) .nil) .nil)) (.cons (.ite (.cmp .Gt (.var 2) (.cst (.int 0))) (.cons (.aug 2 .Sub (.cst (.int 1))) .nil) (.cons (.ite (.cmp .Gt (.var 3) (.cst (.int 0))) (.cons (.aug 3 .Sub (.cst (.int 1))) .nil) .nil) .nil)) .nil)) k_part_b)
noncomputable def k_part_rest : Ss := (.cons (.asg 4 (.cmp .Lt (.var 3) (.cst (.int 0)))) (.cons (.asg 3 (.blt .abs (.cons (.var 3) .nil))) k_part_a))
noncomputable def k_part_of : Ss := (.cons (.asg 1 (.ite (.isi (.idx (.var 0) (.cst (.int 0))) .bytes) (.idx (.var 0) (.cst (.int 0))) (.call 16 (.cons (.idx (.var 0) (.cst (.int 0))) .nil)))) (.cons (.ite (.cmp .Eq (.var 1) (.cst (.bytes #[]))) (.cons (.ret (.cst .none)) .nil) .nil) (.cons (.asg 2 (.call 15 (.cons (.idx (.var 0) (.cst (.int 1))) .nil))) (.cons (.asg 3 (.ite (.cmp .Eq (.blt .len (.cons (.var 0) .nil)) (.cst (.int 3))) (.call 15 (.cons (.idx (.var 0) (.cst (.int 2))) .nil)) (.bin .Add (.bin .Add (.blt .len (.cons (.var 1) .nil)) (.blt .abs (.cons (.var 2) .nil))) (.cst (.int 1))))) k_part_rest))))
noncomputable def k_replaced_c0 : E := (.call 16 (.cons (.var 0) .nil))
noncomputable def k_replaced_c0k : Es := .nil
noncomputable def k_replaced : Ss := (.cons (.asgT [1, 2, 3] (.comp k_replaced_c0 (.var 0) k_replaced_c0k [])) (.cons (.ite (.cmp .Eq (.var 2) (.cst (.str ⟨#[]⟩))) (.cons (.ret (.var 1)) .nil) .nil) (.cons (.asg 4 (.meth .split (.var 1) (.cons (.var 2) .nil))) (.cons (.ite (.cmp .Gt (.bin .Add (.blt .len (.cons (.var 1) .nil)) (.bin .Mult (.bin .Sub (.blt .len (.cons (.var 4) .nil)) (.cst (.int 1))) (.blt .len (.cons (.var 3) .nil)))) (.cst (.int 100000))) (.cons .bad .nil) .nil) (.cons (.ret (.meth .join (.var 3) (.cons (.var 4) .nil))) .nil)))))
noncomputable def k_chosen_f0 : Ss := (.cons (.asg 5 (.call 11 (.cons (.var 4) (.cons (.var 3) (.cons (.var 2) .nil))))) (.cons (.ite (.bop .Or (.cons (.cmp .Eq (.var 5) (.var 1)) (.cons (.bop .And (.cons (.cmp .Eq (.var 5) (.cst (.int 0))) (.cons (.cmp .Lt (.var 1) (.cst (.int 0))) .nil))) .nil))) (.cons (.asg 3 (.var 4)) .nil) .nil) .nil))
noncomputable def k_chosen : Ss := (.cons (.asg 3 (.idx (.var 0) (.cst (.int 0)))) (.cons (.forv 4 (.slice (.var 0) (.cst (.int 1)) (.cst .none)) k_chosen_f0) (.cons (.ret (.var 3)) .nil)))
noncomputable def k_signs_of_f0 : Ss := (.cons (.asg 3 (.call 15 (.cons (.var 2) .nil))) (.cons (.app 1 (.ite (.bop .And (.cons (.cmp .IsNot (.var 3) (.cst .none)) (.cons (.cmp2 .Lt .LtE (.cst (.int 0)) (.var 3) (.cst (.int 1114111))) .nil))) (.blt .chr (.cons (.var 3) .nil)) (.blt .chr (.cons (.cst (.int 65533)) .nil)))) .nil))
noncomputable def k_signs_of : Ss := (.cons (.newl 1) (.cons (.forv 2 (.var 0) k_signs_of_f0) (.cons (.ret (.meth .join (.cst (.str ⟨#[]⟩)) (.cons (.var 1) .nil))) .nil)))
noncomputable def k_matched : Ss := (.cons (.ite (.cmp .Eq (.var 0) (.cst (.str ⟨#[103, 108, 111, 98]⟩))) (.cons (.ret (.blt .int (.cons (.call 23 (.cons (.call 16 (.cons (.idx (.var 1) (.cst (.int 0))) .nil)) (.cons (.call 16 (.cons (.idx (.var 1) (.cst (.int 1))) .nil)) .nil))) .nil))) .nil) .nil) (.cons (.asg 2 (.cst .none)) (.cons (.ite (.cmp .Eq (.blt .len (.cons (.var 1) .nil)) (.cst (.int 3))) (.cons (.asg 2 (.call 16 (.cons (.idx (.var 1) (.cst (.int 2))) .nil))) (.cons (.ite (.cmp .NotEq (.blt .len (.cons (.var 2) .nil)) (.cst (.int 1))) (.cons .bad .nil) .nil) .nil)) .nil) (.cons (.ret (.blt .int (.cons (.call 20 (.cons (.call 16 (.cons (.idx (.var 1) (.cst (.int 0))) .nil)) (.cons (.call 16 (.cons (.idx (.var 1) (.cst (.int 1))) .nil)) (.cons (.var 2) .nil)))) .nil))) .nil))))
noncomputable def k_call_with_nulls_c0 : E := (.var 0)
noncomputable def k_call_with_nulls_c0k : Es := (.cons (.cmp .IsNot (.var 0) (.cst .none)) .nil)
noncomputable def k_call_with_nulls : Ss := (.cons (.ite (.bop .Or (.cons (.cmp .Eq (.var 0) (.cst (.str ⟨#[99, 111, 97, 108, 101, 115, 99, 101]⟩))) (.cons (.cmp .Eq (.var 0) (.cst (.str ⟨#[105, 102, 110, 117, 108, 108]⟩))) .nil))) (.cons (.asg 4 (.comp k_call_with_nulls_c0 (.var 1) k_call_with_nulls_c0k [])) (.cons (.ret (.tup (.cons (.cst (.bool true)) (.cons (.ite (.var 4) (.idx (.var 4) (.cst (.int 0))) (.cst .none)) .nil)))) .nil)) .nil) (.cons (.ite (.cmp .Eq (.var 0) (.cst (.str ⟨#[105, 105, 102]⟩))) (.cons (.asg 5 (.call 15 (.cons (.idx (.var 1) (.cst (.int 0))) .nil))) (.cons (.ret (.tup (.cons (.cst (.bool true)) (.cons (.ite (.bop .And (.cons (.cmp .IsNot (.var 5) (.cst .none)) (.cons (.cmp .NotEq (.var 5) (.cst (.int 0))) .nil))) (.idx (.var 1) (.cst (.int 1))) (.idx (.var 1) (.cst (.int 2)))) .nil)))) .nil)) .nil) (.cons (.ite (.cmp .Eq (.var 0) (.cst (.str ⟨#[110, 117, 108, 108, 105, 102]⟩))) (.cons (.asg 6 (.cmp .Eq (.call 11 (.cons (.idx (.var 1) (.cst (.int 0))) (.cons (.idx (.var 1) (.cst (.int 1))) (.cons (.var 2) .nil)))) (.cst (.int 0)))) (.cons (.ret (.tup (.cons (.cst (.bool true)) (.cons (.ite (.var 6) (.cst .none) (.idx (.var 1) (.cst (.int 0)))) .nil)))) .nil)) .nil) (.cons (.ite (.cmp .Eq (.var 0) (.cst (.str ⟨#[116, 121, 112, 101, 111, 102]⟩))) (.cons (.ret (.tup (.cons (.cst (.bool true)) (.cons (.call 8 (.cons (.idx (.var 1) (.cst (.int 0))) .nil)) .nil)))) .nil) .nil) (.cons (.ite (.cmp .Eq (.var 0) (.cst (.str ⟨#[113, 117, 111, 116, 101]⟩))) (.cons (.ret (.tup (.cons (.cst (.bool true)) (.cons (.call 17 (.cons (.idx (.var 1) (.cst (.int 0))) .nil)) .nil)))) .nil) .nil) (.cons (.ite (.cmp .Eq (.var 0) (.cst (.str ⟨#[99, 104, 97, 114]⟩))) (.cons (.ret (.tup (.cons (.cst (.bool true)) (.cons (.call 33 (.cons (.var 1) .nil)) .nil)))) .nil) .nil) (.cons (.ite (.bop .And (.cons (.cmp .Eq (.var 0) (.cst (.str ⟨#[104, 101, 120]⟩))) (.cons (.cmp .Is (.idx (.var 1) (.cst (.int 0))) (.cst .none)) .nil))) (.cons (.ret (.tup (.cons (.cst (.bool true)) (.cons (.cst (.str ⟨#[]⟩)) .nil)))) .nil) .nil) (.cons (.ite (.bop .And (.cons (.cmp .Eq (.var 0) (.cst (.str ⟨#[122, 101, 114, 111, 98, 108, 111, 98]⟩))) (.cons (.cmp .Is (.idx (.var 1) (.cst (.int 0))) (.cst .none)) .nil))) (.cons (.ret (.tup (.cons (.cst (.bool true)) (.cons (.cst (.bytes #[])) .nil)))) .nil) .nil) (.cons (.ite (.cmp .Eq (.var 0) (.cst (.str ⟨#[99, 104, 97, 110, 103, 101, 115]⟩))) (.cons .bad .nil) .nil) (.cons (.ite (.cmp .Eq (.var 0) (.cst (.str ⟨#[108, 97, 115, 116, 95, 105, 110, 115, 101, 114, 116, 95, 114, 111, 119, 105, 100]⟩))) (.cons .bad .nil) .nil) (.cons (.ret (.tup (.cons (.cst (.bool false)) (.cons (.cst .none) .nil)))) .nil)))))))))))
noncomputable def k_call_function_f0 : Ss := (.cons (.ite (.cmp .Is (.var 7) (.cst .none)) (.cons (.ret (.cst .none)) .nil) .nil) .nil)
noncomputable def k_cf_rest : Ss := (.cons (.ite (.cmp .Eq (.var 4) (.cst (.str ⟨#[97, 98, 115]⟩))) (.cons (.asg 8 (.call 15 (.cons (.idx (.var 1) (.cst (.int 0))) .nil))) (.cons (.ite (.cmp .Eq (.var 8) (.cst (.int (-9223372036854775808)))) (.cons .bad .nil) .nil) (.cons (.ret (.blt .abs (.cons (.var 8) .nil))) .nil))) .nil) (.cons (.ite (.bop .Or (.cons (.cmp .Eq (.var 4) (.cst (.str ⟨#[109, 97, 120]⟩))) (.cons (.cmp .Eq (.var 4) (.cst (.str ⟨#[109, 105, 110]⟩))) .nil))) (.cons (.ret (.call 32 (.cons (.var 1) (.cons (.ite (.cmp .Eq (.var 4) (.cst (.str ⟨#[109, 97, 120]⟩))) (.cst (.int 1)) (.neg (.cst (.int 1)))) (.cons (.var 2) .nil))))) .nil) .nil) (.cons (.ite (.cmp .Eq (.var 4) (.cst (.str ⟨#[108, 101, 110, 103, 116, 104]⟩))) (.cons (.ret (.call 27 (.cons (.idx (.var 1) (.cst (.int 0))) .nil))) .nil) .nil) (.cons (.ite (.cmp .Eq (.var 4) (.cst (.str ⟨#[105, 110, 115, 116, 114]⟩))) (.cons (.ret (.call 28 (.cons (.idx (.var 1) (.cst (.int 0))) (.cons (.idx (.var 1) (.cst (.int 1))) .nil)))) .nil) .nil) (.cons (.ret (.call 38 (.cons (.var 4) (.cons (.var 1) .nil)))) .nil)))))
noncomputable def k_call_function : Ss := (.cons (.asg 4 (.meth .lower (.var 0) .nil)) (.cons (.asgT [5, 6] (.call 36 (.cons (.var 4) (.cons (.var 1) (.cons (.var 2) (.cons (.var 3) .nil)))))) (.cons (.ite (.var 5) (.cons (.ret (.var 6)) .nil) .nil) (.cons (.forv 7 (.var 1) k_call_function_f0) k_cf_rest))))
noncomputable def k_call_on_texts : Ss := (.cons (.ite (.cmp .Eq (.var 0) (.cst (.str ⟨#[108, 111, 119, 101, 114]⟩))) (.cons (.ret (.call 25 (.cons (.call 16 (.cons (.idx (.var 1) (.cst (.int 0))) .nil)) .nil))) .nil) .nil) (.cons (.ite (.cmp .Eq (.var 0) (.cst (.str ⟨#[117, 112, 112, 101, 114]⟩))) (.cons (.ret (.call 26 (.cons (.call 16 (.cons (.idx (.var 1) (.cst (.int 0))) .nil)) .nil))) .nil) .nil) (.cons (.ite (.cmp .Eq (.var 0) (.cst (.str ⟨#[104, 101, 120]⟩))) (.cons (.ret (.call 7 (.cons (.call 24 (.cons (.idx (.var 1) (.cst (.int 0))) .nil)) .nil))) .nil) .nil) (.cons (.ite (.cmp .Eq (.var 0) (.cst (.str ⟨#[117, 110, 105, 99, 111, 100, 101]⟩))) (.cons (.asg 2 (.call 16 (.cons (.idx (.var 1) (.cst (.int 0))) .nil))) (.cons (.ret (.ite (.cmp .NotEq (.var 2) (.cst (.str ⟨#[]⟩))) (.blt .ord (.cons (.idx (.var 2) (.cst (.int 0))) .nil)) (.cst .none))) .nil)) .nil) (.cons (.ite (.cmp .Eq (.var 0) (.cst (.str ⟨#[114, 101, 112, 108, 97, 99, 101]⟩))) (.cons (.ret (.call 31 (.cons (.var 1) .nil))) .nil) .nil) (.cons (.ite (.bop .Or (.cons (.cmp .Eq (.var 0) (.cst (.str ⟨#[115, 117, 98, 115, 116, 114]⟩))) (.cons (.cmp .Eq (.var 0) (.cst (.str ⟨#[115, 117, 98, 115, 116, 114, 105, 110, 103]⟩))) .nil))) (.cons (.ret (.call 30 (.cons (.var 1) .nil))) .nil) .nil) (.cons (.ite (.cmp .Eq (.var 0) (.cst (.str ⟨#[122, 101, 114, 111, 98, 108, 111, 98]⟩))) (.cons (.ret (.call 34 (.cons (.idx (.var 1) (.cst (.int 0))) .nil))) .nil) .nil) (.cons (.ite (.bop .Or (.cons (.cmp .Eq (.var 0) (.cst (.str ⟨#[108, 105, 107, 101]⟩))) (.cons (.cmp .Eq (.var 0) (.cst (.str ⟨#[103, 108, 111, 98]⟩))) .nil))) (.cons (.ret (.call 35 (.cons (.var 0) (.cons (.var 1) .nil)))) .nil) .nil) (.cons (.ite (.bop .Or (.cons (.cmp .Eq (.var 0) (.cst (.str ⟨#[116, 114, 105, 109]⟩))) (.cons (.cmp .Eq (.var 0) (.cst (.str ⟨#[108, 116, 114, 105, 109]⟩))) (.cons (.cmp .Eq (.var 0) (.cst (.str ⟨#[114, 116, 114, 105, 109]⟩))) .nil)))) (.cons (.ret (.call 29 (.cons (.var 0) (.cons (.var 1) .nil)))) .nil) .nil) (.cons .bad .nil))))))))))
noncomputable def k_law_pool : Ss := (.cons (.asg 2 (.cst (.int 0))) (.cons (.ite (.cmp .Lt (.var 1) (.blt .len (.cons (.var 0) .nil))) (.cons (.asg 2 (.idx (.var 0) (.var 1))) .nil) .nil) (.cons (.asg 3 (.blt .max (.cons (.blt .int (.cons (.var 2) .nil)) (.cons (.blt .int (.cons (.bin .Sub (.neg (.cst (.int 1))) (.var 2)) .nil)) .nil)))) (.cons (.asg 4 (.bin .Mod (.blt .int (.cons (.bin .Mult (.bin .Add (.bin .Add (.bin .Add (.bin .Mod (.blt .int (.cons (.var 3) .nil)) (.cst (.int 2147483629))) (.bin .Mult (.bin .Mult (.cst (.int 7919)) (.var 1)) (.var 1))) (.bin .Mult (.cst (.int 31)) (.var 1))) (.cst (.int 17))) (.cst (.int 48271))) .nil)) (.cst (.int 2147483647)))) (.cons (.ret (.list (.cons (.bin .Mult (.var 3) (.blt .int (.cons (.cmp .GtE (.var 3) (.bin .Pow (.cst (.int 10)) (.cst (.int 18)))) .nil))) (.cons (.var 4) .nil)))) .nil)))))
noncomputable def k_law_take : Ss := (.cons (.ite (.cmp .Gt (.idx (.var 0) (.cst (.int 0))) (.cst (.int 0))) (.cons (.asg 2 (.bin .Mod (.blt .int (.cons (.idx (.var 0) (.cst (.int 0))) .nil)) (.var 1))) (.cons (.pset 0 (.var 0) (.bin .FloorDiv (.idx (.var 0) (.cst (.int 0))) (.var 1))) (.cons (.ret (.var 2)) .nil))) .nil) (.cons (.pset 1 (.var 0) (.bin .Mod (.blt .int (.cons (.bin .Add (.bin .Mult (.idx (.var 0) (.cst (.int 1))) (.cst (.int 39373))) (.cst (.int 7))) .nil)) (.cst (.int 2147483647)))) (.cons (.ret (.bin .Mod (.blt .int (.cons (.bin .FloorDiv (.bin .Mod (.blt .int (.cons (.bin .Mult (.idx (.var 0) (.cst (.int 1))) (.idx (.var 0) (.cst (.int 1)))) .nil)) (.cst (.int 2147483629))) (.cst (.int 32))) .nil)) (.var 1))) .nil)))
noncomputable def k_law_one : Ss := (.cons (.ret (.idx (.var 1) (.call 40 (.cons (.var 0) (.cons (.blt .len (.cons (.var 1) .nil)) .nil))))) .nil)
noncomputable def k_law_call : Ss := (.cons (.tri (.cons (.ret (.list (.cons (.call 37 (.cons (.var 0) (.cons (.var 1) (.cons (.cst (.str ⟨#[98, 105, 110, 97, 114, 121]⟩)) (.cons (.cst .none) .nil))))) .nil))) .nil)) .nil)
noncomputable def k_law_drawn_c0 : E := (.call 41 (.cons (.var 2) (.cons (.slice (.var 1) (.cst .none) (.call 41 (.cons (.var 2) (.cons (.list (.cons (.cst (.int 2)) (.cons (.cst (.int 5)) (.cons (.cst (.int 9)) .nil)))) .nil)))) .nil)))
noncomputable def k_law_drawn_c0k : Es := .nil
noncomputable def k_law_drawn : Ss := (.cons (.asg 2 (.list (.cons (.cst (.str ⟨#[97]⟩)) (.cons (.cst (.str ⟨#[98]⟩)) (.cons (.cst (.str ⟨#[65]⟩)) (.cons (.cst (.str ⟨#[90]⟩)) (.cons (.cst (.str ⟨#[32]⟩)) (.cons (.cst (.str ⟨#[39]⟩)) (.cons (.cst (.str ⟨#[48]⟩)) (.cons (.blt .chr (.cons (.cst (.int 233)) .nil)) (.cons (.blt .chr (.cons (.cst (.int 20013)) .nil)) .nil))))))))))) (.cons (.ret (.meth .join (.cst (.str ⟨#[]⟩)) (.cons (.comp k_law_drawn_c0 (.blt .range (.cons (.call 40 (.cons (.var 0) (.cons (.bin .Add (.var 1) (.cst (.int 1))) .nil))) .nil)) k_law_drawn_c0k [2, 0]) .nil))) .nil))
noncomputable def k_law_value_c0 : E := (.call 41 (.cons (.var 1) (.cons (.list (.cons (.cst (.int 97)) (.cons (.cst (.int 98)) (.cons (.cst (.int 0)) (.cons (.cst (.int 255)) .nil))))) .nil)))
noncomputable def k_law_value_c0k : Es := .nil
noncomputable def k_law_value : Ss := (.cons (.asg 1 (.call 40 (.cons (.var 0) (.cons (.cst (.int 8)) .nil)))) (.cons (.ite (.cmp .Eq (.var 1) (.cst (.int 0))) (.cons (.ret (.call 41 (.cons (.var 0) (.cons (.list (.cons (.cst (.int 0)) (.cons (.neg (.cst (.int 12))) (.cons (.cst (.int 345)) (.cons (.neg (.bin .Pow (.cst (.int 2)) (.cst (.int 63)))) (.cons (.bin .Sub (.bin .Pow (.cst (.int 2)) (.cst (.int 63))) (.cst (.int 1))) .nil)))))) .nil)))) .nil) .nil) (.cons (.ite (.cmp .Eq (.var 1) (.cst (.int 1))) (.cons (.ret (.blt .bytes (.cons (.comp k_law_value_c0 (.blt .range (.cons (.call 40 (.cons (.var 0) (.cons (.cst (.int 6)) .nil))) .nil)) k_law_value_c0k [0]) .nil))) .nil) .nil) (.cons (.ret (.call 43 (.cons (.var 0) (.cons (.cst (.int 7)) .nil)))) .nil))))
noncomputable def k_law_text : Ss := (.cons (.ret (.ite (.isi (.var 0) .int) (.blt .str (.cons (.var 0) .nil)) (.var 0))) .nil)
noncomputable def k_law_cut_c0 : E := (.var 0)
noncomputable def k_law_cut_c0k : Es := (.cons (.cmp2 .LtE .LtE (.cst (.int 1)) (.var 0) (.blt .len (.cons (.var 1) .nil))) .nil)
noncomputable def k_cut_rest : Ss := (.cons (.asg 5 (.comp k_law_cut_c0 (.var 4) k_law_cut_c0k [0])) (.cons (.ret (.ite (.cmp .NotEq (.var 5) (.list .nil)) (.slice (.var 0) (.bin .Sub (.idx (.var 5) (.cst (.int 0))) (.cst (.int 1))) (.idx (.var 5) (.neg (.cst (.int 1))))) (.slice (.var 0) (.cst .none) (.cst (.int 0))))) .nil))
noncomputable def k_law_cut : Ss := (.cons (.asg 3 (.ite (.cmp .GtE (.var 1) (.cst (.int 0))) (.var 1) (.bin .Add (.bin .Add (.blt .len (.cons (.var 0) .nil)) (.var 1)) (.cst (.int 1))))) (.cons (.asg 4 (.ite (.cmp .GtE (.var 2) (.cst (.int 0))) (.blt .list (.cons (.blt .range (.cons (.var 3) (.cons (.bin .Add (.var 3) (.var 2)) .nil))) .nil)) (.blt .list (.cons (.blt .range (.cons (.bin .Add (.var 3) (.var 2)) (.cons (.var 3) .nil))) .nil)))) k_cut_rest))
noncomputable def k_law_substr_right_f0 : Ss := (.cons (.asgT [4, 5] (.tup (.cons (.bin .Sub (.call 40 (.cons (.var 0) (.cons (.cst (.int 19)) .nil))) (.cst (.int 9))) (.cons (.bin .Sub (.call 40 (.cons (.var 0) (.cons (.cst (.int 19)) .nil))) (.cst (.int 9))) .nil)))) (.cons (.asg 6 (.bop .And (.cons (.isi (.var 1) .bytes) (.cons (.cmp .Eq (.blt .len (.cons (.var 1) .nil)) (.cst (.int 0))) .nil)))) (.cons (.ite (.cmp .NotEq (.call 42 (.cons (.cst (.str ⟨#[115, 117, 98, 115, 116, 114]⟩)) (.cons (.list (.cons (.var 1) (.cons (.var 4) (.cons (.var 5) .nil)))) .nil))) (.list (.cons (.ite (.var 6) (.cst .none) (.call 46 (.cons (.var 2) (.cons (.var 4) (.cons (.var 5) .nil))))) .nil))) (.cons (.ret (.cst (.bool false))) .nil) .nil) (.cons (.ite (.cmp .NotEq (.call 42 (.cons (.cst (.str ⟨#[115, 117, 98, 115, 116, 114, 105, 110, 103]⟩)) (.cons (.list (.cons (.var 1) (.cons (.var 4) .nil))) .nil))) (.list (.cons (.ite (.var 6) (.cst .none) (.call 46 (.cons (.var 2) (.cons (.var 4) (.cons (.cst (.int 40)) .nil))))) .nil))) (.cons (.ret (.cst (.bool false))) .nil) .nil) .nil))))
noncomputable def k_law_substr_right : Ss := (.cons (.asg 2 (.call 45 (.cons (.var 1) .nil))) (.cons (.forv 3 (.blt .range (.cons (.cst (.int 2)) .nil)) k_law_substr_right_f0) (.cons (.ret (.cst (.bool true))) .nil)))
noncomputable def k_law_places_c0 : E := (.var 0)
noncomputable def k_law_places_c0k : Es := (.cons (.cmp .Eq (.slice (.var 2) (.var 0) (.bin .Add (.var 0) (.blt .len (.cons (.var 1) .nil)))) (.var 1)) .nil)
noncomputable def k_law_places : Ss := (.cons (.ret (.comp k_law_places_c0 (.blt .range (.cons (.bin .Add (.bin .Sub (.blt .len (.cons (.var 0) .nil)) (.blt .len (.cons (.var 1) .nil))) (.cst (.int 1))) .nil)) k_law_places_c0k [1, 0])) .nil)
noncomputable def k_law_replaced_w0 : Ss := (.cons (.ite (.cmp .Eq (.slice (.var 0) (.var 4) (.bin .Add (.var 4) (.blt .len (.cons (.var 1) .nil)))) (.var 1)) (.cons (.asgT [3, 4] (.tup (.cons (.bin .Add (.var 3) (.var 2)) (.cons (.bin .Add (.var 4) (.blt .len (.cons (.var 1) .nil))) .nil)))) .nil) (.cons (.asgT [3, 4] (.tup (.cons (.bin .Add (.var 3) (.idx (.var 0) (.var 4))) (.cons (.bin .Add (.var 4) (.cst (.int 1))) .nil)))) .nil)) .nil)
noncomputable def k_law_replaced_w0t : E := (.cmp .Lt (.var 4) (.blt .len (.cons (.var 0) .nil)))
noncomputable def k_law_replaced : Ss := (.cons (.ite (.cmp .Eq (.var 1) (.cst (.str ⟨#[]⟩))) (.cons (.ret (.var 0)) .nil) .nil) (.cons (.asgT [3, 4] (.tup (.cons (.cst (.str ⟨#[]⟩)) (.cons (.cst (.int 0)) .nil)))) (.cons (.whl k_law_replaced_w0t k_law_replaced_w0) (.cons (.ret (.var 3)) .nil))))
noncomputable def k_law_trimmed_w0 : Ss := (.cons (.asg 0 (.slice (.var 0) (.cst (.int 1)) (.cst .none))) .nil)
noncomputable def k_law_trimmed_w0t : E := (.bop .And (.cons (.var 2) (.cons (.cmp .NotEq (.var 0) (.cst (.str ⟨#[]⟩))) (.cons (.cmp .In (.idx (.var 0) (.cst (.int 0))) (.blt .list (.cons (.var 1) .nil))) .nil))))
noncomputable def k_law_trimmed_w1 : Ss := (.cons (.asg 0 (.slice (.var 0) (.cst .none) (.neg (.cst (.int 1))))) .nil)
noncomputable def k_law_trimmed_w1t : E := (.bop .And (.cons (.var 3) (.cons (.cmp .NotEq (.var 0) (.cst (.str ⟨#[]⟩))) (.cons (.cmp .In (.idx (.var 0) (.neg (.cst (.int 1)))) (.blt .list (.cons (.var 1) .nil))) .nil))))
noncomputable def k_law_trimmed : Ss := (.cons (.whl k_law_trimmed_w0t k_law_trimmed_w0) (.cons (.whl k_law_trimmed_w1t k_law_trimmed_w1) (.cons (.ret (.var 0)) .nil)))
noncomputable def k_law_parts_right_f0 : Ss := (.cons (.ite (.cmp .NotEq (.call 42 (.cons (.var 6) (.cons (.list (.cons (.var 1) (.cons (.var 4) .nil))) .nil))) (.list (.cons (.call 50 (.cons (.var 1) (.cons (.var 4) (.cons (.var 7) (.cons (.var 8) .nil))))) .nil))) (.cons (.ret (.cst (.bool false))) .nil) .nil) (.cons (.ite (.cmp .NotEq (.call 42 (.cons (.var 6) (.cons (.list (.cons (.var 1) .nil)) .nil))) (.list (.cons (.call 50 (.cons (.var 1) (.cons (.cst (.str ⟨#[32]⟩)) (.cons (.var 7) (.cons (.var 8) .nil))))) .nil))) (.cons (.ret (.cst (.bool false))) .nil) .nil) .nil))
noncomputable def k_law_parts_right : Ss := (.cons (.asg 2 (.ite (.cmp .Gt (.call 40 (.cons (.var 0) (.cons (.cst (.int 4)) .nil))) (.cst (.int 0))) (.call 46 (.cons (.var 1) (.cons (.bin .Add (.cst (.int 1)) (.call 40 (.cons (.var 0) (.cons (.cst (.int 7)) .nil)))) (.cons (.bin .Add (.cst (.int 1)) (.call 40 (.cons (.var 0) (.cons (.cst (.int 2)) .nil)))) .nil)))) (.call 43 (.cons (.var 0) (.cons (.cst (.int 2)) .nil))))) (.cons (.asgT [3, 4] (.tup (.cons (.call 43 (.cons (.var 0) (.cons (.cst (.int 3)) .nil))) (.cons (.call 43 (.cons (.var 0) (.cons (.cst (.int 3)) .nil))) .nil)))) (.cons (.asg 5 (.call 48 (.cons (.var 1) (.cons (.var 2) .nil)))) (.cons (.ite (.cmp .NotEq (.call 42 (.cons (.cst (.str ⟨#[105, 110, 115, 116, 114]⟩)) (.cons (.list (.cons (.var 1) (.cons (.var 2) .nil))) .nil))) (.list (.cons (.ite (.cmp .NotEq (.var 5) (.list .nil)) (.bin .Add (.idx (.var 5) (.cst (.int 0))) (.cst (.int 1))) (.cst (.int 0))) .nil))) (.cons (.ret (.cst (.bool false))) .nil) .nil) (.cons (.ite (.cmp .NotEq (.call 42 (.cons (.cst (.str ⟨#[114, 101, 112, 108, 97, 99, 101]⟩)) (.cons (.list (.cons (.var 1) (.cons (.var 2) (.cons (.var 3) .nil)))) .nil))) (.list (.cons (.call 49 (.cons (.var 1) (.cons (.var 2) (.cons (.var 3) .nil)))) .nil))) (.cons (.ret (.cst (.bool false))) .nil) .nil) (.cons (.forT [6, 7, 8] (.list (.cons (.list (.cons (.cst (.str ⟨#[116, 114, 105, 109]⟩)) (.cons (.cst (.bool true)) (.cons (.cst (.bool true)) .nil)))) (.cons (.list (.cons (.cst (.str ⟨#[108, 116, 114, 105, 109]⟩)) (.cons (.cst (.bool true)) (.cons (.cst (.bool false)) .nil)))) (.cons (.list (.cons (.cst (.str ⟨#[114, 116, 114, 105, 109]⟩)) (.cons (.cst (.bool false)) (.cons (.cst (.bool true)) .nil)))) .nil)))) k_law_parts_right_f0) (.cons (.ret (.cst (.bool true))) .nil)))))))
noncomputable def k_law_octets : Ss := (.cons (.ret (.ite (.isi (.var 0) .bytes) (.blt .list (.cons (.var 0) .nil)) (.blt .list (.cons (.meth .encode (.call 45 (.cons (.var 0) .nil)) (.cons (.cst (.str ⟨#[117, 116, 102, 45, 56]⟩)) .nil)) .nil)))) .nil)
noncomputable def k_law_turned_c0 : E := (.ite (.cmp2 .LtE .Lt (.var 1) (.blt .ord (.cons (.var 0) .nil)) (.bin .Add (.var 1) (.cst (.int 26)))) (.blt .chr (.cons (.bin .Add (.blt .ord (.cons (.var 0) .nil)) (.var 2)) .nil)) (.var 0))
noncomputable def k_law_turned_c0k : Es := .nil
noncomputable def k_law_turned : Ss := (.cons (.asg 3 (.comp k_law_turned_c0 (.var 0) k_law_turned_c0k [1, 2])) (.cons (.ret (.meth .join (.cst (.str ⟨#[]⟩)) (.cons (.var 3) .nil))) .nil))
noncomputable def k_law_signs_right_c0 : E := (.bin .Add (.idx (.var 1) (.bin .FloorDiv (.var 0) (.cst (.int 16)))) (.idx (.var 1) (.bin .Mod (.var 0) (.cst (.int 16)))))
noncomputable def k_law_signs_right_c0k : Es := .nil
noncomputable def k_law_signs_right_c1 : E := (.blt .ord (.cons (.var 0) .nil))
noncomputable def k_law_signs_right_c1k : Es := .nil
noncomputable def k_law_signs_right_c2 : E := (.ite (.cmp .Eq (.var 0) (.cst (.str ⟨#[39]⟩))) (.bin .Add (.var 0) (.var 0)) (.var 0))
noncomputable def k_law_signs_right_c2k : Es := .nil
noncomputable def k_law_signs_right : Ss := (.cons (.asg 1 (.call 45 (.cons (.var 0) .nil))) (.cons (.ite (.cmp .NotEq (.call 42 (.cons (.cst (.str ⟨#[108, 101, 110, 103, 116, 104]⟩)) (.cons (.list (.cons (.var 0) .nil)) .nil))) (.list (.cons (.blt .len (.cons (.var 1) .nil)) .nil))) (.cons (.ret (.cst (.bool false))) .nil) .nil) (.cons (.asg 2 (.cst (.str ⟨#[48, 49, 50, 51, 52, 53, 54, 55, 56, 57, 65, 66, 67, 68, 69, 70]⟩))) (.cons (.asg 3 (.meth .join (.cst (.str ⟨#[]⟩)) (.cons (.comp k_law_signs_right_c0 (.call 52 (.cons (.var 0) .nil)) k_law_signs_right_c0k [2]) .nil))) (.cons (.ite (.cmp .NotEq (.call 42 (.cons (.cst (.str ⟨#[104, 101, 120]⟩)) (.cons (.list (.cons (.var 0) .nil)) .nil))) (.list (.cons (.var 3) .nil))) (.cons (.ret (.cst (.bool false))) .nil) .nil) (.cons (.ite (.isi (.var 0) .bytes) (.cons (.ret (.bop .And (.cons (.cmp .Eq (.call 42 (.cons (.cst (.str ⟨#[113, 117, 111, 116, 101]⟩)) (.cons (.list (.cons (.var 0) .nil)) .nil))) (.list (.cons (.bin .Add (.bin .Add (.cst (.str ⟨#[88, 39]⟩)) (.var 3)) (.cst (.str ⟨#[39]⟩))) .nil))) (.cons (.cmp .Eq (.call 42 (.cons (.cst (.str ⟨#[116, 121, 112, 101, 111, 102]⟩)) (.cons (.list (.cons (.var 0) .nil)) .nil))) (.list (.cons (.cst (.str ⟨#[98, 108, 111, 98]⟩)) .nil))) .nil)))) .nil) .nil) (.cons (.ite (.cmp .NotEq (.call 42 (.cons (.cst (.str ⟨#[117, 112, 112, 101, 114]⟩)) (.cons (.list (.cons (.var 0) .nil)) .nil))) (.list (.cons (.call 53 (.cons (.var 1) (.cons (.cst (.int 97)) (.cons (.neg (.cst (.int 32))) .nil)))) .nil))) (.cons (.ret (.cst (.bool false))) .nil) .nil) (.cons (.ite (.cmp .NotEq (.call 42 (.cons (.cst (.str ⟨#[108, 111, 119, 101, 114]⟩)) (.cons (.list (.cons (.var 0) .nil)) .nil))) (.list (.cons (.call 53 (.cons (.var 1) (.cons (.cst (.int 65)) (.cons (.cst (.int 32)) .nil)))) .nil))) (.cons (.ret (.cst (.bool false))) .nil) .nil) (.cons (.ite (.cmp .NotEq (.call 42 (.cons (.cst (.str ⟨#[117, 110, 105, 99, 111, 100, 101]⟩)) (.cons (.list (.cons (.var 0) .nil)) .nil))) (.list (.cons (.ite (.cmp .NotEq (.var 1) (.cst (.str ⟨#[]⟩))) (.blt .ord (.cons (.idx (.var 1) (.cst (.int 0))) .nil)) (.cst .none)) .nil))) (.cons (.ret (.cst (.bool false))) .nil) .nil) (.cons (.ite (.cmp .NotEq (.call 42 (.cons (.cst (.str ⟨#[99, 104, 97, 114]⟩)) (.cons (.comp k_law_signs_right_c1 (.var 1) k_law_signs_right_c1k []) .nil))) (.list (.cons (.var 1) .nil))) (.cons (.ret (.cst (.bool false))) .nil) .nil) (.cons (.ite (.isi (.var 0) .int) (.cons (.ret (.bop .And (.cons (.cmp .Eq (.call 42 (.cons (.cst (.str ⟨#[113, 117, 111, 116, 101]⟩)) (.cons (.list (.cons (.var 0) .nil)) .nil))) (.list (.cons (.var 1) .nil))) (.cons (.cmp .Eq (.call 42 (.cons (.cst (.str ⟨#[116, 121, 112, 101, 111, 102]⟩)) (.cons (.list (.cons (.var 0) .nil)) .nil))) (.list (.cons (.cst (.str ⟨#[105, 110, 116, 101, 103, 101, 114]⟩)) .nil))) .nil)))) .nil) .nil) (.cons (.asg 4 (.bin .Add (.bin .Add (.cst (.str ⟨#[39]⟩)) (.meth .join (.cst (.str ⟨#[]⟩)) (.cons (.comp k_law_signs_right_c2 (.var 0) k_law_signs_right_c2k []) .nil))) (.cst (.str ⟨#[39]⟩)))) (.cons (.ret (.bop .And (.cons (.cmp .Eq (.call 42 (.cons (.cst (.str ⟨#[113, 117, 111, 116, 101]⟩)) (.cons (.list (.cons (.var 0) .nil)) .nil))) (.list (.cons (.var 4) .nil))) (.cons (.cmp .Eq (.call 42 (.cons (.cst (.str ⟨#[116, 121, 112, 101, 111, 102]⟩)) (.cons (.list (.cons (.var 0) .nil)) .nil))) (.list (.cons (.cst (.str ⟨#[116, 101, 120, 116]⟩)) .nil))) .nil)))) .nil)))))))))))))
noncomputable def k_law_nulls_right_f0 : Ss := (.cons (.ite (.cmp .NotEq (.call 42 (.cons (.var 2) (.cons (.list (.cons (.cst .none) .nil)) .nil))) (.list (.cons (.cst .none) .nil))) (.cons (.ret (.cst (.bool false))) .nil) .nil) .nil)
noncomputable def k_law_nulls_right_f1 : Ss := (.cons (.ite (.bop .Or (.cons (.cmp .NotEq (.call 42 (.cons (.cst (.str ⟨#[114, 101, 112, 108, 97, 99, 101]⟩)) (.cons (.var 3) .nil))) (.list (.cons (.cst .none) .nil))) (.cons (.cmp .NotEq (.call 42 (.cons (.cst (.str ⟨#[109, 97, 120]⟩)) (.cons (.var 3) .nil))) (.list (.cons (.cst .none) .nil))) .nil))) (.cons (.ret (.cst (.bool false))) .nil) .nil) .nil)
noncomputable def k_law_nulls_right : Ss := (.cons (.forv 2 (.list (.cons (.cst (.str ⟨#[108, 101, 110, 103, 116, 104]⟩)) (.cons (.cst (.str ⟨#[117, 112, 112, 101, 114]⟩)) (.cons (.cst (.str ⟨#[117, 110, 105, 99, 111, 100, 101]⟩)) (.cons (.cst (.str ⟨#[97, 98, 115]⟩)) (.cons (.cst (.str ⟨#[116, 114, 105, 109]⟩)) .nil)))))) k_law_nulls_right_f0) (.cons (.forv 3 (.list (.cons (.list (.cons (.cst .none) (.cons (.var 0) (.cons (.var 1) .nil)))) (.cons (.list (.cons (.var 0) (.cons (.cst .none) (.cons (.var 1) .nil)))) .nil))) k_law_nulls_right_f1) (.cons (.ite (.bop .Or (.cons (.cmp .NotEq (.call 42 (.cons (.cst (.str ⟨#[99, 111, 97, 108, 101, 115, 99, 101]⟩)) (.cons (.list (.cons (.cst .none) (.cons (.cst .none) (.cons (.var 0) (.cons (.var 1) .nil))))) .nil))) (.list (.cons (.var 0) .nil))) (.cons (.cmp .NotEq (.call 42 (.cons (.cst (.str ⟨#[105, 102, 110, 117, 108, 108]⟩)) (.cons (.list (.cons (.cst .none) (.cons (.cst .none) .nil))) .nil))) (.list (.cons (.cst .none) .nil))) .nil))) (.cons (.ret (.cst (.bool false))) .nil) .nil) (.cons (.ite (.bop .Or (.cons (.cmp .NotEq (.call 42 (.cons (.cst (.str ⟨#[110, 117, 108, 108, 105, 102]⟩)) (.cons (.list (.cons (.var 0) (.cons (.var 0) .nil))) .nil))) (.list (.cons (.cst .none) .nil))) (.cons (.cmp .NotEq (.call 42 (.cons (.cst (.str ⟨#[110, 117, 108, 108, 105, 102]⟩)) (.cons (.list (.cons (.var 0) (.cons (.cst .none) .nil))) .nil))) (.list (.cons (.var 0) .nil))) .nil))) (.cons (.ret (.cst (.bool false))) .nil) .nil) (.cons (.ite (.bop .Or (.cons (.cmp .NotEq (.call 42 (.cons (.cst (.str ⟨#[105, 105, 102]⟩)) (.cons (.list (.cons (.cst .none) (.cons (.var 0) (.cons (.var 1) .nil)))) .nil))) (.list (.cons (.var 1) .nil))) (.cons (.cmp .NotEq (.call 42 (.cons (.cst (.str ⟨#[105, 105, 102]⟩)) (.cons (.list (.cons (.cst (.int 3)) (.cons (.var 0) (.cons (.var 1) .nil)))) .nil))) (.list (.cons (.var 0) .nil))) (.cons (.cmp .NotEq (.call 42 (.cons (.cst (.str ⟨#[105, 105, 102]⟩)) (.cons (.list (.cons (.cst (.str ⟨#[120]⟩)) (.cons (.var 0) (.cons (.var 1) .nil)))) .nil))) (.list (.cons (.var 1) .nil))) .nil)))) (.cons (.ret (.cst (.bool false))) .nil) .nil) (.cons (.ret (.bop .And (.cons (.cmp .Eq (.call 42 (.cons (.cst (.str ⟨#[113, 117, 111, 116, 101]⟩)) (.cons (.list (.cons (.cst .none) .nil)) .nil))) (.list (.cons (.cst (.str ⟨#[78, 85, 76, 76]⟩)) .nil))) (.cons (.cmp .Eq (.call 42 (.cons (.cst (.str ⟨#[104, 101, 120]⟩)) (.cons (.list (.cons (.cst .none) .nil)) .nil))) (.list (.cons (.cst (.str ⟨#[]⟩)) .nil))) (.cons (.cmp .Eq (.call 42 (.cons (.cst (.str ⟨#[116, 121, 112, 101, 111, 102]⟩)) (.cons (.list (.cons (.cst .none) .nil)) .nil))) (.list (.cons (.cst (.str ⟨#[110, 117, 108, 108]⟩)) .nil))) .nil))))) .nil))))))
noncomputable def k_law_numbers_right_c0 : E := (.bin .Sub (.call 40 (.cons (.var 1) (.cons (.bin .Pow (.cst (.int 2)) (.cst (.int 20))) .nil))) (.bin .Pow (.cst (.int 2)) (.cst (.int 19))))
noncomputable def k_law_numbers_right_c0k : Es := .nil
noncomputable def k_law_numbers_right_c1 : E := (.blt .int (.cons (.var 0) .nil))
noncomputable def k_law_numbers_right_c1k : Es := .nil
noncomputable def k_law_numbers_right : Ss := (.cons (.asg 1 (.comp k_law_numbers_right_c0 (.blt .range (.cons (.bin .Add (.cst (.int 1)) (.call 40 (.cons (.var 0) (.cons (.cst (.int 4)) .nil)))) .nil)) k_law_numbers_right_c0k [0])) (.cons (.asg 2 (.blt .sorted (.cons (.comp k_law_numbers_right_c1 (.bin .Add (.var 1) (.list (.cons (.cst (.int 7)) .nil))) k_law_numbers_right_c1k []) .nil))) (.cons (.ite (.bop .Or (.cons (.cmp .NotEq (.call 42 (.cons (.cst (.str ⟨#[109, 97, 120]⟩)) (.cons (.bin .Add (.var 1) (.list (.cons (.cst (.int 7)) .nil))) .nil))) (.list (.cons (.idx (.var 2) (.neg (.cst (.int 1)))) .nil))) (.cons (.cmp .NotEq (.call 42 (.cons (.cst (.str ⟨#[109, 105, 110]⟩)) (.cons (.bin .Add (.var 1) (.list (.cons (.cst (.int 7)) .nil))) .nil))) (.list (.cons (.idx (.var 2) (.cst (.int 0))) .nil))) .nil))) (.cons (.ret (.cst (.bool false))) .nil) .nil) (.cons (.ret (.bop .And (.cons (.cmp .Eq (.call 42 (.cons (.cst (.str ⟨#[97, 98, 115]⟩)) (.cons (.list (.cons (.idx (.var 1) (.cst (.int 0))) .nil)) .nil))) (.list (.cons (.blt .max (.cons (.idx (.var 1) (.cst (.int 0))) (.cons (.neg (.idx (.var 1) (.cst (.int 0)))) .nil))) .nil))) (.cons (.cmp .Eq (.call 42 (.cons (.cst (.str ⟨#[97, 98, 115]⟩)) (.cons (.list (.cons (.neg (.bin .Pow (.cst (.int 2)) (.cst (.int 63)))) .nil)) .nil))) (.list .nil)) .nil)))) .nil))))
noncomputable def k_law_patterns_right : Ss := (.cons (.asg 1 (.bin .Add (.bin .Add (.cst (.str ⟨#[120]⟩)) (.var 0)) (.cst (.str ⟨#[121]⟩)))) (.cons (.ite (.bop .Or (.cons (.cmp .NotEq (.call 42 (.cons (.cst (.str ⟨#[108, 105, 107, 101]⟩)) (.cons (.list (.cons (.cst (.str ⟨#[88, 37, 89]⟩)) (.cons (.var 1) .nil))) .nil))) (.list (.cons (.cst (.int 1)) .nil))) (.cons (.cmp .NotEq (.call 42 (.cons (.cst (.str ⟨#[108, 105, 107, 101]⟩)) (.cons (.list (.cons (.bin .Add (.var 1) (.cst (.str ⟨#[95]⟩))) (.cons (.var 1) .nil))) .nil))) (.list (.cons (.cst (.int 0)) .nil))) .nil))) (.cons (.ret (.cst (.bool false))) .nil) .nil) (.cons (.ite (.bop .Or (.cons (.cmp .NotEq (.call 42 (.cons (.cst (.str ⟨#[108, 105, 107, 101]⟩)) (.cons (.list (.cons (.cst (.str ⟨#[97, 33, 37, 98]⟩)) (.cons (.cst (.str ⟨#[97, 37, 98]⟩)) (.cons (.cst (.str ⟨#[33]⟩)) .nil)))) .nil))) (.list (.cons (.cst (.int 1)) .nil))) (.cons (.cmp .NotEq (.call 42 (.cons (.cst (.str ⟨#[108, 105, 107, 101]⟩)) (.cons (.list (.cons (.cst (.str ⟨#[97, 33, 37, 98]⟩)) (.cons (.cst (.str ⟨#[97, 120, 98]⟩)) (.cons (.cst (.str ⟨#[33]⟩)) .nil)))) .nil))) (.list (.cons (.cst (.int 0)) .nil))) .nil))) (.cons (.ret (.cst (.bool false))) .nil) .nil) (.cons (.ite (.bop .Or (.cons (.cmp .NotEq (.call 42 (.cons (.cst (.str ⟨#[108, 105, 107, 101]⟩)) (.cons (.list (.cons (.cst (.str ⟨#[97]⟩)) (.cons (.cst (.str ⟨#[97]⟩)) (.cons (.cst (.str ⟨#[33, 33]⟩)) .nil)))) .nil))) (.list .nil)) (.cons (.cmp .NotEq (.call 42 (.cons (.cst (.str ⟨#[108, 105, 107, 101]⟩)) (.cons (.list (.cons (.cst .none) (.cons (.var 0) .nil))) .nil))) (.list (.cons (.cst .none) .nil))) .nil))) (.cons (.ret (.cst (.bool false))) .nil) .nil) (.cons (.ret (.bop .And (.cons (.cmp .Eq (.call 42 (.cons (.cst (.str ⟨#[103, 108, 111, 98]⟩)) (.cons (.list (.cons (.cst (.str ⟨#[120, 42]⟩)) (.cons (.var 1) .nil))) .nil))) (.list (.cons (.cst (.int 1)) .nil))) (.cons (.cmp .Eq (.call 42 (.cons (.cst (.str ⟨#[103, 108, 111, 98]⟩)) (.cons (.list (.cons (.cst (.str ⟨#[88, 42]⟩)) (.cons (.var 1) .nil))) .nil))) (.list (.cons (.cst (.int 0)) .nil))) .nil)))) .nil)))))
noncomputable def k_law_c0 : E := (.call 44 (.cons (.var 1) .nil))
noncomputable def k_law_c0k : Es := .nil
noncomputable def k_law_f0 : Ss := (.cons (.ite (.bop .Or (.cons (.not (.call 47 (.cons (.var 2) (.cons (.var 4) .nil)))) (.cons (.not (.call 54 (.cons (.var 4) .nil))) .nil))) (.cons (.ret (.cst (.bool false))) .nil) .nil) (.cons (.ite (.bop .And (.cons (.not (.isi (.var 4) .bytes)) (.cons (.not (.call 51 (.cons (.var 2) (.cons (.call 45 (.cons (.var 4) .nil)) .nil)))) .nil))) (.cons (.ret (.cst (.bool false))) .nil) .nil) .nil))
noncomputable def k_law_t : Ss := (.cons (.asg 3 (.comp k_law_c0 (.blt .range (.cons (.cst (.int 2)) .nil)) k_law_c0k [2])) (.cons (.forv 4 (.var 3) k_law_f0) (.cons (.ite (.bop .Or (.cons (.not (.call 55 (.cons (.idx (.var 3) (.cst (.int 0))) (.cons (.idx (.var 3) (.cst (.int 1))) .nil)))) (.cons (.not (.call 56 (.cons (.var 2) .nil))) .nil))) (.cons (.ret (.cst (.bool false))) .nil) .nil) (.cons (.ite (.not (.call 57 (.cons (.call 43 (.cons (.var 2) (.cons (.cst (.int 3)) .nil))) .nil))) (.cons (.ret (.cst (.bool false))) .nil) .nil) .nil))))
noncomputable def k_law_f1 : Ss := (.cons (.asg 2 (.call 39 (.cons (.var 0) (.cons (.var 1) .nil)))) k_law_t)
noncomputable def k_law : Ss := (.cons (.forv 1 (.blt .range (.cons (.blt .max (.cons (.cst (.int 1)) (.cons (.blt .min (.cons (.blt .len (.cons (.var 0) .nil)) (.cons (.cst (.int 3)) .nil))) .nil))) .nil)) k_law_f1) (.cons (.ret (.cst (.bool true))) .nil))
noncomputable def codTab : List (Nat × Nat × Nat × Ss) := [(2, 1, 4, k_utf8), (6, 1, 3, k_fold_ascii), (7, 1, 3, k_hex_text), (8, 1, 1, k_storage_class), (9, 2, 3, k_collate), (10, 2, 2, k_sign_of), (11, 3, 5, k_compare_values), (12, 2, 2, k_digits_end), (13, 1, 4, k_number_span), (14, 1, 3, k_number_of), (15, 1, 3, k_as_integer), (16, 1, 1, k_as_text), (17, 1, 2, k_write_literal), (18, 2, 6, k_matches), (19, 2, 5, k_like_parts), (20, 3, 4, k_like), (22, 1, 5, k_glob_parts), (23, 2, 3, k_glob), (24, 1, 1, k_octets_of), (25, 1, 1, k_lowered), (26, 1, 1, k_raised), (27, 1, 1, k_length_of), (28, 2, 2, k_place_in), (29, 2, 6, k_trimmed), (30, 1, 5, k_part_of), (31, 1, 5, k_replaced), (32, 3, 6, k_chosen), (33, 1, 4, k_signs_of), (35, 2, 3, k_matched), (36, 4, 7, k_call_with_nulls), (37, 4, 9, k_call_function), (38, 2, 3, k_call_on_texts), (39, 2, 5, k_law_pool), (40, 2, 3, k_law_take), (41, 2, 2, k_law_one), (42, 2, 2, k_law_call), (43, 2, 3, k_law_drawn), (44, 1, 2, k_law_value), (45, 1, 1, k_law_text), (46, 3, 6, k_law_cut), (47, 2, 7, k_law_substr_right), (48, 2, 2, k_law_places), (49, 3, 5, k_law_replaced), (50, 4, 4, k_law_trimmed), (51, 2, 9, k_law_parts_right), (52, 1, 1, k_law_octets), (53, 3, 4, k_law_turned), (54, 1, 5, k_law_signs_right), (55, 2, 4, k_law_nulls_right), (56, 1, 3, k_law_numbers_right), (57, 1, 2, k_law_patterns_right)]
noncomputable def finV (p : Pl) : Option PV → Option (PV × Pl)
  | some v => some (v, p)
  | none => none
noncomputable def fin (r : XR) : Option (PV × Pl) := match r with
  | some x => finV x.2.2 x.1
  | none => none
noncomputable def NN : Md := ⟨3000, true⟩
noncomputable def NQ : Md := ⟨3000, false⟩
/-- the functions that have lists of their own -/
noncomputable def ownKeys : List Nat := [2, 6, 7, 19, 22, 33]
noncomputable def mdOf (k : Nat) : Md := ⟨3000, ownKeys.contains k⟩
noncomputable def runC (call : Orc) (N : Md) (n v : Nat) (c : Ss) (args : List PV) (p : Pl) : Option (PV × Pl) :=
  if args.length = n then fin (xSs call N c (args ++ List.replicate (v - n) .unb) p) else none
noncomputable def optB : Option Bool → Bool
  | some b => b
  | none => false
/-- [-2 ** 63] -/
noncomputable def spA (l : List PV) : Option Bool := one (fun z => intE (fun i => some (i == -9223372036854775808)) none z) l
/-- ['a', 'a', '!!'] -/
noncomputable def spL (l : List PV) : Option Bool := match l with
  | [] => none
  | x :: r => two (fun y z => strE (fun a => strE (fun b => strE (fun c => some (a == ⟨#[97]⟩ && b == ⟨#[97]⟩ && c == ⟨#[33, 33]⟩)) none z) none y) none x) r
noncomputable def special (xs : List PV) : Bool := optB (two (fun x y => strE (fun n => listE (fun l => some ((n == ⟨#[97, 98, 115]⟩ && optB (spA l)) || (n == ⟨#[108, 105, 107, 101]⟩ && optB (spL l)))) none y) none x) xs)
noncomputable def isObj : PV → Bool
  | .obj _ _ => true
  | _ => false
/-- the method takes asks for a part -/
noncomputable def takesF (call : Orc) (xs : List PV) (p : Pl) : Option (PV × Pl) := two (fun x s => match isObj x with
  | true => runC call NQ 2 5 k_takes [x, s] p
  | false => none) xs
noncomputable def partF (xs : List PV) (p : Pl) : Option (PV × Pl) := match xs with
  | [] => none
  | x :: r => match r with
    | [] => some (.obj x .none, p)
    | _ :: _ => one (fun y => some (.obj x y, p)) r
noncomputable def callF (hi : Bool) (call : Orc) (xs : List PV) (p : Pl) : Option (PV × Pl) := match special xs with
  | true => match hi with
    | true => some (.list [], p)
    | false => none
  | false => runC call NQ 2 2 k_law_call xs p
noncomputable def otherF (call : Orc) (k : Nat) (xs : List PV) (p : Pl) : Option (PV × Pl) := match codTab.lookup k with
  | some x => runC call (mdOf k) x.1 x.2.1 x.2.2 xs p
  | none => none
noncomputable def orcF (hi : Bool) (call : Orc) : Orc := fun k xs p => match k with
  | 0 => partF xs p
  | 1 => takesF call xs p
  | 42 => callF hi call xs p
  | k => otherF call k xs p
noncomputable def orc : Nat → Orc
  | 0 => fun _ _ _ => none
  | d + 1 => orcF (Nat.ble 5 d) (orc d)
theorem zip_lookup : ∀ {names : List Str} {vals : List Value} {n : Str}, vals.length = names.length → n ∈ names → ((names.zip vals).lookup n).isSome = true
  | [], _, _, _, m => by cases m
  | x :: names, [], _, h, _ => by simp at h
  | x :: names, v :: vals, n, h, m => by
    rw [List.zip_cons_cons, List.lookup_cons]
    cases hx : n == x with
    | true => rfl
    | false =>
      rcases List.mem_cons.mp m with rfl | m
      · simp at hx
      · exact zip_lookup (by simpa using h) m
theorem zip_filterMap : ∀ {names : List Str} {vals : List Value} (pre : List (Str × Value)), nodupN names = true → vals.length = names.length → (∀ n ∈ names, pre.lookup n = none) →
    names.filterMap (fun n => ((pre ++ names.zip vals).lookup n).map (n, ·)) = names.zip vals
  | [], _, _, _, _, _ => rfl
  | x :: names, [], _, _, h, _ => by simp at h
  | x :: names, v :: vals, pre, nd, h, hp => by
    unfold nodupN at nd
    rw [Bool.and_eq_true, Bool.not_eq_true', List.contains_eq_mem, decide_eq_false_iff_not] at nd
    have lk : ∀ {l l' : List (Str × Value)} {n : Str}, l.lookup n = none → (l ++ l').lookup n = l'.lookup n := fun {l l' n} e => by
      induction l with
      | nil => rfl
      | cons y r ih =>
        obtain ⟨k, u⟩ := y
        rw [List.lookup_cons] at e
        rw [List.cons_append, List.lookup_cons]
        cases hb : n == k with
        | true => rw [hb] at e; cases e
        | false => rw [hb] at e; exact ih e
    rw [List.zip_cons_cons, List.filterMap_cons, lk (hp x List.mem_cons_self), List.lookup_cons, beq_self_eq_true]
    dsimp only [Option.map_some]
    have e : pre ++ (x, v) :: names.zip vals = (pre ++ [(x, v)]) ++ names.zip vals := by simp
    rw [e, zip_filterMap (pre ++ [(x, v)]) nd.2 (by simpa using h) fun n m => ?_]
    rw [lk (hp n (List.mem_cons_of_mem _ m)), List.lookup_cons]
    have : (n == x) = false := by
      rw [beq_eq_false_iff_ne]; rintro rfl; exact nd.1 m
    rw [this]; rfl
theorem bind_snd {s : Shared} {fd : FuncData} {vals : List Value} (h1 : fd.params.posonlyargs = []) (h2 : fd.params.kwonlyargs = []) (h3 : fd.params.vararg = none) (h4 : fd.params.kwarg = none) (nd : nodupN (fd.params.args.map (·.arg)) = true)
    (hl : vals.length = fd.params.args.length) (hd : ∀ (M : Model) (A : Around) (E : Value → Shared → Prop) (Q : Option (Array Value) → Shared → Prop), (∀ o, Q o s) → wpAny M A (seqItems? fd.defaults) Q E s) :
    BindsTo s fd ⟨vals, []⟩ ((fd.params.args.map (·.arg)).zip vals) := fun M A E Q hq => by
  unfold bindArgs
  simp only [h1, h2, h3, h4, List.map_nil, List.nil_append, List.append_nil, List.forIn_nil, pure_bind]
  have hl' : vals.length = (fd.params.args.map (·.arg)).length := by simpa using hl
  generalize fd.params.args.map (·.arg) = names at nd hl' hq ⊢
  refine wpAny_bind (hd M A E _ fun o => ?_)
  have hgt : ¬ (vals.length > names.length) := by omega
  have hmiss : ∀ k, (names.take k).filter (fun n => ((names.zip vals).lookup n).isNone) = [] := fun k => by
    rw [List.filter_eq_nil_iff]
    intro n m
    have := zip_lookup hl' (List.mem_of_mem_take m)
    rw [Option.isNone_iff_eq_none]
    intro e; rw [e] at this; cases this
  have hloop : ∀ (l : List (Str × Value)), (∀ x ∈ l, x.1 ∈ names) → (forIn l (names.zip vals) fun (x : Str × Value) (slots : List (Str × Value)) => (if (slots.lookup x.fst).isNone = true then pure (ForInStep.yield (slots ++ [(x.fst, x.snd)])) else pure (ForInStep.yield slots) : Sem (ForInStep (List (Str × Value))))) = pure (names.zip vals) := fun l hm => by
    induction l with
    | nil => rfl
    | cons x r ih =>
      obtain ⟨n, dv⟩ := x
      rw [List.forIn_cons]
      have := zip_lookup hl' (hm (n, dv) List.mem_cons_self)
      have hn : ((names.zip vals).lookup n).isNone = false := by
        cases e : (names.zip vals).lookup n with
        | none => rw [e] at this; cases this
        | some _ => rfl
      dsimp only
      rw [hn, if_neg Bool.false_ne_true, pure_bind]
      exact ih fun x m => hm x (List.mem_cons_of_mem _ m)
  simp only [hgt, decide_false, Bool.false_and, Bool.false_eq_true, if_false, hmiss, List.isEmpty_nil, Bool.not_true]
  rw [hloop _ (fun x m => ?_), pure_bind]
  · have := zip_filterMap (names := names) (vals := vals) [] nd hl' (fun _ _ => rfl)
    rw [List.nil_append] at this
    rw [this]
    exact wpAny_pure hq
  · obtain ⟨i, hi, rfl⟩ := List.getElem_of_mem m
    rw [List.getElem_zip]
    exact List.mem_of_mem_drop (List.getElem_mem _)
/-! the start of a call -/
noncomputable def pbind : List (Str × PV) → (Str → Option PV) → Str → Option PV
  | [], m => m
  | (n, v) :: r, m => pbind r (fun y => if y = n then some v else m y)
noncomputable def startOf (vars : List (Str × VK)) (names : List Str) (args : List PV) : List PV := vars.map fun x => (pbind (names.zip args) (fun _ => none) x.1).getD .unb
noncomputable def runFn (call : Orc) (N : Md) (f : FnT) (args : List PV) (p : Pl) : Option (PV × Pl) :=
  if args.length = f.params.args.length then fin (xSs call N f.code (startOf (gmOf f.scope).vars (f.params.args.map (·.arg)) args) p) else none
theorem finC {r : XR} {x : PV × Pl} {C : Prop} (h : fin r = some x) (k : ∀ ρ, r = some (some x.1, ρ, x.2) → C) : C := by
  cases r with
  | none => cases h
  | some y =>
    obtain ⟨v, ρ, p⟩ := y
    cases v with
    | none => cases h
    | some v =>
      have h := Option.some.inj h
      rw [← h] at k
      exact k ρ rfl
noncomputable def isLC : NameKind → Bool
  | .local => true
  | .cell => true
  | _ => false
noncomputable def isG : NameKind → Bool
  | .globalImplicit => true
  | _ => false
/-- what is asked of a function's frame -/
noncomputable def fnOk (f : FnT) : Bool :=
  f.scope.kind == .function && !f.scope.isGenerator && !f.scope.isCoroutine && nodupN (f.scope.names.map (·.1)) && f.scope.names.all (fun x => (isLC x.2 || isG x.2) && !(x.1 == Str.ofString "__debug__")) &&
  f.params.posonlyargs.isEmpty && f.params.kwonlyargs.isEmpty && f.params.vararg.isNone && f.params.kwarg.isNone && nodupN (f.params.args.map (·.arg)) &&
  (f.params.args.map (·.arg)).all (fun n => match f.scope.names.lookup n with | some k => isLC k | none => false)
noncomputable def OR (g : Cfg) (B : Bm) : Option Value → Option PV → Prop
  | none, none => True
  | some v, some z => Rd g B v z
  | _, _ => False
theorem bindL_rel {g : Cfg} {B : Bm} {kindOf : Str → Option NameKind} {x : Str} (hx : kindOf x = some .local) : ∀ {names : List Str} {vals : List Value} {args : List PV} {m : Str → Option Value} {mz : Str → Option PV}, RdL g B vals args → OR g B (m x) (mz x) →
    OR g B (bindL kindOf (names.zip vals) m x) (pbind (names.zip args) mz x)
  | [], _, _, _, _, _, h => h
  | n :: names, [], args, m, mz, hr, h => by
    have : args = [] := by have := hr.1; simpa using this.symm
    subst this; exact h
  | n :: names, v :: vals, [], m, mz, hr, h => by have := hr.1; simp at this
  | n :: names, v :: vals, z :: args, m, mz, hr, h => by
    show OR g B (bindL kindOf (names.zip vals) (if kindOf n = some .local then fun y => if y = n then some v else m y else m) x) (pbind (names.zip args) (fun y => if y = n then some z else mz y) x)
    refine bindL_rel hx hr.tail ?_
    by_cases q : kindOf n = some .local
    · rw [if_pos q]
      by_cases e : x = n
      · simp only [e, if_true]; exact hr.head
      · simp only [e, if_false]; exact h
    · rw [if_neg q]
      have e : x ≠ n := fun e => q (e ▸ hx)
      simp only [e, if_false]; exact h
theorem bindC_rel {g : Cfg} {B : Bm} {kindOf : Str → Option NameKind} {x : Str} (hx : ¬ kindOf x = some .local) : ∀ {names : List Str} {vals : List Value} {args : List PV} {m : Str → Option Value} {mz : Str → Option PV}, RdL g B vals args → OR g B (m x) (mz x) →
    OR g B (bindC kindOf (names.zip vals) m x) (pbind (names.zip args) mz x)
  | [], _, _, _, _, _, h => h
  | n :: names, [], args, m, mz, hr, h => by
    have : args = [] := by have := hr.1; simpa using this.symm
    subst this; exact h
  | n :: names, v :: vals, [], m, mz, hr, h => by have := hr.1; simp at this
  | n :: names, v :: vals, z :: args, m, mz, hr, h => by
    show OR g B (bindC kindOf (names.zip vals) (if kindOf n = some .local then m else fun y => if y = n then some v else m y) x) (pbind (names.zip args) (fun y => if y = n then some z else mz y) x)
    refine bindC_rel hx hr.tail ?_
    by_cases q : kindOf n = some .local
    · rw [if_pos q]
      have e : x ≠ n := fun e => hx (e ▸ q)
      simp only [e, if_false]; exact h
    · rw [if_neg q]
      by_cases e : x = n
      · simp only [e, if_true]; exact hr.head
      · simp only [e, if_false]; exact h
theorem cellsFrom_some {x : Str} : ∀ (names : List (Str × NameKind)) (n : Nat) (acc : List (Str × Addr)), ((x, NameKind.cell) ∈ names ∨ (acc.lookup x).isSome = true) → ((cellsFrom n names acc).lookup x).isSome = true
  | [], n, acc, h => by
    rcases h with h | h
    · cases h
    · exact h
  | (y, k) :: r, n, acc, h => by
    unfold cellsFrom
    split
    · rename_i hk
      refine cellsFrom_some r _ _ ?_
      rcases h with h | h
      · rcases List.mem_cons.mp h with e | h
        · cases e; right; rw [List.lookup_cons, beq_self_eq_true]; rfl
        · exact .inl h
      · right
        rw [List.lookup_cons]
        split
        · rfl
        · exact h
    · rename_i hk
      refine cellsFrom_some r _ _ ?_
      rcases h with h | h
      · rcases List.mem_cons.mp h with e | h
        · cases e; exact absurd rfl hk
        · exact .inl h
      · exact .inr h
structure FnK (f : FnT) : Prop where
  kind : f.scope.kind = .function
  gen : f.scope.isGenerator = false
  co : f.scope.isCoroutine = false
  nd : nodupN (f.scope.names.map (·.1)) = true
  kinds : ∀ x ∈ f.scope.names, (x.2 = .local ∨ x.2 = .cell ∨ x.2 = .globalImplicit) ∧ (x.1 == Str.ofString "__debug__") = false
  po : f.params.posonlyargs = []
  ko : f.params.kwonlyargs = []
  va : f.params.vararg = none
  ka : f.params.kwarg = none
  pn : nodupN (f.params.args.map (·.arg)) = true
  pk : ∀ n ∈ f.params.args.map (·.arg), f.scope.names.lookup n = some .local ∨ f.scope.names.lookup n = some .cell
theorem fnOk_inv {f : FnT} (h : fnOk f = true) : FnK f := by
  unfold fnOk at h
  simp only [Bool.and_eq_true, List.all_eq_true, Bool.not_eq_true', List.isEmpty_iff, Option.isNone_iff_eq_none] at h
  obtain ⟨⟨⟨⟨⟨⟨⟨⟨⟨⟨h1, h2⟩, h3⟩, h4⟩, h5⟩, h6⟩, h7⟩, h8⟩, h9⟩, h10⟩, h11⟩ := h
  refine ⟨eq_of_beq h1, h2, h3, h4, fun x m => ⟨?_, (h5 x m).2⟩, h6, h7, h8, h9, h10, fun n m => ?_⟩
  · have := (h5 x m).1
    cases hk : x.2 <;> rw [hk] at this <;> simp [isLC, isG] at this ⊢
  · have := h11 n m
    cases hk : f.scope.names.lookup n with
    | none => rw [hk] at this; cases this
    | some k => rw [hk] at this; cases k <;> simp [isLC] at this ⊢
/-- the activation of a call -/
noncomputable def callAct (f : FnT) (env : Env) (h0 : Heap) (F : List Addr) : Act := ⟨env, h0, (gmOf f.scope).names, (gmOf f.scope).vars, F⟩
theorem gmVars_mem {sc : Scope} {x : Str} {k : VK} (m : (x, k) ∈ (gmOf sc).vars) : (k = .loc ∧ (x, NameKind.local) ∈ sc.names) ∨ (k = .cell ∧ (x, NameKind.cell) ∈ sc.names) := by
  unfold gmOf at m
  obtain ⟨y, my, e⟩ := List.mem_filterMap.mp m
  obtain ⟨n, kk⟩ := y
  cases kk <;> simp at e
  · obtain ⟨rfl, rfl⟩ := e; exact .inl ⟨rfl, my⟩
  · obtain ⟨rfl, rfl⟩ := e; exact .inr ⟨rfl, my⟩
theorem gmVars_nodup : ∀ {l : List (Str × NameKind)}, nodupN (l.map (·.1)) = true → nodupN ((l.filterMap fun x => match x.2 with | .local => some (x.1, VK.loc) | .cell => some (x.1, VK.cell) | _ => none).map (·.1)) = true
  | [], _ => rfl
  | (n, k) :: r, h => by
    rw [List.map_cons] at h
    unfold nodupN at h
    rw [Bool.and_eq_true] at h
    have ih := gmVars_nodup h.2
    have key : ∀ vk : VK, nodupN (((n, vk) :: r.filterMap fun x => match x.2 with | .local => some (x.1, VK.loc) | .cell => some (x.1, VK.cell) | _ => none).map (·.1)) = true := fun vk => by
      rw [List.map_cons]
      unfold nodupN
      rw [Bool.and_eq_true]
      refine ⟨?_, ih⟩
      have h1 : (!(r.map (·.1)).contains n) = true := h.1
      rw [Bool.not_eq_true', List.contains_eq_mem, decide_eq_false_iff_not] at h1 ⊢
      intro m
      obtain ⟨z, mz, e⟩ := List.mem_map.mp m
      obtain ⟨y, my, ey⟩ := List.mem_filterMap.mp mz
      refine h1 ?_
      obtain ⟨yn, yk⟩ := y
      have : yn = n := by
        cases yk <;> simp at ey <;> (rw [← ey] at e; exact e)
      rw [← this]
      exact List.mem_map_of_mem (f := (·.1)) my
    rw [List.filterMap_cons]
    cases k <;> first | exact key _ | exact ih
section
variable {b0 : Heap} {g : Cfg} {prog : Program} {w : World} {d : Nat} {c : Act} {call : Orc} {N : Md} {fa : Nat → Addr}
theorem start_inv {f : FnT} (F : FnK f) {s s' : Shared} {B : Bm} {p : Pl} {env : Env} {vals : List Value} {args : List PV} (K : Kp b0 g B p s.heap) (hsc : env.scope = f.scope) (hgl : env.globals = mainGlobals) (hbl : env.builtins = builtinsNs)
    (hcl : ∀ x, (x, NameKind.cell) ∈ f.scope.names → (env.cells.lookup x).isSome = true) (hr : RdL g B vals args) {F' : List Addr} (hF : ∀ a ∈ F', (∃ o es n, s.heap.get? a = some o ∧ o.data = .dict es n) ∧ B a = none ∧ g.P ≠ some a)
    (x : InCallC s env.locals (bindL env.kindOf ((f.params.args.map (·.arg)).zip vals) fun _ => none) env.cells (bindC env.kindOf ((f.params.args.map (·.arg)).zip vals) fun _ => none) s') :
    Inv b0 g (callAct f env s.heap F') (env.locals :: f.scope.names.filterMap fun x => env.cells.lookup x.1) B (startOf (gmOf f.scope).vars (f.params.args.map (·.arg)) args) p s'.heap := by
  have hlk : ∀ y, env.kindOf y = f.scope.names.lookup y := fun y => by show env.scope.names.lookup y = _; rw [hsc]
  have keep := x.toInCall.keep
  have get : ∀ {i : Nat} {y : Str} {k : VK}, (gmOf f.scope).vars[i]? = some (y, k) → (k = .loc ∧ f.scope.names.lookup y = some .local ∧ (y == Str.ofString "__debug__") = false) ∨ (k = .cell ∧ f.scope.names.lookup y = some .cell ∧ (y, NameKind.cell) ∈ f.scope.names ∧ (y == Str.ofString "__debug__") = false) := fun {i y k} e => by
    rcases gmVars_mem (List.mem_of_getElem? e) with ⟨rfl, m⟩ | ⟨rfl, m⟩
    · exact .inl ⟨rfl, nodupN_lookup F.nd m, (F.kinds _ m).2⟩
    · exact .inr ⟨rfl, nodupN_lookup F.nd m, m, (F.kinds _ m).2⟩
  have val : ∀ {i : Nat} {y : Str} {k : VK} {z : PV}, (gmOf f.scope).vars[i]? = some (y, k) → (startOf (gmOf f.scope).vars (f.params.args.map (·.arg)) args)[i]? = some z →
      z = (pbind ((f.params.args.map (·.arg)).zip args) (fun _ => none) y).getD .unb := fun {i y k z} e1 e2 => by
    unfold startOf at e2
    rw [List.getElem?_map, e1] at e2
    exact (Option.some.inj e2).symm
  have toVal : ∀ {v? : Option Value} {z? : Option PV}, OR g B v? z? → Val g B v? (z?.getD .unb) := fun {v? z?} o => by
    cases v? with
    | none => cases z? with
      | none => rfl
      | some z => exact o.elim
    | some v => cases z? with
      | none => exact o.elim
      | some z =>
        have o : Rd g B v z := o
        show Val g B (some v) z
        cases o <;> exact ⟨_, rfl, by constructor <;> assumption⟩
  have notOwn : ∀ (i : Nat) (z : PV), (startOf (gmOf f.scope).vars (f.params.args.map (·.arg)) args)[i]? = some z → z.isOwn = false := fun i z e => by
    have hi : i < (gmOf f.scope).vars.length := by
      have := (List.getElem?_eq_some_iff.mp e).1
      unfold startOf at this; rwa [List.length_map] at this
    cases hv : (gmOf f.scope).vars[i] with
    | mk y k =>
      have e1 : (gmOf f.scope).vars[i]? = some (y, k) := by rw [List.getElem?_eq_getElem hi, hv]
      rw [val e1 e]
      have o : OR g B (bindL (fun _ => some .local) ((f.params.args.map (·.arg)).zip vals) (fun _ => none) y) (pbind ((f.params.args.map (·.arg)).zip args) (fun _ => none) y) := bindL_rel rfl hr trivial
      have := toVal o
      cases hz : (pbind ((f.params.args.map (·.arg)).zip args) (fun _ => none) y).getD .unb with
      | own xs => rw [hz] at this; obtain ⟨_, _, r⟩ := this; cases r
      | ownb xs => rw [hz] at this; obtain ⟨_, _, r⟩ := this; cases r
      | _ => rfl
  have fresh : ∀ a, s.heap.objs.size ≤ a → s.heap.get? a = none := fun a ha => by
    cases e : s.heap.get? a with
    | none => rfl
    | some o' => exact absurd (Heap.lt_size e) (Nat.not_lt.mpr ha)
  have hLn : s.heap.get? env.locals = none := fresh _ x.toInCall.fresh
  have hcn : ∀ n a, (n, a) ∈ env.cells → s.heap.get? a = none := fun n a m => fresh _ (Nat.le_of_lt (Nat.lt_of_le_of_lt x.toInCall.fresh (x.above n a m)))
  have nP : ∀ {a : Addr}, s.heap.get? a = none → g.P ≠ some a := fun {a} e q => by
    obtain ⟨t, u, n, e'⟩ := K.pool a q
    rw [e] at e'; cases e'
  have kp : Keep B s'.heap := fun a o e => keep a o (K.keep a o e)
  refine ⟨⟨?_, hgl, hbl, fun i y e => ?_, fun i y e => ?_, fun i y e => ?_, fun y e => ?_, fun y z a e1 e2 => name_of_addr x.apart (mem_of_lookup e1) (mem_of_lookup e2), fun i j y k k' e1 e2 => ?_, fun i y k e => ?_, fun a m => (hF a m).1⟩,
    K.base, kp, K.pool.grow keep, fun a o e _ => .inl (keep a o e), fun a o e => ⟨o, keep a o e⟩, fun a m => ?_, List.mem_cons_self, ⟨_, fun _ => 0, x.toInCall.ns, fun i y z e1 e2 => ?_, fun i j zi zj e1 _ o1 => ?_⟩, fun i y k z e1 nl e2 => ?_, ?_, K.pB, fun a m => (hF a m).2⟩
  · show env.scope.kind = .function; rw [hsc]; exact F.kind
  · rcases get e with ⟨_, h, _⟩ | ⟨q, _⟩
    · exact (hlk y).trans h
    · cases q
  · rcases get e with ⟨q, _⟩ | ⟨_, h, _⟩
    · cases q
    · exact (hlk y).trans h
  · rcases get e with ⟨q, _⟩ | ⟨q, _⟩ <;> cases q
  · exact (hlk y).trans e
  · have hnd := gmVars_nodup F.nd
    refine nodupN_get (l := (gmOf f.scope).vars.map (·.1)) hnd (x := y) ?_ ?_
    · have e1 : (gmOf f.scope).vars[i]? = some (y, k) := e1
      rw [List.getElem?_map, e1]; rfl
    · have e2 : (gmOf f.scope).vars[j]? = some (y, k') := e2
      rw [List.getElem?_map, e2]; rfl
  · rcases get e with ⟨_, _, h⟩ | ⟨_, _, _, h⟩ <;> exact h
  · rcases List.mem_cons.mp m with rfl | m
    · obtain ⟨oL, _, _, hoL, _⟩ := x.toInCall.ns
      exact ⟨hLn, K.keep.fresh hLn, nP hLn, oL, hoL⟩
    · obtain ⟨⟨n, k⟩, _, hz⟩ := List.mem_filterMap.mp m
      have hn := hcn n a (mem_of_lookup hz)
      obtain ⟨oc, hoc, _⟩ := x.cell n a hz
      exact ⟨hn, K.keep.fresh hn, nP hn, oc, hoc⟩
  · rcases get e1 with ⟨_, h, _⟩ | ⟨q, _⟩
    · rw [val e1 e2]
      exact LocOk.of_val (toVal (bindL_rel ((hlk y).trans h) hr trivial))
    · cases q
  · rw [notOwn i zi e1] at o1; cases o1
  · rcases get e1 with ⟨rfl, _⟩ | ⟨rfl, h, m, _⟩
    · exact absurd rfl nl
    · obtain ⟨a, ha⟩ := Option.isSome_iff_exists.mp (hcl y m)
      have hn := hcn y a (mem_of_lookup ha)
      refine ⟨a, _, ha, x.cell y a ha, ?_, fun _ => ?_, nP hn⟩
      · rw [val e1 e2]
        exact toVal (bindC_rel (fun q => by rw [hlk, h] at q; cases q) hr trivial)
      · exact List.mem_cons_of_mem _ (List.mem_filterMap.mpr ⟨_, m, ha⟩)
  · unfold startOf; rw [List.length_map]; rfl
/-- a function of the program, in the base -/
noncomputable def FnAt (b0 : Heap) (a : Addr) (f : FnT) : Prop := ∃ o fd, b0.get? a = some o ∧ o.data = .func fd ∧ fd.params = f.params ∧ fd.body = .stmts f.body ∧ fd.scope = f.scope ∧ fd.globals = mainGlobals ∧ fd.closure = [] ∧ fd.builtins = builtinsNs ∧
  b0.CodeRec fd.code fd.qualname ∧ (fd.defaults = .none ∨ ∃ T oT items n, fd.defaults = .ref T ∧ b0.get? T = some oT ∧ oT.data = .seq items n)
theorem seq_none {M : Model} {A : Around} {E : Value → Shared → Prop} {s : Shared} {Q : Option (Array Value) → Shared → Prop} (h : Q none s) : wpAny M A (seqItems? .none) Q E s := by
  unfold seqItems?
  dsimp only
  refine wpAny_bind ?_
  unfold notAStandIn
  exact wpAny_pure (wpAny_pure h)
/-- entering a function of the program -/
theorem fn_go (lim : b0.NoLimit) {f : FnT} (F : FnK f) {a : Addr} (hf : FnAt b0 a f)
    {A : Around} {s : Shared} {B : Bm} {p : Pl} {xs : List PV} {vs : List Value} (R : Room (d + 1) A) (ff : FF g B A s.heap) (K : Kp b0 g B p s.heap) (hr : RdL g B vs xs) (ht : 1 ≤ s.toks) (hlen : xs.length = f.params.args.length) {Q E : Value → Shared → Prop}
    (hQ : ∀ env h0 tk l, A.frames = some l → RoomC d (callAct f env s.heap (l.filterMap (·.frame))) (A.deeper env) → Inv b0 g (callAct f env s.heap (l.filterMap (·.frame))) (env.locals :: f.scope.names.filterMap fun x => env.cells.lookup x.1) B (startOf (gmOf f.scope).vars (f.params.args.map (·.arg)) xs) p h0 → 1 ≤ tk →
      (∀ a o, s.heap.get? a = some o → h0.get? a = some o) → (∀ x, (x, NameKind.cell) ∈ f.scope.names → (env.cells.lookup x).isSome = true) → env.scope = f.scope → env.frame = some env.locals →
      wpE (model prog w) (A.deeper env) (execs f.body env) (fun fl s' => Q (flowVal fl) s') (fun e s' => wpE (model prog w) (A.deeper env) (leaving env e) (fun _ s'' => E e s'') (fun e' s'' => E e' s'') s') (upd s h0 tk)) :
    wpE (model prog w) A (PySem.call (.ref a) vs) Q E s := by
  obtain ⟨o, fd, ho, hd, hpar, hbody, hsc, hgl, hclo, hbl, hcode, hdef⟩ := hf
  refine X.call (X.callFn (Nat.lt_of_le_of_lt (Nat.le_trans (Nat.le_add_right ..) (Nat.le_add_right _ 8)) R.depth) (K.heap _ _ ho) hd (by rw [hsc]; exact F.co) (by rw [hsc]; exact F.gen) hbody (hcode.keeps K.heap) ?_)
  refine G.any (bind_snd (s := s) (fd := fd) (vals := vs) (by rw [hpar]; exact F.po) (by rw [hpar]; exact F.ko) (by rw [hpar]; exact F.va) (by rw [hpar]; exact F.ka) (by rw [hpar]; exact F.pn) (by rw [hpar, hr.1, hlen]) (fun M A E Q hQ => by
    rcases hdef with h | ⟨T, oT, items, n, h, hT, hdT⟩
    · rw [h]; exact seq_none (hQ _)
    · rw [h]; exact wpAny_seqItems (K.heap _ _ hT) hdT (hQ _)) _ _ _ _ ?_)
  rw [hclo, hpar]
  refine G.toks (n := 1) ht (G.any (wpAny_newFunctionEnv_cells (by rw [hsc]; exact F.kind) (fun x m => ?_) fun env he s' x ht' => ?_))
  · obtain ⟨i, hi, rfl⟩ := List.getElem_of_mem m
    rw [List.getElem_zip, hsc]
    exact (F.pk _ (List.getElem_mem _)).elim .inl fun h => .inr ⟨h, cellsFrom_some _ _ _ (.inl (mem_of_lookup h))⟩
  · have hes : env.scope = f.scope := by rw [he]; exact hsc
    obtain ⟨l, hl, hlm⟩ := ff
    have hce : ∀ y, (y, NameKind.cell) ∈ f.scope.names → (env.cells.lookup y).isSome = true := fun y m => by rw [he]; exact cellsFrom_some _ _ _ (.inl (hsc ▸ m))
    have hef : env.frame = some env.locals := by rw [he]; rfl
    have I := start_inv F K hes (by rw [he]; exact hgl) (by rw [he]; exact hbl) hce hr (F' := l.filterMap (·.frame)) (fun a m => by
      obtain ⟨env', m', e'⟩ := List.mem_filterMap.mp m
      obtain ⟨_, L, o, es, n, q1, q2, q3, q4, q5⟩ := hlm env' m'
      rw [← Option.some.inj (q1.symm.trans e')]
      exact ⟨⟨o, es, n, q2, q3⟩, q4, q5⟩) x
    refine ⟨(lim.keeps K.heap).keeps x.toInCall.keep, X.func ?_⟩
    obtain ⟨h1, tk1, e1⟩ := x.toInCall.same
    have keep := x.toInCall.keep
    rw [e1] at I ht' keep ⊢
    exact hQ env h1 tk1 l hl ⟨R.deeper, env :: l, Around.frames_deeper hl, fun e m => (List.mem_cons.mp m).elim (fun q => by rw [q]; exact ⟨fun z => (by rw [hes, F.kind] at z; cases z), env.locals, hef, .inl rfl⟩) fun m => by
        obtain ⟨k, L, o, es, n, q1, _⟩ := hlm e m
        exact ⟨k, L, q1, .inr (List.mem_filterMap.mpr ⟨e, m, q1⟩)⟩⟩ I ht' keep hce hes hef
theorem fn_enter (lim : b0.NoLimit) {f : FnT} (F : FnK f) {a : Addr} (hf : FnAt b0 a f)
    {A : Around} {s : Shared} {B : Bm} {p : Pl} {xs : List PV} {vs : List Value} (R : Room (d + 1) A) (ff : FF g B A s.heap) (K : Kp b0 g B p s.heap) (hr : RdL g B vs xs) (ht : 1 ≤ s.toks) (hlen : xs.length = f.params.args.length) {Q : Value → Shared → Prop}
    (hQ : ∀ env h0 tk L, RoomC d (callAct f env s.heap L) (A.deeper env) → Inv b0 g (callAct f env s.heap L) (env.locals :: f.scope.names.filterMap fun x => env.cells.lookup x.1) B (startOf (gmOf f.scope).vars (f.params.args.map (·.arg)) xs) p h0 → 1 ≤ tk →
      (∀ a o, s.heap.get? a = some o → h0.get? a = some o) → (∀ x, (x, NameKind.cell) ∈ f.scope.names → (env.cells.lookup x).isSome = true) →
      wpG (model prog w) (A.deeper env) (execs f.body env) (fun fl s' => Q (flowVal fl) s') (upd s h0 tk)) :
    wpG (model prog w) A (PySem.call (.ref a) vs) Q s :=
  fn_go lim F hf R ff K hr ht hlen fun env h0 tk l _ R' I ht' keep hce _ _ => X.mono (hQ env h0 tk _ R' I ht' keep hce) (fun _ _ h => h) fun _ _ h => h.elim
theorem fn_snd (W : Wd b0 g prog w fa) (H : CallOk b0 g prog w fa d call) (hobj : ∀ xs p r, call fTakes xs p = some r → ∃ k sgn l, xs = .obj k sgn :: l) {f : FnT} (F : FnK f) {a : Addr} (hf : FnAt b0 a f)
    {A : Around} {s : Shared} {B : Bm} {p p' : Pl} {xs : List PV} {r : PV} {vs : List Value} (R : Room (d + 1) A) (ff : FF g B A s.heap) (K : Kp b0 g B p s.heap) (hr : RdL g B vs xs) (ht : 1 ≤ s.toks) (q : runFn call N f xs p = some (r, p')) :
    wpG (model prog w) A (PySem.call (.ref a) vs) (Ok g B s p' r) s :=
  iteD q (fun hlen q => finC q fun ρ' hx => fn_enter W.lim F hf R ff K hr ht hlen fun env h0 tk L R' I ht' keep _ =>
    G.mono ((cS_snd (N := N) (c := callAct f env s.heap L) W H hobj (Γ := gmOf f.scope) rfl rfl 100).2 f.body (A.deeper env) (upd s h0 tk) _ B _ p _ R' I ht' hx) fun fl s'' k => by
      cases k with
      | mk Y I' ht2 hu =>
        obtain ⟨u, hu, ru⟩ := hu
        rw [hu]
        exact .mk (s := s) ((Evo.grow K.keep K.pool keep).strans Y (fun a m => (I.prv a m).1) I'.keep I'.pool) ru ht2) noneN
end
noncomputable abbrev rwL : OpenLaw := PySem.Challenge.rw_nt0115_01
noncomputable abbrev Xtr (_ : Str → Option Value) (_ : Heap) : Prop := True
/-- what the head leaves -/
structure Gd (w : World) (s : Shared) : Prop where
  ground : Ground qv lv [] Xtr w s (s.heap.nsMap mainGlobals) (s.heap.nsMap builtinsNs) s.heap
  seen : obs s = want w
noncomputable def MainT : Prop := ∀ (w : World) (s s₁ : Shared) (l f : Addr) (vals : List Value) (xs : List Int), Gd w s → (∀ b o, s.heap.get? b = some o → s₁.heap.get? b = some o) → 1 ≤ s₁.toks →
  s₁.heap.get? l = some { cls := .type "list", data := .seq vals.toArray } → vals.length = xs.length → (∀ (i : Nat) v x, vals[i]? = some v → xs[i]? = some x → ∃ t, v = .int x t) → xs.length ≤ 63 →
  s.heap.nsMap mainGlobals (Str.ofString "law") = some (.ref f) →
  wpG (model pw w) callerA (PySem.call (.ref f) [.ref l]) (fun v s' => v = .bool true ∧ (∀ b o, s₁.heap.get? b = some o → s'.heap.get? b = some o) ∧ s'.os = s₁.os ∧ s'.gens = s₁.gens) s₁
theorem cleanCaller : Clean ⟨.builtin "claim.caller" {}, none, none, [], none⟩ := ⟨fun _ _ => rfl, fun x m => nomatch m⟩
theorem ends_G {w : World} {t : Sem PySem.Fin} {s : Shared} {R : Result → Shared → Prop} (hreg : s.asleep) (h : wpG (model pw w) callerA t (fun fin s' => ∃ f, fin = .done f ∧ (R (.ok f) s' ∧ leftWithCleanup s'.gens = false)) s) :
    ∃ n r s' s'', runN (denote table) pw w n s ⟨t, .builtin "claim.caller" {}, default, []⟩ = .halted (outcomeOf r) s' ∧ schedN (denote table) pw w n (.single s ⟨t, .builtin "claim.caller" {}, default, []⟩) = .halted (outcomeOf r) s' ∧ s'.forget = s''.forget ∧ R r s'' := by
  have := wp_halts_full (M := model pw w) (c := .builtin "claim.caller" {}) (t := t) (p := default) (R := R) hreg (Sem.wp_mono (model pw w) _ t (fun fin p' s' ⟨f, e, h⟩ => by subst e; exact h) (fun _ _ _ h => h.elim) default s (h _ default caller_in cleanCaller))
  obtain ⟨n, r, s₁, s₂, hs, hn, hfo, hR⟩ := this
  exact ⟨n, r, s₂, s₁, hn, hs, hfo, hR⟩
theorem hasI {R : WRecords} {d : WData} {ds : List WData} (h : WShape.hasItems R (d :: ds) .int = true) : (∃ i, d = .int i) ∧ WShape.hasItems R ds .int = true := by
  obtain ⟨h1, h2⟩ := and_inv h
  refine ⟨?_, h2⟩
  cases d <;> first | exact ⟨_, rfl⟩ | exact Bool.noConfusion (show false = true from h1)
noncomputable def Ints (vs : List Value) (xs : List Int) : Prop := ∀ (i : Nat) v x, vs[i]? = some v → xs[i]? = some x → ∃ t, v = .int x t
theorem lay_ints {R : WRecords} {cl : Str → Option Addr} {P : Params} {ord : List DictEntry → List DictEntry} : ∀ {ds : List WData} {s : Shared} {r : List Value × Shared}, layAllW R cl P ord ds s = some r → WShape.hasItems R ds .int = true →
    ∃ xs : List Int, r.1.length = xs.length ∧ ds.length = xs.length ∧ Ints r.1 xs
  | [], s, r, h, _ => by rw [← Option.some.inj h]; exact ⟨[], rfl, rfl, fun i v x e => nomatch e⟩
  | d :: ds, s, r, h, hi => by
    obtain ⟨a, q, ha, hq, rfl⟩ := layAllW_cons h
    obtain ⟨⟨z, e⟩, hi⟩ := hasI hi
    obtain ⟨xs, h1, h2, h3⟩ := lay_ints hq hi
    rw [e] at ha
    have ha : some (Value.int z s.toks, _) = some a := ha
    rw [← Option.some.inj ha]
    exact ⟨z :: xs, congrArg (· + 1) h1, congrArg (· + 1) h2, fun i v x e1 e2 => by
      cases i with
      | zero => cases e1; cases e2; exact ⟨_, rfl⟩
      | succ i => exact h3 i v x e1 e2⟩
theorem okq : (chainsOk qv && opensWell pw && (frees rwL.row.toRowW && rwL.row.within.isEmpty)) = true := by decide +kernel
theorem bareq : pw.bare := ⟨rfl, rfl, rfl, rfl, rfl, by decide +kernel⟩
theorem saidq : rwL.wellSaid = true := by decide +kernel
theorem promq : rwL.row.toRowW.promised := ⟨[.list []], by decide +kernel, by decide +kernel⟩
theorem len63 {ds : List WData} (h : rwL.row.pre.holds [] { args := [.list ds] } = true) : ds.length ≤ 63 := by
  rcases Nat.lt_or_ge 63 ds.length with q | q
  · exfalso
    have e : rwL.row.pre.value [] { args := [.list ds] } = some (.bool false) := by
      show WTm.value [] (.and (.not (.lt (.lit (.int (63 : Nat))) (.len (.arg 0)))) (.lit (.bool true))) _ = _
      have h1 : WTm.value [] (.lt (.lit (.int (63 : Nat))) (.len (.arg 0))) { args := [.list ds] } = some (.bool true) := by
        show Option.map WData.bool (some (decide ((63 : Int) < (ds.length : Int)))) = _
        rw [decide_eq_true (by omega)]; rfl
      have h2 : WTm.value [] (.not (.lt (.lit (.int (63 : Nat))) (.len (.arg 0)))) { args := [.list ds] } = some (.bool false) := by
        unfold WTm.value; rw [h1]; rfl
      unfold WTm.value; rw [h2]
    unfold WTm.holds at h
    rw [e] at h
    cases h
  · exact q
noncomputable def lawD : DefRec := match (pw.main.body[78]? : Option Stmt) with
  | some (.FunctionDef n a b _ _ _ sc _ _ pos) => ⟨n, a, b, sc, pos⟩
  | _ => ⟨Str.ofString "", ⟨[], [], none, [], [], none, []⟩, [], pw.main.scope, default⟩
theorem defq : defOf qv (Str.ofString "law") = some (lawD, []) := by kernel_rfl
theorem theq : pw.theDef (Str.ofString "law") = some (lawD.params, lawD.body, lawD.scope) := by kernel_rfl
theorem kwq : kwWritten? lawD.params.kwonlyargs lawD.params.kw_defaults = some [] := by kernel_rfl
theorem post_true (ds : List WData) : rwL.row.toRowW.claim.post [.list ds] (.bool true) [.list ds] = true := by
  show (WShape.has [] (.bool true) .bool && WTm.holds [] (.eq .res (.lit (.bool true))) { args := [.list ds], res := some (.bool true), after := [.list ds] }) = true
  have h : WTm.value [] (.eq .res (.lit (.bool true))) { args := [.list ds], res := some (.bool true), after := [.list ds] } = some (.bool true) := by
    simp [WTm.value, same]
  unfold WTm.holds
  rw [h]
  decide +kernel
theorem has_list {d : WData} (h : WShape.has [] d (.list .int) = true) : ∃ ds, d = .list ds ∧ WShape.hasItems [] ds .int = true := by
  cases d <;> first | exact ⟨_, rfl, (Bool.or_false _).symm.trans h⟩ | exact Bool.noConfusion (show false = true from h)
theorem chainq : chainsOk qv = true := (and_inv (and_inv okq).1).1
theorem freeq : frees rwL.row.toRowW = true := (and_inv (and_inv okq).2).1
theorem identq : ∀ a b : List Whence, rwL.row.toRowW.claim.ident a b = true := let ⟨_, hu, ha, hap, _⟩ := frees_parts freeq; ident_freeW hu ha hap
theorem sameq : rwL.row.same = none := (frees_parts freeq).1
/-- the argument, laid -/
structure LaidL (ds : List WData) (s₁ : Shared) (vs : List Value) (l : Addr) (vals : List Value) (xs : List Int) : Prop where
  vs : vs = [.ref l]
  at' : s₁.heap.get? l = some { cls := .type "list", data := .seq vals.toArray }
  len : vals.length = xs.length
  len2 : ds.length = xs.length
  its : Ints vals xs
theorem lay_law {R : WRecords} {cl : Str → Option Addr} {P : Params} {ord : List DictEntry → List DictEntry} {ds : List WData} {s : Shared} {r : List Value × Shared} (h : layAllW R cl P ord [.list ds] s = some r) (h3 : WShape.hasItems R ds .int = true) : ∃ l vals xs, LaidL ds r.2 r.1 l vals xs := by
  obtain ⟨a1, q, e1, e2, e3⟩ := layAllW_cons h
  obtain ⟨q2, e4, e5⟩ := layW_list e1
  obtain ⟨xs, i1, i2, i3⟩ := lay_ints e4 h3
  rw [e3, ← Option.some.inj e2, e5]
  exact ⟨_, q2.1, xs, rfl, Heap.get?_push_size _ rfl, i1, i2, i3⟩
section
variable {w : World} {s s₁ : Shared} {ds : List WData} {l a : Addr} {vals : List Value} {xs : List Int} {vs : List Value} {as : List Addr}
theorem law_run (main : MainT) (Y : Gd w s) (hz : s.asleep) (hg : s.heap.isNs mainGlobals = true) (hgens : s.gens = #[]) (L : Laid rwL.row.toRowW.records w s s₁ [.list ds] vs as) (X : LaidL ds s₁ vs l vals xs) (keep : ∀ b o, s.heap.get? b = some o → s₁.heap.get? b = some o) (toks : s.toks ≤ s₁.toks) (hal : PyData.Alike s s₁)
    (h63 : ds.length ≤ 63) (f1 : s.heap.nsMap mainGlobals (Str.ofString "law") = some (.ref a)) {Z : Prop}
    (k : ∀ n s2, schedN (denote table) pw w n (.single s₁ ⟨do match ← nsGet mainNs (Str.ofString "law") with
      | some f => do ret (← PySem.call f vs)
      | none => unsupported "claim.caller:no-such-global", .builtin "claim.caller" {}, default, []⟩) = .halted (.done (.ret (.bool true))) s2 → rwL.row.toRowW.claim.Ends s [.list ds] vs s₁ (.ok (.ret (.bool true))) s2 → s2.os = s.os → s2.heap.life = s.heap.life → Z) : Z := by
  have hto : 1 ≤ s.toks := of_decide_eq_true (congrArg Prod.fst Y.seen)
  have key := main w s s₁ l a vals xs Y keep (Nat.le_trans hto toks) X.at' X.len X.its (X.len2 ▸ h63) f1
  have hg1 : s₁.gens = #[] := hal.1.trans hgens
  rw [X.vs] at k L
  obtain ⟨n, r, s2, s3, hrun, hsched, hfo, ⟨hr, hcase⟩, hos⟩ := ends_G (R := fun r s' => (r = .ok (.ret (.bool true)) ∧ rwL.row.toRowW.claim.Ends s [.list ds] [.ref l] s₁ r s') ∧ s'.os = s.os) (Shared.asleep_of_life hal.2.2.2 hz)
    (t := do match ← nsGet mainNs (Str.ofString "law") with
      | some f => do ret (← PySem.call f [.ref l])
      | none => unsupported "claim.caller:no-such-global") (by
      refine G.bind (G.any (wpAny_nsGet ((Heap.Ns.of_isNs hg).keeps keep) ?_))
      rw [f1]
      refine G.bind (G.mono key fun v s' ⟨hv, hk, hos, hgn⟩ => ?_)
      rw [hv]
      have g : GoodWG rwL.row.toRowW.claim (classAt s.heap) (ExcName.means s.heap) [.list ds] s₁ (.ok (.ret (.bool true))) s' :=
        ⟨.inl ⟨.bool true, .bool true, [], rfl, fun _ => rfl, .bool true, post_true ds, fun _ => ⟨List.nodup_nil, fun a m => nomatch m⟩⟩, .of_keep hk, hos, .of_eq (hgn.trans hg1)⟩
      have z := g.laid (c := rwL.row.toRowW.claim) sameq rfl identq L
      exact G.pure ⟨_, rfl, ⟨⟨rfl, z.1⟩, z.2.1⟩, leftWithCleanup_false_of_bare z.2.2⟩)
  obtain ⟨eh, _, _, eo, _⟩ := Shared.forget_eq hfo
  rw [hr] at hsched hcase
  exact k n s2 hsched (hcase.congr eh) (eo ▸ hos) ((runN_life _ _ _ hrun).trans hal.2.2.2)
end
theorem law_holds (left : LeftO pw qv lv (fun _ => true) obs want 6400) (main : MainT) : rwL.Holds := holds_law saidq fun hs => by
  refine ⟨hs, promq, ⟨bareq, (and_inv (and_inv okq).1).2, rfl⟩, promq.witness, fun w => ⟨(left.behind (XP := Xtr) (fun _ _ => trivial) chainq w).1, fun s' hs' => ?_⟩⟩
  obtain ⟨s₀, hf, hg0, s, hT, hz, hgens, hg, GR, y⟩ := (left.behind (XP := Xtr) (fun _ _ => trivial) chainq w).2 s' hs'
  have hgens : s.gens = #[] := Array.eq_empty_of_size_eq_zero (beq_iff_eq.mp hgens)
  refine ⟨s₀, hf, hg0, s, hT, fun n hn => ?_, fun x hx => (nomatch hx), fun x hx => (nomatch hx), fun args hpre hlay ord hord => ?_⟩
  · obtain rfl : n = Str.ofString "law" := by
      have hn : n ∈ (if rwL.row.pinned then [rwL.row.name] else []) := hn
      split at hn
      · exact List.mem_singleton.mp hn
      · cases hn
    exact pinned_of_view hg GR defq theq kwq
  · obtain ⟨hsh, hpr⟩ := pre_splitW (r := rwL.row.toRowW) hpre
    obtain ⟨d, r, rfl, h1, h2⟩ := hasAllW_cons hsh
    obtain rfl := hasAllW_nil h2
    obtain ⟨ds, rfl, h3⟩ := has_list h1
    obtain ⟨⟨vs, s₁⟩, hlaid⟩ := Option.isSome_iff_exists.mp (layAllW_isSome (P := w.params) (ord := ord) GR.has [.list ds] rwL.row.toRowW.args s hsh)
    have hgr := layAllW_grows _ _ _ hlaid
    have hal := hgr.alike
    obtain ⟨as, hrd, hin, hold⟩ := reads_layAllW hord _ _ _ hlaid hlay s₁.heap (fun _ _ e => e)
    obtain ⟨a, o, pm, cd, doc, dV, kV, f1, _⟩ := GR.fn defq
    obtain ⟨l, vals, xs, X⟩ := lay_law hlaid h3
    refine ⟨_, _, hlaid, ?_⟩
    exact law_run main ⟨GR, y⟩ hz hg hgens ⟨⟨ord, hord, hlaid⟩, hrd, hin, hold, hgr.keeps, hal.1.trans hgens, hal.2.2.1⟩ X hgr.keeps hgr.toks hal (len63 hpr) f1 fun k s2 hsched hcase hos hlife =>
      ⟨k, _, s2, hsched, (by
        rcases hcase with ⟨v, e, d1, d2, d3, d4, d5⟩ | ⟨e, ob, cls, q, _⟩
        · cases e
          exact .inl ⟨_, rfl, d1, d2, d3, fun b o y _ => d4 b o y, d5⟩
        · cases q), (fun _ i x hx => by rw [hgens] at hx; cases hx), (fun q => nomatch (show false = true from q)), by rw [hlife], Shared.rest_eq hos⟩
noncomputable def fname (k : Nat) : Str := (fnNames[k]?).getD (Str.ofString "")
noncomputable def nvAt (x : Str) : Option NV := (namesW.find? fun y => y.1 == some x).map (·.2)
noncomputable def toF : Option NV → FnT
  | some (.fn p (.stmts b) s _ _ _) => ⟨p, b, s⟩
  | _ => ⟨⟨[], [], none, [], [], none, []⟩, [], pw.main.scope⟩
noncomputable def fT (k : Nat) : FnT := if k = 1 then toF (some (fnAt "Part.takes" partBody[1]?)) else toF (nvAt (fname k))
theorem code_eq : codTab.map (fun x => (fT x.1).code) = codTab.map (·.2.2.2) := by kernel_rfl
theorem code_takes : (fT 1).code = k_takes := by kernel_rfl
theorem fns_ok : (codTab.map fun x => fnOk (fT x.1)) = codTab.map fun _ => true := by kernel_rfl
/-- the start of a frame: the parameters come first -/
noncomputable def startOk (f : FnT) (n v : Nat) : Bool := ((gmOf f.scope).vars.map (·.1)).take n == f.params.args.map (·.arg) && f.params.args.length == n && (gmOf f.scope).vars.length == v && nodupN ((gmOf f.scope).vars.map (·.1))
theorem starts_ok : (codTab.map fun x => startOk (fT x.1) x.2.1 x.2.2.1) = codTab.map fun _ => true := by kernel_rfl
theorem start_takes : startOk (fT 1) 2 5 = true := by kernel_rfl
theorem takes_ok : fnOk (fT 1) = true := by kernel_rfl
theorem pbind_not {x : Str} : ∀ {l : List (Str × PV)} {m : Str → Option PV}, x ∉ l.map (·.1) → pbind l m x = m x
  | [], _, _ => rfl
  | (n, v) :: r, m, h => by
    rw [List.map_cons, List.mem_cons, not_or] at h
    show pbind r (fun y => if y = n then some v else m y) x = m x
    rw [pbind_not h.2]
    exact if_neg h.1
theorem nodupN_cons {n : Str} {r : List Str} (h : nodupN (n :: r) = true) : n ∉ r ∧ nodupN r = true := by
  unfold nodupN at h
  rw [Bool.and_eq_true, Bool.not_eq_true', List.contains_eq_mem, decide_eq_false_iff_not] at h
  exact h
theorem pbind_map : ∀ {pn : List Str} {args : List PV} {m : Str → Option PV}, nodupN pn = true → args.length = pn.length → pn.map (fun x => (pbind (pn.zip args) m x).getD .unb) = args
  | [], args, m, _, h => by have : args = [] := by simpa using h
                            rw [this]; rfl
  | n :: pn, [], m, _, h => by simp at h
  | n :: pn, v :: args, m, hn, h => by
    obtain ⟨h1, h2⟩ := nodupN_cons hn
    have hl : args.length = pn.length := by simpa using h
    have hz : (pn.zip args).map (·.1) = pn := by rw [List.map_fst_zip]; omega
    rw [List.map_cons]
    have e1 : pbind ((n :: pn).zip (v :: args)) m n = some v := by
      show pbind (pn.zip args) (fun y => if y = n then some v else m y) n = some v
      rw [pbind_not (by rw [hz]; exact h1)]
      exact if_pos rfl
    rw [e1]
    exact congrArg (v :: ·) (pbind_map (m := fun y => if y = n then some v else m y) h2 hl)
theorem nodupN_append : ∀ {a b : List Str}, nodupN (a ++ b) = true → nodupN a = true ∧ (∀ x ∈ b, x ∉ a)
  | [], b, h => ⟨rfl, fun x _ => List.not_mem_nil⟩
  | n :: a, b, h => by
    obtain ⟨h1, h2⟩ := nodupN_cons (by simpa using h)
    obtain ⟨h3, h4⟩ := nodupN_append h2
    rw [List.mem_append, not_or] at h1
    refine ⟨?_, fun x m q => ?_⟩
    · unfold nodupN
      rw [Bool.and_eq_true, Bool.not_eq_true', List.contains_eq_mem, decide_eq_false_iff_not]
      exact ⟨h1.1, h3⟩
    · rcases List.mem_cons.mp q with rfl | q
      · exact h1.2 m
      · exact h4 x m q
theorem startOk_inv {f : FnT} {n v : Nat} (h : startOk f n v = true) : ((gmOf f.scope).vars.map (·.1)).take n = f.params.args.map (·.arg) ∧ f.params.args.length = n ∧ (gmOf f.scope).vars.length = v ∧ nodupN ((gmOf f.scope).vars.map (·.1)) = true := by
  obtain ⟨h, h4⟩ := and_inv h
  obtain ⟨h, h3⟩ := and_inv h
  obtain ⟨h1, h2⟩ := and_inv h
  exact ⟨eq_of_beq h1, eq_of_beq h2, eq_of_beq h3, h4⟩
theorem start_eq {f : FnT} {n v : Nat} (h : startOk f n v = true) {args : List PV} (hl : args.length = n) : startOf (gmOf f.scope).vars (f.params.args.map (·.arg)) args = args ++ List.replicate (v - n) .unb := by
  obtain ⟨h1, h2, h3, h4⟩ := startOk_inv h
  have hlen : (f.params.args.map (·.arg)).length = n := by rw [List.length_map]; exact h2
  show (gmOf f.scope).vars.map ((fun x => (pbind ((f.params.args.map (·.arg)).zip args) (fun _ => none) x).getD .unb) ∘ (·.1)) = _
  rw [← List.map_map]
  rw [← h3, ← List.length_map (·.1)]
  generalize (gmOf f.scope).vars.map (·.1) = vs at h1 h4 ⊢
  rw [← h1] at hlen ⊢
  rw [← List.take_append_drop n vs] at h4
  obtain ⟨h5, h6⟩ := nodupN_append h4
  have hz : ((vs.take n).zip args).map (·.1) = vs.take n := by rw [List.map_fst_zip]; rw [hlen, hl]; exact Nat.le_refl n
  have e2 : ∀ x ∈ vs.drop n, (pbind ((vs.take n).zip args) (fun _ => none) x).getD .unb = .unb := fun x m => by
    rw [pbind_not (by rw [hz]; exact h6 x m)]; rfl
  have e3 : vs.map (fun x => (pbind ((vs.take n).zip args) (fun _ => none) x).getD .unb) = (vs.take n).map (fun x => (pbind ((vs.take n).zip args) (fun _ => none) x).getD .unb) ++ (vs.drop n).map fun x => (pbind ((vs.take n).zip args) (fun _ => none) x).getD .unb := by
    rw [← List.map_append, List.take_append_drop]
  rw [e3, pbind_map h5 (by rw [hl, hlen]), List.map_congr_left e2, List.map_const', List.length_drop]
theorem run_of {call : Orc} {N : Md} {n v k : Nat} {c : Ss} {args : List PV} {p : Pl} {r : PV × Pl} (hc : (fT k).code = c) (hs : startOk (fT k) n v = true) (h : runC call N n v c args p = some r) : runFn call N (fT k) args p = some r :=
  iteD h (fun hl h => by
    unfold runFn
    rw [if_pos (hl.trans (startOk_inv hs).2.1.symm), start_eq hs hl, hc]
    exact h) noneN
theorem tab_mem {α : Type} {k : Nat} {x : α} : ∀ {l : List (Nat × α)}, l.lookup k = some x → (k, x) ∈ l
  | [], h => by cases h
  | (j, y) :: r, h => by
    rw [List.lookup_cons] at h
    cases e : k == j with
    | true =>
      rw [e] at h
      rw [beq_iff_eq.mp e, ← Option.some.inj h]
      exact List.mem_cons_self
    | false =>
      rw [e] at h
      exact List.mem_cons_of_mem _ (tab_mem h)
theorem map_at {α β : Type} {f g : α → β} {l : List α} (h : l.map f = l.map g) {a : α} (m : a ∈ l) : f a = g a := List.map_inj_left.mp h a m
theorem tab_all {k n v : Nat} {c : Ss} (h : codTab.lookup k = some (n, v, c)) : (fT k).code = c ∧ startOk (fT k) n v = true ∧ fnOk (fT k) = true := by
  have m : (k, (n, v, c)) ∈ codTab := tab_mem h
  exact ⟨map_at (a := (k, (n, v, c))) code_eq m, map_at (a := (k, (n, v, c))) starts_ok m, map_at (a := (k, (n, v, c))) fns_ok m⟩
theorem two_inv {α : Type} {f : PV → PV → Option α} {l : List PV} {r : α} (h : two f l = some r) : ∃ x y, l = [x, y] ∧ f x y = some r := by
  cases l with
  | nil => exact noneN h
  | cons x l =>
    cases l with
    | nil => exact noneN h
    | cons y l =>
      cases l with
      | nil => exact ⟨x, y, rfl, h⟩
      | cons z l => exact noneN h
theorem takes_inv {call : Orc} {xs : List PV} {p : Pl} {r : PV × Pl} (h : takesF call xs p = some r) : ∃ k sgn s, xs = [.obj k sgn, s] ∧ runC call NQ 2 5 k_takes xs p = some r := by
  obtain ⟨x, s, rfl, h⟩ := two_inv h
  cases x with
  | obj k sgn => exact ⟨k, sgn, s, rfl, h⟩
  | _ => exact noneN h
theorem part_inv {xs : List PV} {p : Pl} {r : PV × Pl} (h : partF xs p = some r) : ∃ x y, r = (.obj x y, p) ∧ (xs = [x] ∧ y = .none ∨ xs = [x, y]) := by
  cases xs with
  | nil => exact noneN h
  | cons x l =>
    cases l with
    | nil => exact ⟨x, .none, (Option.some.inj h).symm, .inl ⟨rfl, rfl⟩⟩
    | cons y l =>
      cases l with
      | nil => exact ⟨x, y, (Option.some.inj h).symm, .inr rfl⟩
      | cons z l => exact noneN h
theorem orcF_inv {hi : Bool} {call : Orc} {k : Nat} {xs : List PV} {p : Pl} {r : PV × Pl} {C : Prop} (h : orcF hi call k xs p = some r) (h0 : k = 0 → partF xs p = some r → C) (h1 : k = 1 → takesF call xs p = some r → C) (h42 : k = 42 → callF hi call xs p = some r → C) (ho : otherF call k xs p = some r → C) : C := by
  unfold orcF at h
  split at h
  · exact h0 rfl h
  · exact h1 rfl h
  · exact h42 rfl h
  · exact ho h
section
variable {b0 : Heap} {g : Cfg} {w : World} {fa : Nat → Addr}
/-- making a Part -/
noncomputable def PartOk (b0 : Heap) (g : Cfg) (w : World) (C : Addr) : Prop := ∀ d A s B p x y vs, Room (d + 1) A → FF g B A s.heap → Kp b0 g B p s.heap → (RdL g B vs [x] ∧ y = .none ∨ RdL g B vs [x, y]) → 1 ≤ s.toks → wpG (model pw w) A (PySem.call (.ref C) vs) (Ok g B s p (.obj x y)) s
/-- the two calls that raise inside -/
noncomputable def SpecOk (b0 : Heap) (g : Cfg) (w : World) (fa : Nat → Addr) : Prop := ∀ d, 5 ≤ d → (∀ e, e ≤ d → CallOk b0 g pw w fa e (orc e)) → ∀ A s B p xs vs, special xs = true → Room (d + 1) A → FF g B A s.heap → Kp b0 g B p s.heap → RdL g B vs xs → 1 ≤ s.toks → wpG (model pw w) A (PySem.call (.ref (fa 42)) vs) (Ok g B s p (.list [])) s
theorem orc_takes : ∀ {d : Nat} {xs : List PV} {p : Pl} {r : PV × Pl}, orc d fTakes xs p = some r → ∃ k sgn l, xs = .obj k sgn :: l
  | 0, _, _, _, h => noneN h
  | d + 1, xs, p, r, h => let ⟨k, sgn, s, e, _⟩ := takes_inv (call := orc d) (p := p) (r := r) h; ⟨k, sgn, [s], e⟩
theorem call_ok (W : Wd b0 g pw w fa) (hF : ∀ k, (codTab.lookup k).isSome = true → FnAt b0 (fa k) (fT k)) (h1 : FnAt b0 (fa 1) (fT 1)) (hP : PartOk b0 g w (fa 0)) (hS : SpecOk b0 g w fa) : ∀ d, CallOk b0 g pw w fa d (orc d) := by
  intro d
  induction d using Nat.strongRecOn with
  | ind d ih =>
  cases d with
  | zero => exact fun A s B p k xs r p' vs _ _ _ _ _ q => noneN q
  | succ d =>
  intro A s B p k xs r p' vs R ff K hr ht q
  have run : ∀ {k n v : Nat} {N : Md} {c : Ss}, FnAt b0 (fa k) (fT k) → (fT k).code = c → startOk (fT k) n v = true → fnOk (fT k) = true → runC (orc d) N n v c xs p = some (r, p') → wpG (model pw w) A (PySem.call (.ref (fa k)) vs) (Ok g B s p' r) s :=
    fun hf hc hs ho h => fn_snd W (ih d (Nat.lt_succ_self d)) (fun _ _ _ e => orc_takes e) (fnOk_inv ho) hf R ff K hr ht (run_of hc hs h)
  have tab : ∀ {k : Nat} {N : Md} {x : Nat × Nat × Ss}, codTab.lookup k = some x → runC (orc d) N x.1 x.2.1 x.2.2 xs p = some (r, p') → wpG (model pw w) A (PySem.call (.ref (fa k)) vs) (Ok g B s p' r) s :=
    fun {k N x} e h => let ⟨t1, t2, t3⟩ := tab_all (n := x.1) (v := x.2.1) (c := x.2.2) e; run (hF k (by rw [e]; rfl)) t1 t2 t3 h
  refine orcF_inv (hi := Nat.ble 5 d) (call := orc d) q (fun e q => ?_) (fun e q => ?_) (fun e q => ?_) (fun q => ?_)
  · obtain ⟨x, y, e2, hx⟩ := part_inv q
    cases e2
    rw [e]
    exact hP d A s B p x y vs R ff K (hx.elim (fun h => .inl ⟨h.1 ▸ hr, h.2⟩) fun h => .inr (h ▸ hr)) ht
  · obtain ⟨_, _, _, _, q⟩ := takes_inv q
    rw [e]
    exact run h1 code_takes start_takes takes_ok q
  · rw [e]
    unfold callF at q
    cases hsp : special xs with
    | true =>
      rw [hsp] at q
      cases hd : Nat.ble 5 d with
      | true =>
        rw [hd] at q
        cases q
        exact hS d (Nat.le_of_ble_eq_true hd) (fun e he => ih e (Nat.lt_succ_of_le he)) A s B p xs vs hsp R ff K hr ht
      | false => rw [hd] at q; cases q
    | false =>
      rw [hsp] at q
      exact tab (x := (2, 2, k_law_call)) rfl q
  · unfold otherF at q
    cases hl : codTab.lookup k with
    | none => rw [hl] at q; cases q
    | some x => rw [hl] at q; exact tab hl q
end
theorem isStr_key (v : Value) (x : Str) : v.isStr x = (keyStr v == some x) := by cases v <;> rfl
theorem nv_at {h : Heap} (e : names h = some namesW) (x : Str) : nvAt x = (h.nsMap mainGlobals x).map (nv h) := by
  unfold names at e
  split at e
  · rename_i c d es n sl ho
    have e := Option.some.inj e
    unfold nvAt Heap.nsMap
    rw [ho, ← e]
    show _ = (nsFind es x).map _
    unfold nsFind findBy
    rw [← Array.find?_toList, List.find?_map, Option.map_map, Option.map_map]
    have : ((fun y : Option Str × NV => y.1 == some x) ∘ fun e : DictEntry => (keyStr e.key, nv h e.val)) = fun e => e.key.isStr x := by
      funext e; exact (isStr_key _ _).symm
    rw [this]; rfl
  · cases e
noncomputable def isRefN : Option NV → Bool
  | some .ref => true
  | some (.fn ..) => true
  | _ => false
noncomputable def isFnN : Option NV → Bool
  | some (.fn _ (.stmts _) _ q (some c) ok) => q == c && ok
  | _ => false
noncomputable def isLitN (v : PV) : Option NV → Bool
  | some (.lit u) => match u, v with
    | .int i, .int j => i == j
    | .str a, .str b => a == b
    | _, _ => false
  | _ => false
theorem refs_ok : ((List.range 59).all fun k => k == 1 || isRefN (nvAt (fname k))) = true := by kernel_rfl
theorem fnsN_ok : (codTab.map fun x => isFnN (nvAt (fname x.1))) = codTab.map fun _ => true := by kernel_rfl
theorem lits_ok : (gconsts.all fun x => isLitN x.2 (nvAt x.1)) = true := by kernel_rfl
theorem fns63 : ((List.range 59).all fun k => k == 0 || k == 1 || isFnN (nvAt (fname k))) = true := by kernel_rfl
theorem nv_ref {h : Heap} {v : Value} (e : isRefN (some (nv h v)) = true) : ∃ a, v = .ref a := by
  cases v <;> first | exact ⟨_, rfl⟩ | cases e
theorem fn_at {h : Heap} {v : Value} (e : isFnN (some (nv h v)) = true) : ∃ a, v = .ref a ∧ FnAt h a (toF (some (nv h v))) := by
  cases v with
  | ref a =>
    refine ⟨a, rfl, ?_⟩
    have e : isFnN (some (fnv h a)) = true := e
    show FnAt h a (toF (some (fnv h a)))
    unfold fnv at e ⊢
    split at e
    · rename_i c d fd sl ho
      obtain ⟨nm, qn, ps, bd, sc, gl, cl, df, kd, doc, pm, an, cd, ct, bi⟩ := fd
      unfold isFnN at e
      split at e
      · rename_i p b sc' q c' ok heq
        simp only [Option.some.injEq, NV.fn.injEq] at heq
        obtain ⟨rfl, rfl, rfl, rfl, hc, hok⟩ := heq
        simp only [Bool.and_eq_true, beq_iff_eq] at e
        obtain ⟨rfl, rfl⟩ := e
        simp only [Bool.and_eq_true, beq_iff_eq, List.isEmpty_iff] at hok
        obtain ⟨⟨⟨h1, h2⟩, h3⟩, h4⟩ := hok
        refine ⟨_, _, ho, rfl, rfl, rfl, rfl, h1, h2, h3, ?_, ?_⟩
        · unfold codeName at hc
          split at hc
          · rename_i c2
            split at hc
            · rename_i h6
              split at hc
              · rename_i x1 n2 t2 l2 hl
                cases hc
                refine ⟨_, _, _, t2, rfl, h6, rfl, ?_⟩
                rw [← Array.getElem?_toList, hl]; rfl
              · cases hc
            · cases hc
          · cases hc
        · unfold dfl at h4
          split at h4
          · exact .inl rfl
          · split at h4
            · rename_i ho2; exact .inr ⟨_, _, _, _, rfl, ho2, rfl⟩
            · cases h4
          · cases h4
      · cases e
    · cases e
  | _ => cases e
/-- where the functions stand -/
noncomputable def kPart (h : Heap) : Addr := (glob h (Str.ofString "Part")).getD 0
noncomputable def kSql (h : Heap) : Addr := (glob h (Str.ofString "SqlError")).getD 0
noncomputable def kBase (h : Heap) : Addr := (glob h (Str.ofString "PagebaseError")).getD 0
noncomputable def kF (h : Heap) : Frag := kOf h (kPart h) (kSql h) (kBase h)
noncomputable def faOf (h : Heap) (k : Nat) : Addr := if k = 1 then (fnIn (kF h) (kPart h) (Str.ofString "takes")).getD 0 else if k < 59 then (glob h (fname k)).getD 0 else (glob h (fname 2)).getD 0
theorem fnId_inv {x : Str} {k : Nat} (e : fnId x = some k) : k < 59 ∧ k ≠ 1 ∧ fname k = x := by
  unfold fnId at e
  obtain ⟨e1, e2⟩ := Option.filter_eq_some_iff.mp e
  obtain ⟨h1, h2, h3⟩ := List.findIdx?_eq_some_iff_getElem.mp e1
  refine ⟨h1, by simpa using e2, ?_⟩
  unfold fname
  rw [List.getElem?_eq_getElem h1]
  exact beq_iff_eq.mp h2
theorem glob_ref {h : Heap} (e : names h = some namesW) {k : Nat} (hk : k < 59) (h1 : k ≠ 1) : h.nsMap mainGlobals (fname k) = some (.ref (faOf h k)) := by
  have r := List.all_eq_true.mp refs_ok k (List.mem_range.mpr hk)
  rw [Bool.or_eq_true] at r
  rcases r with r | r
  · exact absurd (beq_iff_eq.mp r) h1
  · rw [nv_at e] at r
    cases q : h.nsMap mainGlobals (fname k) with
    | none => rw [q] at r; cases r
    | some v =>
      rw [q] at r
      obtain ⟨a, rfl⟩ := nv_ref r
      unfold faOf
      rw [if_neg h1, if_pos hk]
      unfold glob
      rw [q]; rfl
theorem fn_there {h : Heap} (e : names h = some namesW) {k : Nat} (hk : isFnN (nvAt (fname k)) = true) (hk2 : k < 59) (h1 : k ≠ 1) : FnAt h (faOf h k) (fT k) := by
  have r := glob_ref e hk2 h1
  have q := nv_at e (fname k)
  rw [r] at q
  have q : nvAt (fname k) = some (nv h (.ref (faOf h k))) := q
  rw [q] at hk
  obtain ⟨a, ha, hf⟩ := fn_at hk
  cases ha
  unfold fT
  rw [if_neg h1, q]
  exact hf
theorem fn_tab {h : Heap} (e : names h = some namesW) {k : Nat} (hl : (codTab.lookup k).isSome = true) : FnAt h (faOf h k) (fT k) := by
  obtain ⟨x, hx⟩ := Option.isSome_iff_exists.mp hl
  have m := tab_mem hx
  have e1 := map_at (a := (k, x)) fnsN_ok m
  have hr : (codTab.map fun y => Nat.blt y.1 59 && !(y.1 == 1)) = codTab.map fun _ => true := by kernel_rfl
  have e2 := map_at (a := (k, x)) hr m
  clear m hx hl
  have e2 : (Nat.blt k 59 && !(k == 1)) = true := e2
  simp only [Bool.and_eq_true, Bool.not_eq_true', beq_eq_false_iff_ne] at e2
  exact fn_there e e1 (by simpa [Nat.blt_eq] using e2.1) e2.2
theorem gconst_at {h : Heap} (e : names h = some namesW) {x : Str} {v : PV} (hc : gconst x = some v) : ∃ u, h.nsMap mainGlobals x = some u ∧ ∀ (g : Cfg) (B : Bm), Rd g B u v := by
  have m : (x, v) ∈ gconsts := by
    have : ∀ {l : List (Str × PV)}, l.lookup x = some v → (x, v) ∈ l := fun {l} h => by
      induction l with
      | nil => cases h
      | cons y r ih =>
        obtain ⟨j, u⟩ := y
        rw [List.lookup_cons] at h
        split at h
        · rename_i q; cases h; rw [beq_iff_eq.mp q]; exact List.mem_cons_self
        · exact List.mem_cons_of_mem _ (ih h)
    exact this hc
  have r := List.all_eq_true.mp lits_ok _ m
  dsimp only at r
  rw [nv_at e] at r
  cases q : h.nsMap mainGlobals x with
  | none => rw [q] at r; cases r
  | some u =>
    rw [q] at r
    refine ⟨u, rfl, fun g B => ?_⟩
    have r : isLitN v (some (nv h u)) = true := r
    cases u with
    | int i t => cases v <;> first | (have r : (i == _) = true := r; rw [beq_iff_eq.mp r]; exact .int _ _) | cases r
    | str i t => cases v <;> first | (have r : (i == _) = true := r; rw [beq_iff_eq.mp r]; exact .str _ _) | cases r
    | ref a =>
      exfalso
      revert r
      show ¬ isLitN v (some (fnv h a)) = true
      unfold fnv
      split <;> (intro r; cases r)
    | _ => cases r
theorem rank_row {w : World} {l : List DictEntry} {ks : List (String × Int)} (e : l.map (fun e => (e.hash, (match e.key with | .str x _ => some x | _ => none), (match e.val with | .int i _ => some i | _ => none))) = ks.map fun x => (hashStr w (Str.ofString x.1), some (Str.ofString x.1), some x.2)) :
    (∀ en ∈ l, ∃ k, Value.isStrOf k en.key = true ∧ en.hash = hashStr w k) ∧ ∀ (key : Str) (n : Int), (ks.find? fun x => Str.ofString x.1 == key).map (·.2) = some n → ∃ t, (l.find? fun en => Value.isStrOf key en.key).map (·.val) = some (.int n t) := by
  induction l generalizing ks with
  | nil =>
    cases ks with
    | nil => exact ⟨fun _ m => (nomatch m), fun key n h => by cases h⟩
    | cons k r => cases e
  | cons en l ih =>
    cases ks with
    | nil => cases e
    | cons k r =>
      simp only [List.map_cons, List.cons.injEq, Prod.mk.injEq] at e
      obtain ⟨⟨h1, h2, h3⟩, e⟩ := e
      obtain ⟨i1, i2⟩ := ih e
      obtain ⟨hh, hk, hv⟩ := en
      dsimp only at h1 h2 h3
      cases hk <;> first | cases h2 | skip
      cases hv <;> first | cases h3 | skip
      refine ⟨fun en m => ?_, fun key n h => ?_⟩
      · rcases List.mem_cons.mp m with rfl | m
        · exact ⟨_, by simp [Value.isStrOf], h1⟩
        · exact i1 en m
      · rw [List.find?_cons] at h ⊢
        show ∃ t, Option.map _ (match (Str.ofString k.1 == key) with | true => _ | false => _) = _
        cases hq : Str.ofString k.1 == key with
        | true => rw [hq] at h; cases h; exact ⟨_, rfl⟩
        | false => rw [hq] at h; exact i2 key n h
noncomputable def ranksL : List (String × Int) := [("null", 0), ("integer", 1), ("text", 2), ("blob", 3)]
theorem ranks_at {h : Heap} {w : World} (e : ranksSee h = ranksWant w) : ∃ ra, h.nsMap mainGlobals (Str.ofString "STORAGE_RANKS") = some (.ref ra) ∧ RanksAt h pw w ra := by
  unfold ranksSee ranksWant at e
  obtain ⟨ra, h1, e⟩ := Option.bind_eq_some_iff.mp e
  have h1' : h.nsMap mainGlobals (Str.ofString "STORAGE_RANKS") = some (.ref ra) := by
    unfold glob refOf at h1
    split at h1
    · cases h1; assumption
    · cases h1
  refine ⟨ra, h1', ?_⟩
  split at e
  · rename_i es n sl ho
    simp only [Option.some.injEq, Prod.mk.injEq] at e
    obtain ⟨e1, e2⟩ := e
    obtain ⟨r1, r2⟩ := rank_row e2
    have hsl : sl = #[] := Array.eq_empty_of_size_eq_zero (beq_iff_eq.mp e1)
    subst hsl
    have hm : ∀ {h' : Heap}, (∀ a o, h.get? a = some o → h'.get? a = some o) → h'.MapOf (PySem.strKind pw w) ra (fun k => findBy Value.isStrOf es k) := fun k =>
      ⟨_, es, n, k _ _ ho, ⟨rfl, rfl, rfl⟩, rfl, fun en m => r1 en (Array.mem_toList_iff.mpr m), fun _ => rfl⟩
    refine ⟨fun A s key u n' Q hk hr hQ => ?_, fun A s Q hk hQ => ?_⟩
    · obtain ⟨t, ht⟩ := r2 key n' (by
        have k : ∀ {i : Int}, (ranksL.find? fun x => Str.ofString x.1 == key).map (·.2) = some i → some (PV.int i) = some (.int n') → (ranksL.find? fun x => Str.ofString x.1 == key).map (·.2) = some n' := fun h q => by cases q; exact h
        exact iteD hr (fun q => k (q ▸ by decide +kernel)) fun hr => iteD hr (fun q => k (q ▸ by decide +kernel)) fun hr => iteD hr (fun q => k (q ▸ by decide +kernel)) fun hr => iteD hr (fun q => k (q ▸ by decide +kernel)) noneN)
      refine wpAny_getItem_of (knd := PySem.strKind pw w) (k := key) (v := .int n' t) (by show (key == key) = true; exact beq_self_eq_true key) (hm hk) ?_ (hQ _ _)
      show findBy Value.isStrOf es key = _
      unfold findBy
      rw [← Array.find?_toList]
      exact ht
    · have hT : s.TypeIs (.ref ra) "dict" := ⟨_, hk _ _ ho, rfl⟩
      rw [getitemInPython_of_ne hT.not_modules]
      exact wpAny_bind (wpAny_specialOf hT slot_dict_getitem.lookup (wpAny_pure hQ))
  · cases e
noncomputable def freeOk (x : Str) : Bool := !startupNames.contains x && !(looseW qv lv).contains x && !((recsOf qv).map (·.name)).contains x && !((litsOf qv).map (·.1)).contains x && !((clssOf qv (looseW qv lv)).map (·.name)).contains x && !(x == Str.ofString "__name__")
noncomputable def bltTab : List (Str × Value) := bltNames.map (fun y => (y.1, bltVal y.2)) ++ typNames.map (fun y => (y.1, tiVal y.2)) ++ [(Str.ofString "isinstance", .builtin "isinstance"), (Str.ofString "bytearray", .type "bytearray")]
theorem blt_ok : (bltTab.all fun y => freeOk y.1 && bootBuiltins y.1 == some y.2) = true := by kernel_rfl
theorem blt_at {w : World} {s : Shared} (Y : Gd w s) {x : Str} {v : Value} (m : (x, v) ∈ bltTab) : s.heap.nsMap mainGlobals x = none ∧ s.heap.nsMap builtinsNs x = some v := by
  have r := List.all_eq_true.mp blt_ok _ m
  clear m
  dsimp only at r
  unfold freeOk at r
  simp only [Bool.and_eq_true, Bool.not_eq_true', beq_eq_false_iff_ne, List.contains_eq_mem, decide_eq_false_iff_not] at r
  obtain ⟨⟨⟨⟨⟨⟨h1, h2⟩, h3⟩, h4⟩, h5⟩, h6⟩, h7⟩ := r
  exact ⟨Y.ground.T.free x h1 h2 h3 h4 h5, (Y.ground.T.builtins x h6).trans (beq_iff_eq.mp h7)⟩
theorem look_mem {α : Type} {x : Str} {v : α} : ∀ {l : List (Str × α)}, l.lookup x = some v → (x, v) ∈ l
  | [], h => by cases h
  | (j, u) :: r, h => by
    rw [List.lookup_cons] at h
    split at h
    · rename_i q; cases h; rw [beq_iff_eq.mp q]; exact List.mem_cons_self
    · exact List.mem_cons_of_mem _ (look_mem h)
theorem blt1 {x : Str} {b : BI} (h : bltId x = some b) : (x, bltVal b) ∈ bltTab := List.mem_append_left _ (List.mem_append_left _ (List.mem_map.mpr ⟨(x, b), look_mem h, rfl⟩))
theorem typ1 {x : Str} {t : TI} (h : typId x = some t) : (x, tiVal t) ∈ bltTab := List.mem_append_left _ (List.mem_append_right _ (List.mem_map.mpr ⟨(x, t), look_mem h, rfl⟩))
theorem isi1 : (Str.ofString "isinstance", Value.builtin "isinstance") ∈ bltTab := List.mem_append_right _ List.mem_cons_self
theorem bar1 : (Str.ofString "bytearray", Value.type "bytearray") ∈ bltTab := List.mem_append_right _ (List.mem_cons_of_mem _ List.mem_cons_self)
theorem pick_in {h : Heap} (as : List Addr) : (pick h as).In h := by
  intro a o e
  unfold pick at e
  induction as with
  | nil => cases e
  | cons b r ih =>
    rw [List.filterMap_cons] at e
    cases q : h.get? b with
    | none => rw [q] at e; exact ih e
    | some ob =>
      rw [q] at e
      have e : List.lookup a ((b, ob) :: _) = some o := e
      rw [List.lookup_cons] at e
      split at e
      · rename_i z; cases e; rw [beq_iff_eq.mp z]; exact q
      · exact ih e
noncomputable abbrev clsWant : ClsSee := some (true, [some (fnAt "Part.__init__" partBody[0]?), some (fnAt "Part.takes" partBody[1]?), some (fnAt "PagebaseError.__init__" excBody[0]?)], some [.none, .none, .bool false])
structure ClsK (h : Heap) : Prop where
  part : h.nsMap mainGlobals (Str.ofString "Part") = some (.ref (kPart h))
  sql : h.nsMap mainGlobals (Str.ofString "SqlError") = some (.ref (kSql h))
  base : h.nsMap mainGlobals (Str.ofString "PagebaseError") = some (.ref (kBase h))
  ok : partOk (kF h) (kPart h) = true
  okE : excOk (kF h) (kSql h) (kBase h) = true
  init : (fnIn (kF h) (kPart h) "__init__").map (fnv h) = some (fnAt "Part.__init__" partBody[0]?)
  takes : (fnIn (kF h) (kPart h) "takes").map (fnv h) = some (fnAt "Part.takes" partBody[1]?)
  exc : (fnIn (kF h) (kSql h) "__init__").map (fnv h) = some (fnAt "PagebaseError.__init__" excBody[0]?)
  dfl : ((fnIn (kF h) (kPart h) "__init__").bind fun f => match h.get? f with
          | some ⟨_, _, .func fd, _⟩ => dfl h fd.defaults
          | _ => none) = some [.none, .none, .bool false]
theorem glob_eq {h : Heap} {x : Str} {a : Addr} (e : glob h x = some a) : h.nsMap mainGlobals x = some (.ref a) := by
  unfold glob refOf at e
  split at e
  · cases e; assumption
  · cases e
theorem cls_k {h : Heap} (e : clsSee h = clsWant) : ClsK h := by
  unfold clsSee clsWant at e
  split at e
  · rename_i C S P h1 h2 h3
    have e1 : kPart h = C := by unfold kPart; rw [h1]; rfl
    have e2 : kSql h = S := by unfold kSql; rw [h2]; rfl
    have e3 : kBase h = P := by unfold kBase; rw [h3]; rfl
    have eK : kF h = kOf h C S P := by unfold kF; rw [e1, e2, e3]
    simp only [Option.some.injEq, Prod.mk.injEq, List.cons.injEq, and_true] at e
    obtain ⟨q1, ⟨q2, q3, q4⟩, q5⟩ := e
    obtain ⟨q1, q0⟩ := Bool.and_eq_true_iff.mp q1
    exact ⟨e1 ▸ glob_eq h1, e2 ▸ glob_eq h2, e3 ▸ glob_eq h3, by rw [eK, e1]; exact q1, by rw [eK, e2, e3]; exact q0, by rw [eK, e1]; exact q2, by rw [eK, e1]; exact q3, by rw [eK, e2]; exact q4, by rw [eK, e1]; exact q5⟩
  · cases e
theorem fnIn_inv {K : Frag} {C f : Addr} {n : Str} (e : fnIn K C n = some f) : findIn K (.ref C) n = some (some (.ref f)) ∧ typeIn K (.ref f) = some (.type "function") := by
  unfold fnIn at e
  split at e
  · rename_i f' h1
    split at e
    · rename_i h2; cases e; exact ⟨h1, beq_iff_eq.mp h2⟩
    · cases e
  · cases e
structure PartK (K : Frag) (C : Addr) : Prop where
  makes : makesIn K C = true
  plain : plainOver K C = true
  hd : (clsIn K C).any (·.hasDict) = true
  ga : findIn K (.ref C) "__getattribute__" = some (some (.builtin "object.__getattribute__"))
  gk : findIn K (.ref C) "__getattr__" = some none
  sa : findIn K (.ref C) "__setattr__" = some (some (.builtin "object.__setattr__"))
  no : ∀ n ∈ partNames, findIn K (.ref C) n = some none ∧ takerIn K C n = some none
theorem part_k {K : Frag} {C : Addr} (h : partOk K C = true) : PartK K C := by
  unfold partOk at h
  simp only [Bool.and_eq_true, beq_iff_eq, List.all_eq_true] at h
  obtain ⟨⟨⟨⟨⟨⟨h1, h2⟩, h3⟩, h4⟩, h5⟩, h6⟩, h7⟩ := h
  exact ⟨h1, h2, h3, h4, h5, h6, h7⟩
theorem no_ref {es : Array DictEntry} (h : StrKeys es) : es.toList.any (·.refKey) = false := by
  rw [Bool.eq_false_iff]
  intro q
  obtain ⟨e, m, r⟩ := List.any_eq_true.mp q
  obtain ⟨n, t, k⟩ := h e (Array.mem_toList_iff.mp m)
  unfold DictEntry.refKey at r
  rw [k] at r; cases r
section
variable {h : Heap} {g : Cfg} {w : World} {B : Bm} {p : Pl} {A : Around} {s : Shared}
theorem part_attr (P : PartK (kF h) g.C) {v : Value} {x r : PV} {sg : Bool} {Q : Value → Shared → Prop} (K : Kp h g B p s.heap) (hr : Rd g B v x) (e : attrOp sg x = some r) (R : Res g B s p Q r) :
    wpAny (model pw w) A (getAttr v (if sg then ("sign" : Str) else ("kind" : Str)) true) Q (fun _ _ => False) s := by
  cases hr with
  | obj ha hk hg =>
    rename_i a kv gv k sgn
    obtain ⟨d, es, ep, h1, h2, h3, h4, h5, h6⟩ := ha.ex
    have X : (kF h).In s.heap := (pick_in _).keeps fun b o q => K.keep b o (K.base b o q)
    obtain ⟨cd, hcd, hdi⟩ := any_some P.hd
    have I : InstAt s.heap a { cls := .ref g.C, dict := some d, data := .plain } g.C (some { cls := .type "dict", data := .dict es ep }) := ⟨K.keep _ _ h1, rfl, rfl, K.keep _ _ h2⟩
    have key : ∀ {n : Str} {u : Value}, n ∈ partNames → nsFind es n = some u → findObj (kF h) g.C (some { cls := .type "dict", data := .dict es ep }) n = some (.value u) := fun {n u} m q => by
      unfold findObj
      rw [hcd, Option.bind_some, (P.no n m).1, Option.bind_some]
      show (W.ownOf cd _ n).bind _ = _
      unfold W.ownOf
      rw [if_pos hdi]
      unfold nsFind findBy at q
      rw [← Array.find?_toList] at q
      obtain ⟨en, f1, f2⟩ := Option.map_eq_some_iff.mp q
      show (lookIn n _).bind _ = _
      unfold lookIn
      dsimp only
      subst f2
      rw [f1]; rfl
    have hand : ∀ {u : Value} {z : PV}, Rd g B u z → handedIn u = true := fun {u z} q => by cases q <;> rfl
    cases sg with
    | true => cases e; exact get_value X I P.ga (key (by simp [partNames]) h5) (hand hg) (R.now K hg _)
    | false => cases e; exact get_value X I P.ga (key (by simp [partNames]) h4) (hand hk) (R.now K hk _)
  | _ => cases e
theorem part_takes (P : PartK (kF h) g.C) {f : Addr} (hf : fnIn (kF h) g.C "takes" = some f) {v : Value} {k sgn : PV} {pl : Sem Bool} {Q : Value × List Value → Shared → Prop} (K : Kp h g B p s.heap) (hr : Rd g B v (.obj k sgn)) (hQ : Q (.ref f, [v]) s) :
    wpAny (model pw w) A (getMethod v ("takes" : Str) pl) Q (fun _ _ => False) s := by
  cases hr with
  | obj ha hk hg =>
    rename_i a kv gv
    obtain ⟨d, es, ep, h1, h2, h3, h4, h5, h6⟩ := ha.ex
    have X : (kF h).In s.heap := (pick_in _).keeps fun b o q => K.keep b o (K.base b o q)
    have I : InstAt s.heap a { cls := .ref g.C, dict := some d, data := .plain } g.C (some { cls := .type "dict", data := .dict es ep }) := ⟨K.keep _ _ h1, rfl, rfl, K.keep _ _ h2⟩
    obtain ⟨q1, q2⟩ := fnIn_inv hf
    refine method_fn X I P.ga P.gk q1 q2 ?_ hQ
    show Option.map _ (lookIn "takes" _) = _
    unfold lookIn
    dsimp only
    unfold nsFind findBy at h6
    rw [← Array.find?_toList, Option.map_eq_none_iff] at h6
    have h6 : es.toList.find? (fun e => e.key.isStr "takes") = none := h6
    rw [h6]
    dsimp only
    rw [no_ref h3]; rfl
theorem part_calm (P : PartK (kF h) (kPart h)) {s : Shared} (k : ∀ a o, h.get? a = some o → s.heap.get? a = some o) : Calm (.ref (kPart h)) s := fun M A Q hQ => by
  have X : (kF h).In s.heap := (pick_in _).keeps k
  have Y := makes_of (M := M) X P.makes
  obtain ⟨oc, od, cd, sl, ho, _⟩ := Y.obj
  unfold keeperOf
  refine wpAny_bind (wpAny_load ho ?_)
  dsimp only
  exact wpAny_bind (Y.call.here (wpAny_pure (hQ _)))
end
section
variable {w : World} {s : Shared}
theorem Gd.names (Y : Gd w s) : names s.heap = some namesW := congrArg (fun z => z.2.1) Y.seen
theorem Gd.cls (Y : Gd w s) : ClsK s.heap := cls_k (congrArg (fun z => z.2.2.1) Y.seen)
theorem Gd.ranks (Y : Gd w s) : ranksSee s.heap = ranksWant w := congrArg (fun z => z.2.2.2) Y.seen
theorem Gd.toks (Y : Gd w s) : 1 ≤ s.toks := of_decide_eq_true (congrArg Prod.fst Y.seen)
theorem fa_part {h : Heap} : faOf h 0 = kPart h := by unfold faOf kPart; rw [if_neg (by decide), if_pos (by decide)]; rfl
theorem fa_takes {h : Heap} (C : ClsK h) : fnIn (kF h) (kPart h) "takes" = some (faOf h 1) := by
  obtain ⟨f, hf, _⟩ := Option.map_eq_some_iff.mp C.takes
  have : faOf h 1 = (fnIn (kF h) (kPart h) "takes").getD 0 := by unfold faOf; rw [if_pos rfl]
  rw [this, hf]; rfl
theorem takes_there {h : Heap} (C : ClsK h) : FnAt h (faOf h 1) (fT 1) := by
  obtain ⟨f, hf, e⟩ := Option.map_eq_some_iff.mp C.takes
  rw [fa_takes C] at hf; cases hf
  have e : nv h (.ref (faOf h 1)) = fnAt "Part.takes" partBody[1]? := e
  have r : isFnN (some (fnAt "Part.takes" partBody[1]?)) = true := by kernel_rfl
  rw [← e] at r
  obtain ⟨a, ha, hh⟩ := fn_at r
  cases ha
  unfold fT
  rw [if_pos rfl, ← e]
  exact hh
theorem fn_calm {h : Heap} {a : Addr} {f : FnT} (F : FnAt h a f) {s : Shared} (k : ∀ a o, h.get? a = some o → s.heap.get? a = some o) : Calm (.ref a) s :=
  let ⟨o, fd, h1, h2, _⟩ := F; Calm.func (k _ _ h1) h2
theorem wd (Y : Gd w s) {g : Cfg} (hg : g.C = kPart s.heap) : Wd s.heap g pw w (faOf s.heap) where
  ns := ⟨_, _, ⟨Y.ground.T.g, Y.ground.T.b,
    fun x k e => by
      obtain ⟨h1, h2, rfl⟩ := fnId_inv e
      exact glob_ref Y.names h1 h2,
    fun x v e => let ⟨u, h1, h2⟩ := gconst_at Y.names e; ⟨u, h1, fun B _ => h2 g B⟩,
    fun x b e => blt_at Y (blt1 e), fun x t e => blt_at Y (typ1 e), blt_at Y isi1, ranks_at Y.ranks, blt_at Y bar1⟩⟩
  calm := fun k s' hk => by
    by_cases h1 : k = 1
    · subst h1; exact fn_calm (takes_there Y.cls) hk
    · by_cases h0 : k = 0
      · subst h0; rw [fa_part]; exact part_calm (part_k Y.cls.ok) hk
      · have all : ∀ j, j < 59 → j ≠ 0 → j ≠ 1 → FnAt s.heap (faOf s.heap j) (fT j) := fun j hj hj0 hj1 => by
          have r := List.all_eq_true.mp fns63 j (List.mem_range.mpr hj)
          simp only [Bool.or_eq_true, beq_iff_eq] at r
          rcases r with (r | r) | r
          · exact absurd r hj0
          · exact absurd r hj1
          · exact fn_there Y.names r hj hj1
        by_cases hk2 : k < 59
        · exact fn_calm (all k hk2 h0 h1) hk
        · have e : faOf s.heap k = faOf s.heap 2 := by unfold faOf; rw [if_neg h1, if_neg hk2, if_neg (by decide), if_pos (by decide)]
          rw [e]
          exact fn_calm (all 2 (by decide) (by decide) (by decide)) hk
  attr := fun A s' B p v x r sg Q K hr e R => part_attr (hg ▸ part_k Y.cls.ok) K hr e R
  takes := fun A s' B p v k sgn pl Q K hr hQ => part_takes (hg ▸ part_k Y.cls.ok) (by rw [hg]; exact fa_takes Y.cls) K hr hQ
  lim := Y.ground.T.nolimit
end
noncomputable abbrev dObj (es : List DictEntry) (n : Nat) : Obj := { cls := .type "dict", data := .dict es.toArray n }
theorem put_push {a : Str} {hh : Int} {key v : Value} {es : List DictEntry} {n : Nat} (h : ∀ e ∈ es, e.key.isStr a = false) : Obj.putName a hh key v (dObj es n) = dObj (es ++ [⟨hh, key, v⟩]) (n + 1) := by
  rw [Obj.putName_eq]
  unfold Obj.putNameByArray
  dsimp only
  have : es.toArray.findIdx? (fun e => e.key.isStr a) = none := by
    rw [List.findIdx?_toArray, List.findIdx?_eq_none_iff]
    exact h
  rw [this]
  simp
theorem look_no {a : Str} {es : List DictEntry} {n : Nat} (h : ∀ e ∈ es, e.key.isStr a = false) (hs : ∀ e ∈ es, e.refKey = false) : lookIn a (dObj es n) = some none := by
  unfold lookIn
  dsimp only
  have h1 : es.toArray.toList.find? (fun e => e.key.isStr a) = none := by
    rw [List.find?_eq_none]; intro e m; rw [h e m]; decide
  have h2 : es.toArray.toList.any (fun e => e.refKey) = false := by
    rw [Bool.eq_false_iff]; intro q
    obtain ⟨e, m, r⟩ := List.any_eq_true.mp q
    rw [hs e m] at r; cases r
  rw [h1]
  dsimp only
  rw [h2]; rfl
section
variable {w : World} {A : Around} {s : Shared} {K : Frag} {C : Addr} {H : Heap} {L x dx : Addr} {m : Str → Option Value} {E : Value → Shared → Prop}
theorem set_step (P : PartK K C) (X0 : K.In H) (F : Fr H L s.heap m) (hne : x ≠ dx) {es : List DictEntry} {n : Nat} (N : News H L s.heap [(x, instObj C dx), (dx, dObj es n)]) {a : Str} {v : Value} (ha : a ∈ partNames)
    (hno : ∀ e ∈ es, e.key.isStr a = false) (hs : ∀ e ∈ es, e.refKey = false) (hz : es.length ≤ 100) {Q : Unit → Shared → Prop}
    (h : ∀ h' hh t tk, Fr H L h' m → News H L h' [(x, instObj C dx), (dx, dObj (es ++ [⟨hh, .str a t, v⟩]) (n + 1))] → Q () { s with heap := h', toks := tk }) :
    wpAny (model pw w) A (setAttr (.ref x) a v) Q E s := by
  have X : K.In s.heap := X0.keeps F.keep
  have N1 := N (x, instObj C dx) (.head _)
  have N2 := N (dx, dObj es n) (.tail _ (.head _))
  have I : InstAt s.heap x (instObj C dx) C (some (dObj es n)) := ⟨N1.1, rfl, rfl, N2.1⟩
  refine set_plain X I P.sa ?_
  refine osa_dict (K := K) (s := { s with toks := s.toks + 1 }) (pre := [(x, instObj C dx)]) (post := []) (ox := instObj C dx) (od := dObj es n) (od' := dObj (es ++ [⟨PyData.keyHash w.params a, .str a (s.toks + 1), v⟩]) (n + 1)) (h₀ := H) (L := L) (m := m) F N X I rfl P.plain (P.no a ha).2 P.hd
    (by rw [look_no hno hs]; rfl) (fun p mp => by rw [List.mem_singleton.mp mp]; exact hne) (fun p mp => nomatch mp) (put_push hno) rfl (by simp; omega) fun h' F' N' => ?_
  exact h h' _ _ _ F' N'
/-- a statement self.a = a -/
noncomputable def selfSt (s : Stmt) : Option Str := thn (asgOf s) fun z => oneE (fun t => thn (attrOf t) fun a => thn (nameOf a.1) fun x => thn (nameOf z.2) fun v => grB (some a.2.1) (x == Str.ofString "self" && a.2.1 == v)) z.1
theorem selfSt_inv {s : Stmt} {a : Str} (h : selfSt s = some a) : ∃ px pa pv p, s = .Assign [.Attribute (.Name (Str.ofString "self") px) a pa] (.Name a pv) p :=
  thnC h fun z hz h => by
    obtain ⟨p, e⟩ := asgOf_inv hz
    rw [e]
    exact oneC (P := fun ts => ∃ px pa pv p', Stmt.Assign ts z.2 p = .Assign [.Attribute (.Name (Str.ofString "self") px) a pa] (.Name a pv) p') h fun t h => thnC h fun at' ha h => thnC h fun x hx h => thnC h fun v hv h => grC h fun hq h => by
      obtain ⟨h1, h2⟩ := and_inv hq
      obtain ⟨px, e1⟩ := nameOf_inv hx
      obtain ⟨pv, e2⟩ := nameOf_inv hv
      rw [attrOf_inv ha, e1, e2, eq_of_beq h1, ← eq_of_beq h2, Option.some.inj h]
      exact ⟨px, _, pv, p, rfl⟩
theorem Assign_self {env : Env} {st : Stmt} {a : Str} (e : selfSt st = some a) {u v : Value} (hk : env.scope.kind = .function) (hns : s.heap.Ns env.locals m) (h1 : env.kindOf (Str.ofString "self") = some .local) (h2 : env.kindOf a = some .local)
    (e1 : m (Str.ofString "self") = some u) (e2 : m a = some v) (hd : (a == ("__debug__" : Str)) = false) {Q : Flow → Shared → Prop} (h : wpAny (model pw w) A (setAttr u a v) (fun _ => Q .next) E s) : wpAny (model pw w) A (exec st env) Q E s := by
  obtain ⟨px, pa, pv, p, es⟩ := selfSt_inv e
  rw [es]
  exact plainObj_wpAny_Assign_Attribute (wpAny_Name (wpAny_loadName_local hk h2 hns e2 (wpAny_Name (wpAny_loadName_local hk h1 hns e1 h))) hd)
theorem Assign_selfs {env : Env} {st : Stmt} {rest : List Stmt} {a : Str} (e : selfSt st = some a) {u v : Value} (hk : env.scope.kind = .function) (hns : s.heap.Ns env.locals m) (h1 : env.kindOf (Str.ofString "self") = some .local) (h2 : env.kindOf a = some .local)
    (e1 : m (Str.ofString "self") = some u) (e2 : m a = some v) (hd : (a == ("__debug__" : Str)) = false) {Q : Flow → Shared → Prop} (h : wpAny (model pw w) A (setAttr u a v) (fun _ s' => wpAny (model pw w) A (execs rest env) Q E s') E s) : wpAny (model pw w) A (execs (st :: rest) env) Q E s := by
  rw [execs_cons]
  refine wpAny_bind (Assign_self e hk hns h1 h2 e1 e2 hd (wpAny_mono h (fun _ s' h' => h') fun _ _ h => h))
end
/-- __init__ of Part -/
noncomputable def initF : FnT := toF (some (fnAt "Part.__init__" partBody[0]?))
theorem init_body : initF.body.map selfSt = partNames.map some := by kernel_rfl
theorem init_names : (initF.params.args.map (·.arg)) = Str.ofString "self" :: partNames ∧ initF.params.posonlyargs.map (·.arg) = [] := ⟨by kernel_rfl, by kernel_rfl⟩
theorem init_locals : ((Str.ofString "self" :: partNames).map fun n => initF.scope.names.lookup n) = (Str.ofString "self" :: partNames).map fun _ => some .local := by kernel_rfl
theorem init_ok : fnOk initF = true := by kernel_rfl
theorem init_nocell : (initF.scope.names.all fun x => x.2 != .cell) = true := by kernel_rfl
noncomputable def initBinds (x k s r n : Value) : List (Str × Value) := (Str.ofString "self" :: partNames).zip [x, k, s, r, n]
theorem init_binds {s : Shared} {fd : FuncData} {T : Addr} {oT : Obj} {n : Nat} (hp : fd.params = initF.params) (hd : fd.defaults = .ref T) (hT : s.heap.get? T = some oT) (hq : oT.data = .seq #[.none, .none, .bool false] n) (x k : Value) :
    BindsTo s fd ⟨[x, k], []⟩ (initBinds x k .none .none (.bool false)) := fun M A E Q h => by
  unfold bindArgs
  rw [hp, hd]
  simp only [List.forIn_nil, pure_bind]
  refine wpAny_bind (wpAny_seqItems hT hq ?_)
  exact wpAny_of_eq (by kernel_rfl) h
theorem init_binds2 {s : Shared} {fd : FuncData} {T : Addr} {oT : Obj} {n : Nat} (hp : fd.params = initF.params) (hd : fd.defaults = .ref T) (hT : s.heap.get? T = some oT) (hq : oT.data = .seq #[.none, .none, .bool false] n) (x k y : Value) :
    BindsTo s fd ⟨[x, k, y], []⟩ (initBinds x k y .none (.bool false)) := fun M A E Q h => by
  unfold bindArgs
  rw [hp, hd]
  simp only [List.forIn_nil, pure_bind]
  refine wpAny_bind (wpAny_seqItems hT hq ?_)
  exact wpAny_of_eq (by kernel_rfl) h
theorem four {α β : Type} {f : α → β} {l : List α} {a b c d : β} (h : l.map f = [a, b, c, d]) : ∃ x y z u, l = [x, y, z, u] ∧ f x = a ∧ f y = b ∧ f z = c ∧ f u = d := by
  match l, h with
  | [x, y, z, u], h =>
    simp only [List.map_cons, List.map_nil, List.cons.injEq, and_true] at h
    exact ⟨x, y, z, u, rfl, h.1, h.2.1, h.2.2.1, h.2.2.2⟩
section
variable {w : World} {A : Around} {s : Shared} {K : Frag} {C : Addr} {H : Heap}
theorem init_call (P : PartK K C) (X0 : K.In H) {fI : Addr} {o : Obj} {fd : FuncData} (hroom : A.depth < recursionLimit) (hH : s.heap = (H.push emptyDict).push (instObj C H.objs.size)) (ho : H.get? fI = some o) (hdata : o.data = .func fd) (hlim : H.NoLimit) (hcd : H.CodeRec fd.code fd.qualname)
    (hp : fd.params = initF.params) (hbody : fd.body = .stmts initF.body) (hsc : fd.scope = initF.scope) {args : Args} {k y r n : Value} (hb : BindsTo s fd args (initBinds (.ref (H.objs.size + 1)) k y r n)) {R : Result → Shared → Prop}
    (hq : ∀ h' tk L m h1 h2 h3 h4 t1 t2 t3 t4 ep, Fr H L h' m → News H L h' [(H.objs.size + 1, instObj C H.objs.size), (H.objs.size, dObj [⟨h1, .str (Str.ofString "kind") t1, k⟩, ⟨h2, .str (Str.ofString "sign") t2, y⟩, ⟨h3, .str (Str.ofString "ranges") t3, r⟩, ⟨h4, .str (Str.ofString "negated") t4, n⟩] ep)] →
      R (.ok (.ret .none)) { s with heap := h', toks := tk }) : codeAny (model pw w) A (.call (.ref fI) args) R s := by
  have F0 := fnOk_inv init_ok
  have kk : ∀ b ob, H.get? b = some ob → s.heap.get? b = some ob := fun b ob e => by rw [hH]; exact Heap.get?_push_of_some _ (Heap.get?_push_of_some _ e)
  have hloc : ∀ a ∈ Str.ofString "self" :: partNames, initF.scope.names.lookup a = some .local := fun a ma => map_at init_locals ma
  refine codeAny_call_def hroom (kk _ _ ho) hdata (hlim.keeps kk) (hcd.keeps kk) hbody hb (fun x m => ?_) (fun x m => ?_) (fun h₀ hns hk => ?_) (by rw [hsc]; exact F0.co) (by rw [hsc]; exact F0.gen) (by rw [hsc]; exact F0.kind)
  · rw [hsc] at m
    have := List.all_eq_true.mp init_nocell x m
    simpa using this
  · rw [hsc]
    exact hloc _ (List.of_mem_zip m).1
  · have sz : s.heap.objs.size = H.objs.size + 2 := by rw [hH, Heap.size_push, Heap.size_push]
    have F : Fr H s.heap.objs.size h₀ (fun z => (initBinds (.ref (H.objs.size + 1)) k y r n).reverse.lookup z) := ⟨hns, fun b ob e => hk _ _ (kk _ _ e), by rw [sz]; exact Nat.le_add_right _ _⟩
    have N : News H s.heap.objs.size h₀ [(H.objs.size + 1, instObj C H.objs.size), (H.objs.size, dObj [] 0)] := fun q mq => by
      rcases List.mem_cons.mp mq with rfl | mq
      · refine ⟨hk _ _ ?_, (fun z => by have z : H.objs.size + 1 = s.heap.objs.size := z; rw [sz] at z; omega), ?_⟩
        · rw [hH]; have := Heap.get?_push_size (H.push emptyDict) (o := instObj C H.objs.size) rfl; rwa [Heap.size_push] at this
        · show H.get? (H.objs.size + 1) = none
          cases q : H.get? (H.objs.size + 1) with
          | none => rfl
          | some ob => exact absurd (Heap.lt_size q) (Nat.not_lt.mpr (Nat.le_succ _))
      · rw [List.mem_singleton.mp mq]
        refine ⟨hk _ _ ?_, (fun z => by have z : H.objs.size = s.heap.objs.size := z; rw [sz] at z; omega), Heap.get_size H⟩
        rw [hH]; exact Heap.get?_push_of_some _ (Heap.get?_push_size _ rfl)
    obtain ⟨s1, s2, s3, s4, hl, e1, e2, e3, e4⟩ := four init_body
    rw [hl]
    have hne : H.objs.size + 1 ≠ H.objs.size := by omega
    have ek : ∀ a ∈ Str.ofString "self" :: partNames, (callEnv fd s.heap.objs.size fI).kindOf a = some .local := fun a ma => by
      show fd.scope.names.lookup a = _
      rw [hsc]; exact hloc a ma
    have hkind : (callEnv fd s.heap.objs.size fI).scope.kind = .function := by show fd.scope.kind = _; rw [hsc]; exact F0.kind
    have m0 : Str.ofString "self" ∈ Str.ofString "self" :: partNames := List.mem_cons_self
    have m1 : Str.ofString "kind" ∈ partNames := by simp [partNames]
    have m2 : Str.ofString "sign" ∈ partNames := by simp [partNames]
    have m3 : Str.ofString "ranges" ∈ partNames := by simp [partNames]
    have m4 : Str.ofString "negated" ∈ partNames := by simp [partNames]
    have d12 : (Str.ofString "kind" == Str.ofString "sign") = false := by decide
    have d13 : (Str.ofString "kind" == Str.ofString "ranges") = false := by decide
    have d23 : (Str.ofString "sign" == Str.ofString "ranges") = false := by decide
    have d14 : (Str.ofString "kind" == Str.ofString "negated") = false := by decide
    have d24 : (Str.ofString "sign" == Str.ofString "negated") = false := by decide
    have d34 : (Str.ofString "ranges" == Str.ofString "negated") = false := by decide
    have up : ∀ {a}, a ∈ partNames → a ∈ Str.ofString "self" :: partNames := fun h => List.mem_cons_of_mem _ h
    refine Assign_selfs (m := fun z => (initBinds (.ref (H.objs.size + 1)) k y r n).reverse.lookup z) e1 hkind hns (ek _ m0) (ek _ (up m1)) (u := .ref (H.objs.size + 1)) (v := k) (by kernel_rfl) (by kernel_rfl) (by decide) ?_
    refine set_step P X0 F hne N m1 (fun e me => by cases me) (fun e me => by cases me) (by simp) fun h1 hh1 t1 tk1 F1 N1 => ?_
    refine Assign_selfs (m := fun z => (initBinds (.ref (H.objs.size + 1)) k y r n).reverse.lookup z) e2 hkind F1.ns (ek _ m0) (ek _ (up m2)) (u := .ref (H.objs.size + 1)) (v := y) (by kernel_rfl) (by kernel_rfl) (by decide) ?_
    refine set_step P X0 F1 hne N1 m2 (fun e me => ?_) (fun e me => ?_) (by simp) fun h2 hh2 t2 tk2 F2 N2 => ?_
    · simp at me; subst me; exact d12
    · simp at me; subst me; rfl
    refine Assign_selfs (m := fun z => (initBinds (.ref (H.objs.size + 1)) k y r n).reverse.lookup z) e3 hkind F2.ns (ek _ m0) (ek _ (up m3)) (u := .ref (H.objs.size + 1)) (v := r) (by kernel_rfl) (by kernel_rfl) (by decide) ?_
    refine set_step P X0 F2 hne N2 m3 (fun e me => ?_) (fun e me => ?_) (by simp) fun h3 hh3 t3 tk3 F3 N3 => ?_
    · simp at me; rcases me with rfl | rfl; exact d13; exact d23
    · simp at me; rcases me with rfl | rfl <;> rfl
    refine Assign_selfs (m := fun z => (initBinds (.ref (H.objs.size + 1)) k y r n).reverse.lookup z) e4 hkind F3.ns (ek _ m0) (ek _ (up m4)) (u := .ref (H.objs.size + 1)) (v := n) (by kernel_rfl) (by kernel_rfl) (by decide) ?_
    refine set_step P X0 F3 hne N3 m4 (fun e me => ?_) (fun e me => ?_) (by simp) fun h4 hh4 t4 tk4 F4 N4 => ?_
    · simp at me; rcases me with rfl | rfl | rfl; exact d14; exact d24; exact d34
    · simp at me; rcases me with rfl | rfl | rfl <;> rfl
    refine wpAny_execs_nil ?_
    exact hq h4 tk4 _ _ _ _ _ _ _ _ _ _ _ F4 N4
end
theorem codeE_of {M : Model} {A : Around} {s : Shared} {c : Code} {R : Result → Shared → Prop} (h : codeAny M A c R s) : codeE M A c R s := fun Γ p hc hΓ _ => h Γ p hc hΓ
theorem RdL.one {g : Cfg} {B : Bm} {vs : List Value} {x : PV} (h : RdL g B vs [x]) : ∃ v, vs = [v] ∧ Rd g B v x := by
  obtain ⟨v, r, e, h1, h2⟩ := h.cons_inv
  rw [e, h2.nil_inv]
  exact ⟨v, rfl, h1⟩
theorem RdL.two {g : Cfg} {B : Bm} {vs : List Value} {x y : PV} (h : RdL g B vs [x, y]) : ∃ v u, vs = [v, u] ∧ Rd g B v x ∧ Rd g B u y := by
  obtain ⟨v, r, e, h1, h2⟩ := h.cons_inv
  obtain ⟨u, e2, h3⟩ := h2.one
  rw [e, e2]
  exact ⟨v, u, rfl, h1, h3⟩
section
variable {w : World} {h : Heap} {g : Cfg}
theorem init_there {h : Heap} (C : ClsK h) : ∃ fI o fd T oT n, findIn (kF h) (.ref (kPart h)) "__init__" = some (some (.ref fI)) ∧ typeIn (kF h) (.ref fI) = some (.type "function") ∧ h.get? fI = some o ∧ o.data = .func fd ∧ h.CodeRec fd.code fd.qualname ∧
    fd.params = initF.params ∧ fd.body = .stmts initF.body ∧ fd.scope = initF.scope ∧ fd.defaults = .ref T ∧ h.get? T = some oT ∧ oT.data = .seq #[.none, .none, .bool false] n := by
  obtain ⟨fI, hf, e⟩ := Option.map_eq_some_iff.mp C.init
  have hdf := C.dfl
  rw [hf] at hdf
  obtain ⟨q1, q2⟩ := fnIn_inv hf
  have e : nv h (.ref fI) = fnAt "Part.__init__" partBody[0]? := e
  have r : isFnN (some (fnAt "Part.__init__" partBody[0]?)) = true := by kernel_rfl
  rw [← e] at r
  obtain ⟨a, ha, o, fd, h1, h2, h3, h4, h5, _, _, _, h6, _⟩ := fn_at r
  cases ha
  have ei : toF (some (nv h (.ref fI))) = initF := by rw [e]; rfl
  rw [ei] at h3 h4 h5
  have hdf : (match h.get? fI with
    | some ⟨_, _, .func fd, _⟩ => dfl h fd.defaults
    | _ => none) = some [.none, .none, .bool false] := hdf
  rw [h1] at hdf
  obtain ⟨oc, od, oda, osl⟩ := o
  cases h2
  have hdf : dfl h fd.defaults = some [.none, .none, .bool false] := hdf
  unfold dfl at hdf
  split at hdf
  · cases hdf
  · rename_i T hT
    split at hdf
    · rename_i items n sl ho
      refine ⟨fI, _, fd, T, _, n, q1, q2, h1, rfl, h6, h3, h4, h5, hT, ho, ?_⟩
      have : items = #[.none, .none, .bool false] := by
        obtain ⟨l⟩ := items
        have hdf := Option.some.inj hdf
        simp only at hdf
        rw [hdf]
      rw [this]
    · cases hdf
  · cases hdf
theorem part_ok {s0 : Shared} (Y : Gd w s0) (hg : g.C = kPart s0.heap) : PartOk s0.heap g w (faOf s0.heap 0) := by
  intro d A s B p x y vs R ff K hr ht
  rw [fa_part]
  have P := part_k Y.cls.ok
  have X0 : (kF s0.heap).In s.heap := (pick_in _).keeps K.heap
  obtain ⟨fI, o, fd, T, oT, n, f1, f2, f3, f4, f5, f6, f7, f8, f9, f10, f11⟩ := init_there Y.cls
  refine G.toks ht (G.call (codeE_of ?_))
  obtain ⟨H, gg, dd, t, os⟩ := s
  refine make_core (makes_of X0 P.makes) (looks_findIn X0 f1) (fun self => bind_fn X0 self f2) (.inl rfl) ?_
  have kk : ∀ b ob, H.get? b = some ob → ((H.push emptyDict).push (instObj (kPart s0.heap) H.objs.size)).get? b = some ob := fun b ob e => Heap.get?_push_of_some _ (Heap.get?_push_of_some _ e)
  have core : ∀ {args : Args} {k u r n : Value}, BindsTo ⟨(H.push emptyDict).push (instObj (kPart s0.heap) H.objs.size), gg, dd, t, os⟩ fd args (initBinds (.ref (H.objs.size + 1)) k u r n) → Rd g B k x → Rd g B u y →
      codeAny (model pw w) (A.under (.builtin "type.__call__" ⟨.ref (kPart s0.heap) :: vs, []⟩)) (.call (.ref fI) args) (InitBack (H.objs.size + 1) (okR fun f s' => ∃ v, f = .ret v ∧ (1 ≤ s'.toks → Ok g B ⟨H, gg, dd, t, os⟩ p (.obj x y) v s'))) ⟨(H.push emptyDict).push (instObj (kPart s0.heap) H.objs.size), gg, dd, t, os⟩ := fun {args k u r n} hb hk hu => by
    refine init_call P (K := kF s0.heap) (C := kPart s0.heap) (H := H) X0 ?_ rfl (K.heap _ _ f3) f4 (Y.ground.T.nolimit.keeps K.heap) (f5.keeps K.heap) f6 f7 f8 hb fun h' tk L m h1 h2 h3 h4 t1 t2 t3 t4 ep F N => ?_
    · have := R.depth
      have e : (A.under (.builtin "type.__call__" ⟨.ref (kPart s0.heap) :: vs, []⟩)).depth = A.depth + (Code.builtin "type.__call__" ⟨.ref (kPart s0.heap) :: vs, []⟩).weight := rfl
      have e2 : (Code.builtin "type.__call__" ⟨.ref (kPart s0.heap) :: vs, []⟩).weight = 1 := by kernel_rfl
      rw [e, e2]; omega
    refine ⟨rfl, _, rfl, fun ht' => ?_⟩
    obtain ⟨es, hes⟩ : ∃ es : List DictEntry, es = [⟨h1, .str (Str.ofString "kind") t1, k⟩, ⟨h2, .str (Str.ofString "sign") t2, u⟩, ⟨h3, .str (Str.ofString "ranges") t3, r⟩, ⟨h4, .str (Str.ofString "negated") t4, n⟩] := ⟨_, rfl⟩
    rw [← hes] at N
    have N1 : h'.get? (H.objs.size + 1) = some (instObj (kPart s0.heap) H.objs.size) ∧ H.objs.size + 1 ≠ L ∧ H.get? (H.objs.size + 1) = none := N _ (.head _)
    have N2 : h'.get? H.objs.size = some (dObj es ep) ∧ H.objs.size ≠ L ∧ H.get? H.objs.size = none := N _ (.tail _ (.head _))
    have b1 : B H.objs.size = none := K.keep.fresh N2.2.2
    have b2 : B (H.objs.size + 1) = none := K.keep.fresh N1.2.2
    have X1 : Evo g B H p (B.add H.objs.size (dObj es ep)) h' := (Evo.grow K.keep K.pool F.keep).addB N2.1 N2.2.2 b1
    have b3 : (B.add H.objs.size (dObj es ep)) (H.objs.size + 1) = none := by
      unfold Bm.add; rw [if_neg fun q => Nat.succ_ne_self _ q]; exact b2
    have X2 : Evo g B H p ((B.add H.objs.size (dObj es ep)).add (H.objs.size + 1) (instObj (kPart s0.heap) H.objs.size)) h' := X1.addB N1.1 N1.2.2 b3
    have ip : IsPart ((B.add H.objs.size (dObj es ep)).add (H.objs.size + 1) (instObj (kPart s0.heap) H.objs.size)) g.C (H.objs.size + 1) k u := by
      refine ⟨H.objs.size, es.toArray, ep, by rw [hg]; exact Bm.add_self, ?_, ?_, ?_, ?_, ?_⟩
      · unfold Bm.add; rw [if_neg fun q => Nat.succ_ne_self _ q.symm, if_pos rfl]
      · intro e me
        have me := Array.mem_toList_iff.mpr me
        rw [hes] at me
        simp at me
        rcases me with rfl | rfl | rfl | rfl <;> exact ⟨_, _, rfl⟩
      · rw [hes]; kernel_rfl
      · rw [hes]; kernel_rfl
      · rw [hes]; kernel_rfl
    exact .mk (s := ⟨H, gg, dd, t, os⟩) X2 (Rd.obj ip (hk.mono X2.mono) (hu.mono X2.mono)) ht'
  rcases hr with ⟨hr, rfl⟩ | hr
  · obtain ⟨v, rfl, hv⟩ := hr.one
    exact core (init_binds f6 f9 (kk _ _ (K.heap _ _ f10)) f11 _ _) hv .none
  · obtain ⟨v, u, rfl, hv, hu⟩ := hr.two
    exact core (init_binds2 f6 f9 (kk _ _ (K.heap _ _ f10)) f11 _ _ _) hv hu
end
/-- one turn of a comprehension -/
noncomputable def turnC (call : Orc) (elt : E) (conds : Es) (cs : List PV) (x : PV) (p : Pl) : Option (Option PV × Pl) := turnX (fun ρ p => evB call conds .And ρ p) (fun ρ p => ev call elt false ρ p) cs x p
noncomputable def compO (call : Orc) (elt : E) (conds : Es) (cs xs : List PV) (p : Pl) : Option (List PV × Pl) := if xs.length ≤ lim then compLoop (turnC call elt conds cs) xs p else none
noncomputable def wloop (call : Orc) (N : Md) (c : E) (b : Ss) (n : Nat) (ρ : List PV) (p : Pl) : XR := whileLoop (fun ρ => fzq N.fz ρ c.vars) (fun ρ p => ev call c true ρ p) (fun ρ p => xSs call N b ρ p) n ρ p
noncomputable def forO (call : Orc) (N : Md) (i : Nat) (b : Ss) (xs ρ : List PV) (p : Pl) : XR := if xs.length ≤ lim then forLoop (fun x ρ p => xSs call N b (ρ.set i x) p) xs ρ p else none
noncomputable def forTO (call : Orc) (N : Md) (is : List Nat) (b : Ss) (xs ρ : List PV) (p : Pl) : XR := if xs.length ≤ lim then forLoop (fun x ρ p => withSeq is.length (fun vs => xSs call N b (storeL ρ is vs) p) x) xs ρ p else none
/-! walks with facts: the evaluator again, as a condition; an operation computes, or its answer is given (a fact) -/
inductive Ans where
  | v (x : PV) | b (x : Bool) | c (x : PV × Pl) | l (x : List PV) | lp (x : List PV × Pl) | x (x : Option PV × List PV × Pl)
/-- the answers: after n operations that compute comes the answer a -/
inductive St where
  | nil | c (n : Nat) (a : Ans) (s : St)
noncomputable def Ans.gv (a : Ans) : Option PV := @Ans.rec (fun _ => Option PV) some (fun _ => none) (fun _ => none) (fun _ => none) (fun _ => none) (fun _ => none) a
noncomputable def Ans.gb (a : Ans) : Option Bool := @Ans.rec (fun _ => Option Bool) (fun _ => none) some (fun _ => none) (fun _ => none) (fun _ => none) (fun _ => none) a
noncomputable def Ans.gc (a : Ans) : Option (PV × Pl) := @Ans.rec (fun _ => Option (PV × Pl)) (fun _ => none) (fun _ => none) some (fun _ => none) (fun _ => none) (fun _ => none) a
noncomputable def Ans.gl (a : Ans) : Option (List PV) := @Ans.rec (fun _ => Option (List PV)) (fun _ => none) (fun _ => none) (fun _ => none) some (fun _ => none) (fun _ => none) a
noncomputable def Ans.glp (a : Ans) : Option (List PV × Pl) := @Ans.rec (fun _ => Option (List PV × Pl)) (fun _ => none) (fun _ => none) (fun _ => none) (fun _ => none) some (fun _ => none) a
noncomputable def Ans.gx (a : Ans) : Option (Option PV × List PV × Pl) := @Ans.rec (fun _ => Option (Option PV × List PV × Pl)) (fun _ => none) (fun _ => none) (fun _ => none) (fun _ => none) (fun _ => none) some a
noncomputable abbrev W (α : Type) := St → (α → St → Prop) → Prop
noncomputable def go {α : Type} (o : Option α) (k : α → Prop) : Prop := match o with
  | some r => k r
  | none => False
noncomputable def wp {α : Type} (a : α) : W α := fun s Q => Q a s
noncomputable def wn {α : Type} : W α := fun _ _ => False
noncomputable def wb {α β : Type} (w : W α) (k : α → W β) : W β := fun s Q => w s fun a s => k a s Q
noncomputable def wg {α : Type} (o : Option α) : W α := fun s Q => go o fun r => Q r s
noncomputable def alt {α : Type} (g : Ans → Option α) (o : Option α) (w : W α) : W α := fun s Q => @St.rec (fun _ => Prop) (w .nil Q) (fun n a s' _ => @Nat.rec (fun _ => Prop) (go (g a) fun r => o = some r ∧ Q r s') (fun n _ => w (.c n a s') Q) n) s
noncomputable def op {α : Type} (g : Ans → Option α) (o : Option α) : W α := alt g o (wg o)
noncomputable def boolW {α : Type} (a b : W α) (v : PV) : W α := fun s Q => match v with
  | .bool c => match c with
    | true => a s Q
    | false => b s Q
  | _ => False
noncomputable def wite {α : Type} (b : W (PV × Pl)) (K L : Pl → W α) : W α := wb b fun x => boolW (K x.2) (L x.2) x.1
noncomputable def wout (m : Bool) (r : PV) (p : Pl) : W (PV × Pl) := match m with
  | false => wp (r, p)
  | true => wb (op Ans.gb (truePV r)) fun b => wp (.bool b, p)
noncomputable abbrev WO := Nat → List PV → Pl → W (PV × Pl)
noncomputable abbrev WvT := Orc → WO → Bool → List PV → Pl → W (PV × Pl)
noncomputable abbrev WsT := Orc → WO → List PV → Pl → W (List PV × Pl)
noncomputable abbrev WbT := Orc → WO → BoolOp → List PV → Pl → W (Bool × Pl)
noncomputable abbrev WsP := WsT × WbT
noncomputable def w_var : Nat → WvT := fun i call wc m ρ p => wb (op Ans.gv (getV ρ i)) fun v => wout m v p
noncomputable def w_cst : PV → WvT := fun v call wc m _ p => wout m v p
noncomputable def w_bin : Operator → E → E → WvT → WvT → WvT := fun o _ _ a b call wc m ρ p => wb (a call wc false ρ p) fun x => wb (b call wc false ρ x.2) fun y => wb (op Ans.gv (binOp o x.1 y.1)) fun r => wout m r y.2
noncomputable def w_neg : E → WvT → WvT := fun _ a call wc m ρ p => wb (a call wc false ρ p) fun x => wb (op Ans.gv (negOp x.1)) fun r => wout m r x.2
noncomputable def w_not : E → WvT → WvT := fun _ a call wc m ρ p => match m with
  | true => wite (a call wc true ρ p) (fun p => wp (.bool false, p)) (fun p => wp (.bool true, p))
  | false => wn
noncomputable def w_cmp : CmpOp → E → E → WvT → WvT → WvT := fun o _ _ a b call wc m ρ p => wb (a call wc false ρ p) fun x => wb (b call wc false ρ x.2) fun y => wb (op Ans.gb (cmpOp o x.1 y.1)) fun r => wp (.bool r, y.2)
noncomputable def w_cmp2 : CmpOp → CmpOp → E → E → E → WvT → WvT → WvT → WvT := fun o1 o2 _ _ _ a b c call wc m ρ p => wb (a call wc false ρ p) fun x => wb (b call wc false ρ x.2) fun y => wb (op Ans.gb (cmpOp o1 x.1 y.1)) fun r =>
  wite (wp (.bool r, y.2)) (fun p => wb (c call wc false ρ p) fun z => wb (op Ans.gb (cmpOp o2 y.1 z.1)) fun r => wp (.bool r, z.2)) (fun p => wp (.bool false, p))
noncomputable def w_bop : BoolOp → Es → WsP → WvT := fun o _ es call wc m ρ p => wb (es.2 call wc o ρ p) fun x => wp (.bool x.1, x.2)
noncomputable def w_ite : E → E → E → WvT → WvT → WvT → WvT := fun _ _ _ c a b call wc m ρ p => match m with
  | true => wn
  | false => wite (c call wc true ρ p) (fun p => a call wc false ρ p) (fun p => b call wc false ρ p)
noncomputable def w_call : Nat → Es → WsP → WvT := fun f _ es call wc m ρ p => wb (es.1 call wc ρ p) fun x => wb (alt Ans.gc (call f x.1 x.2) (wc f x.1 x.2)) fun r => wout m r.1 r.2
noncomputable def w_blt : BI → Es → WsP → WvT := fun f _ es call wc m ρ p => wb (es.1 call wc ρ p) fun x => wb (op Ans.gv (bltOp f x.1)) fun r => wout m r x.2
noncomputable def w_isi : E → TI → WvT → WvT := fun _ t a call wc m ρ p => wb (a call wc false ρ p) fun x => wb (op Ans.gb (isiOp t x.1)) fun r => wp (.bool r, x.2)
noncomputable def w_meth : MI → E → Es → WvT → WsP → WvT := fun mi _ _ o es call wc m ρ p => wb (o call wc false ρ p) fun x => wb (es.1 call wc ρ x.2) fun y => wb (op Ans.gc (methX call mi x.1 y.1 y.2)) fun r => wout m r.1 r.2
noncomputable def w_repl : E → Str → Str → WvT → WvT := fun _ y z o call wc m ρ p => wb (o call wc false ρ p) fun x => wb (op Ans.gv (replOp x.1 y z)) fun r => wout m r x.2
noncomputable def w_attr : E → Bool → WvT → WvT := fun _ sg o call wc m ρ p => wb (o call wc false ρ p) fun x => wb (op Ans.gv (attrOp sg x.1)) fun r => wout m r x.2
noncomputable def w_idx : E → E → WvT → WvT → WvT := fun _ _ o i call wc m ρ p => wb (o call wc false ρ p) fun x => wb (i call wc false ρ x.2) fun y => wb (op Ans.gv (idxOp x.1 y.1 y.2)) fun r => wout m r y.2
noncomputable def w_slice : E → E → E → WvT → WvT → WvT → WvT := fun _ _ _ o lo hi call wc m ρ p => wb (o call wc false ρ p) fun x => wb (lo call wc false ρ x.2) fun y => wb (hi call wc false ρ y.2) fun z => wb (op Ans.gv (sliceOp x.1 y.1 z.1)) fun r => wout m r z.2
noncomputable def w_rank : E → WvT → WvT := fun _ a call wc m ρ p => wb (a call wc false ρ p) fun x => wb (op Ans.gv (rankOp x.1)) fun r => wout m r x.2
noncomputable def w_list : Es → WsP → WvT := fun _ es call wc m ρ p => wb (es.1 call wc ρ p) fun x => wout m (.list x.1) x.2
noncomputable def w_tup : Es → WsP → WvT := fun _ es call wc m ρ p => match m with
  | true => wn
  | false => wb (es.1 call wc ρ p) fun x => wp (.tup x.1, x.2)
noncomputable def w_comp : E → E → Es → List Nat → WvT → WvT → WsP → WvT := fun elt _ conds caps _ it _ call wc m ρ p => wb (it call wc false ρ p) fun x => wb (op Ans.gl (itemsOf x.1)) fun xs => wb (op Ans.gl (getAll ρ caps)) fun cs =>
  wb (op Ans.glp (compO call elt conds cs xs x.2)) fun r => wout m (.list r.1) r.2
noncomputable def w_nil : WsP := (fun _ _ _ p => wp ([], p), fun _ _ o _ p => wp (match o with | .And => true | .Or => false, p))
noncomputable def w_cons : E → Es → WvT → WsP → WsP := fun _ _ e es => (fun call wc ρ p => wb (e call wc false ρ p) fun x => wb (es.1 call wc ρ x.2) fun y => wp (x.1 :: y.1, y.2),
  fun call wc o ρ p => match o with
    | .And => wite (e call wc true ρ p) (fun p => es.2 call wc .And ρ p) (fun p => wp (false, p))
    | .Or => wite (e call wc true ρ p) (fun p => wp (true, p)) (fun p => es.2 call wc .Or ρ p))
noncomputable def wv (call : Orc) (wc : WO) (e : E) : Bool → List PV → Pl → W (PV × Pl) := @E.rec (fun _ => WvT) (fun _ => WsP) w_var w_cst w_bin w_neg w_not w_cmp w_cmp2 w_bop w_ite w_call w_blt w_isi w_meth w_repl w_attr w_idx w_slice w_rank w_list w_tup w_comp w_nil w_cons e call wc
noncomputable def wvP (es : Es) : WsP := @Es.rec (fun _ => WvT) (fun _ => WsP) w_var w_cst w_bin w_neg w_not w_cmp w_cmp2 w_bop w_ite w_call w_blt w_isi w_meth w_repl w_attr w_idx w_slice w_rank w_list w_tup w_comp w_nil w_cons es
noncomputable abbrev XV := Option PV × List PV × Pl
noncomputable abbrev WxT := Orc → WO → Md → List PV → Pl → W XV
noncomputable def wseq (w : W XV) (k : List PV → Pl → W XV) : W XV := wb w fun x s Q => match x.1 with
  | none => k x.2.1 x.2.2 s Q
  | some _ => Q x s
noncomputable def wfor (f : PV → List PV → Pl → W XV) (xs : List PV) : List PV → Pl → W XV := @List.rec PV (fun _ => List PV → Pl → W XV) (fun ρ p => wp (none, ρ, p)) (fun x _ r ρ p => wseq (f x ρ p) r) xs
noncomputable def wlen (l n : Nat) {α : Type} (w : W α) : W α := fun s Q => match Nat.ble l n with
  | true => w s Q
  | false => False
noncomputable def weq (l n : Nat) {α : Type} (w : W α) : W α := fun s Q => match Nat.beq l n with
  | true => w s Q
  | false => False
noncomputable def y_asg : Nat → E → WxT := fun i e call wc N ρ p => wb (wv call wc e false (fzq N.fz ρ e.vars) p) fun x => wp (none, (fzq N.fz ρ e.vars).set i x.1, x.2)
noncomputable def y_asgT : List Nat → E → WxT := fun is e call wc N ρ p => wb (wv call wc e false (fzq N.fz ρ e.vars) p) fun x => wb (op Ans.gl (seqOf x.1)) fun vs => weq vs.length is.length (wp (none, storeL (fzq N.fz ρ e.vars) is vs, x.2))
noncomputable def y_pset : Nat → E → E → WxT := fun k o e call wc N ρ p => wb (wv call wc e false (fzq N.fz ρ (e.vars ++ o.vars)) p) fun x => wb (wv call wc o false (fzq N.fz ρ (e.vars ++ o.vars)) x.2) fun y => op Ans.gx (psetOp k (fzq N.fz ρ (e.vars ++ o.vars)) y.1 x.1 y.2)
noncomputable def y_aug : Nat → Operator → E → WxT := fun i o e call wc N ρ p => wb (op Ans.gv (getV (fzq N.fz ρ (i :: e.vars)) i)) fun v s Q => match isLst v with
  | true => False
  | false => wb (wv call wc e false (fzq N.fz ρ (i :: e.vars)) p) (fun x => wb (op Ans.gv (binOp o v x.1)) fun r => wp (none, (fzq N.fz ρ (i :: e.vars)).set i r, x.2)) s Q
noncomputable def y_ret : E → WxT := fun e call wc N ρ p => wb (wv call wc e false (fzq N.fz ρ e.vars) p) fun x => wp (some x.1, fzq N.fz ρ e.vars, x.2)
noncomputable def y_ite : E → Ss → Ss → WxT → WxT → WxT := fun c _ _ t f call wc N ρ p => wite (wv call wc c true (fzq N.fz ρ c.vars) p) (fun p => t call wc N (fzq N.fz ρ c.vars) p) (fun p => f call wc N (fzq N.fz ρ c.vars) p)
noncomputable def wwhl (z : List PV → List PV) (t : List PV → Pl → W (PV × Pl)) (f : List PV → Pl → W XV) (n : Nat) : List PV → Pl → W XV := @Nat.rec (fun _ => List PV → Pl → W XV) (fun _ _ => wn) (fun _ r ρ p => wite (t (z ρ) p) (fun p => wseq (f (z ρ) p) r) (fun p => wp (none, z ρ, p))) n
noncomputable def y_whl : E → Ss → WxT → WxT := fun c b w call wc N ρ p => alt Ans.gx (wloop call N c b N.n ρ p) (wwhl (fun ρ => fzq N.fz ρ c.vars) (fun ρ p => wv call wc c true ρ p) (fun ρ p => w call wc N ρ p) N.n ρ p)
noncomputable def y_forv : Nat → E → Ss → WxT → WxT := fun i it b w call wc N ρ p => wb (wv call wc it false (fzq N.fz ρ it.vars) p) fun x => wb (op Ans.gl (itemsOf x.1)) fun xs => alt Ans.gx (forO call N i b xs (fzq N.fz ρ it.vars) x.2) (wlen xs.length lim (wfor (fun x ρ p => w call wc N (ρ.set i x) p) xs (fzq N.fz ρ it.vars) x.2))
noncomputable def y_forT : List Nat → E → Ss → WxT → WxT := fun is it b w call wc N ρ p => wb (wv call wc it false (fzq N.fz ρ it.vars) p) fun x => wb (op Ans.gl (itemsOf x.1)) fun xs => alt Ans.gx (forTO call N is b xs (fzq N.fz ρ it.vars) x.2) (wlen xs.length lim (wfor (fun x ρ p => wb (op Ans.gl (seqOf x)) fun vs => weq vs.length is.length (w call wc N (storeL ρ is vs) p)) xs (fzq N.fz ρ it.vars) x.2))
noncomputable def y_app : Nat → E → WxT := fun i e call wc N ρ p => wb (wg ((fzq N.fz ρ e.vars)[i]?)) fun o => wb (wv call wc e false (fzq N.fz ρ e.vars) p) fun x => op Ans.gx (appOp (fzq N.fz ρ e.vars) i o x.1 x.2)
noncomputable def y_newl : Nat → WxT := fun i call wc N ρ p => wp (none, ρ.set i (.own []), p)
noncomputable def y_newb : Nat → WxT := fun i call wc N ρ p => wp (none, ρ.set i (.ownb #[]), p)
noncomputable def y_tri : Ss → WxT → WxT := fun _ b call wc N ρ p => b call wc N ρ p
noncomputable def y_bad : WxT := fun call wc N _ _ => wn
noncomputable def y_snil : WxT := fun call wc N ρ p => wp (none, ρ, p)
noncomputable def y_scons : S → Ss → WxT → WxT → WxT := fun s1 ss1 s ss call wc N ρ p => alt Ans.gx (xSs call N (.cons s1 ss1) ρ p) (wseq (s call wc N ρ p) fun ρ p => ss call wc N ρ p)
noncomputable def wS (call : Orc) (wc : WO) (N : Md) (ss : Ss) : List PV → Pl → W XV := @Ss.rec (fun _ => WxT) (fun _ => WxT) y_asg y_asgT y_pset y_aug y_ret y_ite y_whl y_forv y_forT y_app y_newl y_newb y_tri y_bad y_snil y_scons ss call wc N
/-! it is sound -/
noncomputable def Sd {α : Type} (w : W α) (r : Option α) : Prop := ∀ s Q, w s Q → ∃ v s', r = some v ∧ Q v s'
theorem go_inv {α : Type} {o : Option α} {k : α → Prop} (h : go o k) : ∃ r, o = some r ∧ k r := by
  cases o with
  | none => exact h.elim
  | some r => exact ⟨r, rfl, h⟩
section
variable {α β : Type}
theorem Sd.g (o : Option α) : Sd (wg o) o := fun s Q h => by
  obtain ⟨r, e, h⟩ := go_inv h
  exact ⟨r, s, e, h⟩
theorem Sd.a {g : Ans → Option α} {o : Option α} {w : W α} (h : Sd w o) : Sd (alt g o w) o := fun s Q q => by
  cases s with
  | nil => exact h .nil Q q
  | c n a s =>
    cases n with
    | zero =>
      obtain ⟨r, _, e, q⟩ := go_inv q
      exact ⟨r, s, e, q⟩
    | succ n => exact h (.c n a s) Q q
theorem Sd.o {g : Ans → Option α} (o : Option α) : Sd (op g o) o := .a (.g o)
theorem Sd.p (a : α) : Sd (wp a) (some a) := fun s Q h => ⟨a, s, rfl, h⟩
theorem Sd.n {r : Option α} : Sd wn r := fun s Q h => h.elim
theorem Sd.b {w : W α} {r : Option α} (h : Sd w r) {k : α → W β} {K : KO α β} (hk : ∀ a, Sd (k a) (K.k a)) : Sd (wb w k) (@bnd _ _ r K) := fun s Q q => by
  obtain ⟨v, s', e, q⟩ := h s _ q
  subst e
  exact hk v s' Q q
theorem Sd.i {w : W (PV × Pl)} {r : Option (PV × Pl)} (h : Sd w r) {k l : Pl → W α} {K : KB α} {L : KC α} (hk : ∀ p, Sd (k p) (K.k p)) (hl : ∀ p, Sd (l p) (L.k p)) : Sd (wite w k l) (@iteK _ r K L) := fun s Q q => by
  obtain ⟨v, s', e, q⟩ := h s _ q
  subst e
  obtain ⟨v, p⟩ := v
  cases v with
  | bool c =>
    cases c with
    | true => exact hk p s' Q q
    | false => exact hl p s' Q q
  | _ => exact q.elim
end
theorem Sd.out (m : Bool) (r : PV) (p : Pl) : Sd (wout m r p) (out m r p) := by
  cases m with
  | false => exact .p _
  | true => exact .b (.o _) fun b => .p _
theorem Sd.s {w : W XV} {r : XR} (h : Sd w r) {k : List PV → Pl → W XV} {K : KX} (hk : ∀ ρ p, Sd (k ρ p) (K.k ρ p)) : Sd (wseq w k) (@seqX r K) := fun s Q q => by
  obtain ⟨⟨v, ρ, p⟩, s', e, q⟩ := h s _ q
  subst e
  cases v with
  | none => exact hk ρ p s' Q q
  | some v => exact ⟨_, s', rfl, q⟩
theorem Sd.f {f : PV → List PV → Pl → W XV} {g : PV → List PV → Pl → XR} (h : ∀ x ρ p, Sd (f x ρ p) (g x ρ p)) : ∀ xs ρ p, Sd (wfor f xs ρ p) (forLoop g xs ρ p)
  | [], ρ, p => .p _
  | x :: xs, ρ, p => .s (h x ρ p) fun ρ p => Sd.f h xs ρ p
theorem Sd.w {z : List PV → List PV} {t : List PV → Pl → W (PV × Pl)} {t' : List PV → Pl → Option (PV × Pl)} (ht : ∀ ρ p, Sd (t ρ p) (t' ρ p)) {f : List PV → Pl → W XV} {f' : List PV → Pl → XR} (hf : ∀ ρ p, Sd (f ρ p) (f' ρ p)) : ∀ n ρ p, Sd (wwhl z t f n ρ p) (whileLoop z t' f' n ρ p)
  | 0, ρ, p => .n
  | n + 1, ρ, p => Sd.i (k := fun p => wseq (f (z ρ) p) (wwhl z t f n)) (l := fun p => wp (none, z ρ, p)) (K := ⟨fun p => @seqX (f' (z ρ) p) ⟨fun ρ p => whileLoop z t' f' n ρ p⟩⟩) (L := ⟨fun p => some (none, z ρ, p)⟩) (ht (z ρ) p) (fun p => .s (hf (z ρ) p) fun ρ p => Sd.w ht hf n ρ p) fun p => .p (none, z ρ, p)
theorem Sd.l {α : Type} {l n : Nat} {w : W α} {r : Option α} (h : Sd w r) : Sd (wlen l n w) (if l ≤ n then r else none) := fun s Q q => by
  unfold wlen at q
  cases e : Nat.ble l n with
  | true =>
    rw [e] at q
    rw [if_pos (Nat.le_of_ble_eq_true e)]
    exact h s Q q
  | false =>
    rw [e] at q
    exact q.elim
theorem Sd.e {α : Type} {l n : Nat} {w : W α} {r : Option α} (h : Sd w r) : Sd (weq l n w) (if l = n then r else none) := fun s Q q => by
  unfold weq at q
  cases e : Nat.beq l n with
  | true =>
    rw [e] at q
    rw [if_pos (Nat.eq_of_beq_eq_true e)]
    exact h s Q q
  | false =>
    rw [e] at q
    exact q.elim
noncomputable abbrev COk (call : Orc) (wc : WO) : Prop := ∀ f xs p, Sd (wc f xs p) (call f xs p)
noncomputable abbrev VOk (w : WvT) (r : EvT) : Prop := ∀ call wc (_ : COk call wc) m ρ p, Sd (w call wc m ρ p) (r call m ρ p)
noncomputable abbrev POk (w : WsP) (r : EsP) : Prop := (∀ call wc (_ : COk call wc) ρ p, Sd (w.1 call wc ρ p) (r.1 call ρ p)) ∧ ∀ call wc (_ : COk call wc) o ρ p, Sd (w.2 call wc o ρ p) (r.2 call o ρ p)
theorem wcons {e : E} {es : Es} (he : VOk (fun call wc => wv call wc e) (fun call => ev call e)) (hs : POk (wvP es) (evP es)) : POk (wvP (.cons e es)) (evP (.cons e es)) :=
  ⟨fun call wc H ρ p => .b (he call wc H false ρ p) fun x => .b (hs.1 call wc H ρ x.2) fun y => .p _, fun call wc H o ρ p => by
    cases o with
    | And => exact Sd.i (K := ⟨fun p => evB call es .And ρ p⟩) (L := ⟨fun p => some (false, p)⟩) (he call wc H true ρ p) (fun p => hs.2 call wc H .And ρ p) fun p => .p (false, p)
    | Or => exact Sd.i (K := ⟨fun p => some (true, p)⟩) (L := ⟨fun p => evB call es .Or ρ p⟩) (he call wc H true ρ p) (fun p => .p (true, p)) fun p => hs.2 call wc H .Or ρ p⟩
theorem wv_all : (∀ e, VOk (fun call wc => wv call wc e) (fun call => ev call e)) ∧ ∀ es, POk (wvP es) (evP es) := by
  have main : ∀ e, VOk (fun call wc => wv call wc e) (fun call => ev call e) := fun e => @E.rec (fun e => VOk (fun call wc => wv call wc e) (fun call => ev call e)) (fun es => POk (wvP es) (evP es))
    (fun i call wc H m ρ p => .b (.o _) fun v => .out m v p)
    (fun v call wc H m ρ p => .out m v p)
    (fun o a b ha hb call wc H m ρ p => .b (ha call wc H false ρ p) fun x => .b (hb call wc H false ρ x.2) fun y => .b (.o _) fun r => .out m r y.2)
    (fun a ha call wc H m ρ p => .b (ha call wc H false ρ p) fun x => .b (.o _) fun r => .out m r x.2)
    (fun a ha call wc H m ρ p => by
      cases m with
      | true => exact Sd.i (K := ⟨fun p => some (PV.bool false, p)⟩) (L := ⟨fun p => some (PV.bool true, p)⟩) (ha call wc H true ρ p) (fun p => .p (PV.bool false, p)) fun p => .p (PV.bool true, p)
      | false => exact .n)
    (fun o a b ha hb call wc H m ρ p => .b (ha call wc H false ρ p) fun x => .b (hb call wc H false ρ x.2) fun y => .b (.o _) fun r => .p _)
    (fun o1 o2 a b c ha hb hc call wc H m ρ p => .b (ha call wc H false ρ p) fun x => .b (hb call wc H false ρ x.2) fun y => .b (.o _) fun r => .i (L := ⟨fun p => some (PV.bool false, p)⟩) (.p _) (fun p => .b (hc call wc H false ρ p) fun z => .b (.o _) fun r => .p _) fun p => .p (PV.bool false, p))
    (fun o es hs call wc H m ρ p => .b (hs.2 call wc H o ρ p) fun x => .p _)
    (fun c a b hc ha hb call wc H m ρ p => by
      cases m with
      | true => exact .n
      | false => exact .i (hc call wc H true ρ p) (fun p => ha call wc H false ρ p) fun p => hb call wc H false ρ p)
    (fun f es hs call wc H m ρ p => .b (hs.1 call wc H ρ p) fun x => .b (.a (H f x.1 x.2)) fun r => .out m r.1 r.2)
    (fun f es hs call wc H m ρ p => .b (hs.1 call wc H ρ p) fun x => .b (.o _) fun r => .out m r x.2)
    (fun a t ha call wc H m ρ p => .b (ha call wc H false ρ p) fun x => .b (.o _) fun r => .p _)
    (fun mi o es ho hs call wc H m ρ p => .b (ho call wc H false ρ p) fun x => .b (hs.1 call wc H ρ x.2) fun y => .b (.o _) fun r => .out m r.1 r.2)
    (fun o y z ho call wc H m ρ p => .b (ho call wc H false ρ p) fun x => .b (.o _) fun r => .out m r x.2)
    (fun o sg ho call wc H m ρ p => .b (ho call wc H false ρ p) fun x => .b (.o _) fun r => .out m r x.2)
    (fun o i ho hi call wc H m ρ p => .b (ho call wc H false ρ p) fun x => .b (hi call wc H false ρ x.2) fun y => .b (.o _) fun r => .out m r y.2)
    (fun o i j ho hi hj call wc H m ρ p => .b (ho call wc H false ρ p) fun x => .b (hi call wc H false ρ x.2) fun y => .b (hj call wc H false ρ y.2) fun z => .b (.o _) fun r => .out m r z.2)
    (fun a ha call wc H m ρ p => .b (ha call wc H false ρ p) fun x => .b (.o _) fun r => .out m r x.2)
    (fun es hs call wc H m ρ p => .b (hs.1 call wc H ρ p) fun x => .out m _ x.2)
    (fun es hs call wc H m ρ p => by
      cases m with
      | true => exact .n
      | false => exact .b (hs.1 call wc H ρ p) fun x => .p _)
    (fun elt it conds caps _ hi _ call wc H m ρ p => .b (hi call wc H false ρ p) fun x => .b (.o _) fun xs => .b (.o _) fun cs => .b (.o _) fun r => .out m _ r.2)
    ⟨fun call wc H ρ p => .p _, fun call wc H o ρ p => .p _⟩
    (fun e es he hs => wcons he hs) e
  refine ⟨main, fun es => @Es.rec (fun _ => True) (fun es => POk (wvP es) (evP es)) ?_ ?_ ?_ ?_ ?_ ?_ ?_ ?_ ?_ ?_ ?_ ?_ ?_ ?_ ?_ ?_ ?_ ?_ ?_ ?_ ?_ ⟨fun call wc H ρ p => .p _, fun call wc H o ρ p => .p _⟩ (fun e es _ hs => wcons (main e) hs) es⟩ <;> intros <;> trivial
theorem wv_ok (call : Orc) {wc : WO} (H : COk call wc) (e : E) (m : Bool) (ρ : List PV) (p : Pl) : Sd (wv call wc e m ρ p) (ev call e m ρ p) := wv_all.1 e call wc H m ρ p
noncomputable abbrev XOk (w : WxT) (r : XT) : Prop := ∀ call wc (_ : COk call wc) N ρ p, Sd (w call wc N ρ p) (r call N ρ p)
theorem wS_ok (call : Orc) {wc : WO} (H : COk call wc) (N : Md) (ss : Ss) (ρ : List PV) (p : Pl) : Sd (wS call wc N ss ρ p) (xSs call N ss ρ p) := @Ss.rec
    (fun s => XOk (@S.rec (fun _ => WxT) (fun _ => WxT) y_asg y_asgT y_pset y_aug y_ret y_ite y_whl y_forv y_forT y_app y_newl y_newb y_tri y_bad y_snil y_scons s) (fun call N => xS call N s)) (fun ss => XOk (fun call wc N => wS call wc N ss) (fun call N => xSs call N ss))
    (fun i e call wc H N ρ p => .b (wv_ok call H e _ _ _) fun x => .p _)
    (fun is e call wc H N ρ p => .b (wv_ok call H e _ _ _) fun x => .b (.o _) fun vs => .e (.p _))
    (fun k o e call wc H N ρ p => .b (wv_ok call H e _ _ _) fun x => .b (wv_ok call H o _ _ _) fun y => .o _)
    (fun i o e call wc H N ρ p => .b (.o _) fun v s Q q => by
      show ∃ x s', noLst _ (isLst v) = some x ∧ Q x s'
      cases h : isLst v with
      | true =>
        rw [h] at q
        exact q.elim
      | false =>
        rw [h] at q
        exact Sd.b (wv_ok call H e _ _ _) (fun x => Sd.b (.o _) fun r => .p _) s Q q)
    (fun e call wc H N ρ p => .b (wv_ok call H e _ _ _) fun x => .p _)
    (fun c t f ht hf call wc H N ρ p => .i (wv_ok call H c _ _ _) (fun p => ht call wc H N _ p) fun p => hf call wc H N _ p)
    (fun c b hb call wc H N ρ p => .a (.w (fun ρ p => wv_ok call H c true ρ p) (fun ρ p => hb call wc H N ρ p) _ _ _))
    (fun i it b hb call wc H N ρ p => .b (wv_ok call H it _ _ _) fun x => .b (.o _) fun xs => .a (.l (.f (fun x ρ p => hb call wc H N _ p) xs _ _)))
    (fun is it b hb call wc H N ρ p => .b (wv_ok call H it _ _ _) fun x => .b (.o _) fun xs => .a (.l (.f (fun x ρ p => .b (.o _) fun vs => .e (hb call wc H N _ p)) xs _ _)))
    (fun i e call wc H N ρ p => .b (.g _) fun o => .b (wv_ok call H e _ _ _) fun x => .o _)
    (fun i call wc H N ρ p => .p _)
    (fun i call wc H N ρ p => .p _)
    (fun b hb call wc H N ρ p => hb call wc H N ρ p)
    (fun call wc H N ρ p => .n)
    (fun call wc H N ρ p => .p _)
    (fun s ss hs hss call wc H N ρ p => .a (.s (hs call wc H N ρ p) fun ρ p => hss call wc H N ρ p))
    ss call wc H N ρ p
/-! facts -/
noncomputable def Fs (s : St) (z P : Prop) : Prop := z → P
section
variable {z P : Prop} {s : St} (n : Nat)
theorem fv {o : Option PV} {r : PV} (h : o = some r) (t : Fs s z P) : Fs (.c n (.v r) s) z (o = some r ∧ P) := fun q => ⟨h, t q⟩
theorem fb {o : Option Bool} {r : Bool} (h : o = some r) (t : Fs s z P) : Fs (.c n (.b r) s) z (o = some r ∧ P) := fun q => ⟨h, t q⟩
theorem fc {o : Option (PV × Pl)} {r : PV × Pl} (h : o = some r) (t : Fs s z P) : Fs (.c n (.c r) s) z (o = some r ∧ P) := fun q => ⟨h, t q⟩
theorem fl {o : Option (List PV)} {r : List PV} (h : o = some r) (t : Fs s z P) : Fs (.c n (.l r) s) z (o = some r ∧ P) := fun q => ⟨h, t q⟩
theorem fp {o : Option (List PV × Pl)} {r : List PV × Pl} (h : o = some r) (t : Fs s z P) : Fs (.c n (.lp r) s) z (o = some r ∧ P) := fun q => ⟨h, t q⟩
theorem fx {o : XR} {r : XV} (h : o = some r) (t : Fs s z P) : Fs (.c n (.x r) s) z (o = some r ∧ P) := fun q => ⟨h, t q⟩
end
theorem f0 {z : Prop} : Fs .nil z z := id
section
variable {P : Prop} {s : St} {call : Orc} {N : Md} {ρ : List PV} {p : Pl}
/-- calls compute, or their answers are given -/
noncomputable def wG (call : Orc) : WO := fun f xs p => wg (call f xs p)
theorem wG_ok (call : Orc) : COk call (wG call) := fun f xs p => .g _
theorem walkX {c : Ss} {r : Option XV} (h : Fs s (r = r) P) (e : P = wS call (wG call) N c ρ p s (fun x _ => some x = r)) : xSs call N c ρ p = r := by
  have h : P := h rfl
  rw [e] at h
  obtain ⟨v, s', e, q⟩ := wS_ok call (wG_ok call) N c ρ p s _ h
  rw [e]; exact q
theorem walkF {c : Ss} {r : Option (PV × Pl)} (h : Fs s (r = r) P) (e : P = wS call (wG call) N c ρ p s (fun x _ => finV x.2.2 x.1 = r)) : fin (xSs call N c ρ p) = r := by
  have h : P := h rfl
  rw [e] at h
  obtain ⟨v, s', e, q⟩ := wS_ok call (wG_ok call) N c ρ p s _ h
  rw [e]; exact q
theorem walkE {c : E} {m : Bool} {r : Option (PV × Pl)} (h : Fs s (r = r) P) (e : P = wv call (wG call) c m ρ p s (fun x _ => some x = r)) : ev call c m ρ p = r := by
  have h : P := h rfl
  rw [e] at h
  obtain ⟨v, s', e, q⟩ := wv_ok call (wG_ok call) c m ρ p s _ h
  rw [e]; exact q
theorem walkB {c : Es} {o : BoolOp} {r : Option (Bool × Pl)} (h : Fs s (r = r) P) (e : P = (wvP c).2 call (wG call) o ρ p s (fun x _ => some x = r)) : evB call c o ρ p = r := by
  have h : P := h rfl
  rw [e] at h
  obtain ⟨v, s', e, q⟩ := (wv_all.2 c).2 call _ (wG_ok call) o ρ p s _ h
  rw [show evB call c o ρ p = _ from e]; exact q
end
/-! calls of functions; turns of comprehensions -/
noncomputable def wrun (call : Orc) (wc : WO) (N : Md) (n v : Nat) (c : Ss) (args : List PV) (p : Pl) : W (PV × Pl) := weq args.length n (wb (wS call wc N c (args ++ List.replicate (v - n) .unb) p) fun x => wg (finV x.2.2 x.1))
noncomputable def wC (call : Orc) (wc : WO) (k : Nat) (xs : List PV) (p : Pl) : W (PV × Pl) := match k with
  | 0 => wg (partF xs p)
  | 1 => wg (takesF call xs p)
  | 42 => fun s Q => match special xs with
    | true => False
    | false => wrun call wc NQ 2 2 k_law_call xs p s Q
  | k => fun s Q => match codTab.lookup k with
    | some x => wrun call wc (mdOf k) x.1 x.2.1 x.2.2 xs p s Q
    | none => False
theorem Sd.run (call : Orc) {wc : WO} (H : COk call wc) (N : Md) (n v : Nat) (c : Ss) (xs : List PV) (p : Pl) : Sd (wrun call wc N n v c xs p) (runC call N n v c xs p) :=
  .e fun s Q q => by
    obtain ⟨x, s', e, q⟩ := wS_ok call H N c _ p s _ q
    obtain ⟨r, q1, q⟩ := go_inv q
    exact ⟨r, s', by rw [e]; exact q1, q⟩
theorem orcF_other {hi : Bool} {call : Orc} {k : Nat} {xs : List PV} {p : Pl} (h0 : k ≠ 0) (h1 : k ≠ 1) (h2 : k ≠ 42) : orcF hi call k xs p = otherF call k xs p := by
  unfold orcF
  split
  · exact absurd rfl h0
  · exact absurd rfl h1
  · exact absurd rfl h2
  · rfl
theorem Sd.call (hi : Bool) (call : Orc) {wc : WO} (H : COk call wc) (k : Nat) (xs : List PV) (p : Pl) : Sd (wC call wc k xs p) (orcF hi call k xs p) := by
  unfold wC
  split
  · exact .g _
  · exact .g _
  · intro s Q q
    show ∃ v s', callF hi call xs p = some v ∧ Q v s'
    unfold callF
    cases e : special xs with
    | true => rw [e] at q; exact q.elim
    | false => rw [e] at q; exact Sd.run call H NQ 2 2 k_law_call xs p s Q q
  · rename_i h0 h1 h2
    rw [orcF_other h0 h1 h2]
    intro s Q q
    unfold otherF
    cases e : codTab.lookup k with
    | none => rw [e] at q; exact q.elim
    | some x => rw [e] at q; exact Sd.run _ H _ _ _ _ _ _ s Q q
noncomputable def wD (d : Nat) : WO := @Nat.rec (fun _ => WO) (fun _ _ _ => wn) (fun d w => wC (orc d) w) d
theorem wD_ok : ∀ d, COk (orc d) (wD d)
  | 0 => fun _ _ _ => .n
  | d + 1 => fun k xs p => Sd.call (Nat.ble 5 d) (orc d) (wD_ok d) k xs p
theorem walkC {d k : Nat} {xs : List PV} {p : Pl} {s : St} {P : Prop} {r : Option (PV × Pl)} (h : Fs s (r = r) P) (e : P = wD (d + 1) k xs p s (fun x _ => some x = r)) : orc (d + 1) k xs p = r := by
  have h : P := h rfl
  rw [e] at h
  obtain ⟨v, s', e, q⟩ := wD_ok (d + 1) k xs p s _ h
  exact e.trans q
theorem walkY {d : Nat} {N : Md} {c : Ss} {ρ : List PV} {p : Pl} {s : St} {P : Prop} {r : Option XV} (h : Fs s (r = r) P) (e : P = wS (orc d) (wD d) N c ρ p s (fun x _ => some x = r)) : xSs (orc d) N c ρ p = r := by
  have h : P := h rfl
  rw [e] at h
  obtain ⟨v, s', e, q⟩ := wS_ok (orc d) (wD_ok d) N c ρ p s _ h
  rw [e]; exact q
theorem walkZ {d : Nat} {N : Md} {c : Ss} {ρ : List PV} {p : Pl} {s : St} {P : Prop} {r : Option (PV × Pl)} (h : Fs s (r = r) P) (e : P = wS (orc d) (wD d) N c ρ p s (fun x _ => finV x.2.2 x.1 = r)) : fin (xSs (orc d) N c ρ p) = r := by
  have h : P := h rfl
  rw [e] at h
  obtain ⟨v, s', e, q⟩ := wS_ok (orc d) (wD_ok d) N c ρ p s _ h
  rw [e]; exact q
noncomputable def wturn (call : Orc) (elt : E) (conds : Es) (cs : List PV) (x : PV) (p : Pl) : W (Option PV × Pl) := wb ((wvP conds).2 call (wG call) .And (x :: cs) p) fun b => wite (wp (.bool b.1, b.2)) (fun p => wb (wv call (wG call) elt false (x :: cs) p) fun v => wp (some v.1, v.2)) (fun p => wp (none, p))
theorem Sd.turn (call : Orc) (elt : E) (conds : Es) (cs : List PV) (x : PV) (p : Pl) : Sd (wturn call elt conds cs x p) (turnC call elt conds cs x p) :=
  .b ((wv_all.2 conds).2 call _ (wG_ok call) .And (x :: cs) p) fun b => .i (K := ⟨fun p => @bnd _ _ (ev call elt false (x :: cs) p) ⟨fun v => some (some v.1, v.2)⟩⟩) (L := ⟨fun p => some (none, p)⟩) (.p _) (fun p => .b (wv_ok call (wG_ok call) elt _ _ _) fun v => .p _) fun p => .p (none, p)
theorem walkT {call : Orc} {elt : E} {conds : Es} {cs : List PV} {x : PV} {p : Pl} {s : St} {P : Prop} {r : Option (Option PV × Pl)} (h : Fs s (r = r) P) (e : P = wturn call elt conds cs x p s (fun x _ => some x = r)) : turnC call elt conds cs x p = r := by
  have h : P := h rfl
  rw [e] at h
  obtain ⟨v, s', e, q⟩ := Sd.turn call elt conds cs x p s _ h
  exact e.trans q
/-! what the operations answer -/
noncomputable abbrev T (l : List Nat) : PV := .str ⟨l.toArray⟩
theorem lim_le {n : Nat} (h : n ≤ 1000) : n ≤ lim := Nat.le_trans h (Nat.le_of_ble_eq_true rfl)
theorem le_k {n a b : Nat} (h : n ≤ a) (e : Nat.ble a b = true) : n ≤ b := Nat.le_trans h (Nat.le_of_ble_eq_true e)
theorem T_inj {a b : List Nat} : (⟨a.toArray⟩ : Str) = ⟨b.toArray⟩ ↔ a = b := ⟨fun h => congrArg (fun x : Str => x.cps.toList) h, fun h => h ▸ rfl⟩
theorem T_beq (a b : List Nat) : ((⟨a.toArray⟩ : Str) == ⟨b.toArray⟩) = (a == b) := Bool.eq_iff_iff.mpr (beq_iff_eq.trans (T_inj.trans beq_iff_eq.symm))
theorem str_eta (s : Str) : PV.str s = T s.cps.toList := rfl
theorem c_eqT {a b : List Nat} {r : Bool} (h : (a == b) = r) : cmpOp .Eq (T a) (T b) = some r := congrArg some ((T_beq a b).trans h)
theorem c_neT {a b : List Nat} {r : Bool} (h : (a == b) = r) : cmpOp .NotEq (T a) (T b) = some (!r) := congrArg (fun x => some (!x)) ((T_beq a b).trans h)
theorem c_gt {a b : Int} {r : Bool} (h : decide (a > b) = r) : cmpOp .Gt (.int a) (.int b) = some r := congrArg some h
theorem c_lt {a b : Int} {r : Bool} (h : decide (a < b) = r) : cmpOp .Lt (.int a) (.int b) = some r := congrArg some h
theorem c_le {a b : Int} {r : Bool} (h : decide (a ≤ b) = r) : cmpOp .LtE (.int a) (.int b) = some r := congrArg some h
theorem c_ge {a b : Int} {r : Bool} (h : decide (a ≥ b) = r) : cmpOp .GtE (.int a) (.int b) = some r := congrArg some h
theorem c_eqi {a b : Int} {r : Bool} (h : (a == b) = r) : cmpOp .Eq (.int a) (.int b) = some r := congrArg some h
theorem c_inT {c : Nat} {b : List Nat} {r : Bool} (h : decide (c ∈ b) = r) : cmpOp .In (T [c]) (T b) = some r := congrArg some ((StrLaws.found_one ..).trans h)
theorem nes_i (i : Int) : cmpOp .NotEq (.list [.int i]) (.list [.int i]) = some false := congrArg (fun x => some (!x)) (beq_self_eq_true i)
theorem nes_T (s : List Nat) : cmpOp .NotEq (.list [T s]) (.list [T s]) = some false := congrArg (fun x => some (!x)) (beq_self_eq_true (⟨s.toArray⟩ : Str))
theorem nes_b (s : Array UInt8) : cmpOp .NotEq (.list [.bytes s]) (.list [.bytes s]) = some false := congrArg (fun x => some (!x)) (beq_self_eq_true s)
theorem eqs_i (i : Int) : cmpOp .Eq (.list [.int i]) (.list [.int i]) = some true := congrArg some (beq_self_eq_true i)
theorem eqs_T (s : List Nat) : cmpOp .Eq (.list [T s]) (.list [T s]) = some true := congrArg some (beq_self_eq_true (⟨s.toArray⟩ : Str))
theorem b_mul {a b : Int} (h : b.natAbs < 2 ^ 62) : binOp .Mult (.int a) (.int b) = some (.int (a * b)) := if_pos h
theorem b_div {a b : Int} (h0 : b ≠ 0) (h : b.natAbs < 1073741824) : binOp .FloorDiv (.int a) (.int b) = some (.int (a.fdiv b)) := if_pos ⟨h0, h⟩
theorem b_mod {a b : Int} (h0 : b ≠ 0) : binOp .Mod (.int a) (.int b) = some (.int (a.fmod b)) := if_pos h0
theorem b_cat {a b : List Nat} (h : a.length + b.length ≤ 1000) : binOp .Add (T a) (T b) = some (T (a ++ b)) :=
  (if_pos (show a.toArray.size + b.toArray.size ≤ lim from lim_le h)).trans (congrArg (fun x : Array Nat => some (PV.str ⟨x⟩)) (List.append_toArray a b))
theorem b_lcat {a b : List PV} (h : a.length + b.length ≤ 1000) : binOp .Add (.list a) (.list b) = some (.list (a ++ b)) := if_pos (lim_le h)
theorem l_chr {i : Int} (h : 0 ≤ i ∧ i ≤ 1114111) : bltOp .chr [.int i] = some (T [i.toNat]) := if_pos h
theorem l_lenT {a : List Nat} (h : a.length ≤ 1000) : bltOp .len [T a] = some (.int a.length) := if_pos (show a.toArray.size ≤ lim from lim_le h)
theorem l_lenB {a : Array UInt8} (h : a.size ≤ 1000) : bltOp .len [.bytes a] = some (.int a.size) := if_pos (lim_le h)
theorem l_lenL {a : List PV} (h : a.length ≤ 1000) : bltOp .len [.list a] = some (.int a.length) := if_pos (lim_le h)
theorem l_rng1 {n : Int} (h : n.natAbs ≤ 1000) : bltOp .range [.int n] = some (.rng 0 n) := if_pos (lim_le h)
theorem l_rng2 {a b : Int} (h : a.natAbs ≤ 1000) (h2 : b.natAbs ≤ 1000) : bltOp .range [.int a, .int b] = some (.rng a b) := if_pos ⟨lim_le h, lim_le h2⟩
theorem l_str {i : Int} (h : i.natAbs < 10 ^ 30) : bltOp .str [.int i] = some (.str (Str.ofString (toString i))) := if_pos h
theorem it_rng {a b : Int} (h : a.natAbs ≤ 1000) (h2 : b.natAbs ≤ 1000) : itemsOf (.rng a b) = some (upto a (b - a).toNat) := if_pos ⟨Nat.le_trans h (Nat.le_of_ble_eq_true rfl), Nat.le_trans h2 (Nat.le_of_ble_eq_true rfl)⟩
theorem l_list {v : PV} {xs : List PV} (h : itemsOf v = some xs) (hl : xs.length ≤ 1000) : bltOp .list [v] = some (.list xs) := by
  show @bnd _ _ (itemsOf v) ⟨fun xs => grd (xs.length ≤ lim) (PV.list xs)⟩ = _
  rw [h]
  exact if_pos (lim_le hl)
theorem upto_len : ∀ (n : Nat) (lo : Int), (upto lo n).length = n
  | 0, _ => rfl
  | n + 1, lo => congrArg (· + 1) (upto_len n (lo + 1))
/-! items -/
theorem ix_nat {n k : Nat} (h : k < n) : idxOf n (k : Int) = some k := (if_pos (Int.natCast_nonneg k)).trans (if_pos (Int.ofNat_lt.mpr h))
theorem ix_last {n : Nat} (h : 0 < n) : idxOf n (-1) = some (n - 1) := by
  cases n with
  | zero => cases h
  | succ n =>
    have e : (-1 : Int) + ((n + 1 : Nat) : Int) = (n : Int) := by omega
    show (if 0 ≤ (-1 : Int) + ((n + 1 : Nat) : Int) then some ((-1 : Int) + ((n + 1 : Nat) : Int)).toNat else none) = _
    rw [e]
    exact if_pos (Int.natCast_nonneg n)
theorem getAt_pos {α β : Type} {c : Prop} [Decidable c] {n : Nat} {i : Int} {get : Nat → Option α} {f : α → β} {k : Nat} {v : α} (hc : c) (e : idxOf n i = some k) (h : get k = some v) : getAt c n i get f = some (f v) := by
  unfold getAt
  rw [if_pos hc, e]
  show @bnd _ _ (get k) ⟨fun c => some (f c)⟩ = _
  rw [h]; rfl
theorem lt_of_get {α : Type} {xs : List α} {k : Nat} {v : α} (h : xs[k]? = some v) : k < xs.length := (List.getElem?_eq_some_iff.mp h).1
theorem x_L (p : Pl) {xs : List PV} {k : Nat} {v : PV} (hl : xs.length ≤ 1000) (h : xs[k]? = some v) : idxOp (.list xs) (.int (k : Int)) p = some v :=
  getAt_pos (f := id) (lim_le hl) (ix_nat (lt_of_get h)) h
theorem x_T (p : Pl) {xs : List Nat} {k v : Nat} (hl : xs.length ≤ 1000) (h : xs[k]? = some v) : idxOp (T xs) (.int (k : Int)) p = some (T [v]) :=
  getAt_pos (f := fun c => PV.str ⟨#[c]⟩) (show xs.toArray.size ≤ lim from lim_le hl) (ix_nat (lt_of_get h)) ((List.getElem?_toArray ..).trans h)
theorem last_pos {α : Type} {xs : List α} {v : α} (h : xs.getLast? = some v) : 0 < xs.length ∧ xs[xs.length - 1]? = some v := by
  refine ⟨?_, List.getLast?_eq_getElem? .. ▸ h⟩
  cases xs with
  | nil => cases h
  | cons a b => exact Nat.succ_pos _
theorem x_lastL (p : Pl) {xs : List PV} {v : PV} (hl : xs.length ≤ 1000) (h : xs.getLast? = some v) : idxOp (.list xs) (.int (-1)) p = some v :=
  getAt_pos (f := id) (lim_le hl) (ix_last (last_pos h).1) (last_pos h).2
theorem x_lastT (p : Pl) {xs : List Nat} {v : Nat} (hl : xs.length ≤ 1000) (h : xs.getLast? = some v) : idxOp (T xs) (.int (-1)) p = some (T [v]) :=
  getAt_pos (f := fun c => PV.str ⟨#[c]⟩) (show xs.toArray.size ≤ lim from lim_le hl) (ix_last (last_pos h).1) ((List.getElem?_toArray ..).trans (last_pos h).2)
/-! slices -/
/-- the part from i up to j -/
noncomputable def sl {α : Type} (a : List α) (i j : Nat) : List α := (a.take j).drop i
theorem take_clip {α : Type} (a : List α) (j : Nat) : a.take (min j a.length) = a.take j := by rw [← List.take_take, List.take_length]
theorem cut_sl {α : Type} (a : List α) (i j : Nat) : cut a (some (i : Int)) (some (j : Int)) = sl a i j := by
  show (a.drop (clipAt a.length i)).take (clipAt a.length j - clipAt a.length i) = _
  rw [clipAt_nat, clipAt_nat, ← List.drop_take, take_clip]
  unfold sl
  rcases Nat.le_total i a.length with h | h
  · rw [Nat.min_eq_left h]
  · exact (List.drop_of_length_le (by rw [Nat.min_eq_right h]; exact List.length_take_le' ..)).trans (List.drop_of_length_le (Nat.le_trans (List.length_take_le' ..) h)).symm
theorem cut_0 {α : Type} (a : List α) : cut a none (some 0) = sl a 0 0 := by
  show (a.drop 0).take (clipAt a.length ((0 : Nat) : Int) - 0) = (a.take 0).drop 0
  rw [clipAt_nat, Nat.zero_min]; rfl
theorem cut_from {α : Type} (a : List α) (i : Nat) : cut a (some (i : Int)) none = a.drop i := by
  show (a.drop (clipAt a.length i)).take (a.length - clipAt a.length i) = _
  rw [clipAt_nat, List.take_of_length_le (by rw [List.length_drop]; exact Nat.le_refl _)]
  rcases Nat.le_total i a.length with h | h
  · rw [Nat.min_eq_left h]
  · rw [Nat.min_eq_right h, List.drop_length, List.drop_of_length_le h]
theorem cut_butlast {α : Type} (a : List α) : cut a none (some (-1)) = a.dropLast := by
  show (a.drop 0).take (clipAt a.length (-((1 : Nat) : Int)) - 0) = _
  rw [clipAt_neg _ _ (Nat.le_refl 1), List.drop_zero, Nat.sub_zero, List.dropLast_eq_take]
theorem slice_cut (a : List Nat) (l h : Option Int) : Txt.slice ⟨a.toArray⟩ l h = ⟨(cut a l h).toArray⟩ := by
  have e : Builtin.Str.strSliceIndices l h 1 a.length = (List.range (h.elim a.length (clipAt a.length) - l.elim 0 (clipAt a.length))).map (l.elim 0 (clipAt a.length) + ·) := by
    rw [show Builtin.Str.strSliceIndices l h 1 a.length = sliceRange (sliceBounds l h none a.length).1 (sliceBounds l h none a.length).2.1 1 from rfl, sliceBounds_plain]
    exact sliceRange_one _ _
  show (if ((1 : Int) == 1 && (Builtin.Str.strSliceIndices l h 1 a.length).length == a.length) = true then (⟨a.toArray⟩ : Str) else ⟨((Builtin.Str.strSliceIndices l h 1 a.length).filterMap (a.toArray[·]?)).toArray⟩) = _
  rw [e, pick_run]
  have hc : ∀ i, clipAt a.length i ≤ a.length := fun i => Int.ofNat_le.mp (clipAt_cast a.length i ▸ Int.max_le.mpr ⟨Int.natCast_nonneg _, Int.min_le_right ..⟩)
  have hl : l.elim 0 (clipAt a.length) ≤ a.length := by
    cases l with
    | none => exact Nat.zero_le _
    | some i => exact hc i
  have hh : h.elim a.length (clipAt a.length) ≤ a.length := by
    cases h with
    | none => exact Nat.le_refl _
    | some i => exact hc i
  split
  · rename_i hc
    have hc := eq_of_beq (Bool.and_eq_true_iff.mp hc).2
    rw [List.length_map, List.length_range] at hc
    have h1 : l.elim 0 (clipAt a.length) = 0 := by omega
    unfold cut
    rw [h1] at hc ⊢
    rw [hc, List.drop_zero, List.take_length]
  · rfl
theorem bnd_nat {i : Nat} (h : i ≤ 1000) : bndOf (.int (i : Int)) = some (some (i : Int)) := if_pos (lim_le h)
theorem sliceT {a : List Nat} {lo hi : PV} {l h : Option Int} (ha : a.length ≤ 1000) (hl : bndOf lo = some l) (hh : bndOf hi = some h) : sliceOp (T a) lo hi = some (T (cut a l h)) := by
  unfold sliceOp
  rw [hl, hh]
  exact (if_pos (show a.toArray.size ≤ lim from lim_le ha)).trans (congrArg (fun x => some (PV.str x)) (slice_cut a l h))
theorem sliceB {a : Array UInt8} {lo hi : PV} {l h : Option Int} (ha : a.size ≤ 1000) (hl : bndOf lo = some l) (hh : bndOf hi = some h) : sliceOp (.bytes a) lo hi = some (.bytes (cut a.toList l h).toArray) := by
  unfold sliceOp
  rw [hl, hh]
  exact if_pos (lim_le ha)
theorem sliceL {a : List PV} {lo hi : PV} {l h : Option Int} (ha : a.length ≤ 1000) (hl : bndOf lo = some l) (hh : bndOf hi = some h) : sliceOp (.list a) lo hi = some (.list (cut a l h)) := by
  unfold sliceOp
  rw [hl, hh]
  exact if_pos (lim_le ha)
theorem sl_T {a : List Nat} {i j : Nat} (ha : a.length ≤ 1000) (hi : i ≤ 1000) (hj : j ≤ 1000) : sliceOp (T a) (.int (i : Int)) (.int (j : Int)) = some (T (sl a i j)) := cut_sl a i j ▸ sliceT ha (bnd_nat hi) (bnd_nat hj)
theorem sl_B {a : Array UInt8} {i j : Nat} (ha : a.size ≤ 1000) (hi : i ≤ 1000) (hj : j ≤ 1000) : sliceOp (.bytes a) (.int (i : Int)) (.int (j : Int)) = some (.bytes (sl a.toList i j).toArray) := cut_sl a.toList i j ▸ sliceB ha (bnd_nat hi) (bnd_nat hj)
theorem sl_tail {a : List Nat} (ha : a.length ≤ 1000) : sliceOp (T a) (.int 1) .none = some (T (a.drop 1)) := cut_from a 1 ▸ sliceT (l := some 1) ha rfl rfl
theorem sl_init {a : List Nat} (ha : a.length ≤ 1000) : sliceOp (T a) .none (.int (-1)) = some (T a.dropLast) := cut_butlast a ▸ sliceT (h := some (-1)) ha rfl rfl
theorem ap_own (ρ : List PV) (i : Nat) (xs : List PV) (v : PV) (p : Pl) (h : xs.length ≤ 1000) : appOp ρ i (.own xs) v p = some (none, ρ.set i (.own (xs ++ [v])), p) := if_pos (lim_le h)
theorem ap_ownb (ρ : List PV) (i : Nat) (b : Array UInt8) (k : Int) (p : Pl) (h : b.size ≤ 1000) (h0 : 0 ≤ k ∧ k < 256) : appOp ρ i (.ownb b) (.int k) p = some (none, ρ.set i (.ownb (b.push (UInt8.ofNat k.toNat))), p) := if_pos ⟨lim_le h, h0⟩
/-! joins -/
theorem strsOf_T : ∀ l : List (List Nat), strsOf (l.map T) = some (l.map fun a => ⟨a.toArray⟩)
  | [] => rfl
  | a :: r => congrArg (Option.map ((⟨a.toArray⟩ : Str) :: ·)) (strsOf_T r)
theorem join_cps (sep : List Nat) : ∀ l : List (List Nat), Str.join ⟨sep.toArray⟩ (l.map fun a => (⟨a.toArray⟩ : Str)) = ⟨(l.intersperse sep).flatten.toArray⟩
  | [] => rfl
  | [a] => congrArg (fun x : List Nat => (⟨x.toArray⟩ : Str)) (List.append_nil a).symm
  | a :: b :: r => by
    show (⟨(a.toArray ++ sep.toArray) ++ (Str.join ⟨sep.toArray⟩ ((b :: r).map fun a => (⟨a.toArray⟩ : Str))).cps⟩ : Str) = ⟨(a ++ (sep ++ ((b :: r).intersperse sep).flatten)).toArray⟩
    rw [join_cps sep (b :: r), List.append_toArray, List.append_toArray, List.append_assoc]
theorem lens_T (l : List (List Nat)) : ((l.map fun a => (⟨a.toArray⟩ : Str)).map (·.length)).sum = (l.map (·.length)).sum := by rw [List.map_map]; rfl
theorem m_join {sep : List Nat} {l : List (List Nat)} (h : (l.map (·.length)).sum + l.length * sep.length ≤ 16777216) : methOp .join (T sep) [.list (l.map T)] = some (T (l.intersperse sep).flatten) := by
  show @bnd _ _ (strsOf (l.map T)) ⟨fun ss => grd (JoinOk ⟨sep.toArray⟩ ss) (PV.str (Txt.join ⟨sep.toArray⟩ ss))⟩ = _
  rw [strsOf_T]
  refine (if_pos ?_).trans (congrArg (fun x => some (PV.str x)) ((StrLaws.glued_eq_join ..).trans (join_cps sep l)))
  unfold JoinOk
  rw [StrLaws.joinTotal, lens_T, List.length_map]
  have e : Builtin.Str.tooLong ((l.map (·.length)).sum + l.length * sep.length) = false := decide_eq_false (Nat.not_lt.mpr h)
  exact congrArg (!·) e
theorem inter_nil : ∀ l : List (List Nat), (l.intersperse []).flatten = l.flatten
  | [] => rfl
  | [a] => rfl
  | a :: b :: r => congrArg (a ++ ·) (inter_nil (b :: r))
/-- the join of parts with nothing between them -/
theorem m_join0 {l : List (List Nat)} (h : (l.map (·.length)).sum ≤ 100000) : methOp .join (.str ⟨#[]⟩) [.list (l.map T)] = some (T l.flatten) :=
  inter_nil l ▸ m_join (sep := []) (Nat.le_trans h (Nat.le_of_ble_eq_true rfl))
theorem flat_one : ∀ l : List Nat, (l.map fun c => [c]).flatten = l
  | [] => rfl
  | c :: l => congrArg (c :: ·) (flat_one l)
theorem sum_ones : ∀ l : List Nat, ((l.map fun c => [c]).map (·.length)).sum = l.length
  | [] => rfl
  | c :: l => (congrArg (1 + ·) (sum_ones l)).trans (Nat.add_comm ..)
theorem join_chars {l : List Nat} (h : l.length ≤ 1000) : methOp .join (.str ⟨#[]⟩) [.list (l.map fun c => T [c])] = some (T l) := by
  have := m_join0 (l := l.map fun c => [c]) (by rw [sum_ones]; exact Nat.le_trans h (Nat.le_of_ble_eq_true rfl))
  rw [flat_one, List.map_map] at this
  exact this
theorem meth_x (call : Orc) {mi : MI} (hm : mi ≠ .takes) {x : PV} {vs : List PV} (p : Pl) {r : PV} (h : methOp mi x vs = some r) : methX call mi x vs p = some (r, p) := by
  have e : @bnd _ _ (methOp mi x vs) ⟨fun r => some (r, p)⟩ = some (r, p) := by rw [h]; rfl
  cases mi with
  | takes => exact absurd rfl hm
  | _ => exact e
/-- a join without a separator, of single signs -/
theorem j_chars (call : Orc) (p : Pl) {l : List Nat} (h : l.length ≤ 1000) : methX call .join (.str ⟨#[]⟩) [.list (l.map fun c => T [c])] p = some (T l, p) := meth_x call (fun q => by cases q) p (join_chars h)
/-! loops -/
theorem floop_inv {f : PV → List PV → Pl → XR} {α : Type} (g : α → PV) (I : List α → List PV → Pl → Prop) :
    ∀ (post pre : List α) (ρ : List PV) (p : Pl), (∀ pre' x post' ρ p, pre ++ post = pre' ++ x :: post' → I pre' ρ p → ∃ ρ' p', f (g x) ρ p = some (none, ρ', p') ∧ I (pre' ++ [x]) ρ' p') →
      I pre ρ p → ∃ ρ' p', forLoop f (post.map g) ρ p = some (none, ρ', p') ∧ I (pre ++ post) ρ' p'
  | [], pre, ρ, p, h, hI => ⟨ρ, p, rfl, (List.append_nil pre).symm ▸ hI⟩
  | x :: post, pre, ρ, p, h, hI => by
    obtain ⟨ρ1, p1, e1, h1⟩ := h pre x post ρ p rfl hI
    rw [List.append_cons] at h ⊢
    obtain ⟨ρ2, p2, e2, h2⟩ := floop_inv g I post (pre ++ [x]) ρ1 p1 h h1
    refine ⟨ρ2, p2, ?_, h2⟩
    show @seqX (f (g x) ρ p) ⟨fun ρ p => forLoop f (post.map g) ρ p⟩ = _
    rw [e1]; exact e2
theorem forO_inv {call : Orc} {N : Md} {i : Nat} {b : Ss} {α : Type} (g : α → PV) (I : List α → List PV → Pl → Prop) {xs : List α} {ρ : List PV} {p : Pl} (hl : xs.length ≤ 1000)
    (h : ∀ pre x post ρ p, xs = pre ++ x :: post → I pre ρ p → ∃ ρ' p', xSs call N b (ρ.set i (g x)) p = some (none, ρ', p') ∧ I (pre ++ [x]) ρ' p') (h0 : I [] ρ p) :
    ∃ ρ' p', forO call N i b (xs.map g) ρ p = some (none, ρ', p') ∧ I xs ρ' p' := by
  unfold forO
  rw [if_pos (by rw [List.length_map]; exact lim_le hl)]
  exact floop_inv g I xs [] ρ p h h0
theorem wloop_inv {call : Orc} {N : Md} {c : E} {b : Ss} {α : Type} (e : α → List PV) (I : α → Prop) (μ : α → Nat) (cond : α → Bool) (p : Pl) (ht : ∀ x, I x → fzq N.fz (e x) c.vars = e x ∧ ev call c true (e x) p = some (.bool (cond x), p))
    (hs : ∀ x, I x → cond x = true → ∃ y, xSs call N b (e x) p = some (none, e y, p) ∧ I y ∧ μ y < μ x) : ∀ (n : Nat) (x : α), μ x < n → I x → ∃ y, wloop call N c b n (e x) p = some (none, e y, p) ∧ I y ∧ cond y = false
  | 0, x, h, _ => absurd h (Nat.not_lt_zero _)
  | n + 1, x, h, hI => by
    obtain ⟨h1, h2⟩ := ht x hI
    show ∃ y, @iteK _ (ev call c true (fzq N.fz (e x) c.vars) p) ⟨fun p => @seqX (xSs call N b (fzq N.fz (e x) c.vars) p) ⟨fun ρ p => wloop call N c b n ρ p⟩⟩ ⟨fun p => some (none, fzq N.fz (e x) c.vars, p)⟩ = some (none, e y, p) ∧ I y ∧ cond y = false
    rw [h1, h2]
    cases hc : cond x with
    | false => exact ⟨x, rfl, hI, hc⟩
    | true =>
      obtain ⟨y, e1, hy, hm⟩ := hs x hI hc
      obtain ⟨z, e2, hz⟩ := wloop_inv e I μ cond p ht hs n y (Nat.lt_of_lt_of_le hm (Nat.le_of_lt_succ h)) hy
      refine ⟨z, ?_, hz⟩
      show @seqX (xSs call N b (e x) p) ⟨fun ρ p => wloop call N c b n ρ p⟩ = _
      rw [e1]; exact e2
theorem comp_map {f : PV → Pl → Option (Option PV × Pl)} {α : Type} (g : α → PV) (c : α → Bool) (h : α → PV) (p : Pl) : ∀ xs : List α, (∀ x ∈ xs, f (g x) p = some (if c x then some (h x) else none, p)) → compLoop f (xs.map g) p = some ((xs.filter c).map h, p)
  | [], _ => rfl
  | x :: xs, hf => by
    show @bnd _ _ (f (g x) p) ⟨fun r => @bnd _ _ (compLoop f (xs.map g) r.2) ⟨fun q => some (consO r.1 q.1, q.2)⟩⟩ = _
    rw [hf x List.mem_cons_self]
    show @bnd _ _ (compLoop f (xs.map g) p) ⟨fun q => some (consO (if c x then some (h x) else none) q.1, q.2)⟩ = _
    rw [comp_map g c h p xs fun y m => hf y (List.mem_cons_of_mem _ m), List.filter_cons]
    cases c x <;> rfl
theorem compO_filter {call : Orc} {elt : E} {conds : Es} {cs : List PV} {α : Type} (g : α → PV) (c : α → Bool) (h : α → PV) (p : Pl) (xs : List α) (hl : xs.length ≤ 1000) (hf : ∀ x ∈ xs, turnC call elt conds cs (g x) p = some (if c x then some (h x) else none, p)) :
    compO call elt conds cs (xs.map g) p = some ((xs.filter c).map h, p) :=
  (if_pos (by rw [List.length_map]; exact lim_le hl)).trans (comp_map g c h p xs hf)
theorem compO_map {call : Orc} {elt : E} {conds : Es} {cs : List PV} {α : Type} (g : α → PV) (h : α → PV) (p : Pl) (xs : List α) (hl : xs.length ≤ 1000) (hf : ∀ x ∈ xs, turnC call elt conds cs (g x) p = some (some (h x), p)) :
    compO call elt conds cs (xs.map g) p = some (xs.map h, p) := by
  rw [compO_filter g (fun _ => true) h p xs hl fun x m => hf x m, List.filter_eq_self.mpr fun _ _ => rfl]
/-- a comprehension that draws -/
theorem comp_draw {f : PV → Pl → Option (Option PV × Pl)} (V : PV → Prop) : ∀ (xs : List PV) (p : Pl), (∀ x ∈ xs, ∀ p, ∃ v p', f x p = some (some v, p') ∧ V v) →
    ∃ vs p', compLoop f xs p = some (vs, p') ∧ vs.length = xs.length ∧ ∀ v ∈ vs, V v
  | [], p, _ => ⟨[], p, rfl, rfl, fun v m => nomatch m⟩
  | x :: xs, p, hf => by
    obtain ⟨v, p1, e1, hv⟩ := hf x List.mem_cons_self p
    obtain ⟨vs, p2, e2, hl, hvs⟩ := comp_draw V xs p1 fun y m => hf y (List.mem_cons_of_mem _ m)
    refine ⟨v :: vs, p2, ?_, congrArg (· + 1) hl, List.forall_mem_cons.mpr ⟨hv, hvs⟩⟩
    show @bnd _ _ (f x p) ⟨fun r => @bnd _ _ (compLoop f xs r.2) ⟨fun q => some (consO r.1 q.1, q.2)⟩⟩ = _
    rw [e1]
    show @bnd _ _ (compLoop f xs p1) ⟨fun q => some (v :: q.1, q.2)⟩ = _
    rw [e2]; rfl
theorem compO_draw {call : Orc} {elt : E} {conds : Es} {cs : List PV} (V : PV → Prop) {xs : List PV} (p : Pl) (hl : xs.length ≤ 1000) (hf : ∀ x p, ∃ v p', turnC call elt conds cs x p = some (some v, p') ∧ V v) :
    ∃ vs p', compO call elt conds cs xs p = some (vs, p') ∧ vs.length = xs.length ∧ ∀ v ∈ vs, V v := by
  unfold compO
  rw [if_pos (lim_le hl)]
  exact comp_draw V xs p fun x _ => hf x
/-! draws -/
theorem nn_of {a b : Int} (h0 : 0 < b) : 0 ≤ a.fmod b ∧ a.fmod b < b := ⟨Int.fmod_nonneg_of_pos a h0, Int.fmod_lt_of_pos a h0⟩
theorem abs_lt {a b : Int} (h0 : 0 ≤ a) (h1 : a < b) : a.natAbs < b.toNat := by omega
theorem take_run (d : Nat) (p : Pl) {top : Int} (h0 : 0 < top) (h1 : top < 1073741824) : ∃ i p', orc (d + 1) 40 [.pool, .int top] p = some (.int i, p') ∧ 0 ≤ i ∧ i < top := by
  have hm := fun a => @b_mod a top (Int.ne_of_gt h0)
  have hd := fun a => @b_div a top (Int.ne_of_gt h0) (abs_lt (Int.le_of_lt h0) h1)
  cases h : decide (p.1 > 0) with
  | true =>
    have c := c_gt h
    exact ⟨p.1.fmod top, (p.1.fdiv top, p.2), by exact walkC (fb 3 c <| fv 5 (hm (p.fst)) <| fv 4 (hd (p.fst)) <| f0) (by kernel_rfl), nn_of h0⟩
  | false =>
    have c := c_gt h
    have e := @nn_of (p.2 * 39373 + 7) 2147483647 (by decide)
    have u := @b_mul ((p.2 * 39373 + 7).fmod 2147483647) ((p.2 * 39373 + 7).fmod 2147483647) (Nat.lt_trans (abs_lt e.1 e.2) (by decide))
    exact ⟨((((p.2 * 39373 + 7).fmod 2147483647 * (p.2 * 39373 + 7).fmod 2147483647).fmod 2147483629).fdiv 32).fmod top, (p.1, (p.2 * 39373 + 7).fmod 2147483647), by exact walkC (fb 3 c <| fv 14 u <| fv 5 (hm ((((p.snd * 39373 + 7).fmod 2147483647 * (p.snd * 39373 + 7).fmod 2147483647).fmod 2147483629).fdiv 32)) <| f0) (by kernel_rfl), nn_of h0⟩
theorem nat_of {i : Int} {n : Nat} (h : 0 ≤ i ∧ i < n) : ∃ k : Nat, i = k ∧ k < n := ⟨i.toNat, (Int.toNat_of_nonneg h.1).symm, (Int.toNat_lt h.1).mpr h.2⟩
/-- a draw below n -/
theorem take_nat (d : Nat) (p : Pl) {n : Nat} (h0 : 0 < n) (h1 : n ≤ 1048576) : ∃ (k : Nat) (p' : Pl), orc (d + 1) 40 [.pool, .int (n : Int)] p = some (.int (k : Int), p') ∧ k < n := by
  obtain ⟨i, p', e, h⟩ := take_run d p (top := (n : Int)) (Int.natCast_pos.mpr h0) (by omega)
  obtain ⟨k, rfl, hk⟩ := nat_of h
  exact ⟨k, p', e, hk⟩
theorem one_run (d : Nat) (p : Pl) {xs : List PV} (h0 : 0 < xs.length) (h1 : xs.length ≤ 1000) : ∃ v p', orc (d + 2) 41 [.pool, .list xs] p = some (v, p') ∧ v ∈ xs := by
  obtain ⟨k, p', e, hk⟩ := take_nat d p h0 (le_k h1 rfl)
  have hg : xs[k]? = some xs[k] := List.getElem?_eq_getElem hk
  exact ⟨xs[k], p', by exact walkC (fv 4 (@l_lenL (xs) (by assumption)) <| fc 0 e <| fv 0 (@x_L (p') (xs) (k) (xs[k]) (by assumption) (by assumption)) <| f0) (by kernel_rfl), List.getElem_mem hk⟩
/-- the signs of the texts -/
noncomputable def Sg : List Nat := [97, 98, 65, 90, 32, 39, 48, 233, 20013]
/-- values that are pictures of things -/
theorem pics {α : Type} (g : α → PV) {P : α → Prop} : ∀ {vs : List PV}, (∀ v ∈ vs, ∃ a, v = g a ∧ P a) → ∃ l : List α, vs = l.map g ∧ ∀ a ∈ l, P a
  | [], _ => ⟨[], rfl, fun c m => nomatch m⟩
  | v :: vs, h => by
    obtain ⟨a, rfl, ha⟩ := h v List.mem_cons_self
    obtain ⟨l, rfl, hl⟩ := pics g fun u m => h u (List.mem_cons_of_mem _ m)
    exact ⟨a :: l, rfl, List.forall_mem_cons.mpr ⟨ha, hl⟩⟩
theorem upto_le {n lo : Int} {k : Nat} (h : (n - lo).toNat ≤ k) (hk : k ≤ 1000) : (upto lo (n - lo).toNat).length ≤ 1000 := by
  rw [upto_len]; exact Nat.le_trans h hk
theorem drawn_run (d : Nat) (p : Pl) (m : Nat) (hm : m ≤ 10) : ∃ l p', orc (d + 3) 43 [.pool, .int m] p = some (T l, p') ∧ l.length ≤ m ∧ ∀ c ∈ l, c ∈ Sg := by
  obtain ⟨k, p1, e, hk⟩ := take_nat (d + 1) p (Nat.succ_pos m) (le_k (Nat.succ_le_succ hm) rfl)
  have hk' : k ≤ 1000 := Nat.le_trans (Nat.le_of_lt_succ hk) (le_k hm rfl)
  obtain ⟨vs, p2, e2, hl, hv⟩ := compO_draw (call := orc (d + 2)) (elt := k_law_drawn_c0) (conds := k_law_drawn_c0k) (cs := [.list (Sg.map fun c => T [c]), .pool]) (fun v => ∃ c, v = T [c] ∧ c ∈ Sg) (xs := upto 0 k) p1 (by rw [upto_len]; exact hk') (fun x q => by
    obtain ⟨n, q1, f1, hn⟩ := one_run d q (xs := [.int 2, .int 5, .int 9]) (by decide) (by decide)
    have hb : ∃ k : Nat, n = .int k ∧ 0 < k ∧ k ≤ 1000 ∧ sliceOp (.list (Sg.map fun c => T [c])) .none n = some (.list ((Sg.map fun c => T [c]).take k)) := by
      simp only [List.mem_cons, List.not_mem_nil, or_false] at hn
      rcases hn with rfl | rfl | rfl
      · exact ⟨2, rfl, by decide, by decide, rfl⟩
      · exact ⟨5, rfl, by decide, by decide, rfl⟩
      · exact ⟨9, rfl, by decide, by decide, rfl⟩
    obtain ⟨k, rfl, k0, k1, e1⟩ := hb
    obtain ⟨v, q2, f2, hv⟩ := one_run d q1 (xs := (Sg.map fun c => T [c]).take k) (by rw [List.length_take]; exact Nat.lt_min.mpr ⟨k0, by decide⟩) (Nat.le_trans (List.length_take_le ..) k1)
    obtain ⟨c, hc, rfl⟩ := List.mem_map.mp (List.mem_of_mem_take hv)
    exact ⟨T [c], q2, by exact walkT (fc 3 f1 <| fv 0 e1 <| fc 0 f2 <| f0) (by kernel_rfl), c, rfl, hc⟩)
  obtain ⟨l, rfl, hl2⟩ := pics (fun c => T [c]) hv
  rw [List.length_map, upto_len] at hl
  have r1 := @l_rng1 (k : Int) hk'
  have r2 := @it_rng 0 (k : Int) (Nat.zero_le _) hk'
  exact ⟨l, p2, by exact walkC (fc 7 e <| fv 0 r1 <| fl 0 r2 <| fp 1 e2 <| fc 0 (j_chars (orc (d + 2)) p2 (l := l) (hl ▸ hk')) <| f0) (by kernel_rfl), hl ▸ Nat.le_of_lt_succ hk, hl2⟩
theorem intsOf_map : ∀ l : List Int, intsOf (l.map .int) = some l
  | [] => rfl
  | k :: l => congrArg (Option.map (k :: ·)) (intsOf_map l)
theorem bytes_run {l : List Int} (hl : l.length ≤ 1000) (h : ∀ i ∈ l, 0 ≤ i ∧ i < 256) : bltOp .bytes [.list (l.map .int)] = some (.bytes (l.map fun i => UInt8.ofNat i.toNat).toArray) := by
  show @bnd _ _ (intsOf (l.map .int)) ⟨fun is => grd ((l.map PV.int).length ≤ lim ∧ is.all (fun i => decide (0 ≤ i ∧ i < 256)) = true) (PV.bytes (is.map fun (i : Int) => UInt8.ofNat i.toNat).toArray)⟩ = _
  rw [intsOf_map, List.length_map]
  exact if_pos ⟨lim_le hl, List.all_eq_true.mpr fun i m => decide_eq_true (h i m)⟩
theorem value_run (d : Nat) (p : Pl) : ∃ v p', orc (d + 4) 44 [.pool] p = some (v, p') ∧ ((∃ i, v = .int i ∧ i ∈ ([0, -12, 345, -9223372036854775808, 9223372036854775807] : List Int)) ∨ (∃ b : Array UInt8, v = .bytes b ∧ b.size ≤ 5) ∨ ∃ l, v = T l ∧ l.length ≤ 7 ∧ ∀ c ∈ l, c ∈ Sg) := by
  obtain ⟨k, p1, e, hk⟩ := take_nat (d + 2) p (n := 8) (by decide) (by decide)
  match k with
  | 0 =>
    obtain ⟨v, p2, f, hv⟩ := one_run (d + 1) p1 (xs := [.int 0, .int (-12), .int 345, .int (-9223372036854775808), .int 9223372036854775807]) (by decide) (by decide)
    refine ⟨v, p2, by exact walkC (fc 2 e <| fc 10 f <| f0) (by kernel_rfl), .inl ?_⟩
    obtain ⟨i, hi, rfl⟩ := List.mem_map.mp (show v ∈ ([0, -12, 345, -9223372036854775808, 9223372036854775807] : List Int).map .int from hv)
    exact ⟨i, rfl, hi⟩
  | 1 =>
    obtain ⟨n, p2, f, hn⟩ := take_nat (d + 2) p1 (n := 6) (by decide) (by decide)
    have hn' : n ≤ 1000 := Nat.le_trans (Nat.le_of_lt hn) (by decide)
    obtain ⟨vs, p3, e2, hl, hv⟩ := compO_draw (call := orc (d + 3)) (elt := k_law_value_c0) (conds := k_law_value_c0k) (cs := [.pool]) (fun v => ∃ i : Int, v = .int i ∧ (0 ≤ i ∧ i < 256)) (xs := upto 0 n) p2 (by rw [upto_len]; exact hn') (fun x q => by
      obtain ⟨v, q1, f1, hv⟩ := one_run (d + 1) q (xs := [.int 97, .int 98, .int 0, .int 255]) (by decide) (by decide)
      refine ⟨v, q1, by exact walkT (fc 1 f1 <| f0) (by kernel_rfl), ?_⟩
      obtain ⟨i, hi, rfl⟩ := List.mem_map.mp (show v ∈ ([97, 98, 0, 255] : List Int).map .int from hv)
      exact ⟨i, rfl, (by decide : ∀ i ∈ ([97, 98, 0, 255] : List Int), 0 ≤ i ∧ i < 256) i hi⟩)
    obtain ⟨is, rfl, g3⟩ := pics .int hv
    rw [List.length_map, upto_len] at hl
    have hb := bytes_run (hl ▸ hn') g3
    have r1 := @l_rng1 (n : Int) hn'
    have r2 := @it_rng 0 (n : Int) (Nat.zero_le _) hn'
    exact ⟨.bytes (is.map fun i => UInt8.ofNat i.toNat).toArray, p3, by exact walkC (fc 2 e <| fc 8 f <| fv 0 r1 <| fl 0 r2 <| fp 1 e2 <| fv 0 hb <| f0) (by kernel_rfl), .inr (.inl ⟨_, rfl, by show (is.map _).length ≤ 5; rw [List.length_map, hl]; exact Nat.le_of_lt_succ hn⟩)⟩
  | k + 2 =>
    obtain ⟨l, p2, f, hl, hs⟩ := drawn_run d p1 7 (by decide)
    have c0 := c_eqi (beq_eq_false_iff_ne.mpr (show ((k + 2 : Nat) : Int) ≠ 0 by omega))
    have c1 := c_eqi (beq_eq_false_iff_ne.mpr (show ((k + 2 : Nat) : Int) ≠ 1 by omega))
    exact ⟨T l, p2, by exact walkC (fc 2 e <| fb 2 c0 <| fb 2 c1 <| fc 2 f <| f0) (by kernel_rfl), .inr (.inr ⟨l, rfl, hl, hs⟩)⟩
/-! what can be cut: a text or octets -/
structure Sl (V : PV) (n : Nat) (S : Nat → Nat → PV) : Prop where
  kind : (∃ l : List Nat, V = T l ∧ l.length = n ∧ S = fun i j => T (sl l i j)) ∨ ∃ b : Array UInt8, V = .bytes b ∧ b.size = n ∧ S = fun i j => .bytes (sl b.toList i j).toArray
  small : n ≤ 20
theorem sl_same {α : Type} (a : List α) {i j i' j' : Nat} (h : (i = i' ∧ min j a.length = min j' a.length) ∨ (min j a.length ≤ i ∧ min j' a.length ≤ i')) : sl a i j = sl a i' j' := by
  unfold sl
  rcases h with ⟨rfl, h⟩ | ⟨h, h'⟩
  · rw [← take_clip a j, h, take_clip]
  · rw [List.drop_of_length_le (List.length_take .. ▸ h), List.drop_of_length_le (List.length_take .. ▸ h')]
section
variable {V : PV} {n : Nat} {S : Nat → Nat → PV} (h : Sl V n S)
include h
theorem Sl.n1000 : n ≤ 1000 := le_k h.small rfl
theorem Sl.len : bltOp .len [V] = some (.int n) := by
  have hn := h.n1000
  rcases h.kind with ⟨l, rfl, rfl, _⟩ | ⟨b, rfl, rfl, _⟩
  · exact l_lenT hn
  · exact l_lenB hn
theorem Sl.cut {x y : Int} {i j : Nat} (hx : x = i) (hy : y = j) (hi : i ≤ 1000) (hj : j ≤ 1000) : sliceOp V (.int x) (.int y) = some (S i j) := by
  have hn := h.n1000
  rcases h.kind with ⟨l, rfl, rfl, rfl⟩ | ⟨b, rfl, rfl, rfl⟩ <;> rw [hx, hy]
  · exact sl_T hn hi hj
  · exact sl_B hn hi hj
theorem Sl.cut0 : sliceOp V .none (.int 0) = some (S 0 0) := by
  have hn := h.n1000
  rcases h.kind with ⟨l, rfl, rfl, rfl⟩ | ⟨b, rfl, rfl, rfl⟩
  · exact (sliceT hn rfl (bnd_nat (i := 0) (Nat.zero_le _))).trans (congrArg (fun x => some (T x)) (cut_0 l))
  · exact (sliceB hn rfl (bnd_nat (i := 0) (Nat.zero_le _))).trans (congrArg (fun x : List UInt8 => some (PV.bytes x.toArray)) (cut_0 b.toList))
theorem Sl.same {i j i' j' : Nat} (q : (i = i' ∧ min j n = min j' n) ∨ (min j n ≤ i ∧ min j' n ≤ i')) : S i j = S i' j' := by
  rcases h.kind with ⟨l, rfl, rfl, rfl⟩ | ⟨b, rfl, rfl, rfl⟩
  · exact congrArg T (sl_same l q)
  · exact congrArg (fun l : List UInt8 => PV.bytes l.toArray) (sl_same b.toList (Array.length_toList ▸ q))
end
/-! the law's cut -/
noncomputable def inz (lo : Int) : Nat → List Int
  | 0 => []
  | k + 1 => lo :: inz (lo + 1) k
theorem upto_inz : ∀ (k : Nat) (lo : Int), upto lo k = (inz lo k).map .int
  | 0, _ => rfl
  | k + 1, lo => congrArg (PV.int lo :: ·) (upto_inz k (lo + 1))
theorem inz_len : ∀ (k : Nat) (lo : Int), (inz lo k).length = k
  | 0, _ => rfl
  | k + 1, lo => congrArg (· + 1) (inz_len k (lo + 1))
noncomputable def inL (n x : Int) : Bool := decide (1 ≤ x) && decide (x ≤ n)
noncomputable def loC (x : Int) : Int := if x < 1 then 1 else x
noncomputable def hiC (n x : Int) : Int := if x ≤ n then x else n + 1
noncomputable def Kept (n a b : Int) (l : List Int) : Prop := (a < b ∧ ∃ r, l = a :: r ∧ (a :: r).getLast? = some (b - 1)) ∨ (¬ a < b ∧ l = [])
theorem kept {n : Int} (hn : 0 ≤ n) : ∀ (k : Nat) (lo : Int), Kept n (loC lo) (hiC n (lo + k)) ((inz lo k).filter (inL n))
  | 0, lo => .inr ⟨by unfold loC hiC; split <;> split <;> omega, rfl⟩
  | k + 1, lo => by
    have ih := kept hn k (lo + 1)
    rw [show lo + 1 + (k : Int) = lo + ((k + 1 : Nat) : Int) by omega] at ih
    generalize hy : lo + ((k + 1 : Nat) : Int) = y at ih ⊢
    have hy : lo < y := by omega
    clear hy
    have hh : hiC n y ≤ n + 1 := by unfold hiC; split <;> omega
    have hl : 1 ≤ lo → lo ≤ n → lo < hiC n y := by unfold hiC; split <;> omega
    generalize hiC n y = b at ih hh hl ⊢
    show Kept n _ _ ((lo :: inz (lo + 1) k).filter (inL n))
    rw [List.filter_cons]
    unfold inL
    by_cases h1 : 1 ≤ lo
    · have e : loC lo = lo := if_neg (Int.not_lt.mpr h1)
      have e1 : loC (lo + 1) = lo + 1 := if_neg (by omega)
      rw [e1] at ih
      rw [e, decide_eq_true h1]
      by_cases h2 : lo ≤ n
      · rw [decide_eq_true h2]
        refine .inl ⟨hl h1 h2, _, rfl, ?_⟩
        rcases ih with ⟨_, r, e, q⟩ | ⟨q, e⟩
        · exact (congrArg (fun l => (lo :: l).getLast?) e).trans q
        · exact (congrArg (fun l => (lo :: l).getLast?) e).trans (congrArg some (show lo = b - 1 by have := hl h1 h2; omega))
      · rw [decide_eq_false h2]
        rcases ih with ⟨q, _⟩ | ⟨_, e⟩
        · exact absurd q (by omega)
        · exact .inr ⟨by omega, e⟩
    · have e : loC lo = 1 := if_pos (Int.not_le.mp h1)
      have e1 : loC (lo + 1) = 1 := by unfold loC; split <;> omega
      rw [e1] at ih
      rw [e, decide_eq_false h1]
      exact ih
theorem fin_ex {r : XR} {x : PV × Pl} (h : fin r = some x) : ∃ ρ, r = some (some x.1, ρ, x.2) := by
  cases r with
  | none => cases h
  | some y =>
    obtain ⟨v, ρ, p⟩ := y
    cases v with
    | none => cases h
    | some v => cases h; exact ⟨ρ, rfl⟩
section
variable {V : PV} {n : Nat} {S : Nat → Nat → PV} (h : Sl V n S) (d : Nat) (p : Pl)
include h
theorem cut_turn (x : Int) : turnC (orc d) k_law_cut_c0 k_law_cut_c0k [V] (.int x) p = some (if inL n x then some (.int x) else none, p) := by
  have hl := h.len
  unfold inL
  cases a : decide (1 ≤ x) with
  | true =>
    have c1 := c_le a
    cases b : decide (x ≤ (n : Int)) with
    | true =>
      have c2 := c_le b
      rcases h.kind with ⟨l, rfl, _⟩ | ⟨l, rfl, _⟩ <;> exact walkT (fb 1 c1 <| fv 1 hl <| fb 0 c2 <| f0) (by kernel_rfl)
    | false =>
      have c2 := c_le b
      rcases h.kind with ⟨l, rfl, _⟩ | ⟨l, rfl, _⟩ <;> exact walkT (fb 1 c1 <| fv 1 hl <| fb 0 c2 <| f0) (by kernel_rfl)
  | false =>
    have c1 := c_le a
    rcases h.kind with ⟨l, rfl, _⟩ | ⟨l, rfl, _⟩ <;> exact walkT (fb 1 c1 <| f0) (by kernel_rfl)
/-- the law's answer -/
noncomputable def lawS (S : Nat → Nat → PV) (a b : Int) : PV := match decide (a < b) with
  | true => S (a - 1).toNat (b - 1).toNat
  | false => S 0 0
omit h in
theorem pred_cast {a : Int} (h : 1 ≤ a) : a - 1 = ((a - 1).toNat : Nat) := (Int.toNat_of_nonneg (Int.sub_nonneg_of_le h)).symm
/-- what the walk asks of the bounds -/
noncomputable def okB (n lo hi : Int) : Bool := decide (lo ≤ hi) && (Nat.ble (hi - lo).toNat 1000 && (Nat.ble lo.natAbs 1000 && (Nat.ble hi.natAbs 1000 && (decide (1 ≤ loC lo) && (Nat.ble (loC lo - 1).toNat 1000 && Nat.ble (hiC n hi - 1).toNat 1000)))))
omit h in
theorem and_l {a b : Bool} (q : (a && b) = true) : a = true ∧ b = true := Bool.and_eq_true_iff.mp q
theorem cut_rest {f lo hi : Int} {s m : Int} (ok : okB n lo hi = true) : bltOp .range [.int lo, .int hi] = some (.rng lo hi) ∧ bltOp .list [.rng lo hi] = some (.list (upto lo (hi - lo).toNat)) ∧
    ∃ ρ, xSs (orc d) NQ k_cut_rest [V, .int s, .int m, .int f, .list (upto lo (hi - lo).toNat), .unb] p = some (some (lawS S (loC lo) (hiC n hi)), ρ, p) := by
  obtain ⟨o1, ok⟩ := and_l ok
  obtain ⟨o2, ok⟩ := and_l ok
  obtain ⟨o3, ok⟩ := and_l ok
  obtain ⟨o4, ok⟩ := and_l ok
  obtain ⟨o5, ok⟩ := and_l ok
  obtain ⟨o6, o7⟩ := and_l ok
  have hk := Nat.le_of_ble_eq_true o2
  have e : lo + ((hi - lo).toNat : Int) = hi := by rw [Int.toNat_of_nonneg (Int.sub_nonneg_of_le (of_decide_eq_true o1)), Int.add_comm, Int.sub_add_cancel]
  refine ⟨l_rng2 (Nat.le_of_ble_eq_true o3) (Nat.le_of_ble_eq_true o4), l_list (it_rng (Nat.le_of_ble_eq_true o3) (Nat.le_of_ble_eq_true o4)) ((upto_len _ lo).symm ▸ hk), fin_ex (x := (_, p)) ?_⟩
  generalize (hi - lo).toNat = k at hk e
  rw [← e] at o7 ⊢
  have hc := compO_filter (call := orc d) (cs := [V]) PV.int (inL n) PV.int p (inz lo k) (by rw [inz_len]; exact hk) fun x _ => cut_turn h d p x
  rw [upto_inz]
  have ha := of_decide_eq_true o5
  have hlen := List.length_filter_le (inL n) (inz lo k)
  rw [inz_len] at hlen
  have hlen := Nat.le_trans hlen hk
  have h0 := h.cut0
  rcases kept (Int.natCast_nonneg n) k lo with ⟨q, r, e, w⟩ | ⟨q, e⟩
  · rw [e] at hc hlen
    rw [decide_eq_true q]
    have hcut := h.cut (pred_cast ha) (pred_cast (Int.le_trans ha (Int.le_of_lt q))) (Nat.le_of_ble_eq_true o6) (Nat.le_of_ble_eq_true o7)
    rw [← List.length_map (f := PV.int)] at hlen
    have x0 := @x_L p ((loC lo :: r).map .int) 0 (.int (loC lo)) hlen rfl
    have x1 := @x_lastL p ((loC lo :: r).map .int) (.int (hiC n (lo + k) - 1)) hlen (by rw [List.getLast?_map, w]; rfl)
    rcases h.kind with ⟨l, rfl, _⟩ | ⟨l, rfl, _⟩ <;> exact walkF (fp 4 hc <| fv 5 x0 <| fv 3 x1 <| fv 0 hcut <| f0) (by kernel_rfl)
  · rw [e] at hc
    rw [decide_eq_false q]
    rcases h.kind with ⟨l, rfl, _⟩ | ⟨l, rfl, _⟩ <;> exact walkF (fp 4 hc <| fv 4 h0 <| f0) (by kernel_rfl)
noncomputable def fstL (b : Bool) (n s : Int) : Int := match b with
  | true => s
  | false => n + s + 1
noncomputable def bdL (b : Bool) (f m : Int) : Int × Int := match b with
  | true => (f, f + m)
  | false => (f + m, f)
noncomputable def bds (n s m : Int) : Int × Int := bdL (decide (m ≥ 0)) (fstL (decide (s ≥ 0)) n s) m
theorem law_cut {s m : Int} (ok : okB n (bds n s m).1 (bds n s m).2 = true) : orc (d + 1) 46 [V, .int s, .int m] p = some (lawS S (loC (bds n s m).1) (hiC n (bds n s m).2), p) := by
  have hl := h.len
  unfold bds at ok ⊢
  cases c1 : decide (s ≥ 0) with
  | true =>
    have g1 := c_ge c1
    rw [c1] at ok
    cases c2 : decide (m ≥ 0) with
    | true =>
      have g2 := c_ge c2
      rw [c2] at ok
      obtain ⟨r, q1, ρ, q2⟩ := cut_rest h d p (f := s) (s := s) (m := m) ok
      rcases h.kind with ⟨l, rfl, _⟩ | ⟨l, rfl, _⟩ <;> exact walkC (fb 2 g1 <| fb 3 g2 <| fv 4 r <| fv 0 q1 <| fx 0 q2 <| f0) (by kernel_rfl)
    | false =>
      have g2 := c_ge c2
      rw [c2] at ok
      obtain ⟨r, q1, ρ, q2⟩ := cut_rest h d p (f := s) (s := s) (m := m) ok
      rcases h.kind with ⟨l, rfl, _⟩ | ⟨l, rfl, _⟩ <;> exact walkC (fb 2 g1 <| fb 3 g2 <| fv 4 r <| fv 0 q1 <| fx 0 q2 <| f0) (by kernel_rfl)
  | false =>
    have g1 := c_ge c1
    rw [c1] at ok
    cases c2 : decide (m ≥ 0) with
    | true =>
      have g2 := c_ge c2
      rw [c2] at ok
      obtain ⟨r, q1, ρ, q2⟩ := cut_rest h d p (f := n + s + 1) (s := s) (m := m) ok
      rcases h.kind with ⟨l, rfl, _⟩ | ⟨l, rfl, _⟩ <;> exact walkC (fb 2 g1 <| fv 1 hl <| fb 5 g2 <| fv 4 r <| fv 0 q1 <| fx 0 q2 <| f0) (by kernel_rfl)
    | false =>
      have g2 := c_ge c2
      rw [c2] at ok
      obtain ⟨r, q1, ρ, q2⟩ := cut_rest h d p (f := n + s + 1) (s := s) (m := m) ok
      rcases h.kind with ⟨l, rfl, _⟩ | ⟨l, rfl, _⟩ <;> exact walkC (fb 2 g1 <| fv 1 hl <| fb 5 g2 <| fv 4 r <| fv 0 q1 <| fx 0 q2 <| f0) (by kernel_rfl)
end
/-! part_of -/
noncomputable def mx (x : Int) : Int := if 0 < x then x else 0
noncomputable def stA (b1 b2 b3 b4 : Bool) (n s m : Int) : Int × Int := match b1 with
  | true => match b2 with
    | true => (0, mx (m + (s + n)))
    | false => (s + n, m)
  | false => match b3 with
    | true => (s - 1, m)
    | false => match b4 with
      | true => (s, m - 1)
      | false => (s, m)
noncomputable def stB (b c : Bool) (x : Int × Int) : Int × Int := match b with
  | true => match c with
    | true => (0, x.2 + (x.1 - x.2))
    | false => (x.1 - x.2, x.2)
  | false => x
noncomputable def pA (n s m : Int) : Int × Int := stA (decide (s < 0)) (decide (s + n < 0)) (decide (s > 0)) (decide (m > 0)) n s m
noncomputable def pB (b : Bool) (x : Int × Int) : Int × Int := stB b (decide (x.1 - x.2 < 0)) x
/-- the program's bounds -/
noncomputable def pI (n s m : Int) : Int × Int := pB (decide (m < 0)) (pA n s m.natAbs)
noncomputable def okP (x : Int × Int) : Bool := decide (0 ≤ x.1) && (decide (0 ≤ x.1 + mx x.2) && (Nat.ble x.1.toNat 1000 && Nat.ble (x.1 + mx x.2).toNat 1000))
section
variable {V : PV} {n : Nat} {S : Nat → Nat → PV} (h : Sl V n S) (d : Nat) (p : Pl) {xs : List PV}
include h
theorem part_b {x : Int × Int} {b : Bool} (ok : okP (pB b x) = true) : fin (xSs (orc d) NQ k_part_b [.list xs, V, .int x.1, .int x.2, .bool b] p) = some (S (pB b x).1.toNat ((pB b x).1 + mx (pB b x).2).toNat, p) := by
  obtain ⟨o1, ok⟩ := and_l ok
  obtain ⟨o2, ok⟩ := and_l ok
  obtain ⟨o3, o4⟩ := and_l ok
  have hcut := h.cut (Int.toNat_of_nonneg (of_decide_eq_true o1)).symm (Int.toNat_of_nonneg (of_decide_eq_true o2)).symm (Nat.le_of_ble_eq_true o3) (Nat.le_of_ble_eq_true o4)
  clear o1 o2 o3 o4 ok
  unfold pB at hcut ⊢
  cases b with
  | true =>
    cases c : decide (x.1 - x.2 < 0) with
    | true =>
      rw [c] at hcut
      have c := c_lt c
      rcases h.kind with ⟨l, rfl, _⟩ | ⟨l, rfl, _⟩ <;> exact walkF (fb 9 c <| fv 12 hcut <| f0) (by kernel_rfl)
    | false =>
      rw [c] at hcut
      have c := c_lt c
      rcases h.kind with ⟨l, rfl, _⟩ | ⟨l, rfl, _⟩ <;> exact walkF (fb 9 c <| fv 7 hcut <| f0) (by kernel_rfl)
  | false => rcases h.kind with ⟨l, rfl, _⟩ | ⟨l, rfl, _⟩ <;> exact walkF (fv 10 hcut <| f0) (by kernel_rfl)
theorem part_a {s m : Int} {b : Bool} {x : XV} (hb : xSs (orc d) NQ k_part_b [.list xs, V, .int (pA n s m).1, .int (pA n s m).2, .bool b] p = some x) : xSs (orc d) NQ k_part_a [.list xs, V, .int s, .int m, .bool b] p = some x := by
  have hl := h.len
  unfold pA at hb
  cases c1 : decide (s < 0) with
  | true =>
    have g1 := c_lt c1
    rw [c1] at hb
    cases c2 : decide (s + n < 0) with
    | true =>
      have g2 := c_lt c2
      rw [c2] at hb
      rcases h.kind with ⟨l, rfl, _⟩ | ⟨l, rfl, _⟩ <;> exact walkX (fb 2 g1 <| fv 3 hl <| fb 3 g2 <| fx 6 hb <| f0) (by kernel_rfl)
    | false =>
      have g2 := c_lt c2
      rw [c2] at hb
      rcases h.kind with ⟨l, rfl, _⟩ | ⟨l, rfl, _⟩ <;> exact walkX (fb 2 g1 <| fv 3 hl <| fb 3 g2 <| fx 0 hb <| f0) (by kernel_rfl)
  | false =>
    have g1 := c_lt c1
    rw [c1] at hb
    cases c3 : decide (s > 0) with
    | true =>
      have g3 := c_gt c3
      rw [c3] at hb
      rcases h.kind with ⟨l, rfl, _⟩ | ⟨l, rfl, _⟩ <;> exact walkX (fb 2 g1 <| fb 2 g3 <| fx 3 hb <| f0) (by kernel_rfl)
    | false =>
      have g3 := c_gt c3
      rw [c3] at hb
      cases c4 : decide (m > 0) with
      | true =>
        have g4 := c_gt c4
        rw [c4] at hb
        rcases h.kind with ⟨l, rfl, _⟩ | ⟨l, rfl, _⟩ <;> exact walkX (fb 2 g1 <| fb 2 g3 <| fb 2 g4 <| fx 3 hb <| f0) (by kernel_rfl)
      | false =>
        have g4 := c_gt c4
        rw [c4] at hb
        rcases h.kind with ⟨l, rfl, _⟩ | ⟨l, rfl, _⟩ <;> exact walkX (fb 2 g1 <| fb 2 g3 <| fb 2 g4 <| fx 0 hb <| f0) (by kernel_rfl)
theorem part_rest {s m : Int} (ok : okP (pI n s m) = true) : ∃ ρ, xSs (orc d) NQ k_part_rest [.list xs, V, .int s, .int m, .unb] p = some (some (S (pI n s m).1.toNat ((pI n s m).1 + mx (pI n s m).2).toNat), ρ, p) := by
  obtain ⟨ρ, e⟩ := fin_ex (x := (_, p)) (part_b h d p (xs := xs) ok)
  have e := part_a h d p e
  refine ⟨ρ, ?_⟩
  rcases h.kind with ⟨l, rfl, _⟩ | ⟨l, rfl, _⟩ <;> exact walkX (fx 6 e <| f0) (by kernel_rfl)
end
/-- the value that is asked, and the value that is cut -/
noncomputable def Asked (V0 V : PV) : Prop := (∃ l, V0 = T l ∧ V = T l) ∨ (∃ b : Array UInt8, V0 = .bytes b ∧ V = .bytes b ∧ (b == #[]) = false) ∨ ∃ i l, V0 = .int i ∧ V = T l ∧ bltOp .str [.int i] = some (T l)
section
variable {V V0 : PV} {n : Nat} {S : Nat → Nat → PV} (h : Sl V n S) (hv : Asked V0 V) (d : Nat) (p : Pl)
include h hv
theorem part3 {s m : Int} (ok : okP (pI n s m) = true) : orc (d + 2) 30 [.list [V0, .int s, .int m]] p = some (S (pI n s m).1.toNat ((pI n s m).1 + mx (pI n s m).2).toNat, p) := by
  obtain ⟨ρ, e⟩ := part_rest h (d + 1) p (xs := [V0, .int s, .int m]) ok
  rcases hv with ⟨l, rfl, rfl⟩ | ⟨b, rfl, rfl, hb⟩ | ⟨i, l, rfl, rfl, hi⟩
  · exact walkC (fx 42 e <| f0) (by kernel_rfl)
  · have c : cmpOp .Eq (.bytes b) (.bytes #[]) = some false := congrArg some hb
    exact walkC (fb 8 c <| fx 25 e <| f0) (by kernel_rfl)
  · exact walkC (fv 17 hi <| fx 28 e <| f0) (by kernel_rfl)
theorem part2 {s : Int} (ok : okP (pI n s (n + s.natAbs + 1)) = true) : orc (d + 2) 30 [.list [V0, .int s]] p = some (S (pI n s (n + s.natAbs + 1)).1.toNat ((pI n s (n + s.natAbs + 1)).1 + mx (pI n s (n + s.natAbs + 1)).2).toNat, p) := by
  obtain ⟨ρ, e⟩ := part_rest h (d + 1) p (xs := [V0, .int s]) ok
  have hl := h.len
  rcases hv with ⟨l, rfl, rfl⟩ | ⟨b, rfl, rfl, hb⟩ | ⟨i, l, rfl, rfl, hi⟩
  · exact walkC (fv 33 hl <| fx 4 e <| f0) (by kernel_rfl)
  · have c : cmpOp .Eq (.bytes b) (.bytes #[]) = some false := congrArg some hb
    exact walkC (fb 8 c <| fv 16 hl <| fx 4 e <| f0) (by kernel_rfl)
  · exact walkC (fv 17 hi <| fv 19 hl <| fx 4 e <| f0) (by kernel_rfl)
end
/-! both bounds tell one part: a finite check -/
noncomputable def okM (n : Nat) (x b : Int × Int) : Bool := match decide (loC b.1 < hiC n b.2) with
  | true => Nat.beq x.1.toNat (loC b.1 - 1).toNat && Nat.beq (min (x.1 + mx x.2).toNat n) (min (hiC n b.2 - 1).toNat n)
  | false => Nat.ble (min (x.1 + mx x.2).toNat n) x.1.toNat
noncomputable def okA (n : Nat) (x b : Int × Int) : Bool := okP x && (okB n b.1 b.2 && okM n x b)
noncomputable def chk3 : Bool := (List.range 21).all fun n => (List.range 19).all fun s => (List.range 19).all fun m => okA n (pI n (s - 9) (m - 9)) (bds n (s - 9) (m - 9))
noncomputable def chk2 : Bool := (List.range 21).all fun n => (List.range 19).all fun s => okA n (pI n (s - 9) (n + ((s : Int) - 9).natAbs + 1)) (bds n (s - 9) 40)
theorem chk3_ok : chk3 = true := by kernel_rfl
theorem chk2_ok : chk2 = true := by kernel_rfl
theorem of_all {f : Nat → Bool} {n k : Nat} (h : (List.range n).all f = true) (hk : k < n) : f k = true := List.all_eq_true.mp h k (List.mem_range.mpr hk)
theorem meet {V : PV} {n : Nat} {S : Nat → Nat → PV} (h : Sl V n S) {x b : Int × Int} (ok : okM n x b = true) : S x.1.toNat (x.1 + mx x.2).toNat = lawS S (loC b.1) (hiC n b.2) := by
  unfold okM at ok
  unfold lawS
  cases c : decide (loC b.1 < hiC n b.2) with
  | true =>
    rw [c] at ok
    obtain ⟨o1, o2⟩ := and_l ok
    exact h.same (.inl ⟨Nat.eq_of_beq_eq_true o1, Nat.eq_of_beq_eq_true o2⟩)
  | false =>
    rw [c] at ok
    exact h.same (.inr ⟨Nat.le_of_ble_eq_true ok, Nat.min_le_left ..⟩)
/-! substr: the program's answers are the law's -/
noncomputable def sub3 (S : Nat → Nat → PV) (n s m : Nat) : PV := lawS S (loC (bds n (s - 9) (m - 9)).1) (hiC n (bds n (s - 9) (m - 9)).2)
noncomputable def sub2 (S : Nat → Nat → PV) (n s : Nat) : PV := lawS S (loC (bds n (s - 9) 40).1) (hiC n (bds n (s - 9) 40).2)
section
variable {V V0 : PV} {n : Nat} {S : Nat → Nat → PV} (h : Sl V n S) (hv : Asked V0 V) {s m : Nat} (hs : s < 19) (hm : m < 19) (d : Nat) (p : Pl)
include h hs
theorem ok2 : okA n (pI n (s - 9) (n + ((s : Int) - 9).natAbs + 1)) (bds n (s - 9) 40) = true := of_all (of_all chk2_ok (Nat.lt_succ_of_le h.small)) hs
theorem sub2_law : orc (d + 1) 46 [V, .int (s - 9), .int 40] p = some (sub2 S n s, p) := law_cut h d p (and_l (and_l (ok2 h hs)).2).1
include hm
theorem ok3 : okA n (pI n (s - 9) (m - 9)) (bds n (s - 9) (m - 9)) = true := of_all (of_all (of_all chk3_ok (Nat.lt_succ_of_le h.small)) hs) hm
theorem sub3_law : orc (d + 1) 46 [V, .int (s - 9), .int (m - 9)] p = some (sub3 S n s m, p) := law_cut h d p (and_l (and_l (ok3 h hs hm)).2).1
include hv
theorem sub3_run : orc (d + 2) 30 [.list [V0, .int (s - 9), .int (m - 9)]] p = some (sub3 S n s m, p) := (part3 h hv d p (and_l (ok3 h hs hm)).1).trans (congrArg (fun x => some (x, p)) (meet h (and_l (and_l (ok3 h hs hm)).2).2))
omit hm in
theorem sub2_run : orc (d + 2) 30 [.list [V0, .int (s - 9)]] p = some (sub2 S n s, p) := (part2 h hv d p (and_l (ok2 h hs)).1).trans (congrArg (fun x => some (x, p)) (meet h (and_l (and_l (ok2 h hs)).2).2))
end
theorem lawS_kind {V : PV} {n : Nat} {S : Nat → Nat → PV} (h : Sl V n S) (a b : Int) : cmpOp .NotEq (.list [lawS S a b]) (.list [lawS S a b]) = some false := by
  have key : ∀ i j, cmpOp .NotEq (.list [S i j]) (.list [S i j]) = some false := fun i j => by
    rcases h.kind with ⟨l, rfl, rfl, rfl⟩ | ⟨b, rfl, rfl, rfl⟩
    · exact nes_T _
    · exact nes_b _
  unfold lawS
  cases decide (a < b) <;> exact key _ _
theorem sub3_ne {V : PV} {n : Nat} {S : Nat → Nat → PV} (h : Sl V n S) (s m : Nat) : cmpOp .NotEq (.list [sub3 S n s m]) (.list [sub3 S n s m]) = some false := lawS_kind h _ _
theorem sub2_ne {V : PV} {n : Nat} {S : Nat → Nat → PV} (h : Sl V n S) (s : Nat) : cmpOp .NotEq (.list [sub2 S n s]) (.list [sub2 S n s]) = some false := lawS_kind h _ _
/-- the law of substr -/
theorem substr_right {V V0 : PV} {n : Nat} {S : Nat → Nat → PV} (h : Sl V n S) (hv : Asked V0 V) (d : Nat) (p : Pl) : ∃ p', orc (d + 6) 47 [.pool, V0] p = some (.bool true, p') := by
  obtain ⟨s, p1, f1, hs⟩ := take_nat (d + 4) p (n := 19) (by decide) (by decide)
  obtain ⟨m, p2, f2, hm⟩ := take_nat (d + 4) p1 (n := 19) (by decide) (by decide)
  obtain ⟨s', p3, f3, hs'⟩ := take_nat (d + 4) p2 (n := 19) (by decide) (by decide)
  obtain ⟨m', p4, f4, hm'⟩ := take_nat (d + 4) p3 (n := 19) (by decide) (by decide)
  refine ⟨p4, ?_⟩
  have hv' := hv
  rcases hv with ⟨l, rfl, rfl⟩ | ⟨b, rfl, rfl, hb⟩ | ⟨i, l, rfl, rfl, hi⟩
  · exact walkC (fc 13 f1 <| fc 2 f2 <| fc 112 (sub3_run h hv' hs hm d p2) <| fc 5 (sub3_law h hs hm (d + 4) p2) <| fb 0 (sub3_ne h s m) <| fc 105 (sub2_run h hv' hs d p2) <| fc 4 (sub2_law h hs (d + 4) p2) <| fb 0 (sub2_ne h s) <| fc 2 f3 <| fc 2 f4 <| fc 112 (sub3_run h hv' hs' hm' d p4) <| fc 5 (sub3_law h hs' hm' (d + 4) p4) <| fb 0 (sub3_ne h s' m') <| fc 105 (sub2_run h hv' hs' d p4) <| fc 4 (sub2_law h hs' (d + 4) p4) <| fb 0 (sub2_ne h s') <| f0) (by kernel_rfl)
  · have c : cmpOp .Eq (.int (n : Int)) (.int 0) = some false := c_eqi (beq_eq_false_iff_ne.mpr fun q => by
      rcases h.kind with ⟨l, e, _⟩ | ⟨b', e, e2, _⟩
      · cases e
      · cases e
        rw [Array.eq_empty_of_size_eq_zero (e2.trans (Int.ofNat_inj.mp q))] at hb
        cases hb)
    exact walkC (fc 13 f1 <| fc 2 f2 <| fv 6 h.len <| fb 0 c <| fc 107 (sub3_run h hv' hs hm d p2) <| fc 5 (sub3_law h hs hm (d + 4) p2) <| fb 0 (sub3_ne h s m) <| fc 105 (sub2_run h hv' hs d p2) <| fc 4 (sub2_law h hs (d + 4) p2) <| fb 0 (sub2_ne h s) <| fc 2 f3 <| fc 2 f4 <| fv 6 h.len <| fb 0 c <| fc 107 (sub3_run h hv' hs' hm' d p4) <| fc 5 (sub3_law h hs' hm' (d + 4) p4) <| fb 0 (sub3_ne h s' m') <| fc 105 (sub2_run h hv' hs' d p4) <| fc 4 (sub2_law h hs' (d + 4) p4) <| fb 0 (sub2_ne h s') <| f0) (by kernel_rfl)
  · exact walkC (fv 7 hi <| fc 6 f1 <| fc 2 f2 <| fc 112 (sub3_run h hv' hs hm d p2) <| fc 5 (sub3_law h hs hm (d + 4) p2) <| fb 0 (sub3_ne h s m) <| fc 105 (sub2_run h hv' hs d p2) <| fc 4 (sub2_law h hs (d + 4) p2) <| fb 0 (sub2_ne h s) <| fc 2 f3 <| fc 2 f4 <| fc 112 (sub3_run h hv' hs' hm' d p4) <| fc 5 (sub3_law h hs' hm' (d + 4) p4) <| fb 0 (sub3_ne h s' m') <| fc 105 (sub2_run h hv' hs' d p4) <| fc 4 (sub2_law h hs' (d + 4) p4) <| fb 0 (sub2_ne h s') <| f0) (by kernel_rfl)
theorem substr_empty (d : Nat) (p : Pl) : ∃ p', orc (d + 6) 47 [.pool, .bytes #[]] p = some (.bool true, p') := by
  obtain ⟨s, p1, f1, hs⟩ := take_nat (d + 4) p (n := 19) (by decide) (by decide)
  obtain ⟨m, p2, f2, hm⟩ := take_nat (d + 4) p1 (n := 19) (by decide) (by decide)
  obtain ⟨s', p3, f3, hs'⟩ := take_nat (d + 4) p2 (n := 19) (by decide) (by decide)
  obtain ⟨m', p4, f4, hm'⟩ := take_nat (d + 4) p3 (n := 19) (by decide) (by decide)
  exact ⟨p4, by exact walkC (fc 13 f1 <| fc 2 f2 <| fc 250 f3 <| fc 2 f4 <| f0) (by kernel_rfl)⟩
/-! instr -/
noncomputable def hasAt (x y : List Nat) (k : Nat) : Bool := (x.drop k).take y.length == y
theorem hasAt_le {x y : List Nat} {k : Nat} (h : hasAt x y k = true) (hy : y ≠ []) : k + y.length ≤ x.length := by
  have e := congrArg List.length (eq_of_beq h)
  rw [List.length_take, List.length_drop] at e
  have := List.length_pos_iff.mpr hy
  omega
theorem At_iff (x y : List Nat) (k : Nat) : StrLaws.At ⟨x.toArray⟩ ⟨y.toArray⟩ (⟨x.toArray⟩ : Str).length k ↔ k + y.length ≤ x.length ∧ hasAt x y k = true := and_congr_right fun _ => by
  rw [StrLaws.subAt_eq]; exact Iff.rfl
theorem upto_range : ∀ (n lo : Nat), upto (lo : Int) n = (List.range' lo n).map fun k : Nat => PV.int k
  | 0, _ => rfl
  | n + 1, lo => congrArg (PV.int lo :: ·) (upto_range n (lo + 1))
theorem sl_add {α : Type} (x : List α) (k w : Nat) : sl x k (k + w) = (x.drop k).take w := by
  unfold sl
  rw [List.drop_take, Nat.add_sub_cancel_left]
/-- where the part can stand -/
noncomputable def nAt (x y : List Nat) : Nat := x.length + 1 - y.length
noncomputable def places (x y : List Nat) : List Nat := (List.range' 0 (nAt x y)).filter (hasAt x y)
theorem places_run (d : Nat) (p : Pl) {x y : List Nat} (hx : x.length ≤ 100) (hy : y.length ≤ 100) : orc (d + 1) 48 [T x, T y] p = some (.list ((places x y).map fun k : Nat => .int k), p) := by
  have hx' := le_k (b := 1000) hx rfl
  have hn : (x.length : Int) - y.length + 1 - 0 = (x.length : Int) + 1 - y.length := by omega
  have ha : ((x.length : Int) - y.length + 1).natAbs ≤ 1000 := by omega
  have e : upto 0 ((x.length : Int) - y.length + 1 - 0).toNat = (List.range' 0 (nAt x y)).map fun k : Nat => PV.int k := by
    rw [show ((x.length : Int) - y.length + 1 - 0).toNat = nAt x y by unfold nAt; omega]
    exact upto_range _ 0
  have r := @it_rng 0 ((x.length : Int) - y.length + 1) (Nat.zero_le _) ha
  rw [e] at r
  have hc := compO_filter (call := orc d) (elt := k_law_places_c0) (conds := k_law_places_c0k) (cs := [T y, T x]) (fun k : Nat => PV.int k) (hasAt x y) (fun k : Nat => PV.int k) p (List.range' 0 (nAt x y)) (by rw [List.length_range']; exact Nat.le_trans (Nat.sub_le ..) (Nat.le_trans (Nat.succ_le_succ hx) (Nat.le_of_ble_eq_true rfl))) fun k m => by
    have hk : k ≤ 500 := by have := List.mem_range'_1.mp m; unfold nAt at this; omega
    have hs := @sl_T x k (k + y.length) hx' (le_k hk rfl) (by omega)
    rw [sl_add] at hs
    cases c : hasAt x y k with
    | true => exact walkT (fv 4 (l_lenT (le_k hy rfl)) <| fv 1 hs <| fb 1 (c_eqT c) <| f0) (by kernel_rfl)
    | false => exact walkT (fv 4 (l_lenT (le_k hy rfl)) <| fv 1 hs <| fb 1 (c_eqT c) <| f0) (by kernel_rfl)
  exact walkC (fv 2 (l_lenT hx') <| fv 1 (l_lenT (le_k hy rfl)) <| fv 2 (l_rng1 ha) <| fl 0 r <| fp 1 hc <| f0) (by kernel_rfl)
noncomputable def instrL (x y : List Nat) : Int := Txt.find ⟨x.toArray⟩ ⟨y.toArray⟩ + 1
theorem head_filter {f : Nat → Bool} : ∀ (n lo i : Nat), lo ≤ i → i < lo + n → f i = true → (∀ j, lo ≤ j → j < i → f j = false) → ∃ r, (List.range' lo n).filter f = i :: r
  | 0, lo, i, h1, h2, _, _ => absurd h2 (Nat.not_lt.mpr h1)
  | n + 1, lo, i, h1, h2, h3, h4 => by
    rw [List.range'_succ, List.filter_cons]
    rcases Nat.eq_or_lt_of_le h1 with rfl | h
    · rw [h3]; exact ⟨_, rfl⟩
    · rw [h4 lo (Nat.le_refl _) h]
      exact head_filter n (lo + 1) i h (by omega) h3 fun j a b => h4 j (Nat.le_of_lt a) b
theorem instr_meet (x y : List Nat) : (places x y = [] ∧ instrL x y = 0) ∨ ∃ (i : Nat) (r : List Nat), places x y = i :: r ∧ instrL x y = (i : Int) + 1 := by
  unfold instrL Txt.find
  rcases StrLaws.occ_head ⟨x.toArray⟩ ⟨y.toArray⟩ 1 (Nat.le_refl _) with ⟨e, h⟩ | ⟨i, r, e, h, hn⟩ <;> rw [e]
  · refine .inl ⟨List.filter_eq_nil_iff.mpr fun k m q => h k ((At_iff x y k).mpr ⟨?_, q⟩), rfl⟩
    have := List.mem_range'_1.mp m
    unfold nAt at this
    omega
  · obtain ⟨h1, h2⟩ := (At_iff x y i).mp h
    obtain ⟨r, e⟩ := head_filter (f := hasAt x y) (nAt x y) 0 i (Nat.zero_le _) (by unfold nAt; omega) h2 fun j _ hj => Bool.eq_false_iff.mpr fun q => hn j hj ((At_iff x y j).mpr ⟨by omega, q⟩)
    exact .inr ⟨i, r, e, rfl⟩
theorem find_x (call : Orc) (p : Pl) {x : List Nat} (y : List Nat) (hx : x.length ≤ 1000) : methX call .find (T x) [T y] p = some (.int (Txt.find ⟨x.toArray⟩ ⟨y.toArray⟩), p) := meth_x call (fun q => by cases q) p (if_pos (lim_le hx))
theorem lc_instr (d : Nat) (p : Pl) {x : List Nat} (y : List Nat) (hx : x.length ≤ 1000) : orc (d + 4) 42 [(T [105, 110, 115, 116, 114]), .list [T x, T y]] p = some (.list [.int (instrL x y)], p) := by
  exact walkC (fc 103 (find_x (orc (d + 1)) p y hx) <| f0) (by kernel_rfl)
/-! replace -/
/-- a text with each part replaced, from the left; s signs are skipped first -/
noncomputable def sc (y z : List Nat) (s : Nat) : List Nat → List Nat
  | [] => []
  | c :: t => match s with
    | s + 1 => sc y z s t
    | 0 => match (c :: t).take y.length == y with
      | true => z ++ sc y z (y.length - 1) t
      | false => c :: sc y z 0 t
section
variable {y z : List Nat}
theorem sc_drop : ∀ (l : List Nat) (s : Nat), sc y z s l = sc y z 0 (l.drop s)
  | [], s => by rw [List.drop_nil]; rfl
  | c :: t, 0 => rfl
  | c :: t, s + 1 => sc_drop t s
theorem sc_hit {l : List Nat} (hy : y ≠ []) (h : (l.take y.length == y) = true) : sc y z 0 l = z ++ sc y z 0 (l.drop y.length) := by
  cases l with
  | nil => exact absurd (eq_of_beq h).symm (by rw [List.take_nil]; exact hy)
  | cons c t =>
    show (match (c :: t).take y.length == y with | true => z ++ sc y z (y.length - 1) t | false => c :: sc y z 0 t) = _
    rw [h]
    show z ++ sc y z (y.length - 1) t = _
    rw [sc_drop, ← Nat.sub_add_cancel (List.length_pos_iff.mpr hy)]; rfl
theorem sc_miss {c : Nat} {t : List Nat} (h : ((c :: t).take y.length == y) = false) : sc y z 0 (c :: t) = c :: sc y z 0 t := by
  show (match (c :: t).take y.length == y with | true => z ++ sc y z (y.length - 1) t | false => c :: sc y z 0 t) = _
  rw [h]
theorem sc_skip : ∀ (k : Nat) (l : List Nat), (∀ j, j < k → ((l.drop j).take y.length == y) = false) → sc y z 0 l = l.take k ++ sc y z 0 (l.drop k)
  | 0, l, _ => rfl
  | k + 1, [], _ => rfl
  | k + 1, c :: t, h => (sc_miss (h 0 (Nat.succ_pos k))).trans (congrArg (c :: ·) (sc_skip k t fun j hj => h (j + 1) (Nat.succ_lt_succ hj)))
theorem join_cons (z : Str) (p : Str) {l : List Str} (h : l ≠ []) : (Str.join z (p :: l)).cps.toList = p.cps.toList ++ (z.cps.toList ++ (Str.join z l).cps.toList) := by
  cases l with
  | nil => exact absurd rfl h
  | cons q r =>
    show ((p.cps ++ z.cps) ++ (Str.join z (q :: r)).cps).toList = _
    rw [Array.toList_append, Array.toList_append, List.append_assoc]
theorem parts_sc (x : List Nat) (hy : y ≠ []) : ∀ (cuts : List Nat) (a f : Nat), StrLaws.ChainG ⟨x.toArray⟩ ⟨y.toArray⟩ (⟨x.toArray⟩ : Str).length a cuts f → (∀ k, f ≤ k → ¬ StrLaws.At ⟨x.toArray⟩ ⟨y.toArray⟩ (⟨x.toArray⟩ : Str).length k) →
    (Str.join ⟨z.toArray⟩ (StrLaws.partsFrom ⟨x.toArray⟩ y.length a cuts)).cps.toList = sc y z 0 (x.drop a) := by
  have no : ∀ k, ¬ StrLaws.At ⟨x.toArray⟩ ⟨y.toArray⟩ (⟨x.toArray⟩ : Str).length k → hasAt x y k = false := fun k h => Bool.eq_false_iff.mpr fun q => h ((At_iff x y k).mpr ⟨hasAt_le q hy, q⟩)
  intro cuts
  induction cuts with
  | nil =>
    intro a f h hn
    have h : f = a := h
    subst h
    rw [sc_skip (x.drop f).length (x.drop f) fun j _ => by rw [List.drop_drop]; exact no _ (hn _ (Nat.le_add_right ..)), List.take_length, List.drop_length]
    show (Builtin.Str.strSub ⟨x.toArray⟩ f x.length).cps.toList = x.drop f ++ []
    rw [StrLaws.strSub_toList, List.append_nil]
    exact List.take_of_length_le (Nat.le_of_eq List.length_drop)
  | cons c r ih =>
    intro a f h hn
    obtain ⟨h1, h2, h3, h4⟩ := h
    obtain ⟨b, q, e⟩ := StrLaws.partsFrom_ne (⟨x.toArray⟩ : Str) y.length (c + y.length) r
    rw [sc_skip (c - a) (x.drop a) fun j hj => by rw [List.drop_drop]; exact no _ (h3 _ (Nat.le_add_right ..) (by omega)), List.drop_drop, Nat.add_sub_cancel' h1, sc_hit hy ((At_iff x y c).mp h2).2, List.drop_drop, ← ih (c + y.length) f h4 hn]
    show (Str.join _ (Builtin.Str.strSub ⟨x.toArray⟩ a c :: _)).cps.toList = _
    rw [join_cons _ _ (by rw [e]; nofun), StrLaws.strSub_toList]
end
theorem kind_le {x y : List Nat} (hm : ∀ c ∈ y, c ∈ x) : Builtin.Str.strKind ⟨y.toArray⟩ ≤ Builtin.Str.strKind ⟨x.toArray⟩ := by
  have key : ∀ n : Nat, x.toArray.all (fun c => decide (c < n)) = true → y.toArray.all (fun c => decide (c < n)) = true := fun n e => by
    rw [List.all_toArray, List.all_eq_true] at e ⊢
    exact fun c m => e c (hm c m)
  unfold Builtin.Str.strKind
  by_cases a : x.toArray.all (fun c => decide (c < 256)) = true
  · rw [if_pos a, if_pos (key _ a)]
    exact Nat.le_refl 1
  · rw [if_neg a]
    by_cases b : x.toArray.all (fun c => decide (c < 65536)) = true
    · rw [if_pos b, if_pos (key _ b)]
      split <;> decide
    · rw [if_neg b]
      split
      · decide
      · split <;> decide
/-- split and join -/
theorem split_sc (x : List Nat) {y : List Nat} (z : List Nat) (hy : y ≠ []) : (Str.join ⟨z.toArray⟩ (Txt.split ⟨x.toArray⟩ ⟨y.toArray⟩)).cps.toList = sc y z 0 x := by
  obtain ⟨f, h1, h2⟩ := StrLaws.occ_tight ⟨x.toArray⟩ ⟨y.toArray⟩ (List.length_pos_iff.mpr hy)
  have e := parts_sc (z := z) x hy _ 0 f h1 h2
  rw [List.drop_zero] at e
  rw [← e]
  generalize ho : Builtin.Str.occurrences ⟨x.toArray⟩ ⟨y.toArray⟩ 0 (⟨x.toArray⟩ : Str).length ((⟨x.toArray⟩ : Str).length + 1) = o at h1
  have one : o = [] → [(⟨x.toArray⟩ : Str)] = StrLaws.partsFrom ⟨x.toArray⟩ y.length 0 o := fun e => by
    subst e
    refine congrArg (fun l => [l]) (Str.ext' (Array.toList_inj.mp ?_))
    rw [StrLaws.strSub_toList]
    exact (List.take_of_length_le (Nat.le_refl _)).symm
  refine congrArg (fun l => (Str.join ⟨z.toArray⟩ l).cps.toList) ?_
  unfold Txt.split
  rw [ho]
  split
  · rename_i hc
    refine one ?_
    cases o with
    | nil => rfl
    | cons i r =>
      obtain ⟨q1, q2⟩ := (At_iff x y i).mp h1.2.1
      have k1 := kind_le (x := x) (y := y) fun c m => List.mem_of_mem_drop (List.mem_of_mem_take (eq_of_beq q2 ▸ m))
      rcases Bool.or_eq_true_iff.mp hc with hc | hc
      · exact absurd (of_decide_eq_true hc) (Nat.not_lt.mpr (Nat.le_trans (Nat.le_add_left ..) q1))
      · exact absurd (of_decide_eq_true hc) (Nat.not_lt.mpr k1)
  · split
    · rename_i hc
      exact one (List.isEmpty_iff.mp hc)
    · exact StrLaws.partsBetween_eq ..
theorem strsOf_S : ∀ l : List Str, strsOf (l.map .str) = some l
  | [] => rfl
  | a :: r => congrArg (Option.map (a :: ·)) (strsOf_S r)
theorem sum_le {a b c d e : Nat} (h : a + b ≤ c + 1) (hc : c ≤ 30) (hd : d ≤ 30) : a + b * d ≤ 1000 := Nat.le_trans (Nat.add_le_add (Nat.le_trans (Nat.le_add_right ..) h) (Nat.mul_le_mul (Nat.le_trans (Nat.le_add_left ..) h) hd)) (Nat.le_trans (Nat.add_le_add (Nat.succ_le_succ hc) (Nat.mul_le_mul (Nat.succ_le_succ hc) (Nat.le_refl 30))) (Nat.le_of_ble_eq_true rfl))
theorem split_small {x y : List Nat} (hy : y ≠ []) (hx : x.length ≤ 30) {n : Nat} (hn : n ≤ 30) : ((Txt.split ⟨x.toArray⟩ ⟨y.toArray⟩).map (·.length)).sum + (Txt.split ⟨x.toArray⟩ ⟨y.toArray⟩).length * n ≤ 1000 := sum_le (e := 0) (split_weight ⟨x.toArray⟩ ⟨y.toArray⟩ (List.length_pos_iff.mpr hy)) hx hn
theorem sc_len {x y z : List Nat} (hy : y ≠ []) (hx : x.length ≤ 30) (hz : z.length ≤ 30) : (sc y z 0 x).length ≤ 1000 := by
  rw [← split_sc x z hy]
  exact Nat.le_trans (StrLaws.join_length_le ..) (split_small hy hx hz)
theorem join_x (call : Orc) (p : Pl) {z : List Nat} {l : List Str} (h : (l.map (·.length)).sum + l.length * z.length ≤ 1000) : methX call .join (T z) [.list (l.map .str)] p = some (T (Str.join ⟨z.toArray⟩ l).cps.toList, p) := by
  refine meth_x call (fun q => by cases q) p ?_
  show @bnd _ _ (strsOf (l.map .str)) ⟨fun ss => grd (JoinOk ⟨z.toArray⟩ ss) (PV.str (Txt.join ⟨z.toArray⟩ ss))⟩ = _
  rw [strsOf_S]
  refine (if_pos ?_).trans (congrArg (fun x => some (PV.str x)) (StrLaws.glued_eq_join ..))
  unfold JoinOk
  rw [StrLaws.joinTotal]
  have e : Builtin.Str.tooLong ((l.map (·.length)).sum + l.length * z.length) = false := decide_eq_false (Nat.not_lt.mpr (Nat.le_trans h (Nat.le_of_ble_eq_true rfl)))
  exact congrArg (!·) e
theorem mul_le_30 {k z : Nat} (hk : k ≤ 30) (hz : z ≤ 30) : k * z ≤ 900 := Nat.mul_le_mul hk hz
theorem not_big {x k z M : Nat} (hM : M = k + 1) (hx : x ≤ 30) (hk : k ≤ 30) (hz : z ≤ 30) : decide ((x : Int) + ((M : Int) - 1) * (z : Int) > 100000) = false := by
  subst hM
  have e : ((k + 1 : Nat) : Int) - 1 = (k : Int) := Int.add_sub_cancel (k : Int) 1
  rw [e, ← Int.natCast_mul]
  have := mul_le_30 hk hz
  exact decide_eq_false (by omega)
/-- the text with each part replaced -/
noncomputable def repl (x y z : List Nat) : List Nat := match y with
  | [] => x
  | _ :: _ => sc y z 0 x
theorem split_x (call : Orc) (p : Pl) {x y : List Nat} (hx : x.length ≤ 30) (hy : y ≠ []) : methX call .split (T x) [T y] p = some (.list ((Txt.split ⟨x.toArray⟩ ⟨y.toArray⟩).map .str), p) :=
  meth_x call (fun q => by cases q) p (if_pos ⟨lim_le (le_k hx rfl), fun q => hy (List.eq_nil_of_length_eq_zero q), lim_le (Nat.le_trans (Nat.le_trans (Nat.le_add_left ..) (split_weight ⟨x.toArray⟩ ⟨y.toArray⟩ (List.length_pos_iff.mpr hy))) (le_k (Nat.succ_le_succ hx) rfl))⟩)
theorem replaced_run (d : Nat) (p : Pl) {x y z : List Nat} (hx : x.length ≤ 30) (hz : z.length ≤ 30) : orc (d + 2) 31 [.list [T x, T y, T z]] p = some (T (repl x y z), p) := by
  cases y with
  | nil => exact walkC (f0) (by kernel_rfl)
  | cons c t =>
    have hy : c :: t ≠ [] := nofun
    obtain ⟨k, hk⟩ : ∃ k, (Txt.split ⟨x.toArray⟩ ⟨(c :: t).toArray⟩).length = k + 1 := ⟨_, (Nat.sub_add_cancel (split_pos ..)).symm⟩
    have hw := split_weight ⟨x.toArray⟩ ⟨(c :: t).toArray⟩ (Nat.succ_pos _)
    have hk2 : k ≤ 30 := Nat.le_trans (Nat.le_of_succ_le_succ (Nat.le_trans (Nat.le_of_eq hk.symm) (Nat.le_trans (Nat.le_add_left ..) hw))) hx
    have hL : ((Txt.split ⟨x.toArray⟩ ⟨(c :: t).toArray⟩).map PV.str).length = k + 1 := (List.length_map ..).trans hk
    show _ = some (T (sc (c :: t) z 0 x), p)
    rw [← split_sc x z hy]
    have c0 : ((c :: t) == ([] : List Nat)) = false := rfl
    have s1 := split_small hy hx hz
    have e := split_x (orc (d + 1)) p hx hy
    clear hw hk
    generalize Txt.split ⟨x.toArray⟩ ⟨(c :: t).toArray⟩ = P at s1 hL e ⊢
    exact walkC (fb 8 (c_eqT c0) <| fc 3 e <| fv 2 (l_lenT (le_k hx rfl)) <| fv 1 (l_lenL (a := P.map PV.str) (by rw [hL]; exact le_k (Nat.succ_le_succ hk2) rfl)) <| fv 2 (l_lenT (le_k hz rfl)) <| fv 0 (b_mul (a := ((P.map PV.str).length : Int) - 1) (b := (z.length : Int)) (Nat.lt_of_le_of_lt hz (by decide))) <| fb 1 (c_gt (not_big hL hx hk2 hz)) <| fc 3 (join_x (orc (d + 1)) p s1) <| f0) (by kernel_rfl)
/-! loops, unrolled -/
section
variable {call : Orc} {c : E} {b : Ss} {n : Nat} {ρ ρ' : List PV} {p : Pl}
theorem wl_f (h : ev call c true ρ p = some (.bool false, p)) : wloop call NQ c b (n + 1) ρ p = some (none, ρ, p) := by
  show @iteK _ (ev call c true ρ p) ⟨fun p => @seqX (xSs call NQ b ρ p) ⟨fun ρ p => wloop call NQ c b n ρ p⟩⟩ ⟨fun p => some (none, ρ, p)⟩ = _
  rw [h]; rfl
theorem wl_t {r : XR} (h : ev call c true ρ p = some (.bool true, p)) (hb : xSs call NQ b ρ p = some (none, ρ', p)) (hr : wloop call NQ c b n ρ' p = r) : wloop call NQ c b (n + 1) ρ p = r := by
  show @iteK _ (ev call c true ρ p) ⟨fun p => @seqX (xSs call NQ b ρ p) ⟨fun ρ p => wloop call NQ c b n ρ p⟩⟩ ⟨fun p => some (none, ρ, p)⟩ = _
  rw [h]
  show @seqX (xSs call NQ b ρ p) ⟨fun ρ p => wloop call NQ c b n ρ p⟩ = _
  rw [hb]
  exact hr
end
theorem pre_le {a b r c : List Nat} {n : Nat} (h : (a ++ b) ++ r = c) (hc : c.length ≤ n) : a.length + b.length ≤ n := by
  rw [← h, List.length_append, List.length_append] at hc
  exact Nat.le_trans (Nat.le_add_right ..) hc
section
variable (d : Nat) (p : Pl) {x y z : List Nat} (hx : x.length ≤ 30) (hy : y.length ≤ 30) (hz : z.length ≤ 30) (hne : y ≠ [])
theorem lr_hit {fd r : List Nat} {a : Nat} (hx : x.length ≤ 1000) (hy : y.length ≤ 1000) (h1 : (fd ++ z) ++ r = sc y z 0 x) (h2 : (sc y z 0 x).length ≤ 1000) (h : hasAt x y a = true) (ha : a + y.length ≤ 1000) :
    xSs (orc d) NQ k_law_replaced_w0 [T x, T y, T z, T fd, .int a] p = some (none, [T x, T y, T z, T (fd ++ z), .int ((a + y.length : Nat) : Int)], p) := by
  have hs := @sl_T x a (a + y.length) hx (Nat.le_trans (Nat.le_add_right ..) ha) ha
  rw [sl_add] at hs
  exact walkX (fv 5 (l_lenT hy) <| fv 1 hs <| fb 1 (c_eqT h) <| fv 3 (b_cat (pre_le h1 h2)) <| fv 2 (l_lenT hy) <| f0) (by kernel_rfl)
theorem lr_miss {fd r : List Nat} {a v : Nat} (hx : x.length ≤ 1000) (hy : y.length ≤ 1000) (h1 : (fd ++ [v]) ++ r = sc y z 0 x) (h2 : (sc y z 0 x).length ≤ 1000) (h : hasAt x y a = false) (ha : a + y.length ≤ 1000) (hv : x[a]? = some v) :
    xSs (orc d) NQ k_law_replaced_w0 [T x, T y, T z, T fd, .int a] p = some (none, [T x, T y, T z, T (fd ++ [v]), .int ((a + 1 : Nat) : Int)], p) := by
  have hs := @sl_T x a (a + y.length) hx (Nat.le_trans (Nat.le_add_right ..) ha) ha
  rw [sl_add] at hs
  exact walkX (fv 5 (l_lenT hy) <| fv 1 hs <| fb 1 (c_eqT h) <| fv 4 (x_T p hx hv) <| fv 0 (b_cat (pre_le h1 h2)) <| f0) (by kernel_rfl)
theorem lr_cond {fd : List Nat} {a : Nat} {b : Bool} (hx : x.length ≤ 1000) (h : decide ((a : Int) < x.length) = b) : ev (orc d) k_law_replaced_w0t true [T x, T y, T z, T fd, .int a] p = some (.bool b, p) := by
  exact walkE (fv 2 (l_lenT hx) <| fb 0 (c_lt h) <| f0) (by kernel_rfl)
include hx hy hz hne
/-- the law's loop -/
theorem lr_loop : ∀ (n : Nat) (fd : List Nat) (a : Nat), x.length < a + n → a ≤ x.length → fd ++ sc y z 0 (x.drop a) = sc y z 0 x →
    ∃ k : Nat, wloop (orc d) NQ k_law_replaced_w0t k_law_replaced_w0 n [T x, T y, T z, T fd, .int a] p = some (none, [T x, T y, T z, T (sc y z 0 x), .int k], p) := by
  have hx' := le_k (b := 1000) hx rfl
  have hy' := le_k (b := 1000) hy rfl
  have hs := sc_len hne hx hz
  intro n
  induction n with
  | zero => intro fd a h1 ha _; exact absurd (Nat.lt_of_lt_of_le h1 ha) (Nat.lt_irrefl _)
  | succ n ih =>
    intro fd a h1 ha h2
    have ha' : a + y.length ≤ 1000 := Nat.le_trans (Nat.add_le_add (Nat.le_trans ha hx) hy) (Nat.le_of_ble_eq_true rfl)
    have h1 : x.length < a + 1 + n := Nat.add_right_comm .. ▸ h1
    rcases Nat.eq_or_lt_of_le ha with rfl | hlt
    · rw [List.drop_length] at h2
      rw [← (List.append_nil fd).symm.trans h2]
      exact ⟨_, wl_f (lr_cond d p hx' (decide_eq_false (Int.lt_irrefl _)))⟩
    · have hc := lr_cond d p (y := y) (z := z) (fd := fd) hx' (decide_eq_true (Int.ofNat_lt.mpr hlt))
      cases h : hasAt x y a with
      | true =>
        have q := hasAt_le h hne
        rw [sc_hit hne h, List.drop_drop, ← List.append_assoc] at h2
        obtain ⟨k, e⟩ := ih (fd ++ z) (a + y.length) (Nat.lt_of_lt_of_le h1 (Nat.add_le_add_right (Nat.add_le_add_left (List.length_pos_iff.mpr hne) a) n)) q h2
        exact ⟨k, wl_t hc (lr_hit d p hx' hy' h2 hs h ha') e⟩
      | false =>
        have hv : x[a]? = some x[a] := List.getElem?_eq_getElem hlt
        have h' : ((x[a] :: x.drop (a + 1)).take y.length == y) = false := List.drop_eq_getElem_cons hlt ▸ h
        rw [List.drop_eq_getElem_cons hlt, sc_miss h', List.append_cons] at h2
        obtain ⟨k, e⟩ := ih (fd ++ [x[a]]) (a + 1) h1 hlt h2
        exact ⟨k, wl_t hc (lr_miss d p hx' hy' h2 hs h ha' hv) e⟩
theorem law_repl : orc (d + 1) 49 [T x, T y, T z] p = some (T (sc y z 0 x), p) := by
  obtain ⟨k, e⟩ := lr_loop d p hx hy hz hne 3000 [] 0 (Nat.lt_of_le_of_lt hx (Nat.lt_of_lt_of_le (by decide) (Nat.le_add_left ..))) (Nat.zero_le _) rfl
  have c0 : (y == ([] : List Nat)) = false := by cases y with | nil => exact absurd rfl hne | cons _ _ => rfl
  exact walkC (fb 2 (c_eqT c0) <| fx 3 e <| f0) (by kernel_rfl)
end
theorem law_replaced_run (d : Nat) (p : Pl) {x y z : List Nat} (hx : x.length ≤ 30) (hy : y.length ≤ 30) (hz : z.length ≤ 30) : orc (d + 1) 49 [T x, T y, T z] p = some (T (repl x y z), p) := by
  cases y with
  | nil => exact walkC (f0) (by kernel_rfl)
  | cons c t => exact law_repl d p hx hy hz nofun
/-! trims -/
noncomputable def inS (S : List Nat) (c : Nat) : Bool := decide (c ∈ S)
noncomputable def dl (b : Bool) (S l : List Nat) : List Nat := match b with
  | true => l.dropWhile (inS S)
  | false => l
theorem dl_le (b : Bool) (S : List Nat) (l : List Nat) : (dl b S l).length ≤ l.length := by
  cases b with
  | true => exact (List.dropWhile_suffix _).length_le
  | false => exact Nat.le_refl _
theorem dl_nil (b : Bool) (S : List Nat) : dl b S [] = [] := by cases b <;> rfl
/-- signs are left at the front, or the front is done -/
theorem dl_cases (b : Bool) (S : List Nat) (c : Nat) (t : List Nat) : (b = true ∧ inS S c = true ∧ dl b S (c :: t) = dl b S t) ∨ ((b = false ∨ inS S c = false) ∧ dl b S (c :: t) = c :: t) := by
  cases b with
  | false => exact .inr ⟨.inl rfl, rfl⟩
  | true =>
    cases h : inS S c with
    | true => exact .inl ⟨rfl, rfl, List.dropWhile_cons_of_pos h⟩
    | false => exact .inr ⟨.inr rfl, List.dropWhile_cons_of_neg (by rw [h]; nofun)⟩
/-- what is left when signs at both ends are gone -/
noncomputable def trimW (bl br : Bool) (S l : List Nat) : List Nat := (dl br S (dl bl S l).reverse).reverse
theorem c_inL {c : Nat} {S : List Nat} {r : Bool} (h : inS S c = r) : cmpOp .In (T [c]) (.list (S.map fun c => T [c])) = some r := by
  refine (if_pos (List.all_eq_true.mpr fun x m => ?_)).trans (congrArg some (Eq.trans ?_ h))
  · obtain ⟨c, _, rfl⟩ := List.mem_map.mp m; rfl
  · clear h
    unfold inS
    induction S with
    | nil => rfl
    | cons x S ih =>
      rw [List.map_cons, List.any_cons, ih]
      have e : beqS ⟨[c].toArray⟩ (T [x]) = decide (c = x) := by
        refine (T_beq [x] [c]).trans ?_
        rw [Bool.eq_iff_iff, beq_iff_eq, decide_eq_true_iff]
        exact ⟨fun h => (List.cons.inj h).1.symm, fun h => h ▸ rfl⟩
      exact (congrArg (· || decide (c ∈ S)) e).trans (Bool.eq_iff_iff.mpr (by rw [Bool.or_eq_true, decide_eq_true_iff, decide_eq_true_iff, decide_eq_true_iff]; exact List.mem_cons.symm))
theorem list_T {S : List Nat} (hS : S.length ≤ 1000) : bltOp .list [T S] = some (.list (S.map fun c => T [c])) := l_list (v := T S) rfl (by rw [List.length_map]; exact hS)
theorem suc {a n : Nat} (h : a < n) : ∃ m, n = m + 1 := ⟨n - 1, (Nat.sub_add_cancel (Nat.succ_le_of_lt (Nat.zero_lt_of_lt h))).symm⟩
section
variable (d : Nat) (p : Pl) {S : List Nat} (hS : S.length ≤ 1000) {bl br : Bool}
include hS
theorem lt_cond0 {c : Nat} {t : List Nat} (hl : (c :: t).length ≤ 1000) (hc : bl = false ∨ inS S c = false) : ev (orc d) k_law_trimmed_w0t true [T (c :: t), T S, .bool bl, .bool br] p = some (.bool false, p) := by
  cases bl with
  | false => exact walkE (f0) (by kernel_rfl)
  | true => exact walkE (fv 5 (x_T p (k := 0) hl rfl) <| fv 1 (list_T hS) <| fb 0 (c_inL (hc.resolve_left nofun)) <| f0) (by kernel_rfl)
theorem lt_loop0 : ∀ (l : List Nat) (n : Nat), l.length < n → l.length ≤ 1000 → wloop (orc d) NQ k_law_trimmed_w0t k_law_trimmed_w0 n [T l, T S, .bool bl, .bool br] p = some (none, [T (dl bl S l), T S, .bool bl, .bool br], p) := by
  intro l
  induction l with
  | nil =>
    intro n h _
    obtain ⟨n, rfl⟩ := suc h
    rw [dl_nil]
    refine wl_f ?_
    cases bl <;> exact walkE (f0) (by kernel_rfl)
  | cons c t ih =>
    intro n h hl
    obtain ⟨n, rfl⟩ := suc h
    rcases dl_cases bl S c t with ⟨rfl, hc, e⟩ | ⟨hc, e⟩ <;> rw [e]
    · refine wl_t ?_ ?_ (ih n (Nat.lt_of_succ_lt_succ h) (Nat.le_of_succ_le hl))
      · exact walkE (fv 5 (x_T p (k := 0) hl rfl) <| fv 1 (list_T hS) <| fb 0 (c_inL hc) <| f0) (by kernel_rfl)
      · exact walkX (fv 2 (sl_tail hl) <| f0) (by kernel_rfl)
    · exact wl_f (lt_cond0 d p hS hl hc)
omit hS in
theorem snoc_ne (l : List Nat) (c : Nat) : (l ++ [c] == []) = false := by cases l <;> rfl
theorem lt_cond1 {c : Nat} {t : List Nat} (hl : (t ++ [c]).length ≤ 1000) (hc : br = false ∨ inS S c = false) : ev (orc d) k_law_trimmed_w1t true [T (t ++ [c]), T S, .bool bl, .bool br] p = some (.bool false, p) := by
  cases br with
  | false => exact walkE (f0) (by kernel_rfl)
  | true => exact walkE (fb 3 (c_neT (snoc_ne t c)) <| fv 2 (x_lastT p hl (List.getLast?_concat ..)) <| fv 1 (list_T hS) <| fb 0 (c_inL (hc.resolve_left nofun)) <| f0) (by kernel_rfl)
theorem lt_loop1 : ∀ (l : List Nat) (n : Nat), l.length < n → l.length ≤ 1000 → wloop (orc d) NQ k_law_trimmed_w1t k_law_trimmed_w1 n [T l.reverse, T S, .bool bl, .bool br] p = some (none, [T (dl br S l).reverse, T S, .bool bl, .bool br], p) := by
  intro l
  induction l with
  | nil =>
    intro n h _
    obtain ⟨n, rfl⟩ := suc h
    rw [dl_nil]
    refine wl_f ?_
    cases br <;> exact walkE (f0) (by kernel_rfl)
  | cons c t ih =>
    intro n h hl
    obtain ⟨n, rfl⟩ := suc h
    have hl' : (t.reverse ++ [c]).length ≤ 1000 := by rw [← List.reverse_cons, List.length_reverse]; exact hl
    rcases dl_cases br S c t with ⟨rfl, hc, e⟩ | ⟨hc, e⟩ <;> rw [e] <;> rw [List.reverse_cons]
    · refine wl_t ?_ ?_ (ih n (Nat.lt_of_succ_lt_succ h) (Nat.le_of_succ_le hl))
      · exact walkE (fb 3 (c_neT (snoc_ne t.reverse c)) <| fv 2 (x_lastT p hl' (List.getLast?_concat ..)) <| fv 1 (list_T hS) <| fb 0 (c_inL hc) <| f0) (by kernel_rfl)
      · have q := sl_init hl'
        rw [List.dropLast_concat] at q
        exact walkX (fv 3 q <| f0) (by kernel_rfl)
    · exact wl_f (lt_cond1 d p hS hl' hc)
theorem law_trimmed_run {l : List Nat} (hl : l.length ≤ 1000) : orc (d + 1) 50 [T l, T S, .bool bl, .bool br] p = some (T (trimW bl br S l), p) := by
  have h0 := lt_loop0 d p hS (bl := bl) (br := br) l 3000 (Nat.lt_of_le_of_lt hl (by decide)) hl
  have hd : (dl bl S l).reverse.length ≤ 1000 := by rw [List.length_reverse]; exact Nat.le_trans (dl_le ..) hl
  have h1 := lt_loop1 d p hS (bl := bl) (br := br) (dl bl S l).reverse 3000 (Nat.lt_of_le_of_lt hd (by decide)) hd
  rw [List.reverse_reverse] at h1
  exact walkC (fx 1 h0 <| fx 1 h1 <| f0) (by kernel_rfl)
end
/-! the program's trims -/
section
variable (d : Nat) (p : Pl) {w l S : List Nat} {A : PV} (hl : l.length ≤ 1000) {bl br : Bool} (hw0 : (w == ([114, 116, 114, 105, 109])) = !bl) (hw1 : (w == ([108, 116, 114, 105, 109])) = !br)
include hl
omit hl in
theorem get_of {k : Nat} {c : Nat} {t : List Nat} (h : l.drop k = c :: t) : l[k]? = some c ∧ l.drop (k + 1) = t := by
  refine ⟨?_, ?_⟩
  · have := congrArg List.head? h
    rw [List.head?_drop] at this
    exact this
  · rw [← List.drop_drop, h]; rfl
include hw0
theorem tr_loop0 : ∀ (t : List Nat) (k n : Nat), t.length < n → l.drop k = t → k ≤ l.length → ∃ j : Nat, wloop (orc d) NQ k_trimmed_w0t k_trimmed_w0 n [T w, A, T l, T S, .int k, .int l.length] p = some (none, [T w, A, T l, T S, .int j, .int l.length], p) ∧ l.drop j = dl bl S t ∧ j ≤ l.length := by
  intro t
  induction t with
  | nil =>
    intro k n h0 h hk
    obtain ⟨n, rfl⟩ := suc h0
    have hk' := List.drop_eq_nil_iff.mp h
    have c1 : decide ((k : Int) < l.length) = false := decide_eq_false (Int.not_lt.mpr (Int.ofNat_le.mpr hk'))
    refine ⟨k, wl_f ?_, h.trans (dl_nil ..).symm, hk⟩
    cases bl with
    | false => exact walkE (fb 1 (c_neT hw0) <| f0) (by kernel_rfl)
    | true => exact walkE (fb 1 (c_neT hw0) <| fb 2 (c_lt c1) <| f0) (by kernel_rfl)
  | cons c t ih =>
    intro k n h hd hk
    obtain ⟨n, rfl⟩ := suc h
    obtain ⟨g1, g2⟩ := get_of hd
    have hlt := lt_of_get g1
    have c1 : decide ((k : Int) < l.length) = true := decide_eq_true (Int.ofNat_lt.mpr hlt)
    rcases dl_cases bl S c t with ⟨rfl, hc, e⟩ | ⟨hc, e⟩ <;> rw [e]
    · obtain ⟨j, e1, e2⟩ := ih (k + 1) n (Nat.lt_of_succ_lt_succ h) g2 hlt
      refine ⟨j, wl_t ?_ ?_ e1, e2⟩
      · exact walkE (fb 1 (c_neT hw0) <| fb 2 (c_lt c1) <| fv 2 (x_T p hl g1) <| fb 1 (c_inT (b := S) hc) <| f0) (by kernel_rfl)
      · exact walkX (f0) (by kernel_rfl)
    · refine ⟨k, wl_f ?_, hd, hk⟩
      cases bl with
      | false => exact walkE (fb 1 (c_neT hw0) <| f0) (by kernel_rfl)
      | true => exact walkE (fb 1 (c_neT hw0) <| fb 2 (c_lt c1) <| fv 2 (x_T p hl g1) <| fb 1 (c_inT (b := S) (hc.resolve_left nofun)) <| f0) (by kernel_rfl)
omit hw0 hl in
theorem sl_snoc {i k : Nat} {c : Nat} (hi : i ≤ k) (h : l[k]? = some c) : sl l i (k + 1) = sl l i k ++ [c] := by
  unfold sl
  rw [List.take_add_one, h, List.drop_append_of_le_length (by rw [List.length_take]; exact Nat.le_min.mpr ⟨hi, Nat.le_trans hi (Nat.le_of_lt (lt_of_get h))⟩)]
  rfl
omit hw0
include hw1
theorem tr_loop1 {i : Nat} : ∀ (t : List Nat) (k n : Nat), t.length < n → sl l i k = t.reverse → i ≤ k → k ≤ l.length → ∃ j : Nat, wloop (orc d) NQ k_trimmed_w1t k_trimmed_w1 n [T w, A, T l, T S, .int i, .int k] p = some (none, [T w, A, T l, T S, .int i, .int j], p) ∧ sl l i j = (dl br S t).reverse ∧ j ≤ l.length := by
  intro t
  induction t with
  | nil =>
    intro k n h hd hi hk
    obtain ⟨n, rfl⟩ := suc h
    have e : k ≤ i := by
      have := List.drop_eq_nil_iff.mp hd
      rw [List.length_take, Nat.min_eq_left hk] at this
      exact this
    have c1 : decide ((i : Int) < k) = false := decide_eq_false (Int.not_lt.mpr (Int.ofNat_le.mpr e))
    refine ⟨k, wl_f ?_, hd.trans (by rw [dl_nil]), hk⟩
    cases br with
    | false => exact walkE (fb 1 (c_neT hw1) <| f0) (by kernel_rfl)
    | true => exact walkE (fb 1 (c_neT hw1) <| fb 2 (c_lt c1) <| f0) (by kernel_rfl)
  | cons c' t ih =>
    intro k n h hd hi hk
    obtain ⟨n, rfl⟩ := suc h
    rw [List.reverse_cons] at hd
    have hlt : i < k := Nat.lt_of_le_of_ne hi fun q => by
      have q : sl l i k = [] := List.drop_of_length_le (by rw [List.length_take, q]; exact Nat.min_le_left ..)
      rw [q] at hd
      exact absurd hd.symm (List.append_ne_nil_of_right_ne_nil _ nofun)
    obtain ⟨k, rfl⟩ := suc hlt
    have g1 : l[k]? = some l[k] := List.getElem?_eq_getElem hk
    generalize l[k] = c at g1
    rw [sl_snoc (Nat.le_of_lt_succ hlt) g1] at hd
    obtain ⟨e1, e2⟩ := List.append_inj' hd rfl
    cases e2
    have c1 : decide ((i : Int) < ((k + 1 : Nat) : Int)) = true := decide_eq_true (Int.ofNat_lt.mpr hlt)
    have hk1 : ((k + 1 : Nat) : Int) - 1 = (k : Int) := Int.add_sub_cancel (k : Int) 1
    have hx : idxOp (T l) (.int (((k + 1 : Nat) : Int) - 1)) p = some (T [c']) := hk1 ▸ x_T p hl g1
    rcases dl_cases br S c' t with ⟨rfl, hc, e⟩ | ⟨hc, e⟩ <;> rw [e]
    · obtain ⟨j, e1, e2⟩ := ih k n (Nat.lt_of_succ_lt_succ h) e1 (Nat.le_of_lt_succ hlt) (Nat.le_of_succ_le hk)
      refine ⟨j, wl_t (ρ' := [T w, A, T l, T S, .int i, .int (((k + 1 : Nat) : Int) - 1)]) ?_ ?_ (hk1.symm ▸ e1), e2⟩
      · exact walkE (fb 1 (c_neT hw1) <| fb 2 (c_lt c1) <| fv 3 hx <| fb 1 (c_inT (b := S) hc) <| f0) (by kernel_rfl)
      · exact walkX (f0) (by kernel_rfl)
    · refine ⟨k + 1, wl_f ?_, by rw [sl_snoc (Nat.le_of_lt_succ hlt) g1, e1, List.reverse_cons], hk⟩
      cases br with
      | false => exact walkE (fb 1 (c_neT hw1) <| f0) (by kernel_rfl)
      | true => exact walkE (fb 1 (c_neT hw1) <| fb 2 (c_lt c1) <| fv 3 hx <| fb 1 (c_inT (b := S) (hc.resolve_left nofun)) <| f0) (by kernel_rfl)
include hw0
theorem tr_loops : ∃ i j : Nat, wloop (orc d) NQ k_trimmed_w0t k_trimmed_w0 3000 [T w, A, T l, T S, .int 0, .int l.length] p = some (none, [T w, A, T l, T S, .int i, .int l.length], p) ∧
    wloop (orc d) NQ k_trimmed_w1t k_trimmed_w1 3000 [T w, A, T l, T S, .int i, .int l.length] p = some (none, [T w, A, T l, T S, .int i, .int j], p) ∧ sliceOp (T l) (.int i) (.int j) = some (T (trimW bl br S l)) := by
  have h3 := Nat.lt_of_le_of_lt hl (show 1000 < 3000 by decide)
  obtain ⟨i, e1, e2, hi⟩ := tr_loop0 d p (A := A) (S := S) hl hw0 l 0 3000 h3 rfl (Nat.zero_le _)
  have q : sl l i l.length = (dl bl S l).reverse.reverse := by unfold sl; rw [List.take_length, e2, List.reverse_reverse]
  obtain ⟨j, e3, e4, hj⟩ := tr_loop1 d p (A := A) (S := S) hl hw1 (dl bl S l).reverse l.length 3000 (by rw [List.length_reverse]; exact Nat.lt_of_le_of_lt (dl_le ..) h3) q hi (Nat.le_refl _)
  exact ⟨i, j, e1, e3, (sl_T hl (Nat.le_trans hi hl) (Nat.le_trans hj hl)).trans (congrArg (fun x => some (T x)) e4)⟩
theorem trim2 : orc (d + 2) 29 [T w, .list [T l, T S]] p = some (T (trimW bl br S l), p) := by
  obtain ⟨i, j, e1, e2, e3⟩ := tr_loops (d + 1) p (A := .list [T l, T S]) (S := S) hl hw0 hw1
  exact walkC (fv 28 (l_lenT hl) <| fx 1 e1 <| fx 1 e2 <| fv 4 e3 <| f0) (by kernel_rfl)
theorem trim1 : orc (d + 2) 29 [T w, .list [T l]] p = some (T (trimW bl br ([32]) l), p) := by
  obtain ⟨i, j, e1, e2, e3⟩ := tr_loops (d + 1) p (A := .list [T l]) (S := ([32])) hl hw0 hw1
  exact walkC (fv 18 (l_lenT hl) <| fx 1 e1 <| fx 1 e2 <| fv 4 e3 <| f0) (by kernel_rfl)
end
/-- what comes after n statements -/
noncomputable def rst : Nat → Ss → Ss
  | 0, c => c
  | n + 1, c => rst n (@Ss.rec (fun _ => Ss) (fun _ => Ss) (fun _ _ => .nil) (fun _ _ => .nil) (fun _ _ _ => .nil) (fun _ _ _ => .nil) (fun _ => .nil) (fun _ _ _ _ _ => .nil) (fun _ _ _ => .nil) (fun _ _ _ _ => .nil) (fun _ _ _ _ => .nil) (fun _ _ => .nil) (fun _ => .nil) (fun _ => .nil) (fun _ _ => .nil) .nil .nil (fun _ r _ _ => r) c)
section
variable (d : Nat) (p : Pl) {x y z S : List Nat} (hx : x.length ≤ 20) (hy : y.length ≤ 20) (hz : z.length ≤ 10) (hS : S.length ≤ 10) {L : List PV}
include hx hy hz hS
/-- replace and the trims -/
theorem parts3 : fin (xSs (orc (d + 5)) NQ (rst 4 k_law_parts_right) [.pool, T x, T y, T z, T S, .list L, .unb, .unb, .unb] p) = some (.bool true, p) := by
  have hx' := le_k (b := 1000) hx rfl
  have hS' := le_k (b := 1000) hS rfl
  exact walkZ (fc 104 (replaced_run d p (x := x) (y := y) (z := z) (le_k hx rfl) (le_k hz rfl)) <| fc 3 (law_replaced_run (d + 4) p (x := x) (y := y) (z := z) (le_k hx rfl) (le_k hy rfl) (le_k hz rfl)) <| fb 0 (nes_T (repl x y z)) <| fc 122 (trim2 d p (w := ([116, 114, 105, 109])) (S := S) (bl := true) (br := true) hx' rfl rfl) <| fc 4 (law_trimmed_run (d + 4) p (bl := true) (br := true) hS' hx') <| fb 0 (nes_T (trimW true true S x)) <| fc 114 (trim1 d p (w := ([116, 114, 105, 109])) (bl := true) (br := true) hx' rfl rfl) <| fc 3 (law_trimmed_run (d + 4) p (S := ([32])) (bl := true) (br := true) (by decide) hx') <| fb 0 (nes_T (trimW true true [32] x)) <| fc 121 (trim2 d p (w := ([108, 116, 114, 105, 109])) (S := S) (bl := true) (br := false) hx' rfl rfl) <| fc 4 (law_trimmed_run (d + 4) p (bl := true) (br := false) hS' hx') <| fb 0 (nes_T (trimW true false S x)) <| fc 116 (trim1 d p (w := ([108, 116, 114, 105, 109])) (bl := true) (br := false) hx' rfl rfl) <| fc 3 (law_trimmed_run (d + 4) p (S := ([32])) (bl := true) (br := false) (by decide) hx') <| fb 0 (nes_T (trimW true false [32] x)) <| fc 123 (trim2 d p (w := ([114, 116, 114, 105, 109])) (S := S) (bl := false) (br := true) hx' rfl rfl) <| fc 4 (law_trimmed_run (d + 4) p (bl := false) (br := true) hS' hx') <| fb 0 (nes_T (trimW false true S x)) <| fc 118 (trim1 d p (w := ([114, 116, 114, 105, 109])) (bl := false) (br := true) hx' rfl rfl) <| fc 3 (law_trimmed_run (d + 4) p (S := ([32])) (bl := false) (br := true) (by decide) hx') <| fb 0 (nes_T (trimW false true [32] x)) <| f0) (by kernel_rfl)
omit hz hS
theorem places_len : (places x y).length ≤ 1000 := Nat.le_trans (List.length_filter_le ..) (by rw [List.length_range']; exact Nat.le_trans (Nat.sub_le ..) (le_k (Nat.succ_le_succ hx) rfl))
include hz hS
/-- the first place -/
theorem parts2 : fin (xSs (orc (d + 5)) NQ (rst 2 k_law_parts_right) [.pool, T x, T y, T z, T S, .unb, .unb, .unb, .unb] p) = some (.bool true, p) := by
  obtain ⟨ρ, e⟩ := fin_ex (x := (_, p)) (parts3 d p hx hy hz hS (L := (places x y).map fun k : Nat => .int k))
  have pl := places_run (d + 4) p (le_k (b := 100) hx rfl) (le_k (b := 100) hy rfl)
  have li := lc_instr (d + 1) p y (le_k (b := 1000) hx rfl)
  have hp := places_len hx hy
  rcases instr_meet x y with ⟨e1, e2⟩ | ⟨i, r, e1, e2⟩ <;> rw [e1] at e pl hp <;> rw [e2] at li
  · exact walkZ (fc 3 pl <| fc 3 li <| fx 3 e <| f0) (by kernel_rfl)
  · exact walkZ (fc 3 pl <| fc 3 li <| fv 3 (x_L p (xs := (i :: r).map fun k : Nat => .int k) (k := 0) (v := .int i) (by rw [List.length_map]; exact hp) rfl) <| fb 1 (nes_i (↑i + 1)) <| fx 0 e <| f0) (by kernel_rfl)
end
theorem cut_T (d : Nat) (p : Pl) {x : List Nat} (hx : x.length ≤ 20) {s m : Nat} (hs : s < 19) (hm : m < 19) : ∃ y : List Nat, orc (d + 1) 46 [T x, .int (s - 9), .int (m - 9)] p = some (T y, p) ∧ y.length ≤ 20 := by
  have h : Sl (T x) x.length fun i j => T (sl x i j) := ⟨.inl ⟨x, rfl, rfl, rfl⟩, hx⟩
  have e := sub3_law h hs hm d p
  have hl : ∀ i j, (sl x i j).length ≤ 20 := fun i j => Nat.le_trans (List.drop_suffix ..).length_le (Nat.le_trans (List.length_take_le' ..) hx)
  unfold sub3 lawS at e
  split at e
  · exact ⟨_, e, hl ..⟩
  · exact ⟨_, e, hl ..⟩
theorem parts_right (d : Nat) (p : Pl) {x : List Nat} (hx : x.length ≤ 20) : ∃ p', orc (d + 6) 51 [.pool, T x] p = some (.bool true, p') := by
  obtain ⟨i, p1, f1, hi⟩ := take_nat (d + 4) p (n := 4) (by decide) (by decide)
  have part : ∃ y p2, y.length ≤ 20 ∧ ∀ x', xSs (orc (d + 5)) NQ (rst 1 k_law_parts_right) [.pool, T x, T y, .unb, .unb, .unb, .unb, .unb, .unb] p2 = some x' → xSs (orc (d + 5)) NQ k_law_parts_right [.pool, T x, .unb, .unb, .unb, .unb, .unb, .unb, .unb] p = some x' := by
    cases hb : decide ((i : Int) > 0) with
    | true =>
      obtain ⟨j, p2, f2, hj⟩ := take_nat (d + 4) p1 (n := 7) (by decide) (by decide)
      obtain ⟨k, p3, f3, hk⟩ := take_nat (d + 4) p2 (n := 2) (by decide) (by decide)
      obtain ⟨y, e, hy⟩ := cut_T (d + 4) p3 hx (s := j + 10) (m := k + 10) (Nat.lt_of_lt_of_le (Nat.add_lt_add_right hj 10) (by decide)) (Nat.lt_of_lt_of_le (Nat.add_lt_add_right hk 10) (by decide))
      rw [show ((j + 10 : Nat) : Int) - 9 = 1 + j by omega, show ((k + 10 : Nat) : Int) - 9 = 1 + k by omega] at e
      refine ⟨y, p3, hy, fun x' g => ?_⟩
      exact walkY (fc 2 f1 <| fb 0 (c_gt hb) <| fc 2 f2 <| fc 2 f3 <| fc 1 e <| fx 0 g <| f0) (by kernel_rfl)
    | false =>
      obtain ⟨l, p2, f2, l1, _⟩ := drawn_run (d + 2) p1 2 (by decide)
      refine ⟨l, p2, le_k l1 rfl, fun x' g => ?_⟩
      exact walkY (fc 2 f1 <| fb 0 (c_gt hb) <| fc 1 f2 <| fx 0 g <| f0) (by kernel_rfl)
  obtain ⟨y, p2, hy, part⟩ := part
  obtain ⟨z, p3, f3, hz, _⟩ := drawn_run (d + 2) p2 3 (by decide)
  obtain ⟨S, p4, f4, hS, _⟩ := drawn_run (d + 2) p3 3 (by decide)
  obtain ⟨ρ, e⟩ := fin_ex (x := (_, p4)) (parts2 d p4 hx hy (le_k hz rfl) (le_k hS rfl))
  refine ⟨p4, ?_⟩
  have g := part (some (.bool true), ρ, p4) (by exact walkY (fc 2 f3 <| fc 1 f4 <| fx 1 e <| f0) (by kernel_rfl))
  exact walkC (fx 0 g <| f0) (by kernel_rfl)
/-! for loops, turn by turn -/
theorem fl_c {f : PV → List PV → Pl → XR} {x : PV} {xs ρ ρ' : List PV} {p p' : Pl} {r : XR} (h : f x ρ p = some (none, ρ', p')) (hr : forLoop f xs ρ' p' = r) : forLoop f (x :: xs) ρ p = r := by
  show @seqX (f x ρ p) ⟨fun ρ p => forLoop f xs ρ p⟩ = _
  rw [h]; exact hr
theorem forO_e {call : Orc} {N : Md} {i : Nat} {b : Ss} {xs ρ : List PV} {p : Pl} {r : XR} (hl : xs.length ≤ 1000) (h : forLoop (fun x ρ p => xSs call N b (ρ.set i x) p) xs ρ p = r) : forO call N i b xs ρ p = r := (if_pos (lim_le hl)).trans h
/-- the signs that come -/
noncomputable def OkC (c : Nat) : Prop := (0 < c ∧ c < 128) ∨ c = 233 ∨ c = 20013
noncomputable def U : List Nat → List UInt8
  | [] => []
  | c :: l => Str.utf8Of c ++ U l
theorem utf8_1 {c : Nat} (h : c < 128) : Str.utf8Of c = [UInt8.ofNat c] := if_pos h
theorem utf8_len {c : Nat} (h : OkC c) : (Str.utf8Of c).length ≤ 3 := by
  rcases h with h | rfl | rfl
  · rw [utf8_1 h.2]; exact Nat.le_of_ble_eq_true rfl
  · decide
  · decide
theorem U_len : ∀ {l : List Nat}, (∀ c ∈ l, OkC c) → (U l).length ≤ l.length * 3
  | [], _ => Nat.le_refl 0
  | c :: l, h => by
    show (Str.utf8Of c ++ U l).length ≤ (l.length + 1) * 3
    rw [List.length_append, Nat.succ_mul, Nat.add_comm]
    exact Nat.add_le_add (U_len fun x m => h x (List.mem_cons_of_mem _ m)) (utf8_len (h c List.mem_cons_self))
theorem fold_U : ∀ (l : List Nat) (acc : List UInt8), l.foldl (fun acc y => acc ++ (Str.utf8Of y).toArray) acc.toArray = (acc ++ U l).toArray
  | [], acc => congrArg List.toArray (List.append_nil acc).symm
  | c :: l, acc => by
    show l.foldl _ (acc.toArray ++ (Str.utf8Of c).toArray) = (acc ++ (Str.utf8Of c ++ U l)).toArray
    rw [List.append_toArray, fold_U l, List.append_assoc]
theorem no_surr {c : Nat} (h : OkC c) : (!Str.isSurrogate c) = true := by
  rcases h with ⟨_, h⟩ | rfl | rfl
  · unfold Str.isSurrogate
    rw [decide_eq_false (show ¬ 55296 ≤ c by omega)]; rfl
  · decide
  · decide
theorem enc_T (call : Orc) (p : Pl) {l : List Nat} (hl : l.length ≤ 1000) (h : ∀ c ∈ l, OkC c) : methX call .encode (T l) [(T [117, 116, 102, 45, 56])] p = some (.bytes (U l).toArray, p) :=
  meth_x call (fun q => by cases q) p ((if_pos ⟨rfl, lim_le hl, (List.all_toArray ..).trans (List.all_eq_true.mpr fun c m => no_surr (h c m))⟩).trans (congrArg (fun x => some (PV.bytes x)) ((List.foldl_toArray ..).trans (fold_U l []))))
theorem ap_b {ρ : List PV} {i : Nat} (p : Pl) (L M : List UInt8) (k : Int) (h : (L ++ M).length ≤ 1000) (h0 : 0 ≤ k ∧ k < 256) : appOp ρ i (.ownb (L ++ M).toArray) (.int k) p = some (none, ρ.set i (.ownb (L ++ (M ++ [UInt8.ofNat k.toNat])).toArray), p) := by
  refine (ap_ownb ρ i _ k p h h0).trans ?_
  rw [List.push_toArray, List.append_assoc]
theorem utf8_turn (call : Orc) {x : List Nat} {L : List UInt8} {z : PV} {c : Nat} {p : Pl} (hL : L.length ≤ 900) (hc : OkC c) :
    xSs call NN k_utf8_f0 [T x, .ownb (L ++ []).toArray, T [c], z] p = some (none, [T x, .ownb (L ++ Str.utf8Of c).toArray, T [c], .int (c : Int)], p) := by
  have h3 : ∀ M : List UInt8, M.length ≤ 3 → (L ++ M).length ≤ 1000 := fun M h => by rw [List.length_append]; exact Nat.le_trans (Nat.add_le_add hL h) (Nat.le_of_ble_eq_true rfl)
  have h0 := h3 [] (by decide)
  rcases hc with ⟨_, h1⟩ | rfl | rfl
  · have c1 : decide ((c : Int) < 128) = true := decide_eq_true (Int.ofNat_lt.mpr h1)
    rw [utf8_1 h1]
    have a := fun ρ => @ap_b ρ 1 p L [] (c : Int) h0 ⟨Int.natCast_nonneg c, Int.ofNat_lt.mpr (Nat.lt_trans h1 (by decide))⟩
    exact walkX (fb 5 (c_lt c1) <| fx 2 (a ([T x, PV.ownb (L ++ []).toArray, T [c], PV.int ↑c])) <| f0) (by kernel_rfl)
  · have a := fun ρ => @ap_b ρ 1 p L [] 195 h0 (by decide)
    have a2 := fun ρ => @ap_b ρ 1 p L [195] 169 (h3 _ (by decide)) (by decide)
    exact walkX (fx 13 (a ([T x, PV.ownb (L ++ []).toArray, T [233], PV.int ↑233])) <| fx 4 (a2 ([T x, PV.ownb (L ++ ([] ++ [UInt8.ofNat (Int.toNat 195)])).toArray, T [233], PV.int ↑233])) <| f0) (by kernel_rfl)
  · have a := fun ρ => @ap_b ρ 1 p L [] 228 h0 (by decide)
    have a2 := fun ρ => @ap_b ρ 1 p L [228] 184 (h3 _ (by decide)) (by decide)
    have a3 := fun ρ => @ap_b ρ 1 p L [228, 184] 173 (h3 _ (by decide)) (by decide)
    exact walkX (fx 16 (a ([T x, PV.ownb (L ++ []).toArray, T [20013], PV.int ↑20013])) <| fx 5 (a2 ([T x, PV.ownb (L ++ ([] ++ [UInt8.ofNat (Int.toNat 228)])).toArray, T [20013], PV.int ↑20013])) <| fx 4 (a3 ([T x, PV.ownb (L ++ ([228] ++ [UInt8.ofNat (Int.toNat 184)])).toArray, T [20013], PV.int ↑20013])) <| f0) (by kernel_rfl)
theorem utf8_loop (call : Orc) (p : Pl) (x : List Nat) : ∀ (l : List Nat) (L : List UInt8) (z y : PV), L.length + l.length * 3 ≤ 900 → (∀ c ∈ l, OkC c) →
    ∃ z' y', forLoop (fun v ρ p => xSs call NN k_utf8_f0 (ρ.set 2 v) p) (l.map fun c => T [c]) [T x, .ownb (L ++ []).toArray, z, y] p = some (none, [T x, .ownb (L ++ U l).toArray, z', y'], p)
  | [], L, z, y, _, _ => ⟨z, y, rfl⟩
  | c :: l, L, z, y, h, hc => by
    have h' := Nat.succ_mul l.length 3 ▸ (h : L.length + (l.length + 1) * 3 ≤ 900)
    have h1 := hc c List.mem_cons_self
    obtain ⟨z', y', e⟩ := utf8_loop call p x l (L ++ Str.utf8Of c) (T [c]) (.int (c : Int)) (by rw [List.length_append]; have := utf8_len h1; omega) fun x m => hc x (List.mem_cons_of_mem _ m)
    rw [List.append_nil, List.append_assoc] at e
    refine ⟨z', y', fl_c (utf8_turn call (Nat.le_trans (Nat.le_add_right ..) h) h1) ?_⟩
    exact e
theorem utf8_run (d : Nat) (p : Pl) {x : List Nat} (hl : x.length ≤ 100) (h : ∀ c ∈ x, OkC c) : orc (d + 1) 2 [T x] p = some (.bytes (U x).toArray, p) := by
  obtain ⟨z, y, e⟩ := utf8_loop (orc d) p x x [] .unb .unb (by show 0 + x.length * 3 ≤ 900; omega) h
  have e := forO_e (by rw [List.length_map]; exact le_k hl rfl) e
  have hb : bltOp .bytes [.barr (U x).toArray] = some (.bytes (U x).toArray) := if_pos (lim_le (Nat.le_trans (U_len h) (Nat.le_trans (Nat.mul_le_mul_right 3 hl) (Nat.le_of_ble_eq_true rfl))))
  exact walkC (fx 4 e <| fv 2 hb <| f0) (by kernel_rfl)
/-! hex -/
noncomputable def digs : List Nat := [48, 49, 50, 51, 52, 53, 54, 55, 56, 57, 65, 66, 67, 68, 69, 70]
noncomputable def hx (n : Nat) : Nat := digs.getD n 0
theorem dig_at {n : Nat} (h : n < 16) (p : Pl) : idxOp (T digs) (.int (n : Int)) p = some (T [hx n]) :=
  x_T p (by decide) (by unfold hx; rw [List.getD_eq_getElem?_getD, List.getElem?_eq_getElem (show n < digs.length from h)]; rfl)
noncomputable def hexL : List UInt8 → List Nat
  | [] => []
  | o :: l => hx (o.toNat / 16) :: hx (o.toNat % 16) :: hexL l
theorem hexL_len : ∀ l, (hexL l).length = l.length * 2
  | [] => rfl
  | o :: l => (congrArg (· + 2) (hexL_len l)).trans (Nat.succ_mul ..).symm
theorem u8 (o : UInt8) : o.toNat < 256 := o.toBitVec.isLt
theorem hi_lt (o : UInt8) : o.toNat / 16 < 16 := Nat.div_lt_of_lt_mul (u8 o)
theorem lo_lt (o : UInt8) : o.toNat % 16 < 16 := Nat.mod_lt _ (by decide)
theorem nib_hi (o : UInt8) : binOp .RShift (.int (o.toNat : Int)) (.int 4) = some (.int ((o.toNat / 16 : Nat) : Int)) :=
  congrArg (fun x => some (PV.int x)) (Int.fdiv_eq_ediv_of_nonneg (o.toNat : Int) (show (0 : Int) ≤ 2 ^ 4 by decide))
theorem nib_lo (o : UInt8) : binOp .BitAnd (.int (o.toNat : Int)) (.int 15) = some (.int ((o.toNat % 16 : Nat) : Int)) := by
  show some (PV.int (Builtin.bitAnd _ _)) = _
  rw [bitAnd_m4]; rfl
theorem nib_hi2 (o : UInt8) : binOp .FloorDiv (.int (o.toNat : Int)) (.int 16) = some (.int ((o.toNat / 16 : Nat) : Int)) :=
  (b_div (by decide) (by decide)).trans (congrArg (fun x => some (PV.int x)) (Int.fdiv_eq_ediv_of_nonneg (o.toNat : Int) (show (0 : Int) ≤ 16 by decide)))
theorem nib_lo2 (o : UInt8) : binOp .Mod (.int (o.toNat : Int)) (.int 16) = some (.int ((o.toNat % 16 : Nat) : Int)) :=
  (b_mod (by decide)).trans (congrArg (fun x => some (PV.int x)) (Int.fmod_eq_emod_of_nonneg (o.toNat : Int) (show (0 : Int) ≤ 16 by decide)))
theorem hex_turn (call : Orc) {b : Array UInt8} {xs : List PV} {o : UInt8} {p : Pl} (hl : xs.length ≤ 900) :
    xSs call NN k_hex_text_f0 [.bytes b, .own xs, .int (o.toNat : Int)] p = some (none, [.bytes b, .own ((xs ++ [T [hx (o.toNat / 16)]]) ++ [T [hx (o.toNat % 16)]]), .int (o.toNat : Int)], p) := by
  have a := fun ρ v => @ap_own ρ 1 xs v p (le_k hl rfl)
  have a2 := fun ρ u v => @ap_own ρ 1 (xs ++ [u]) v p (by rw [List.length_append]; exact Nat.le_trans (Nat.add_le_add_right hl 1) (Nat.le_of_ble_eq_true rfl))
  exact walkX (fv 2 (nib_hi o) <| fv 0 (dig_at (hi_lt o) p) <| fx 0 (a ([PV.bytes b, PV.own xs, PV.int ↑o.toNat]) (PV.str { cps := #[hx (o.toNat / 16)] })) <| fv 2 (nib_lo o) <| fv 0 (dig_at (lo_lt o) p) <| fx 0 (a2 ([PV.bytes b, PV.own (xs ++ [T [hx (o.toNat / 16)]]), PV.int ↑o.toNat]) (PV.str { cps := #[hx (o.toNat / 16)] }) (PV.str { cps := #[hx (o.toNat % 16)] })) <| f0) (by kernel_rfl)
theorem hex_loop (call : Orc) (p : Pl) (b : Array UInt8) : ∀ (l : List UInt8) (xs : List PV) (z : PV), xs.length + l.length * 2 ≤ 900 →
    ∃ z', forLoop (fun v ρ p => xSs call NN k_hex_text_f0 (ρ.set 2 v) p) (l.map fun o => .int (o.toNat : Int)) [.bytes b, .own xs, z] p = some (none, [.bytes b, .own (xs ++ (hexL l).map fun c => T [c]), z'], p)
  | [], xs, z, _ => ⟨z, by rw [show xs ++ (hexL []).map (fun c => T [c]) = xs from List.append_nil xs]; rfl⟩
  | o :: l, xs, z, h => by
    have h' := Nat.succ_mul l.length 2 ▸ (h : xs.length + (l.length + 1) * 2 ≤ 900)
    obtain ⟨z', e⟩ := hex_loop call p b l ((xs ++ [T [hx (o.toNat / 16)]]) ++ [T [hx (o.toNat % 16)]]) (.int (o.toNat : Int)) (by rw [List.length_append, List.length_append]; show xs.length + 1 + 1 + l.length * 2 ≤ 900; omega)
    rw [List.append_assoc, List.append_assoc] at e
    exact ⟨z', fl_c (hex_turn call (Nat.le_trans (Nat.le_add_right ..) h)) ((List.append_assoc xs [T [hx (o.toNat / 16)]] [T [hx (o.toNat % 16)]]).symm ▸ e)⟩
theorem hex_run (d : Nat) (p : Pl) {b : Array UInt8} (hb : b.size ≤ 300) : orc (d + 1) 7 [.bytes b] p = some (T (hexL b.toList), p) := by
  have hb' : b.toList.length ≤ 300 := hb
  obtain ⟨z, e⟩ := hex_loop (orc d) p b b.toList [] .unb (by show 0 + b.toList.length * 2 ≤ 900; omega)
  have e := forO_e (by rw [List.length_map]; exact le_k hb' rfl) e
  exact walkC (fx 4 e <| fc 2 (j_chars (orc d) p (l := hexL b.toList) (by rw [hexL_len]; omega)) <| f0) (by kernel_rfl)
theorem hexcomp_run (call : Orc) (p : Pl) {b : List UInt8} (hb : b.length ≤ 1000) : compO call k_law_signs_right_c0 k_law_signs_right_c0k [T digs] (b.map fun o => PV.int (o.toNat : Int)) p = some ((b.map fun o => [hx (o.toNat / 16), hx (o.toNat % 16)]).map T, p) := by
  rw [List.map_map]
  exact compO_map (fun o : UInt8 => PV.int (o.toNat : Int)) (fun o => T [hx (o.toNat / 16), hx (o.toNat % 16)]) p b hb fun o _ => by
    exact walkT (fv 2 (nib_hi2 o) <| fv 0 (dig_at (hi_lt o) p) <| fv 2 (nib_lo2 o) <| fv 0 (dig_at (lo_lt o) p) <| fv 0 (b_cat (a := [hx (o.toNat / 16)]) (b := [hx (o.toNat % 16)]) (Nat.le_of_ble_eq_true rfl)) <| f0) (by kernel_rfl)
theorem hexP_flat : ∀ l : List UInt8, (l.map fun o => [hx (o.toNat / 16), hx (o.toNat % 16)]).flatten = hexL l
  | [] => rfl
  | o :: l => congrArg (fun x => hx (o.toNat / 16) :: hx (o.toNat % 16) :: x) (hexP_flat l)
theorem hexP_sum : ∀ l : List UInt8, ((l.map fun o => [hx (o.toNat / 16), hx (o.toNat % 16)]).map (·.length)).sum = l.length * 2
  | [] => rfl
  | o :: l => (congrArg (2 + ·) (hexP_sum l)).trans ((Nat.add_comm ..).trans (Nat.succ_mul ..).symm)
theorem join_hex (call : Orc) (p : Pl) {l : List UInt8} (h : l.length ≤ 300) : methX call .join (.str ⟨#[]⟩) [.list ((l.map fun o => [hx (o.toNat / 16), hx (o.toNat % 16)]).map T)] p = some (T (hexL l), p) :=
  meth_x call (fun q => by cases q) p (hexP_flat l ▸ m_join0 (by rw [hexP_sum]; omega))
/-! letters turned -/
theorem c_leC {a b : Nat} {r : Bool} (h : decide (a ≤ b) = r) : cmpOp .LtE (T [a]) (T [b]) = some r := by
  refine congrArg some (Eq.trans ?_ h)
  show (!decide ([b] < [a])) = decide (a ≤ b)
  rw [← decide_not]
  exact decide_eq_decide.mpr ⟨fun q => Nat.not_lt.mp fun k => q (List.Lex.rel k), fun q k => by
    cases k with
    | rel k => exact Nat.not_lt.mpr q k
    | cons k => cases k⟩
noncomputable def pickN (b1 b2 : Bool) (v c : Nat) : Nat := match b1 with
  | true => match b2 with
    | true => v
    | false => c
  | false => c
noncomputable def turnF (a : Nat) (m : Int) (c : Nat) : Nat := pickN (decide (a ≤ c)) (decide (c ≤ a + 25)) ((c : Int) + m).toNat c
theorem map_T (f : Nat → Nat) (x : List Nat) : (x.map fun c => T [f c]) = (x.map f).map fun c => T [c] := by rw [List.map_map]; rfl
theorem chr_ok {c a : Nat} {m : Int} (h1 : decide (a ≤ c) = true) (h2 : decide (c ≤ a + 25) = true) (h3 : 0 ≤ (a : Int) + m) (h4 : (a : Int) + m ≤ 1000) : 0 ≤ (c : Int) + m ∧ (c : Int) + m ≤ 1114111 := by
  have := of_decide_eq_true h1
  have := of_decide_eq_true h2
  omega
section
variable (call : Orc) (p : Pl) (c : Nat)
theorem low_turn : turnC call k_lowered_c0 k_lowered_c0k [] (T [c]) p = some (some (T [turnF 65 32 c]), p) := by
  unfold turnF
  cases h1 : decide (65 ≤ c) with
  | true =>
    cases h2 : decide (c ≤ 65 + 25) with
    | true => exact walkT (fb 1 (c_leC h1) <| fb 0 (c_leC (b := 90) h2) <| fv 3 (l_chr (i := (c : Int) + 32) (chr_ok h1 h2 (by decide) (by decide))) <| f0) (by kernel_rfl)
    | false => exact walkT (fb 1 (c_leC h1) <| fb 0 (c_leC (b := 90) h2) <| f0) (by kernel_rfl)
  | false => exact walkT (fb 1 (c_leC h1) <| f0) (by kernel_rfl)
theorem rai_turn : turnC call k_raised_c0 k_raised_c0k [] (T [c]) p = some (some (T [turnF 97 (-32) c]), p) := by
  unfold turnF
  cases h1 : decide (97 ≤ c) with
  | true =>
    cases h2 : decide (c ≤ 97 + 25) with
    | true => exact walkT (fb 1 (c_leC h1) <| fb 0 (c_leC (b := 122) h2) <| fv 3 (l_chr (i := (c : Int) + (-32)) (chr_ok h1 h2 (by decide) (by decide))) <| f0) (by kernel_rfl)
    | false => exact walkT (fb 1 (c_leC h1) <| fb 0 (c_leC (b := 122) h2) <| f0) (by kernel_rfl)
  | false => exact walkT (fb 1 (c_leC h1) <| f0) (by kernel_rfl)
theorem law_turn {a : Nat} {m : Int} (h3 : 0 ≤ (a : Int) + m) (h4 : (a : Int) + m ≤ 1000) : turnC call k_law_turned_c0 k_law_turned_c0k [.int a, .int m] (T [c]) p = some (some (T [turnF a m c]), p) := by
  unfold turnF
  have e1 : decide ((a : Int) ≤ (c : Int)) = decide (a ≤ c) := decide_eq_decide.mpr Int.ofNat_le
  have e2 : decide ((c : Int) < (a : Int) + 26) = decide (c ≤ a + 25) := decide_eq_decide.mpr (by omega)
  cases h1 : decide (a ≤ c) with
  | true =>
    cases h2 : decide (c ≤ a + 25) with
    | true => exact walkT (fb 3 (c_le (e1.trans h1)) <| fb 2 (c_lt (e2.trans h2)) <| fv 4 (l_chr (chr_ok h1 h2 h3 h4)) <| f0) (by kernel_rfl)
    | false => exact walkT (fb 3 (c_le (e1.trans h1)) <| fb 2 (c_lt (e2.trans h2)) <| f0) (by kernel_rfl)
  | false => exact walkT (fb 3 (c_le (e1.trans h1)) <| f0) (by kernel_rfl)
end
theorem comp_T {call : Orc} {elt : E} {conds : Es} {cs : List PV} (p : Pl) (f : Nat → Nat) {x : List Nat} (hl : x.length ≤ 1000) (h : ∀ c, turnC call elt conds cs (T [c]) p = some (some (T [f c]), p)) : compO call elt conds cs (x.map fun c => T [c]) p = some ((x.map f).map fun c => T [c], p) :=
  map_T f x ▸ compO_map (fun c => T [c]) (fun c => T [f c]) p x hl fun c _ => h c
section
variable (d : Nat) (p : Pl) {x : List Nat} (hl : x.length ≤ 1000)
include hl
theorem lowered_run : orc (d + 1) 25 [T x] p = some (T (x.map (turnF 65 32)), p) := by
  exact walkC (fp 4 (comp_T p _ hl (low_turn (orc d) p)) <| fc 0 (j_chars (orc d) p (l := x.map (turnF 65 32)) (by rw [List.length_map]; exact hl)) <| f0) (by kernel_rfl)
theorem raised_run : orc (d + 1) 26 [T x] p = some (T (x.map (turnF 97 (-32))), p) := by
  exact walkC (fp 4 (comp_T p _ hl (rai_turn (orc d) p)) <| fc 0 (j_chars (orc d) p (l := x.map (turnF 97 (-32))) (by rw [List.length_map]; exact hl)) <| f0) (by kernel_rfl)
theorem turned_run {a : Nat} {m : Int} (h3 : 0 ≤ (a : Int) + m) (h4 : (a : Int) + m ≤ 1000) : orc (d + 1) 53 [T x, .int a, .int m] p = some (T (x.map (turnF a m)), p) := by
  exact walkC (fp 4 (comp_T p _ hl fun c => law_turn (orc d) p c h3 h4) <| fc 2 (j_chars (orc d) p (l := x.map (turnF a m)) (by rw [List.length_map]; exact hl)) <| f0) (by kernel_rfl)
end
/-! char -/
theorem signs_turn (d : Nat) {xs ys : List PV} {z : PV} {c : Nat} {p : Pl} (hl : xs.length ≤ 1000) (h : 0 < c ∧ c < 60000) :
    xSs (orc (d + 1)) NN k_signs_of_f0 [.list ys, .own xs, .int (c : Int), z] p = some (none, [.list ys, .own (xs ++ [T [c]]), .int (c : Int), .int (c : Int)], p) := by
  have e1 : decide ((0 : Int) < (c : Int)) = true := decide_eq_true (Int.natCast_pos.mpr h.1)
  have e2 : decide ((c : Int) ≤ 1114111) = true := decide_eq_true (Int.ofNat_le.mpr (Nat.le_of_lt (Nat.lt_trans h.2 (by decide))))
  have a := fun ρ => @ap_own ρ 1 xs (T [c]) p hl
  exact walkY (fb 14 (c_lt e1) <| fb 0 (c_le e2) <| fv 1 (l_chr (i := (c : Int)) ⟨Int.natCast_nonneg c, of_decide_eq_true e2⟩) <| fx 0 (a ([PV.list ys, PV.own xs, PV.int ↑c, PV.int ↑c])) <| f0) (by kernel_rfl)
theorem signs_loop (d : Nat) (p : Pl) (ys : List PV) : ∀ (l : List Nat) (xs : List PV) (z y : PV), xs.length + l.length ≤ 1000 → (∀ c ∈ l, 0 < c ∧ c < 60000) →
    ∃ z' y', forLoop (fun v ρ p => xSs (orc (d + 1)) NN k_signs_of_f0 (ρ.set 2 v) p) (l.map fun c : Nat => PV.int c) [.list ys, .own xs, z, y] p = some (none, [.list ys, .own (xs ++ l.map fun c => T [c]), z', y'], p)
  | [], xs, z, y, _, _ => ⟨z, y, by rw [show xs ++ ([] : List Nat).map (fun c => T [c]) = xs from List.append_nil xs]; rfl⟩
  | c :: l, xs, z, y, h, hc => by
    obtain ⟨z', y', e⟩ := signs_loop d p ys l (xs ++ [T [c]]) (.int (c : Int)) (.int (c : Int)) (by rw [List.length_append]; have h : xs.length + (l.length + 1) ≤ 1000 := h; show xs.length + 1 + l.length ≤ 1000; omega) fun x m => hc x (List.mem_cons_of_mem _ m)
    rw [List.append_assoc] at e
    exact ⟨z', y', fl_c (signs_turn d (Nat.le_trans (Nat.le_add_right ..) h) (hc c List.mem_cons_self)) e⟩
theorem signs_run (d : Nat) (p : Pl) {x : List Nat} (hl : x.length ≤ 1000) (h : ∀ c ∈ x, 0 < c ∧ c < 60000) : orc (d + 2) 33 [.list (x.map fun c : Nat => PV.int c)] p = some (T x, p) := by
  obtain ⟨z, y, e⟩ := signs_loop d p (x.map fun c : Nat => PV.int c) x [] .unb .unb (by rw [List.length_nil, Nat.zero_add]; exact hl) h
  have e := forO_e (by rw [List.length_map]; exact hl) e
  exact walkC (fx 4 e <| fc 2 (j_chars (orc (d + 1)) p hl) <| f0) (by kernel_rfl)
/-! quote -/
noncomputable def quoteL (x : List Nat) : List Nat := [39] ++ StrLaws.dbl 39 x ++ [39]
theorem dbl_len : ∀ x : List Nat, (StrLaws.dbl 39 x).length ≤ x.length * 2
  | [] => Nat.le_refl 0
  | c :: x => by
    have ih := dbl_len x
    rw [List.length_cons, Nat.succ_mul]
    unfold StrLaws.dbl
    split
    · exact Nat.succ_le_succ (Nat.succ_le_succ ih)
    · exact Nat.succ_le_succ (Nat.le_succ_of_le ih)
theorem repl_q {x : List Nat} (hx : x.length ≤ 1000) : replOp (T x) ⟨#[39]⟩ ⟨#[39, 39]⟩ = some (T (StrLaws.dbl 39 x)) := by
  refine (if_pos ⟨hx, by decide, by decide⟩).trans (congrArg (fun x => some (PV.str x)) (Str.ext' (Array.toList_inj.mp ?_)))
  rw [StrLaws.replace_double ⟨x.toArray⟩ 39]
noncomputable def dq (c : Nat) : List Nat := match c == 39 with
  | true => [c, c]
  | false => [c]
theorem dbl_flat : ∀ x : List Nat, (x.map dq).flatten = StrLaws.dbl 39 x ∧ ((x.map dq).map (·.length)).sum ≤ x.length * 2
  | [] => ⟨rfl, Nat.le_refl 0⟩
  | c :: x => by
    obtain ⟨h1, h2⟩ := dbl_flat x
    have e : StrLaws.dbl 39 (c :: x) = if c = 39 then c :: c :: StrLaws.dbl 39 x else c :: StrLaws.dbl 39 x := rfl
    rw [e, List.map_cons, List.flatten_cons, h1, List.map_cons, List.sum_cons, List.length_cons, Nat.succ_mul, Nat.add_comm]
    unfold dq
    cases h : c == 39 with
    | true => exact ⟨Eq.trans rfl (if_pos (eq_of_beq h)).symm, Nat.add_le_add h2 (Nat.le_refl 2)⟩
    | false => exact ⟨Eq.trans rfl (if_neg (ne_of_beq_false h)).symm, Nat.add_le_add h2 (Nat.le_succ 1)⟩
theorem quotecomp_run (call : Orc) (p : Pl) {x : List Nat} (hx : x.length ≤ 1000) : compO call k_law_signs_right_c2 k_law_signs_right_c2k [] (x.map fun c => T [c]) p = some ((x.map dq).map T, p) := by
  rw [List.map_map]
  refine compO_map (fun c => T [c]) (fun c => T (dq c)) p x hx fun c _ => ?_
  unfold dq
  have e : ([c] == [39]) = (c == 39) := Bool.and_true _
  cases h : c == 39 with
  | true => exact walkT (fb 1 (c_eqT (e.trans h)) <| fv 2 (b_cat (a := [c]) (b := [c]) (Nat.le_of_ble_eq_true rfl)) <| f0) (by kernel_rfl)
  | false => exact walkT (fb 1 (c_eqT (e.trans h)) <| f0) (by kernel_rfl)
theorem ordcomp_run (call : Orc) (p : Pl) {x : List Nat} (hx : x.length ≤ 1000) : compO call k_law_signs_right_c1 k_law_signs_right_c1k [] (x.map fun c => T [c]) p = some (x.map fun c : Nat => PV.int c, p) :=
  compO_map (fun c => T [c]) (fun c : Nat => PV.int c) p x hx fun c _ => by exact walkT (f0) (by kernel_rfl)
noncomputable def uni : List Nat → PV
  | [] => .none
  | c :: _ => .int (c : Int)
theorem q_le {a b n : Nat} (h : b ≤ a * 2) (ha : a ≤ 100) (hn : n ≤ 500) : n + b ≤ 1000 := Nat.le_trans (Nat.add_le_add hn (Nat.le_trans h (Nat.mul_le_mul_right 2 ha))) (Nat.le_of_ble_eq_true rfl)
section
variable (d : Nat) (p : Pl) {x : List Nat} (hx : x.length ≤ 100)
include hx
/-- from the quote on -/
theorem signs_C {D : List Nat} : fin (xSs (orc (d + 7)) NQ (rst 10 k_law_signs_right) [T x, T x, T digs, T D, .unb] p) = some (.bool true, p) := by
  have hx' := le_k (b := 1000) hx rfl
  obtain ⟨f1, f2⟩ := dbl_flat x
  have j := m_join0 (l := x.map dq) (Nat.le_trans f2 (Nat.le_trans (Nat.mul_le_mul_right 2 hx) (Nat.le_of_ble_eq_true rfl)))
  rw [f1] at j
  have c2 : ([39] ++ StrLaws.dbl 39 x).length + 1 ≤ 1000 := q_le (n := 2) (dbl_len x) hx (by decide) |> fun h => by rw [List.length_append]; show 1 + _ + 1 ≤ _; omega
  exact walkZ (fp 7 (quotecomp_run (orc (d + 7)) p hx') <| fc 0 (meth_x (orc (d + 7)) (mi := .join) (fun q => by cases q) p j) <| fv 0 (b_cat (a := [39]) (b := StrLaws.dbl 39 x) (q_le (dbl_len x) hx (Nat.le_of_ble_eq_true rfl))) <| fv 0 (b_cat (a := [39] ++ StrLaws.dbl 39 x) (b := [39]) c2) <| fv 62 (repl_q hx') <| fv 0 (b_cat (a := [39]) (b := StrLaws.dbl 39 x) (q_le (dbl_len x) hx (Nat.le_of_ble_eq_true rfl))) <| fv 0 (b_cat (a := [39] ++ StrLaws.dbl 39 x) (b := [39]) c2) <| fb 7 (eqs_T (39 :: ([].append (StrLaws.dbl 39 x)).append [39])) <| f0) (by kernel_rfl)
/-- from the first sign's number on -/
theorem signs_B (hc : ∀ c ∈ x, 0 < c ∧ c < 60000) {D : List Nat} : fin (xSs (orc (d + 7)) NQ (rst 8 k_law_signs_right) [T x, T x, T digs, T D, .unb] p) = some (.bool true, p) := by
  obtain ⟨ρ, e⟩ := fin_ex (x := (_, p)) (signs_C d p hx (D := D))
  have hx' := le_k (b := 1000) hx rfl
  have f1 := signs_run (d + 2) p hx' hc
  have f2 := ordcomp_run (orc (d + 7)) p hx'
  cases x with
  | nil => exact walkZ (fp 112 f2 <| fc 37 f1 <| fx 8 e <| f0) (by kernel_rfl)
  | cons c t => exact walkZ (fv 106 (x_T p (k := 0) hx' rfl) <| fv 4 (x_T p (k := 0) hx' rfl) <| fb 1 (nes_i (↑c)) <| fp 4 f2 <| fc 37 f1 <| fb 7 (nes_T (c :: t)) <| fx 0 e <| f0) (by kernel_rfl)
end
theorem OkC.lt {c : Nat} (h : OkC c) : 0 < c ∧ c < 60000 := by
  rcases h with h | rfl | rfl
  · exact ⟨h.1, Nat.lt_trans h.2 (by decide)⟩
  · decide
  · decide
theorem signs_right_T (d : Nat) (p : Pl) {x : List Nat} (hx : x.length ≤ 100) (hc : ∀ c ∈ x, OkC c) : orc (d + 8) 54 [T x] p = some (.bool true, p) := by
  have hx' := le_k (b := 1000) hx rfl
  have hU : (U x).length ≤ 300 := Nat.le_trans (U_len hc) (Nat.mul_le_mul_right 3 hx)
  obtain ⟨ρ, e⟩ := fin_ex (x := (_, p)) (signs_B d p hx (fun c m => (hc c m).lt) (D := hexL (U x)))
  exact walkC (fv 95 (l_lenT hx') <| fv 1 (l_lenT hx') <| fb 0 (nes_i (↑x.length)) <| fc 13 (enc_T (orc (d + 6)) p hx' hc) <| fv 0 (l_list (v := .bytes (U x).toArray) (xs := (U x).map fun o => .int (o.toNat : Int)) rfl (by rw [List.length_map]; exact le_k hU rfl)) <| fp 2 (hexcomp_run (orc (d + 7)) p (le_k hU rfl)) <| fc 0 (join_hex (orc (d + 7)) p hU) <| fc 107 (utf8_run (d + 2) p hx hc) <| fc 0 (hex_run (d + 3) p (b := (U x).toArray) hU) <| fb 1 (nes_T (hexL (U x))) <| fc 99 (raised_run (d + 3) p hx') <| fc 2 (turned_run (d + 6) p hx' (a := 97) (m := -32) (by decide) (by decide)) <| fb 0 (nes_T (List.map (turnF 97 (-32)) x)) <| fc 93 (lowered_run (d + 3) p hx') <| fc 1 (turned_run (d + 6) p hx' (a := 65) (m := 32) (by decide) (by decide)) <| fb 0 (nes_T (List.map (turnF 65 32) x)) <| fx 0 e <| f0) (by kernel_rfl)
theorem signs_right_B (d : Nat) (p : Pl) {b : Array UInt8} (hb : b.size ≤ 100) : orc (d + 8) 54 [.bytes b] p = some (.bool true, p) := by
  have hb' : b.toList.length ≤ 300 := le_k (n := b.size) hb rfl
  have hl : (hexL b.toList).length ≤ b.size * 2 := Nat.le_of_eq (hexL_len b.toList)
  have c2 : ([88, 39] ++ hexL b.toList).length + 1 ≤ 1000 := q_le (n := 3) hl hb (by decide) |> fun h => by rw [List.length_append]; show 2 + _ + 1 ≤ _; omega
  exact walkC (fv 87 (l_lenB (le_k hb rfl)) <| fv 1 (l_lenB (le_k hb rfl)) <| fb 0 (nes_i (↑b.size)) <| fv 8 (l_list (v := .bytes b) (xs := b.toList.map fun o => .int (o.toNat : Int)) rfl (by rw [List.length_map]; exact le_k hb' rfl)) <| fp 2 (hexcomp_run (orc (d + 7)) p (le_k hb' rfl)) <| fc 0 (join_hex (orc (d + 7)) p hb') <| fc 99 (hex_run (d + 3) p (b := b) hb') <| fb 1 (nes_T (hexL b.toList)) <| fc 68 (hex_run (d + 2) p (b := b) hb') <| fv 0 (b_cat (a := [88, 39]) (b := hexL b.toList) (q_le hl hb (Nat.le_of_ble_eq_true rfl))) <| fv 0 (b_cat (a := [88, 39] ++ hexL b.toList) (b := [39]) c2) <| fv 7 (b_cat (a := [88, 39]) (b := hexL b.toList) (q_le hl hb (Nat.le_of_ble_eq_true rfl))) <| fv 0 (b_cat (a := [88, 39] ++ hexL b.toList) (b := [39]) c2) <| fb 0 (eqs_T (88 :: 39 :: ([].append (hexL b.toList)).append [39])) <| f0) (by kernel_rfl)
/-- whole numbers: all of it computes -/
theorem signs_right_I (d : Nat) (p : Pl) {i : Int} (h : i ∈ ([0, -12, 345, -9223372036854775808, 9223372036854775807] : List Int)) : orc (d + 8) 54 [.int i] p = some (.bool true, p) := by
  simp only [List.mem_cons, List.not_mem_nil, or_false] at h
  rcases h with rfl | rfl | rfl | rfl | rfl <;> kernel_rfl
/-! whole numbers -/
theorem args_loop (call : Orc) (p : Pl) {A B C D E' F G : PV} : ∀ (l : List Int) (z : PV), ∃ z', forLoop (fun v ρ p => xSs call NQ k_call_function_f0 (ρ.set 7 v) p) (l.map .int) [A, B, C, D, E', F, G, z, .unb] p = some (none, [A, B, C, D, E', F, G, z', .unb], p)
  | [], z => ⟨z, rfl⟩
  | i :: l, z => by
    obtain ⟨z', e⟩ := args_loop call p l (.int i)
    exact ⟨z', fl_c (ρ' := [A, B, C, D, E', F, G, .int i, .unb]) (by kernel_rfl) e⟩
noncomputable def IsMax (m : Int) (l : List Int) : Prop := m ∈ l ∧ ∀ x ∈ l, x ≤ m
noncomputable def IsMin (m : Int) (l : List Int) : Prop := m ∈ l ∧ ∀ x ∈ l, m ≤ x
/-- the first of a list, or one that comes after it -/
noncomputable def best (f : Int → Int → Bool) : Int → List Int → Int
  | b, [] => b
  | b, v :: l => best f (match f v b with | true => v | false => b) l
theorem best_mem (f : Int → Int → Bool) : ∀ (l : List Int) (b : Int), best f b l ∈ b :: l
  | [], b => List.mem_singleton.mpr rfl
  | v :: l, b => by
    have h := best_mem f l (match f v b with | true => v | false => b)
    rcases List.mem_cons.mp h with h | h
    · show best f (match f v b with | true => v | false => b) l ∈ _
      rw [h]
      cases f v b with
      | true => exact List.mem_cons_of_mem _ List.mem_cons_self
      | false => exact List.mem_cons_self
    · exact List.mem_cons_of_mem _ (List.mem_cons_of_mem _ h)
/-- nothing is better than the best -/
theorem best_top (f : Int → Int → Bool) {R : Int → Int → Prop} (refl : ∀ a, R a a) (trans : ∀ a b c, R a b → R b c → R a c) (ht : ∀ a b, f a b = true → R b a) (hf : ∀ a b, f a b = false → R a b) : ∀ (l : List Int) (b : Int), ∀ x ∈ b :: l, R x (best f b l)
  | [], b => fun x m => by rw [List.mem_singleton.mp m]; exact refl b
  | v :: l, b => by
    have h := best_top f refl trans ht hf l (match f v b with | true => v | false => b)
    have q : R v (match f v b with | true => v | false => b) ∧ R b (match f v b with | true => v | false => b) := by
      cases e : f v b with
      | true => exact ⟨refl v, ht v b e⟩
      | false => exact ⟨hf v b e, refl b⟩
    intro x m
    have h0 := h _ List.mem_cons_self
    rcases List.mem_cons.mp m with rfl | m
    · exact trans _ _ _ q.2 h0
    · rcases List.mem_cons.mp m with rfl | m
      · exact trans _ _ _ q.1 h0
      · exact h x (List.mem_cons_of_mem _ m)
noncomputable def fmax (v b : Int) : Bool := decide (b < v)
/-- a value that is no greater comes in -/
noncomputable def fmin (v b : Int) : Bool := match decide (v < b) with
  | true => true
  | false => !decide (b < v)
theorem max_top (l : List Int) (b : Int) : IsMax (best fmax b l) (b :: l) := ⟨best_mem .., best_top fmax (R := fun a b => a ≤ b) Int.le_refl (fun _ _ _ => Int.le_trans) (fun _ _ h => Int.le_of_lt (of_decide_eq_true h)) (fun _ _ h => Int.not_lt.mp (of_decide_eq_false h)) l b⟩
theorem min_top (l : List Int) (b : Int) : IsMin (best fmin b l) (b :: l) := ⟨best_mem .., best_top fmin (R := fun a b => b ≤ a) Int.le_refl (fun _ _ _ h h' => Int.le_trans h' h) (fun a b h => by
    unfold fmin at h
    cases q : decide (a < b) with
    | true => exact Int.le_of_lt (of_decide_eq_true q)
    | false =>
      rw [q] at h
      exact Int.not_lt.mp (of_decide_eq_false (Bool.not_eq_true' _ |>.mp h))) (fun a b h => by
    unfold fmin at h
    cases q : decide (a < b) with
    | true => rw [q] at h; cases h
    | false => exact Int.not_lt.mp (of_decide_eq_false q)) l b⟩
section
variable (d : Nat) (p : Pl) {A z y : PV}
theorem chosen_max (v b : Int) : ∃ y', xSs (orc (d + 2)) NQ k_chosen_f0 [A, .int 1, (T [98, 105, 110, 97, 114, 121]), .int b, .int v, y] p = some (none, [A, .int 1, (T [98, 105, 110, 97, 114, 121]), .int (match fmax v b with | true => v | false => b), .int v, y'], p) := by
  unfold fmax
  cases h1 : decide (v < b) with
  | true =>
    have h2 : decide (b < v) = false := decide_eq_false (Int.not_lt.mpr (Int.le_of_lt (of_decide_eq_true h1)))
    rw [h2]
    exact ⟨.int (-1), by exact walkY (fb 42 (c_lt h1) <| f0) (by kernel_rfl)⟩
  | false =>
    cases h2 : decide (b < v) with
    | true => exact ⟨.int 1, by exact walkY (fb 42 (c_lt h1) <| fb 3 (c_lt h2) <| f0) (by kernel_rfl)⟩
    | false => exact ⟨.int 0, by exact walkY (fb 42 (c_lt h1) <| fb 3 (c_lt h2) <| f0) (by kernel_rfl)⟩
theorem chosen_min (v b : Int) : ∃ y', xSs (orc (d + 2)) NQ k_chosen_f0 [A, .int (-1), (T [98, 105, 110, 97, 114, 121]), .int b, .int v, y] p = some (none, [A, .int (-1), (T [98, 105, 110, 97, 114, 121]), .int (match fmin v b with | true => v | false => b), .int v, y'], p) := by
  unfold fmin
  cases h1 : decide (v < b) with
  | true => exact ⟨.int (-1), by exact walkY (fb 42 (c_lt h1) <| f0) (by kernel_rfl)⟩
  | false =>
    cases h2 : decide (b < v) with
    | true => exact ⟨.int 1, by exact walkY (fb 42 (c_lt h1) <| fb 3 (c_lt h2) <| f0) (by kernel_rfl)⟩
    | false => exact ⟨.int 0, by exact walkY (fb 42 (c_lt h1) <| fb 3 (c_lt h2) <| f0) (by kernel_rfl)⟩
end
theorem chosen_loop {call : Orc} {p : Pl} {A S K : PV} {f : Int → Int → Bool} (h : ∀ (v b : Int) (y : PV), ∃ y', xSs call NQ k_chosen_f0 [A, S, K, .int b, .int v, y] p = some (none, [A, S, K, .int (match f v b with | true => v | false => b), .int v, y'], p)) :
    ∀ (l : List Int) (b : Int) (z y : PV), ∃ z' y', forLoop (fun v ρ p => xSs call NQ k_chosen_f0 (ρ.set 4 v) p) (l.map .int) [A, S, K, .int b, z, y] p = some (none, [A, S, K, .int (best f b l), z', y'], p)
  | [], b, z, y => ⟨z, y, rfl⟩
  | v :: l, b, z, y => by
    obtain ⟨y1, e1⟩ := h v b y
    obtain ⟨z', y', e⟩ := chosen_loop h l (match f v b with | true => v | false => b) (.int v) y1
    exact ⟨z', y', fl_c e1 e⟩
theorem sl_rest (k : Int) (ks : List Int) (h : ks.length ≤ 60) : sliceOp (.list (.int k :: ks.map .int)) (.int 1) .none = some (.list (ks.map .int)) :=
  (sliceL (l := some 1) (h := none) (by rw [List.length_cons, List.length_map]; exact le_k (Nat.succ_le_succ h) rfl) rfl rfl).trans (congrArg (fun x => some (PV.list x)) (cut_from (PV.int k :: ks.map PV.int) 1))
theorem first_x (p : Pl) (k : Int) (ks : List Int) (h : ks.length ≤ 60) : idxOp (.list (.int k :: ks.map .int)) (.int 0) p = some (.int k) := x_L p (k := 0) (by rw [List.length_cons, List.length_map]; exact le_k (Nat.succ_le_succ h) rfl) rfl
section
variable (d : Nat) (p : Pl) (k : Int) {ks : List Int} (hl : ks.length ≤ 60)
include hl
theorem lc_max : orc (d + 6) 42 [(T [109, 97, 120]), .list (.int k :: ks.map .int)] p = some (.list [.int (best fmax k ks)], p) := by
  obtain ⟨z, y, e⟩ := chosen_loop (call := orc (d + 3)) (p := p) (A := .list (.int k :: ks.map .int)) (S := .int 1) (K := (T [98, 105, 110, 97, 114, 121])) (f := fmax) (fun v b y => chosen_max (d + 1) p v b) ks k .unb .unb
  have e := forO_e (by rw [List.length_map]; exact le_k hl rfl) e
  obtain ⟨z', e'⟩ := args_loop (orc (d + 4)) p (A := (T [109, 97, 120])) (B := .list (.int k :: ks.map .int)) (C := (T [98, 105, 110, 97, 114, 121])) (D := .none) (E' := (T [109, 97, 120])) (F := .bool false) (G := .none) (k :: ks) .unb
  have e' := forO_e (by rw [List.length_map]; exact le_k (Nat.succ_le_succ hl) rfl) e'
  exact walkC (fx 54 e' <| fv 14 (first_x p k ks hl) <| fv 2 (sl_rest k ks hl) <| fx 1 e <| f0) (by kernel_rfl)
theorem lc_min : orc (d + 6) 42 [(T [109, 105, 110]), .list (.int k :: ks.map .int)] p = some (.list [.int (best fmin k ks)], p) := by
  obtain ⟨z, y, e⟩ := chosen_loop (call := orc (d + 3)) (p := p) (A := .list (.int k :: ks.map .int)) (S := .int (-1)) (K := (T [98, 105, 110, 97, 114, 121])) (f := fmin) (fun v b y => chosen_min (d + 1) p v b) ks k .unb .unb
  have e := forO_e (by rw [List.length_map]; exact le_k hl rfl) e
  obtain ⟨z', e'⟩ := args_loop (orc (d + 4)) p (A := (T [109, 105, 110])) (B := .list (.int k :: ks.map .int)) (C := (T [98, 105, 110, 97, 114, 121])) (D := .none) (E' := (T [109, 105, 110])) (F := .bool false) (G := .none) (k :: ks) .unb
  have e' := forO_e (by rw [List.length_map]; exact le_k (Nat.succ_le_succ hl) rfl) e'
  exact walkC (fx 54 e' <| fv 17 (first_x p k ks hl) <| fv 2 (sl_rest k ks hl) <| fx 1 e <| f0) (by kernel_rfl)
end
/-! sorted; abs -/
theorem sort_ends {l : List Int} {a b : Int} (ha : IsMax a l) (hb : IsMin b l) : (sortInts l).getLast? = some a ∧ ∃ r, sortInts l = b :: r := by
  have hp : (sortInts l).Perm l := List.mergeSort_perm _ _
  have hs := List.pairwise_mergeSort (le := fun a b : Int => decide (a ≤ b)) (fun a b c h1 h2 => decide_eq_true (Int.le_trans (of_decide_eq_true h1) (of_decide_eq_true h2))) (fun a b => by rw [Bool.or_eq_true, decide_eq_true_iff, decide_eq_true_iff]; exact Int.le_total a b) l
  have hs : (sortInts l).Pairwise fun a b => a ≤ b := hs.imp of_decide_eq_true
  have ha1 := hp.mem_iff.mpr ha.1
  have hb1 := hp.mem_iff.mpr hb.1
  have ha2 := fun x m => ha.2 x (hp.mem_iff.mp m)
  have hb2 := fun x m => hb.2 x (hp.mem_iff.mp m)
  clear ha hb hp
  generalize sortInts l = s at hs ha1 hb1 ha2 hb2
  refine ⟨?_, ?_⟩
  · rcases List.eq_nil_or_concat s with rfl | ⟨t, y, rfl⟩
    · cases ha1
    · rw [List.concat_eq_append] at *
      rw [List.getLast?_concat]
      refine congrArg some (Int.le_antisymm (ha2 y (List.mem_append_right _ List.mem_cons_self)) ?_)
      rcases List.mem_append.mp ha1 with m | m
      · exact (List.pairwise_append.mp hs).2.2 a m y List.mem_cons_self
      · rw [List.mem_singleton.mp m]; exact Int.le_refl _
  · cases s with
    | nil => cases hb1
    | cons y t =>
      refine ⟨t, congrArg (· :: t) (Int.le_antisymm ?_ (hb2 y List.mem_cons_self))⟩
      rcases List.mem_cons.mp hb1 with rfl | m
      · exact Int.le_refl _
      · exact (List.pairwise_cons.mp hs).1 b m
theorem sorted_x {l : List Int} (h : l.length < 64) : bltOp .sorted [.list (l.map .int)] = some (.list ((sortInts l).map .int)) := by
  show @bnd _ _ (intsOf (l.map .int)) ⟨fun is => grd ((l.map PV.int).length < 64) (PV.list ((sortInts is).map .int))⟩ = _
  rw [intsOf_map, List.length_map]
  exact if_pos h
theorem lc_e {d : Nat} {xs : List PV} {p : Pl} {r : Option (PV × Pl)} (hs : special xs = false) (hl : xs.length = 2) (h : fin (xSs (orc d) NQ k_law_call (xs ++ []) p) = r) : orc (d + 1) 42 xs p = r := by
  show callF _ (orc d) xs p = r
  unfold callF
  rw [hs]
  exact (if_pos hl).trans h
theorem lc_abs (d : Nat) (p : Pl) {k : Int} (hk : (k == -9223372036854775808) = false) : orc (d + 4) 42 [(T [97, 98, 115]), .list [.int k]] p = some (.list [.int k.natAbs], p) := by
  have hs : special [(T [97, 98, 115]), .list [.int k]] = false := by
    show (((⟨#[97, 98, 115]⟩ : Str) == ⟨#[97, 98, 115]⟩ && (k == -9223372036854775808)) || false) = false
    rw [hk, Bool.and_false]; rfl
  refine lc_e hs rfl ?_
  have c : cmpOp .Eq (.int k) (.int (-9223372036854775808)) = some false := c_eqi hk
  exact walkZ (fb 74 c <| f0) (by kernel_rfl)
theorem abs_meet (k : Int) : cmpOp .Eq (.list [.int k.natAbs]) (.list [.int (if k < -k then -k else k)]) = some true := congrArg some (beq_iff_eq.mpr (by split <;> omega))
theorem lc_abs_min (d : Nat) (p : Pl) : orc (d + 6) 42 [(T [97, 98, 115]), .list [.int (-9223372036854775808)]] p = some (.list [], p) := by rfl
theorem numbers_right (d : Nat) (p : Pl) : ∃ p', orc (d + 7) 56 [.pool] p = some (.bool true, p') := by
  obtain ⟨n, p1, f1, hn⟩ := take_nat (d + 5) p (n := 4) (by decide) (by decide)
  obtain ⟨vs, p2, e2, hl, hv⟩ := compO_draw (call := orc (d + 6)) (elt := k_law_numbers_right_c0) (conds := k_law_numbers_right_c0k) (cs := [.pool]) (fun v => ∃ k : Int, v = .int k ∧ (k == -9223372036854775808) = false) (xs := upto 0 (1 + n)) p1 (by rw [upto_len]; omega) (fun x q => by
    obtain ⟨j, q1, g1, hj⟩ := take_nat (d + 5) q (n := 1048576) (by decide) (by decide)
    exact ⟨.int (j - 524288), q1, by exact walkT (fc 2 g1 <| f0) (by kernel_rfl), _, rfl, beq_eq_false_iff_ne.mpr (by omega)⟩)
  obtain ⟨ks, rfl, hks⟩ := pics .int hv
  rw [List.length_map, upto_len] at hl
  cases ks with
  | nil => rw [Nat.add_comm] at hl; cases hl
  | cons k ks =>
    have hl' : ks.length ≤ 4 := by rw [List.length_cons] at hl; omega
    have hl2 : (ks ++ [7]).length ≤ 60 := by rw [List.length_append]; exact Nat.le_trans (Nat.add_le_add_right hl' 1) (Nat.le_of_ble_eq_true rfl)
    have cat : binOp .Add (.list ((k :: ks).map PV.int)) (.list [.int 7]) = some (.list ((k :: (ks ++ [7])).map PV.int)) := by
      rw [show (k :: (ks ++ [7])).map PV.int = (k :: ks).map PV.int ++ [.int 7] from List.map_append (l₁ := k :: ks)]
      exact b_lcat (by rw [List.length_map]; exact Nat.le_trans (Nat.add_le_add_right (Nat.succ_le_succ hl') 1) (Nat.le_of_ble_eq_true rfl))
    have c1 := compO_map (call := orc (d + 6)) (elt := k_law_numbers_right_c1) (conds := k_law_numbers_right_c1k) (cs := []) PV.int PV.int p2 (k :: (ks ++ [7])) (le_k (Nat.succ_le_succ hl2) rfl) fun v _ => by exact walkT (f0) (by kernel_rfl)
    obtain ⟨s1, r, s2⟩ := sort_ends (max_top (ks ++ [7]) k) (min_top (ks ++ [7]) k)
    have so := sorted_x (l := k :: (ks ++ [7])) (Nat.lt_of_le_of_lt (Nat.succ_le_succ hl2) (by decide))
    have hs : ((sortInts (k :: (ks ++ [7]))).map PV.int).length ≤ 1000 := by
      have hsl : (sortInts (k :: (ks ++ [7]))).length = (k :: (ks ++ [7])).length := (List.mergeSort_perm _ _).length_eq
      rw [List.length_map, hsl]; exact le_k (Nat.succ_le_succ hl2) rfl
    have x1 := x_lastL p2 hs (by rw [List.getLast?_map, s1]; rfl)
    rw [s2] at so x1 hs
    have r1 := @l_rng1 (1 + (n : Int)) (by omega)
    have r2 := @it_rng 0 (1 + (n : Int)) (Nat.zero_le _) (by omega)
    have lm := lc_abs_min d p2
    refine ⟨p2, ?_⟩
    exact walkC (fc 2 f1 <| fv 1 r1 <| fl 0 r2 <| fp 1 e2 <| fv 2 cat <| fp 2 c1 <| fv 0 so <| fv 2 cat <| fc 0 (lc_max d p2 k hl2) <| fv 2 x1 <| fb 0 (nes_i (best fmax k (ks ++ [7]))) <| fv 1 cat <| fc 0 (lc_min d p2 k hl2) <| fv 1 (x_L p2 (k := 0) hs rfl) <| fb 0 (nes_i (best fmin k (ks ++ [7]))) <| fv 2 (first_x p2 k ks (le_k hl' rfl)) <| fc 0 (lc_abs (d + 2) p2 (hks k List.mem_cons_self)) <| fv 1 (first_x p2 k ks (le_k hl' rfl)) <| fv 1 (first_x p2 k ks (le_k hl' rfl)) <| fb 2 (abs_meet k) <| fc 2 lm <| f0) (by kernel_rfl)
/-! nulls -/
noncomputable def notNone : PV → Bool
  | .int _ => true
  | .str _ => true
  | .bytes _ => true
  | _ => false
theorem lt_T (l : List Nat) : cmpOp .Lt (T l) (T l) = some false := congrArg some (decide_eq_false (List.lt_irrefl l))
theorem lt_B (b : Array UInt8) : cmpOp .Lt (.bytes b) (.bytes b) = some false := if_pos rfl
theorem lt_I (i : Int) : cmpOp .Lt (.int i) (.int i) = some false := congrArg some (decide_eq_false (Int.lt_irrefl i))
theorem kinds {v : PV} (h : notNone v = true) : (∃ i, v = .int i) ∨ (∃ l, v = T l) ∨ ∃ b, v = .bytes b := by
  cases v with
  | int i => exact .inl ⟨i, rfl⟩
  | str s => exact .inr (.inl ⟨s.cps.toList, rfl⟩)
  | bytes b => exact .inr (.inr ⟨b, rfl⟩)
  | _ => cases h
theorem as_int_x (d : Nat) (p : Pl) : orc (d + 3) 15 [(T [120])] p = some (.int 0, p) := by
  kernel_rfl
theorem nulls_right (d : Nat) {a b : PV} (ha : notNone a = true) (hb : notNone b = true) (p : Pl) : orc (d + 8) 55 [a, b] p = some (.bool true, p) := by
  rcases kinds ha with ⟨i, rfl⟩ | ⟨l, rfl⟩ | ⟨o, rfl⟩
  · rcases kinds hb with ⟨j, rfl⟩ | ⟨m, rfl⟩ | ⟨q, rfl⟩ <;> (first | exact walkC (fb 619 (nes_i (i)) <| fb 108 (lt_I i) <| fb 3 (lt_I i) <| fb 95 (nes_i (i)) <| fb 47 (nes_i (j)) <| fb 50 (nes_i (i)) <| fc 28 (as_int_x (d + 1) p) <| fb 14 (nes_i (j)) <| f0) (by kernel_rfl) | exact walkC (fb 619 (nes_i (i)) <| fb 108 (lt_I i) <| fb 3 (lt_I i) <| fb 95 (nes_i (i)) <| fb 47 (nes_T (m)) <| fb 50 (nes_i (i)) <| fc 28 (as_int_x (d + 1) p) <| fb 14 (nes_T (m)) <| f0) (by kernel_rfl) | exact walkC (fb 619 (nes_i (i)) <| fb 108 (lt_I i) <| fb 3 (lt_I i) <| fb 95 (nes_i (i)) <| fb 47 (nes_b (q)) <| fb 50 (nes_i (i)) <| fc 28 (as_int_x (d + 1) p) <| fb 14 (nes_b (q)) <| f0) (by kernel_rfl))
  · rcases kinds hb with ⟨j, rfl⟩ | ⟨m, rfl⟩ | ⟨q, rfl⟩ <;> (first | exact walkC (fb 619 (nes_T (l)) <| fb 128 (lt_T l) <| fb 3 (lt_T l) <| fb 98 (nes_T (l)) <| fb 47 (nes_i (j)) <| fb 50 (nes_T (l)) <| fc 28 (as_int_x (d + 1) p) <| fb 14 (nes_i (j)) <| f0) (by kernel_rfl) | exact walkC (fb 619 (nes_T (l)) <| fb 128 (lt_T l) <| fb 3 (lt_T l) <| fb 98 (nes_T (l)) <| fb 47 (nes_T (m)) <| fb 50 (nes_T (l)) <| fc 28 (as_int_x (d + 1) p) <| fb 14 (nes_T (m)) <| f0) (by kernel_rfl) | exact walkC (fb 619 (nes_T (l)) <| fb 128 (lt_T l) <| fb 3 (lt_T l) <| fb 98 (nes_T (l)) <| fb 47 (nes_b (q)) <| fb 50 (nes_T (l)) <| fc 28 (as_int_x (d + 1) p) <| fb 14 (nes_b (q)) <| f0) (by kernel_rfl))
  · rcases kinds hb with ⟨j, rfl⟩ | ⟨m, rfl⟩ | ⟨q, rfl⟩ <;> (first | exact walkC (fb 619 (nes_b (o)) <| fb 120 (lt_B o) <| fb 3 (lt_B o) <| fb 101 (nes_b (o)) <| fb 47 (nes_i (j)) <| fb 50 (nes_b (o)) <| fc 28 (as_int_x (d + 1) p) <| fb 14 (nes_i (j)) <| f0) (by kernel_rfl) | exact walkC (fb 619 (nes_b (o)) <| fb 120 (lt_B o) <| fb 3 (lt_B o) <| fb 101 (nes_b (o)) <| fb 47 (nes_T (m)) <| fb 50 (nes_b (o)) <| fc 28 (as_int_x (d + 1) p) <| fb 14 (nes_T (m)) <| f0) (by kernel_rfl) | exact walkC (fb 619 (nes_b (o)) <| fb 120 (lt_B o) <| fb 3 (lt_B o) <| fb 101 (nes_b (o)) <| fb 47 (nes_b (q)) <| fb 50 (nes_b (o)) <| fc 28 (as_int_x (d + 1) p) <| fb 14 (nes_b (q)) <| f0) (by kernel_rfl))
/-! patterns -/
noncomputable def fo : Nat → Nat := turnF 65 32
theorem fold_turn (call : Orc) {X : PV} {xs : List PV} {c : Nat} {p : Pl} (hl : xs.length ≤ 1000) :
    xSs call NN k_fold_ascii_f0 [X, .own xs, T [c]] p = some (none, [X, .own (xs ++ [T [fo c]]), T [c]], p) := by
  have a := fun ρ c => @ap_own ρ 1 xs (T [c]) p hl
  unfold fo turnF
  cases h1 : decide (65 ≤ c) with
  | true =>
    cases h2 : decide (c ≤ 65 + 25) with
    | true => 
      have a := fun ρ => @ap_own ρ 1 xs (T [((c : Int) + 32).toNat]) p hl
      exact walkX (fb 2 (c_leC h1) <| fb 0 (c_leC (b := 90) h2) <| fv 4 (l_chr (i := (c : Int) + 32) (chr_ok h1 h2 (by decide) (by decide))) <| fx 0 (a ([X, PV.own xs, T [c]])) <| f0) (by kernel_rfl)
    | false =>
      have a := fun ρ => @ap_own ρ 1 xs (T [c]) p hl
      exact walkX (fb 2 (c_leC h1) <| fb 0 (c_leC (b := 90) h2) <| fx 2 (a ([X, PV.own xs, T [c]])) <| f0) (by kernel_rfl)
  | false =>
    have a := fun ρ => @ap_own ρ 1 xs (T [c]) p hl
    exact walkX (fb 2 (c_leC h1) <| fx 2 (a ([X, PV.own xs, T [c]])) <| f0) (by kernel_rfl)
theorem fold_loop (call : Orc) (p : Pl) (X : PV) : ∀ (l : List Nat) (xs : List PV) (z : PV), xs.length + l.length ≤ 1000 →
    ∃ z', forLoop (fun v ρ p => xSs call NN k_fold_ascii_f0 (ρ.set 2 v) p) (l.map fun c => T [c]) [X, .own xs, z] p = some (none, [X, .own (xs ++ (l.map fo).map fun c => T [c]), z'], p)
  | [], xs, z, _ => ⟨z, by rw [show xs ++ (([] : List Nat).map fo).map (fun c => T [c]) = xs from List.append_nil xs]; rfl⟩
  | c :: l, xs, z, h => by
    obtain ⟨z', e⟩ := fold_loop call p X l (xs ++ [T [fo c]]) (T [c]) (by rw [List.length_append]; have h : xs.length + (l.length + 1) ≤ 1000 := h; show xs.length + 1 + l.length ≤ 1000; omega)
    rw [List.append_assoc] at e
    exact ⟨z', fl_c (fold_turn call (Nat.le_trans (Nat.le_add_right ..) h)) e⟩
theorem fold_run (d : Nat) (p : Pl) {x : List Nat} (hl : x.length ≤ 1000) : orc (d + 1) 6 [T x] p = some (T (x.map fo), p) := by
  obtain ⟨z, e⟩ := fold_loop (orc d) p (T x) x [] .unb (by rw [List.length_nil, Nat.zero_add]; exact hl)
  have e := forO_e (by rw [List.length_map]; exact hl) e
  exact walkC (fx 4 e <| fc 2 (j_chars (orc d) p (l := x.map fo) (by rw [List.length_map]; exact hl)) <| f0) (by kernel_rfl)
theorem takes_x (d : Nat) (p : Pl) {a c : Nat} {r : Bool} (h : ([a] == [c]) = r) : methX (orc (d + 1)) .takes (.obj (.int 2) (T [a])) [T [c]] p = some (.bool r, p) := by
  have e : cmpOp .Eq (T [a]) (T [c]) = some r := c_eqT h
  show orc (d + 1) 1 [.obj (.int 2) (T [a]), T [c]] p = _
  show fin (xSs (orc d) NQ k_takes [.obj (.int 2) (T [a]), T [c], .unb, .unb, .unb] p) = _
  exact walkZ (fb 12 e <| f0) (by kernel_rfl)
theorem sg_facts : ∀ c ∈ Sg, ([c] == [37]) = false ∧ ([c] == [95]) = false ∧ ([121] == [fo c]) = false := by decide
theorem like_bad (d : Nat) (p : Pl) : orc (d + 6) 42 [(T [108, 105, 107, 101]), .list [(T [97]), (T [97]), (T [33, 33])]] p = some (.list [], p) := by kernel_rfl
theorem takes_same (d : Nat) (p : Pl) (a : Nat) : methX (orc (d + 1)) .takes (.obj (.int 2) (T [a])) [T [a]] p = some (.bool true, p) := takes_x d p (beq_self_eq_true [a])
theorem patterns_right (d : Nat) (p : Pl) {t : List Nat} (ht : t.length ≤ 3) (hs : ∀ c ∈ t, c ∈ Sg) : orc (d + 9) 57 [T t] p = some (.bool true, p) := by
  have e := like_bad (d + 2) p
  match t with
  | [] => exact walkC (fc 1690 e <| f0) (by kernel_rfl)
  | [a] =>
    obtain ⟨a1, a2, a3⟩ := sg_facts a (hs a List.mem_cons_self)
    exact walkC (fc 276 (fold_run (d + 2) p (x := [120, a, 121]) (Nat.le_of_ble_eq_true rfl)) <| fc 87 (takes_x (d + 1) p a3) <| fb 269 (c_eqT a1) <| fb 2 (c_eqT a2) <| fc 2 (fold_run (d + 1) p (x := [a]) (Nat.le_of_ble_eq_true rfl)) <| fc 80 (fold_run (d + 2) p (x := [120, a, 121]) (Nat.le_of_ble_eq_true rfl)) <| fc 65 (takes_same (d + 1) p (fo a)) <| fc 953 e <| f0) (by kernel_rfl)
  | [a, b] =>
    obtain ⟨a1, a2, a3⟩ := sg_facts a (hs a List.mem_cons_self)
    obtain ⟨b1, b2, b3⟩ := sg_facts b (hs b (List.mem_cons_of_mem _ List.mem_cons_self))
    exact walkC (fc 276 (fold_run (d + 2) p (x := [120, a, b, 121]) (Nat.le_of_ble_eq_true rfl)) <| fc 87 (takes_x (d + 1) p a3) <| fc 36 (takes_x (d + 1) p b3) <| fb 269 (c_eqT a1) <| fb 2 (c_eqT a2) <| fc 2 (fold_run (d + 1) p (x := [a]) (Nat.le_of_ble_eq_true rfl)) <| fb 18 (c_eqT b1) <| fb 2 (c_eqT b2) <| fc 2 (fold_run (d + 1) p (x := [b]) (Nat.le_of_ble_eq_true rfl)) <| fc 80 (fold_run (d + 2) p (x := [120, a, b, 121]) (Nat.le_of_ble_eq_true rfl)) <| fc 65 (takes_same (d + 1) p (fo a)) <| fc 32 (takes_same (d + 1) p (fo b)) <| fc 953 e <| f0) (by kernel_rfl)
  | [a, b, c] =>
    obtain ⟨a1, a2, a3⟩ := sg_facts a (hs a List.mem_cons_self)
    obtain ⟨b1, b2, b3⟩ := sg_facts b (hs b (List.mem_cons_of_mem _ List.mem_cons_self))
    obtain ⟨c1, c2, c3⟩ := sg_facts c (hs c (List.mem_cons_of_mem _ (List.mem_cons_of_mem _ List.mem_cons_self)))
    exact walkC (fc 276 (fold_run (d + 2) p (x := [120, a, b, c, 121]) (Nat.le_of_ble_eq_true rfl)) <| fc 87 (takes_x (d + 1) p a3) <| fc 36 (takes_x (d + 1) p b3) <| fc 36 (takes_x (d + 1) p c3) <| fb 269 (c_eqT a1) <| fb 2 (c_eqT a2) <| fc 2 (fold_run (d + 1) p (x := [a]) (Nat.le_of_ble_eq_true rfl)) <| fb 18 (c_eqT b1) <| fb 2 (c_eqT b2) <| fc 2 (fold_run (d + 1) p (x := [b]) (Nat.le_of_ble_eq_true rfl)) <| fb 18 (c_eqT c1) <| fb 2 (c_eqT c2) <| fc 2 (fold_run (d + 1) p (x := [c]) (Nat.le_of_ble_eq_true rfl)) <| fc 80 (fold_run (d + 2) p (x := [120, a, b, c, 121]) (Nat.le_of_ble_eq_true rfl)) <| fc 65 (takes_same (d + 1) p (fo a)) <| fc 32 (takes_same (d + 1) p (fo b)) <| fc 32 (takes_same (d + 1) p (fo c)) <| fc 953 e <| f0) (by kernel_rfl)
  | a :: b :: c :: e :: r => exact absurd ht (Nat.not_le.mpr (Nat.succ_le_succ (Nat.succ_le_succ (Nat.succ_le_succ (Nat.succ_le_succ (Nat.zero_le _))))))
/-- the values of the law -/
noncomputable def ValP (v : PV) : Prop := (∃ i, v = .int i ∧ i ∈ ([0, -12, 345, -9223372036854775808, 9223372036854775807] : List Int)) ∨ (∃ b : Array UInt8, v = .bytes b ∧ b.size ≤ 5) ∨ ∃ l, v = T l ∧ l.length ≤ 7 ∧ ∀ c ∈ l, c ∈ Sg
theorem sg_ok : ∀ c ∈ Sg, OkC c := by
  unfold OkC
  decide
theorem int_text : ∀ i ∈ ([0, -12, 345, -9223372036854775808, 9223372036854775807] : List Int), ∃ l : List Nat, bltOp .str [.int i] = some (T l) ∧ l.length ≤ 20 :=
  List.forall_mem_cons.mpr ⟨⟨([48]), by kernel_rfl, Nat.le_of_ble_eq_true rfl⟩, List.forall_mem_cons.mpr ⟨⟨([45, 49, 50]), by kernel_rfl, Nat.le_of_ble_eq_true rfl⟩, List.forall_mem_cons.mpr ⟨⟨([51, 52, 53]), by kernel_rfl, Nat.le_of_ble_eq_true rfl⟩,
    List.forall_mem_cons.mpr ⟨⟨([45, 57, 50, 50, 51, 51, 55, 50, 48, 51, 54, 56, 53, 52, 55, 55, 53, 56, 48, 56]), by kernel_rfl, Nat.le_of_ble_eq_true rfl⟩, List.forall_mem_cons.mpr ⟨⟨([57, 50, 50, 51, 51, 55, 50, 48, 51, 54, 56, 53, 52, 55, 55, 53, 56, 48, 55]), by kernel_rfl, Nat.le_of_ble_eq_true rfl⟩, fun _ h => nomatch h⟩⟩⟩⟩⟩
theorem val_nn {v : PV} (h : ValP v) : notNone v = true := by
  rcases h with ⟨i, rfl, _⟩ | ⟨b, rfl, _⟩ | ⟨l, rfl, _⟩ <;> rfl
theorem nn_vis {v : PV} (h : notNone v = true) : vis v = some v := by
  rcases kinds h with ⟨i, rfl⟩ | ⟨l, rfl⟩ | ⟨b, rfl⟩ <;> rfl
/-- a turn over the values -/
theorem vals_turn (d : Nat) {v : PV} (h : ValP v) (p : Pl) (sc k l : PV) : ∃ p', xSs (orc (d + 9)) NQ k_law_f0 [sc, k, .pool, l, v] p = some (none, [sc, k, .pool, l, v], p') := by
  rcases h with ⟨i, rfl, hi⟩ | ⟨b, rfl, hb⟩ | ⟨l, rfl, hl, hc⟩
  · obtain ⟨x, hs, hx⟩ := int_text i hi
    obtain ⟨p', e⟩ := substr_right (V0 := .int i) ⟨.inl ⟨x, rfl, rfl, rfl⟩, hx⟩ (.inr (.inr ⟨i, x, rfl, rfl, hs⟩)) (d + 3) p
    obtain ⟨p'', e3⟩ := parts_right (d + 3) p' hx
    exact ⟨p'', by exact walkY (fc 3 e <| fc 2 (signs_right_I (d + 1) p' hi) <| fv 11 hs <| fc 0 e3 <| f0) (by kernel_rfl)⟩
  · have s := signs_right_B (b := b) (d + 1)
    cases h0 : b == #[] with
    | true =>
      rw [eq_of_beq h0] at s ⊢
      obtain ⟨p', e⟩ := substr_empty (d + 3) p
      exact ⟨p', by exact walkY (fc 3 e <| fc 2 (s p' (Nat.zero_le _)) <| f0) (by kernel_rfl)⟩
    | false =>
      obtain ⟨p', e⟩ := substr_right (V0 := .bytes b) ⟨.inr ⟨b, rfl, rfl, rfl⟩, Nat.le_trans hb (Nat.le_of_ble_eq_true rfl)⟩ (.inr (.inl ⟨b, rfl, rfl, h0⟩)) (d + 3) p
      exact ⟨p', by exact walkY (fc 3 e <| fc 2 (s p' (Nat.le_trans hb (Nat.le_of_ble_eq_true rfl))) <| f0) (by kernel_rfl)⟩
  · obtain ⟨p', e⟩ := substr_right (V0 := T l) ⟨.inl ⟨l, rfl, rfl, rfl⟩, Nat.le_trans hl (Nat.le_of_ble_eq_true rfl)⟩ (.inl ⟨l, rfl, rfl⟩) (d + 3) p
    obtain ⟨p'', e3⟩ := parts_right (d + 3) p' (x := l) (Nat.le_trans hl (Nat.le_of_ble_eq_true rfl))
    exact ⟨p'', by exact walkY (fc 3 e <| fc 2 (signs_right_T (d + 1) p' (x := l) (Nat.le_trans hl (Nat.le_of_ble_eq_true rfl)) fun c m => sg_ok c (hc c m)) <| fc 11 e3 <| f0) (by kernel_rfl)⟩
theorem of_two {α : Type} : ∀ {vs : List α}, vs.length = 2 → ∃ a b, vs = [a, b]
  | [a, b], _ => ⟨a, b, rfl⟩
/-- one cell of the law -/
theorem cell_right (d : Nat) (p : Pl) {sc k z3 z4 : PV} : ∃ y3 y4 p', ValP y4 ∧ (∃ v1 v2, ValP v1 ∧ ValP v2 ∧ y3 = .list [v1, v2]) ∧
    xSs (orc (d + 10)) NQ k_law_t [sc, k, .pool, z3, z4] p = some (none, [sc, k, .pool, y3, y4], p') := by
  obtain ⟨vs, p2, e2, hl, hv⟩ := compO_draw (call := orc (d + 10)) (elt := k_law_c0) (conds := k_law_c0k) (cs := [.pool]) ValP (xs := upto 0 2) p (by decide) (fun x q => by
    obtain ⟨v, q1, f1, hv⟩ := value_run (d + 6) q
    exact ⟨v, q1, by exact walkT (fc 1 f1 <| f0) (by kernel_rfl), hv⟩)
  obtain ⟨v1, v2, rfl⟩ := of_two hl
  have h1 := hv v1 List.mem_cons_self
  have h2 := hv v2 (List.mem_cons_of_mem _ List.mem_cons_self)
  obtain ⟨p3, t1⟩ := vals_turn (d + 1) h1 p2 sc k (.list [v1, v2])
  obtain ⟨p4, t2⟩ := vals_turn (d + 1) h2 p3 sc k (.list [v1, v2])
  obtain ⟨p5, t3⟩ := numbers_right (d + 3) p4
  obtain ⟨l, p6, t4, l1, l2⟩ := drawn_run (d + 7) p5 3 (by decide)
  exact ⟨.list [v1, v2], v2, p6, h2, ⟨v1, v2, h1, h2, rfl⟩, by exact walkY (fp 4 e2 <| fx 4 t1 <| fx 0 t2 <| fc 5 (nulls_right (d + 2) (val_nn h1) (val_nn h2) p4) <| fc 2 t3 <| fc 3 t4 <| fc 0 (patterns_right (d + 1) p6 l1 l2) <| f0) (by kernel_rfl)⟩
noncomputable def k_pool_pre : Ss := (.cons (.asg 2 (.cst (.int 0))) (.cons (.ite (.cmp .Lt (.var 1) (.blt .len (.cons (.var 0) .nil))) (.cons (.asg 2 (.idx (.var 0) (.var 1))) .nil) .nil) (.cons (.asg 3 (.blt .max (.cons (.blt .int (.cons (.var 2) .nil)) (.cons (.blt .int (.cons (.bin .Sub (.neg (.cst (.int 1))) (.var 2)) .nil)) .nil)))) (.cons (.asg 4 (.bin .Mod (.blt .int (.cons (.bin .Mult (.bin .Add (.bin .Add (.bin .Add (.bin .Mod (.blt .int (.cons (.var 3) .nil)) (.cst (.int 2147483629))) (.bin .Mult (.bin .Mult (.cst (.int 7919)) (.var 1)) (.var 1))) (.bin .Mult (.cst (.int 31)) (.var 1))) (.cst (.int 17))) (.cst (.int 48271))) .nil)) (.cst (.int 2147483647)))) .nil))))
noncomputable def k_pool_e1 : E := (.bin .Mult (.var 3) (.blt .int (.cons (.cmp .GtE (.var 3) (.bin .Pow (.cst (.int 10)) (.cst (.int 18)))) .nil)))
noncomputable def k_law_it : E := (.blt .range (.cons (.blt .max (.cons (.cst (.int 1)) (.cons (.blt .min (.cons (.blt .len (.cons (.var 0) .nil)) (.cons (.cst (.int 3)) .nil))) .nil))) .nil))
theorem rest_ex (v : Int) : ∃ m, bltOp .max [.int v, .int (-1 - v)] = some (.int m) := ⟨_, rfl⟩
theorem mul_k {k : Nat} (hk : k ≤ 2) (a : Int) : binOp .Mult (.int a) (.int (k : Int)) = some (.int (a * (k : Int))) := b_mul (show k < 2 ^ 62 from Nat.lt_of_le_of_lt hk (by decide))
theorem e1_run (call : Orc) (p : Pl) (x y z : PV) (m b : Int) : ∃ a, evs call (.cons k_pool_e1 (.cons (.var 4) .nil)) [x, y, z, .int m, .int b] p = some ([.int a, .int b], p) := by
  have h : ∃ a, ev call k_pool_e1 false [x, y, z, .int m, .int b] p = some (.int a, p) := by
    cases h : decide (m ≥ 1000000000000000000) with
    | true => exact ⟨m * 1, by exact walkE (fb 3 (c_ge h) <| f0) (by kernel_rfl)⟩
    | false => exact ⟨m * 0, by exact walkE (fb 3 (c_ge h) <| f0) (by kernel_rfl)⟩
  obtain ⟨a, e⟩ := h
  refine ⟨a, ?_⟩
  show @bnd _ _ (ev call k_pool_e1 false _ p) ⟨_⟩ = _
  rw [e]
  rfl
/-- the pool of a cell -/
theorem pool_run (call : Orc) (p : Pl) {xs : List Int} (hl : xs.length ≤ 63) {k : Nat} (hk : k ≤ 2) : ∃ ρ' a b, xSs call NQ k_pool_pre [.list (xs.map .int), .int k, .unb, .unb, .unb] p = some (none, ρ', p) ∧
    evs call (.cons k_pool_e1 (.cons (.var 4) .nil)) ρ' p = some ([.int a, .int b], p) := by
  have hl : (xs.map PV.int).length ≤ 1000 := le_k ((List.length_map PV.int).symm ▸ hl) rfl
  have part : ∃ v m, bltOp .max [.int v, .int (-1 - v)] = some (.int m) ∧ ∀ x', xSs call NQ (rst 2 k_pool_pre) [.list (xs.map .int), .int k, .int v, .unb, .unb] p = some x' → xSs call NQ k_pool_pre [.list (xs.map .int), .int k, .unb, .unb, .unb] p = some x' := by
    cases h : decide ((k : Int) < ((xs.map PV.int).length : Int)) with
    | true =>
      have hk : k < xs.length := by rw [← List.length_map PV.int]; exact Int.ofNat_lt.mp (of_decide_eq_true h)
      obtain ⟨m, e⟩ := rest_ex xs[k]
      exact ⟨_, m, e, fun x' h' => by exact walkX (fv 4 (l_lenL hl) <| fb 0 (c_lt h) <| fv 3 (x_L (v := .int xs[k]) p hl (by rw [List.getElem?_map, List.getElem?_eq_getElem hk]; rfl)) <| fx 0 h' <| f0) (by kernel_rfl)⟩
    | false =>
      obtain ⟨m, e⟩ := rest_ex 0
      exact ⟨_, m, e, fun x' h' => by exact walkX (fv 4 (l_lenL hl) <| fb 0 (c_lt h) <| fx 0 h' <| f0) (by kernel_rfl)⟩
  obtain ⟨v, m, e, hp⟩ := part
  obtain ⟨a, ha⟩ := e1_run call p (.list (xs.map .int)) (.int k) (.int v) m (((m.fmod 2147483629 + 7919 * (k : Int) * (k : Int) + 31 * (k : Int) + 17) * 48271).fmod 2147483647)
  refine ⟨_, a, _, ?_, ha⟩
  exact hp (none, [.list (xs.map .int), .int k, .int v, .int m, .int (((m.fmod 2147483629 + 7919 * (k : Int) * (k : Int) + 31 * (k : Int) + 17) * 48271).fmod 2147483647)], p) (by exact walkX (fv 7 e <| fv 5 (mul_k hk (7919)) <| fv 1 (mul_k hk (7919 * ↑k)) <| fv 2 (mul_k hk (31)) <| f0) (by kernel_rfl))
theorem law_n (n : Nat) : ∃ k : Nat, k ≤ 3 ∧ ∃ m : Int, bltOp .min [.int n, .int 3] = some (.int m) ∧ bltOp .max [.int 1, .int m] = some (.int k) := by
  match n with
  | 0 => exact ⟨1, by decide, 0, rfl, rfl⟩
  | 1 => exact ⟨1, by decide, 1, rfl, rfl⟩
  | 2 => exact ⟨2, by decide, 2, rfl, rfl⟩
  | n + 3 => exact ⟨3, by decide, 3, congrArg (fun i : Int => some (PV.int i)) (by omega), rfl⟩
theorem law_it (call : Orc) (p : Pl) {xs : List Int} (hl : xs.length ≤ 63) (ρ : List PV) : ∃ n : Nat, n ≤ 3 ∧ ev call k_law_it false (.list (xs.map .int) :: ρ) p = some (.rng 0 (n : Int), p) ∧ itemsOf (.rng 0 (n : Int)) = some (upto 0 n) := by
  have hl : (xs.map PV.int).length ≤ 1000 := le_k ((List.length_map PV.int).symm ▸ hl) rfl
  obtain ⟨k, hk, m, e1, e2⟩ := law_n (xs.map PV.int).length
  have hk' : k ≤ 1000 := le_k hk rfl
  refine ⟨k, hk, ?_, ?_⟩
  · exact walkE (fv 1 (l_lenL hl) <| fv 0 e1 <| fv 0 e2 <| fv 0 (l_rng1 (n := (k : Int)) hk') <| f0) (by kernel_rfl)
  · rw [it_rng (a := 0) (b := (k : Int)) (by decide) hk']
    rw [Int.sub_zero]
    rfl
section
variable {b0 : Heap} {g : Cfg} {prog : Program} {w : World} {d : Nat} {c : Act} {call : Orc} {N : Md}
theorem execs_app {env : Env} : ∀ (a b : List Stmt), execs (a ++ b) env = (execs a env >>= fun f => match f with
    | .next => execs b env
    | f => pure f)
  | [], b => rfl
  | x :: a, b => by
    rw [List.cons_append, execs_cons, execs_cons, execs_app a b, bind_assoc]
    congr 1
    funext f
    cases f <;> rfl
theorem Return_list {es : List Expr} {lp pos : Pos} {mes : Es} (h : EsC b0 g prog w d c call es mes) {A : Around} {s : Shared} {pr : List Addr} {B : Bm} {ρ : List PV} {p p' : Pl} {rs : List PV} (R : RoomC d c A) (I : Inv b0 g c pr B ρ p s.heap) (ht : 1 ≤ s.toks)
    (hn : rs.length ≤ lim) (q : evs call mes ρ p = some (rs, p')) : wpG (model prog w) A (exec (.Return (some (.List es lp)) pos) c.env)
      (fun fl s' => ∃ (vs : List Value) (h' : Heap) (tk : Nat) (B' : Bm), fl = .ret (.ref h'.objs.size) ∧ s' = { s with heap := h'.push (listO vs.toArray 0), toks := tk } ∧ Evo g B s.heap p' B' h' ∧ RdL g B' vs rs ∧ 1 ≤ tk) s := by
  rw [exec_Return_some]
  refine G.bind (G.standAt ?_)
  rw [arm_eval_List]
  refine G.bind (G.bind (G.standAt ?_))
  refine OkT.to (h A s lp pr B ρ p rs _ R I ht q) fun vs B₁ h₁ tk X rv ht1 => ?_
  refine G.toks (n := 1) ht1 (G.any (wpAny_newObj_type ?_ (by show vs.toArray.size ≤ sizeLine; rw [List.size_toArray, rv.1]; exact Nat.le_trans hn lim_line)))
  intro ht2
  exact G.pure ⟨vs, h₁, _, B₁, rfl, rfl, X, rv, ht2⟩
end
theorem Rd.lift {C P : Addr} {B : Bm} {v : Value} {x : PV} (h : Rd ⟨Option.none, C⟩ B v x) : Rd ⟨some P, C⟩ B v x := by
  induction h with
  | none => exact .none
  | bool b => exact .bool b
  | int i t => exact .int i t
  | str x t => exact .str x t
  | bytes b t => exact .bytes b t
  | list ha hl _ ih => exact .list ha hl ih
  | tup ha hl _ ih => exact .tup ha hl ih
  | rng ha => exact .rng ha
  | obj ha _ _ ih1 ih2 => exact .obj ha ih1 ih2
  | barr ha => exact .barr ha
  | pool ha => cases ha
theorem RdL.lift {C P : Addr} {B : Bm} {vs : List Value} {xs : List PV} (h : RdL ⟨Option.none, C⟩ B vs xs) : RdL ⟨some P, C⟩ B vs xs := ⟨h.1, fun i v x e1 e2 => (h.2 i v x e1 e2).lift⟩
/-- a value without the pool -/
noncomputable def PF (z : PV) : Prop := z.isOwn = false ∧ ∀ (C P : Addr) (B : Bm) (v : Value), Rd ⟨some P, C⟩ B v z → Rd ⟨Option.none, C⟩ B v z
theorem PF.unb : PF .unb := ⟨rfl, fun C P B v h => by cases h⟩
theorem PF.none : PF .none := ⟨rfl, fun C P B v h => by cases h; exact .none⟩
theorem PF.int (i : Int) : PF (.int i) := ⟨rfl, fun C P B v h => by cases h; exact .int _ _⟩
theorem PF.str (x : Str) : PF (.str x) := ⟨rfl, fun C P B v h => by cases h; exact .str _ _⟩
theorem PF.bytes (x : Array UInt8) : PF (.bytes x) := ⟨rfl, fun C P B v h => by cases h; exact .bytes _ _⟩
theorem PF.list {xs : List PV} (h : ∀ x ∈ xs, PF x) : PF (.list xs) := ⟨rfl, fun C P B v r => by
  cases r with
  | list ha hl hi => exact .list ha hl fun i v x e1 e2 => (h x (List.mem_of_getElem? e2)).2 C P B v (hi i v x e1 e2)⟩
theorem Val.lift {C P : Addr} {B : Bm} {v? : Option Value} {z : PV} (h : Val ⟨Option.none, C⟩ B v? z) : Val ⟨some P, C⟩ B v? z := by
  cases z <;> first | exact h | (obtain ⟨v, e, r⟩ := h; exact ⟨v, e, r.lift⟩)
theorem LocOk.lift {C P : Addr} {B : Bm} {h : Heap} {pr : List Addr} {o : Addr} {v? : Option Value} {z : PV} (x : LocOk ⟨Option.none, C⟩ B h pr o v? z) : LocOk ⟨some P, C⟩ B h pr o v? z := by
  cases z with
  | own xs => obtain ⟨e, m, vs, n, hv, r⟩ := x; exact ⟨e, m, vs, n, hv, r.lift⟩
  | ownb b => exact x
  | unb => exact x
  | _ => obtain ⟨v, e, r⟩ := x; exact ⟨v, e, r.lift⟩
theorem Val.drop {C P : Addr} {B : Bm} {v? : Option Value} {z : PV} (n : PF z) (h : Val ⟨some P, C⟩ B v? z) : Val ⟨Option.none, C⟩ B v? z := by
  cases z <;> first | exact h | (obtain ⟨v, e, r⟩ := h; exact ⟨v, e, n.2 _ _ _ _ r⟩)
noncomputable abbrev poolO (q : Pl) (t u : Tok) (n : Nat) : Obj := listO #[.int q.1 t, .int q.2 u] n
section
variable {b0 : Heap} {c : Act} {pr : List Addr} {B : Bm} {ρ : List PV} {p q : Pl} {h : Heap} {C P : Addr}
/-- the pool comes to be -/
theorem Inv.toPool (I : Inv b0 ⟨Option.none, C⟩ c pr B ρ p h) {t u : Tok} {n : Nat} (hP : h.get? P = some (poolO q t u n)) (hB : B P = none) (hp : P ∉ pr) (h0 : c.h0.get? P = none) : Inv b0 ⟨some P, C⟩ c pr B ρ q h := by
  obtain ⟨m, ow, L⟩ := I.locs
  refine ⟨I.ok, I.base, I.keep, fun a e => ?_, fun a o e _ => I.old a o e (by intro z; cases z), I.thereO, fun a m => ?_, I.Lpr, ⟨m, ow, L.ns, fun i x z e1 e2 => (L.loc i x z e1 e2).lift, L.apart⟩, fun i x k z e1 e2 e3 => ?_, I.len, fun a e => ?_, fun a m => ?_⟩
  · cases e; exact ⟨t, u, n, hP⟩
  · obtain ⟨q1, q2, _, q4⟩ := I.prv a m
    exact ⟨q1, q2, fun z => by cases z; exact hp m, q4⟩
  · obtain ⟨a, v?, q1, q2, q3, q4, _⟩ := I.cel i x k z e1 e2 e3
    refine ⟨a, v?, q1, q2, q3.lift, q4, fun z => ?_⟩
    cases z
    obtain ⟨oc, ho, hd⟩ := q2
    rw [hP] at ho; cases ho; cases hd
  · cases e; exact hB
  · refine ⟨(I.nf a m).1, fun z => ?_⟩
    cases z
    obtain ⟨o, _, _, ho, _⟩ := I.ok.fr _ m
    rw [h0] at ho; cases ho
/-- the pool becomes a list that stays -/
theorem Inv.dropPool (I : Inv b0 ⟨some P, C⟩ c pr B ρ q h) {j : Nat} {x : Str} (hj : c.vars[j]? = some (x, .cell)) (hz : ρ[j]? = some .pool) (hn : ∀ (i : Nat) z, i ≠ j → ρ[i]? = some z → PF z) (h0 : c.h0.get? P = Option.none) (p : Pl) :
    ∃ B', (∀ a o, B a = some o → B' a = some o) ∧ (∀ a o, B' a = some o → B a = some o ∨ a = P) ∧ Inv b0 ⟨Option.none, C⟩ c pr B' (ρ.set j (.list [.int q.1, .int q.2])) p h := by
  obtain ⟨t, u, n, hP⟩ := I.pool P rfl
  have hB := I.pB P rfl
  obtain ⟨m, ow, L⟩ := I.locs
  have sb : Sub B (B.add P (poolO q t u n)) := Bm.sub_add hB
  have hpr : P ∉ pr := fun m => (I.prv P m).2.2.1 rfl
  have far : ∀ {a}, a ≠ P → (B.add P (poolO q t u n)) a = B a := fun {a} ne => by unfold Bm.add; rw [if_neg ne]
  have other : ∀ {i : Nat} {z : PV}, (ρ.set j (.list [.int q.1, .int q.2]))[i]? = some z → (i = j ∧ z = .list [.int q.1, .int q.2]) ∨ (i ≠ j ∧ ρ[i]? = some z ∧ PF z) := fun {i z} e => by
    rcases getElem?_set' e with ⟨q1, q2⟩ | ⟨q1, q2⟩
    · exact .inl ⟨q1.symm, q2⟩
    · exact .inr ⟨fun z => q1 z.symm, q2, hn i z (fun z => q1 z.symm) q2⟩
  have notOwn : ∀ {i : Nat} {z : PV}, (ρ.set j (.list [.int q.1, .int q.2]))[i]? = some z → z.isOwn = false := fun {i z} e => by
    rcases other e with ⟨_, rfl⟩ | ⟨_, _, f⟩
    · rfl
    · exact f.1
  refine ⟨B.add P (poolO q t u n), sb, fun a o e => ?_, I.ok, fun a o e => sb a o (I.base a o e), fun a o e => ?_, fun a e => (by cases e), fun a o e _ => I.old a o e fun z => (by cases z; rw [h0] at e; cases e), I.thereO, fun a m => ?_, I.Lpr,
    ⟨m, ow, L.ns, fun i y z e1 e2 => ?_, fun i1 i2 z1 z2 e1 e2 o1 o2 _ => by rw [notOwn e1] at o1; cases o1⟩, fun i y k z e1 nl e2 => ?_, by rw [List.length_set]; exact I.len, fun a e => (by cases e), fun a m => ⟨?_, fun z => (by cases z)⟩⟩
  · by_cases w : a = P
    · exact .inr w
    · rw [far w] at e; exact .inl e
  · by_cases w : a = P
    · subst w; rw [Bm.add_self] at e; cases e; exact hP
    · rw [far w] at e; exact I.keep a o e
  · obtain ⟨q1, q2, _, q4⟩ := I.prv a m
    exact ⟨q1, by rw [far fun z => hpr (z ▸ m)]; exact q2, fun z => (by cases z), q4⟩
  · rcases other e2 with ⟨rfl, _⟩ | ⟨ne, e3, f⟩
    · rw [hj] at e1; cases e1
    · have w := (L.loc i y z e1 e3).val f.1
      exact LocOk.of_val ((w.mono sb).drop f)
  · rcases other e2 with ⟨rfl, rfl⟩ | ⟨ne, e3, f⟩
    · obtain ⟨a, v?, q1, q2, q3, q4, q5⟩ := I.cel i y k _ e1 nl hz
      obtain ⟨v, rfl, r⟩ := q3
      cases r with
      | pool hp =>
        cases hp
        refine ⟨a, _, q1, q2, ⟨_, rfl, Rd.list (vs := #[.int q.1 t, .int q.2 u]) (n := n) Bm.add_self rfl fun i v z e4 e5 => ?_⟩, q4, fun z => (by cases z)⟩
        match i, e4, e5 with
        | 0, e4, e5 => cases e4; cases e5; exact .int _ _
        | 1, e4, e5 => cases e4; cases e5; exact .int _ _
    · obtain ⟨a, v?, q1, q2, q3, q4, q5⟩ := I.cel i y k _ e1 nl e3
      exact ⟨a, v?, q1, q2, (q3.mono sb).drop f, q4, fun z => (by cases z)⟩
  · rw [far fun z => ?_]
    · exact (I.nf a m).1
    · exact (I.nf a m).2 (z ▸ rfl)
end
/-- one turn of the law's loop over its cells -/
inductive TurnOk (d : Nat) : List PV → Pl → List PV → Prop
  | mk {xs : List PV} {k : Int} {z2 z3 z4 y3 y4 : PV} {ρ1 : List PV} {p p1 p2 q : Pl} {a b : Int} (h1 : xSs (orc d) NQ k_pool_pre [.list xs, .int k, .unb, .unb, .unb] p = some (none, ρ1, p1)) (h2 : evs (orc d) (.cons k_pool_e1 (.cons (.var 4) .nil)) ρ1 p1 = some ([.int a, .int b], p2))
    (h3 : xSs (orc (d + 1)) NQ k_law_t [.list xs, .int k, .pool, z3, z4] (a, b) = some (none, [.list xs, .int k, .pool, y3, y4], q)) (n : ∀ z ∈ [.list xs, y3, y4], PF z) : TurnOk d [.list xs, .int k, z2, z3, z4] p [.list xs, .int k, .list [.int q.1, .int q.2], y3, y4]
open Classical in
noncomputable def turnL (d : Nat) (ρ : List PV) (p : Pl) : XR := if h : ∃ ρ', TurnOk d ρ p ρ' then some (none, Classical.choose h, p) else none
theorem turnL_inv {d : Nat} {ρ : List PV} {p : Pl} {z : Option PV × List PV × Pl} (h : turnL d ρ p = some z) : ∃ ρ', TurnOk d ρ p ρ' ∧ (none, ρ', p) = z := by
  by_cases q : ∃ ρ', TurnOk d ρ p ρ'
  · exact ⟨_, Classical.choose_spec q, Option.some.inj ((dif_pos q).symm.trans h)⟩
  · exact noneN ((dif_neg q).symm.trans h)
theorem turnL_run {d : Nat} {ρ ρ' : List PV} {p : Pl} (h : TurnOk d ρ p ρ') : ∃ ρ'', TurnOk d ρ p ρ'' ∧ turnL d ρ p = some (none, ρ'', p) := ⟨_, Classical.choose_spec ⟨ρ', h⟩, dif_pos ⟨ρ', h⟩⟩
theorem PF.of_val {v : PV} (h : ValP v) : PF v := by
  rcases h with ⟨i, rfl, _⟩ | ⟨b, rfl, _⟩ | ⟨l, rfl, _⟩
  · exact PF.int _
  · exact PF.bytes _
  · exact PF.str _
theorem PF.ints (xs : List Int) : PF (.list (xs.map .int)) := PF.list fun x m => by
  obtain ⟨i, _, rfl⟩ := List.mem_map.mp m
  exact PF.int i
/-- the law's cells, one after the other -/
theorem cells_run {xs : List Int} (hl : xs.length ≤ 63) (p : Pl) : ∀ (n k : Nat) (z1 z2 z3 z4 : PV), k + n ≤ 3 →
    ∃ ρ', forLoop (fun x ρ p => turnL 9 (ρ.set 1 x) p) (upto (k : Int) n) [.list (xs.map .int), z1, z2, z3, z4] p = some (none, ρ', p)
  | 0, k, z1, z2, z3, z4, _ => ⟨_, rfl⟩
  | n + 1, k, z1, z2, z3, z4, hk => by
    obtain ⟨ρ1, a, b, e1, e2⟩ := pool_run (orc 9) p hl (k := k) (Nat.le_of_succ_le_succ (Nat.le_trans (Nat.succ_le_succ (Nat.le_add_right k n)) hk))
    obtain ⟨y3, y4, q, hy4, ⟨v1, v2, hv1, hv2, rfl⟩, e3⟩ := cell_right 0 (a, b) (sc := .list (xs.map .int)) (k := .int k) (z3 := z3) (z4 := z4)
    obtain ⟨ρ', t, e⟩ := turnL_run (.mk (z2 := z2) e1 e2 e3 (List.forall_mem_cons.mpr ⟨PF.ints xs, List.forall_mem_cons.mpr ⟨PF.list (List.forall_mem_cons.mpr ⟨PF.of_val hv1, List.forall_mem_cons.mpr ⟨PF.of_val hv2, fun _ m => nomatch m⟩⟩), List.forall_mem_cons.mpr ⟨PF.of_val hy4, fun _ m => nomatch m⟩⟩⟩))
    cases t with
    | mk h1 h2 h3 h4 =>
      obtain ⟨ρ', e5⟩ := cells_run hl p n (k + 1) (.int k) _ _ _ (by rw [Nat.add_right_comm]; exact hk)
      exact ⟨ρ', fl_c e e5⟩
/-- the parts of the law's text -/
noncomputable abbrev LoopT := Str × Expr × Str × (Str × List Expr) × List Stmt × Stmt
noncomputable def lawOf : List Stmt → Option LoopT := twoE fun s r => thn (loopOf s) fun z => thn (nameOf z.1) fun x => nilE (thn (hdO z.2.2.1) fun a => thn (asgOf a) fun y => oneE (fun t => thn (nameOf t) fun n => thn (callN y.2) fun c => some (x, z.2.1, n, c, z.2.2.1.drop 1, r)) y.1) z.2.2.2
theorem lawOf_inv {b : List Stmt} {z : LoopT} (h : lawOf b = some z) : ∃ px py pf p1 p2 p3, b = [.For (.Name z.1 px) z.2.1 (.Assign [.Name z.2.2.1 py] (.Call (.Name z.2.2.2.1.1 pf) z.2.2.2.1.2 [] p1) p2 :: z.2.2.2.2.1) [] p3, z.2.2.2.2.2] :=
  twoC (P := fun b => ∃ px py pf p1 p2 p3, b = [.For (.Name z.1 px) z.2.1 (.Assign [.Name z.2.2.1 py] (.Call (.Name z.2.2.2.1.1 pf) z.2.2.2.1.2 [] p1) p2 :: z.2.2.2.2.1) [] p3, z.2.2.2.2.2]) h fun s r h => thnC h fun u hu h => thnC h fun x hx h => by
    obtain ⟨p3, e⟩ := loopOf_inv hu
    obtain ⟨t, it, bd, el⟩ := u
    obtain ⟨px, e1⟩ := nameOf_inv hx
    have e1 : t = .Name x px := e1
    cases el with
    | cons _ _ => exact noneN h
    | nil =>
      refine thnC h fun a ha h => thnC h fun y hy h => ?_
      obtain ⟨rest, e2⟩ := hdO_inv ha
      have e2 : bd = a :: rest := e2
      obtain ⟨p2, e3⟩ := asgOf_inv hy
      obtain ⟨ts, v⟩ := y
      rw [e, e1, e2, e3]
      rw [e2] at h
      refine oneC (P := fun ts => ∃ px' py pf p1 p2' p3', [Stmt.For (.Name x px) it (.Assign ts v p2 :: rest) [] p3, r] = [.For (.Name z.1 px') z.2.1 (.Assign [.Name z.2.2.1 py] (.Call (.Name z.2.2.2.1.1 pf) z.2.2.2.1.2 [] p1) p2' :: z.2.2.2.2.1) [] p3', z.2.2.2.2.2]) h fun t h => thnC h fun n hn h => thnC h fun c hc h => ?_
      obtain ⟨py, e4⟩ := nameOf_inv hn
      obtain ⟨pf, p1, e5⟩ := callN_inv hc
      have e5 : v = .Call (.Name c.1 pf) c.2 [] p1 := e5
      rw [e4, e5, ← Option.some.inj h]
      exact ⟨px, py, pf, p1, p2, p3, rfl⟩
noncomputable def poolOf (b : List Stmt) : Option (List Stmt × List Expr) := thn b.getLast? fun s => thn (retOf s) fun e => thn (listOf e) fun es => some (b.dropLast, es)
theorem poolOf_inv {b : List Stmt} {z : List Stmt × List Expr} (h : poolOf b = some z) : ∃ lp pos, b = z.1 ++ [.Return (some (.List z.2 lp)) pos] :=
  thnC h fun s hs h => thnC h fun e he h => thnC h fun es hl h => by
    obtain ⟨pos, e1⟩ := retOf_inv he
    obtain ⟨lp, e2⟩ := listOf_inv hl
    have hne : b ≠ [] := fun q => by rw [q] at hs; cases hs
    rw [List.getLast?_eq_some_getLast hne] at hs
    rw [← Option.some.inj h]
    exact ⟨lp, pos, (List.dropLast_concat_getLast hne).symm.trans (by rw [Option.some.inj hs, e1, e2])⟩
noncomputable abbrev gL : Gm := gmOf (fT 58).scope
noncomputable abbrev gP : Gm := gmOf (fT 39).scope
noncomputable def lawL : LoopT := (lawOf (fT 58).body).getD (Str.ofString "", .Constant .none 0 default, Str.ofString "", (Str.ofString "", []), [], .Pass default)
noncomputable def poolL : List Stmt × List Expr := (poolOf (fT 39).body).getD ([], [])
theorem lawL_at : lawOf (fT 58).body = some lawL := opt_get (by kernel_rfl)
theorem poolL_at : poolOf (fT 39).body = some poolL := opt_get (by kernel_rfl)
theorem lawL_names : lawL.1 = Str.ofString "k" ∧ lawL.2.2.1 = Str.ofString "source" ∧ lawL.2.2.2.1.1 = Str.ofString "_law_pool" := ⟨by kernel_rfl, by kernel_rfl, by kernel_rfl⟩
theorem lawL_it : comp gL fuel false lawL.2.1 = some k_law_it := by kernel_rfl
theorem lawL_args : mapO (comp gL fuel false) lawL.2.2.2.1.2 = some [.var 0, .var 1] := by kernel_rfl
theorem lawL_rest : cSs gL 50 lawL.2.2.2.2.1 = k_law_t := by kernel_rfl
theorem lawL_ret : cSs gL 50 [lawL.2.2.2.2.2] = .cons (.ret (.cst (.bool true))) .nil := by kernel_rfl
theorem lawL_vars : gL.vars = [(Str.ofString "script", .loc), (Str.ofString "k", .loc), (Str.ofString "source", .cell), (Str.ofString "values", .loc), (Str.ofString "value", .loc)] := by kernel_rfl
theorem lawL_glob : gL.glob (Str.ofString "_law_pool") = true := by kernel_rfl
theorem lawL_ok2 : fnOk (fT 58) = true := by kernel_rfl
theorem lawL_start : startOk (fT 58) 1 5 = true := by kernel_rfl
theorem poolL_pre : cSs gP 50 poolL.1 = k_pool_pre := by kernel_rfl
theorem poolL_es : mapO (comp gP fuel false) poolL.2 = some [k_pool_e1, .var 4] := by kernel_rfl
theorem poolL_ok2 : fnOk (fT 39) = true := by kernel_rfl
theorem poolL_start : startOk (fT 39) 2 5 = true := by kernel_rfl
theorem pool_id : fnId (Str.ofString "_law_pool") = some 39 := by kernel_rfl
theorem law_name : fname 58 = Str.ofString "law" := by kernel_rfl
section
variable {b0 : Heap} {g : Cfg} {prog : Program} {w : World} {d : Nat} {c : Act} {call : Orc} {fa : Nat → Addr}
/-- a call of a name, whatever it leaves -/
theorem CallN_any {x : Str} {np pos : Pos} {es : List Expr} {mes : List E} {f : Value} {E : Value → Shared → Prop}
    (hcalm : ∀ s : Shared, (∀ a o, b0.get? a = some o → s.heap.get? a = some o) → Calm f s)
    (hes : All2 (fun e me => NonStar e ∧ EvC b0 g prog w d c call e me) es mes) {A : Around} {s : Shared} {pr : List Addr} {B : Bm} {ρ : List PV} {p : Pl} {rs : List PV × Pl} {Q : Value → Shared → Prop}
    (hname : ∀ {Q : Value → Shared → Prop}, Q f s → wpAny (model prog w) A (eval (.Name x np) c.env) Q E s)
    (R : RoomC d c A) (I : Inv b0 g c pr B ρ p s.heap) (ht : 1 ≤ s.toks) (q : evs call (toEs mes) ρ p = some rs)
    (hcall : ∀ vs B₁ h₁ tk, Evo g B s.heap rs.2 B₁ h₁ → RdL g B₁ vs rs.1 → 1 ≤ tk → wpE (model prog w) A (PySem.call f vs) Q E (upd s h₁ tk)) :
    wpE (model prog w) A (eval (.Call (.Name x np) es [] pos) c.env) Q E s := by
  show wpE _ A (eval (.Name x np) c.env >>= fun f => callWith pos f [] (backTo pos (starEach es c.env)) (backToKw pos (keywordEach [] c.env))) _ E s
  refine G.bind (G.any (hname ?_))
  refine G.callWith (args_plain (toEs_all hes)) (X.mono (EsC.of hes A s pos pr B ρ p _ _ R I ht q) (fun vs s' k => ?_) fun _ _ x => x.elim)
  cases k with
  | mk X rv ht1 => exact ⟨hcalm _ (I.evo X).kp.heap, hcall vs _ _ _ X rv ht1⟩
end
section
variable {b0 : Heap} {w : World} {C : Addr} {fa : Nat → Addr}
/-- the call of _law_pool gives a fresh list of two ints -/
inductive FreshPool (g : Cfg) (B : Bm) (s : Shared) (p : Pl) (a b : Int) : Value → Shared → Prop
  | mk {B2 : Bm} {h2 : Heap} {tk : Nat} {t u : Tok} (X : Evo g B s.heap p B2 h2) (ht : 1 ≤ tk) : FreshPool g B s p a b (.ref h2.objs.size) (upd s (h2.push (poolO (a, b) t u 0)) tk)
theorem start_len {f : FnT} {m v : Nat} (h : startOk f m v = true) : m = f.params.args.length := (startOk_inv h).2.1.symm
theorem pool_call {g : Cfg} {D : Nat} (W : Wd b0 g pw w fa) (H : CallOk b0 g pw w fa D (orc D)) (hf : FnAt b0 (fa 39) (fT 39)) {A : Around} {s : Shared} {B : Bm} {p p1 p2 : Pl} {xs : PV} {k : PV} {vs : List Value} {ρ1 : List PV} {a b : Int}
    (R : Room (D + 1) A) (ff : FF g B A s.heap) (K : Kp b0 g B p s.heap) (hr : RdL g B vs [xs, k]) (ht : 1 ≤ s.toks) (h1 : xSs (orc D) NQ k_pool_pre [xs, k, .unb, .unb, .unb] p = some (none, ρ1, p1))
    (h2 : evs (orc D) (.cons k_pool_e1 (.cons (.var 4) .nil)) ρ1 p1 = some ([.int a, .int b], p2)) : wpG (model pw w) A (PySem.call (.ref (fa 39)) vs) (FreshPool g B s p2 a b) s := by
  obtain ⟨lp, pos, hb⟩ := poolOf_inv poolL_at
  refine fn_enter W.lim (fnOk_inv poolL_ok2) hf R ff K hr ht (start_len poolL_start) fun env h0 tk L R' I ht' keep _ => ?_
  rw [start_eq poolL_start rfl] at I
  rw [hb, execs_app]
  have S := (cS_snd (N := NQ) (c := callAct (fT 39) env s.heap L) W H (fun _ _ _ e => orc_takes e) (Γ := gP) rfl rfl 50).2 poolL.1
  rw [poolL_pre] at S
  refine G.bind (G.mono (S (A.deeper env) (upd s h0 tk) _ B _ p _ R' I ht' h1) fun fl s'' k => ?_)
  cases k with
  | mk Y I' ht2 hfl =>
    rename_i pr' B' h' tk2
    have hfl : fl = .next := hfl
    rw [hfl]
    show wpG _ _ (execs [_] env) _ _
    rw [execs_cons]
    have hes : All2 (fun e me => NonStar e ∧ EvC b0 g pw w D (callAct (fT 39) env s.heap L) (orc D) e me) poolL.2 [k_pool_e1, .var 4] :=
      All2.of_mapO poolL_es fun e me _ q => ⟨(comp_E q).star, (comp_snd W H (fun _ _ _ e => orc_takes e) fuel gP _ false e me q rfl rfl).1 rfl⟩
    have h2 : evs (orc D) (toEs [k_pool_e1, .var 4]) ρ1 p1 = some ([.int a, .int b], p2) := h2
    have hl : [PV.int a, PV.int b].length ≤ lim := Nat.le_of_ble_eq_true rfl
    have ret := Return_list (s := upd s h' tk2) (lp := lp) (pos := pos) (EsC.of hes) R' I' ht2 hl h2
    refine G.bind (G.mono ret fun fl s3 ⟨vs', h3, tk3, B3, e1, e2, X3, rv, ht3⟩ => ?_)
    rw [e1, e2]
    obtain ⟨v1, v2, e3, r1, r2⟩ := rv.two
    obtain ⟨t, e4⟩ := r1.int_inv
    obtain ⟨u, e5⟩ := r2.int_inv
    rw [e3, e4, e5]
    exact G.pure (.mk (s := s) (((Evo.grow K.keep K.pool keep).strans Y (fun a m => (I.prv a m).1) I'.keep I'.pool).trans X3) ht3)
end
section
variable {b0 : Heap} {w : World} {C : Addr} {fa : Nat → Addr}
/-- one turn of the law's loop -/
theorem turn_snd {D : Nat} (W : ∀ P, Wd b0 ⟨P, C⟩ pw w fa) (H : ∀ P d, CallOk b0 ⟨P, C⟩ pw w fa d (orc d)) (hf : FnAt b0 (fa 39) (fT 39)) {c : Act} (hn : c.names = gL.names) (hv : c.vars = gL.vars) {px py pf p1 p2 : Pos} :
    SsB b0 ⟨Option.none, C⟩ pw w (D + 1) c (.Assign [.Name lawL.2.2.1 py] (.Call (.Name lawL.2.2.2.1.1 pf) lawL.2.2.2.1.2 [] p1) p2 :: lawL.2.2.2.2.1) (turnL D) := fun A s pr B ρ p z R I ht qq => by
  obtain ⟨ρ', t, e⟩ := turnL_inv qq
  rw [← e]
  clear e qq
  cases t with
  | mk e1 e2 e3 n =>
  rename_i xs k z2 z3 z4 y3 y4 ρ1 q1 q2 q a b
  rw [execs_cons, lawL_names.2.1, lawL_names.2.2, exec_Assign_Name _ _ _ _ _ rfl]
  have hes : All2 (fun e me => NonStar e ∧ EvC b0 ⟨Option.none, C⟩ pw w (D + 1) c (orc (D + 1)) e me) lawL.2.2.2.1.2 [.var 0, .var 1] :=
    All2.of_mapO lawL_args fun e me _ q => ⟨(comp_E q).star, (comp_snd (W Option.none) (H Option.none (D + 1)) (fun _ _ _ e => orc_takes e) fuel gL c false e me q hn hv).1 rfl⟩
  obtain ⟨mg, mb, WN⟩ := (W Option.none).ns
  obtain ⟨hx, hd⟩ := Gm.glob_inv lawL_glob
  have qv : evs (orc (D + 1)) (toEs [.var 0, .var 1]) [.list xs, .int k, z2, z3, z4] p = some ([.list xs, .int k], p) := rfl
  have hcall := CallN_any (pos := p1) (np := pf) (f := .ref (fa 39)) (E := No) (fun s h => (W Option.none).calm 39 s h) hes (glob_eval I WN.hg (hn ▸ hx) hd (WN.fn _ 39 pool_id)) (A := A) R I ht qv
    (Q := FreshPool ⟨Option.none, C⟩ B s q2 a b) fun vs B₁ h₁ tk X rv ht1 => by
      refine G.mono (pool_call (W Option.none) (H Option.none D) hf R.toRoom ((I.evo X).ff R) (I.evo X).kp rv ht1 e1 e2) fun v s' k => ?_
      cases k with
      | mk X2 ht2 => exact .mk (s := s) (X.trans X2) ht2
  refine G.bind (g_stand (G.bind (G.mono hcall fun v s1 k => ?_)))
  cases k with
  | mk X ht2 =>
  rename_i B2 h2 tk2 t u
  have I2 := I.evo X
  have gs := Heap.get_size h2
  have I3 := I2.evo (Evo.grow I2.keep I2.pool (Grow.push h2 (poolO (a, b) t u 0)))
  have hP : (h2.push (poolO (a, b) t u 0)).get? h2.objs.size = some (poolO (a, b) t u 0) := Heap.get?_push_size _ rfl
  obtain ⟨h0, hB, _, hpr⟩ := fresh_inv I2
  have hsN : s.heap.get? h2.objs.size = none := X.gone gs
  generalize h2.objs.size = P at *
  have I4 := I3.toPool hP hB hpr h0
  have hj : c.vars[2]? = some (Str.ofString "source", .cell) := by rw [hv, lawL_vars]; rfl
  refine g_stand (G.bind (G.store (s := upd s (h2.push (poolO (a, b) t u 0)) tk2) I4 ht2 hj (fun q => nomatch q) (Rd.pool rfl) fun h5 tk5 ht5 I5 Y5 => G.pure ?_))
  have S := (cS_snd (N := NQ) (c := c) (W (some P)) (H (some P) (D + 1)) (fun _ _ _ e => orc_takes e) (Γ := gL) hn hv 50).2 lawL.2.2.2.2.1
  rw [lawL_rest] at S
  refine G.mono (S A (upd s h5 tk5) pr B2 _ (a, b) _ R I5 ht5 e3) fun fl s6 k => ?_
  cases k with
  | mk Y6 I6 ht6 hfl =>
  have hfl : fl = .next := hfl
  rw [hfl]
  obtain ⟨B7, sb, nw, I7⟩ := I6.dropPool hj rfl (fun i z hi e => (by
      match i, e with
      | 0, e => cases e; exact n _ List.mem_cons_self
      | 1, e => cases e; exact PF.int _
      | 2, e => exact absurd rfl hi
      | 3, e => cases e; exact n _ (List.mem_cons_of_mem _ List.mem_cons_self)
      | 4, e => cases e; exact n _ (List.mem_cons_of_mem _ (List.mem_cons_of_mem _ List.mem_cons_self))
      | i + 5, e => cases e)) h0 p
  have X' : SEvo ⟨some P, C⟩ pr B s.heap pr B2 (h2.push (poolO (a, b) t u 0)) :=
    ⟨X.mono, fun a o e => (X.new a o e).elim .inl fun z => .inr (.inl z), fun a o e _ _ => (X.old a o e (fun z => nomatch z)).map fun o' e' => Heap.get?_push_of_some _ e', fun a o e => let ⟨o', e'⟩ := X.there a o e; ⟨o', Heap.get?_push_of_some _ e'⟩, fun _ m => .inl m⟩
  have T := X'.trans (Y5.trans Y6)
  exact OkS.next (s := s) ⟨fun a o e => sb a o (T.mono a o e), fun a o e => (nw a o e).elim (T.new a o) fun q => .inr (.inl (q ▸ hsN)), fun a o e n _ => T.old a o e n (fun z => by cases z; rw [hsN] at e; cases e), T.there, T.prn⟩ I7 ht6
end
theorem law_at {w : World} {s : Shared} (Y : Gd w s) {k : Nat} (hk : k < 59) (h0 : k ≠ 0) (h1 : k ≠ 1) : FnAt s.heap (faOf s.heap k) (fT k) := by
  have r := List.all_eq_true.mp fns63 k (List.mem_range.mpr hk)
  simp only [Bool.or_eq_true, beq_iff_eq] at r
  rcases r with (r | r) | r
  · exact absurd r h0
  · exact absurd r h1
  · exact fn_there Y.names r hk h1
noncomputable def SpecT : Prop := ∀ (w : World) (s : Shared) (g : Cfg), Gd w s → g.C = kPart s.heap → SpecOk s.heap g w (faOf s.heap)
theorem room_caller : Room 11 callerA := ⟨rfl, rfl, by decide +kernel, by decide +kernel⟩
/-- the law ends and gives True -/
theorem main_of (hS : SpecT) : MainT := by
  intro w s s₁ l f vals xs Y hk ht hl hlen hint h63 hf
  have e58 := glob_ref Y.names (k := 58) (by decide) (by decide)
  rw [law_name, hf] at e58
  cases e58
  have W : ∀ P, Wd s.heap ⟨P, kPart s.heap⟩ pw w (faOf s.heap) := fun P => wd Y rfl
  have H : ∀ P d, CallOk s.heap ⟨P, kPart s.heap⟩ pw w (faOf s.heap) d (orc d) := fun P =>
    call_ok (W P) (fun k hk => fn_tab Y.names hk) (takes_there Y.cls) (part_ok Y rfl) (hS w s _ Y rfl)
  have K : Kp s.heap ⟨Option.none, kPart s.heap⟩ (fun a => s₁.heap.get? a) (0, 0) s₁.heap := ⟨hk, fun _ _ e => e, (fun _ e => nomatch e), (fun _ e => nomatch e)⟩
  have hr : RdL ⟨Option.none, kPart s.heap⟩ (fun a => s₁.heap.get? a) [.ref l] [.list (xs.map .int)] := by
    refine RdL.cons (Rd.list hl (by rw [List.length_map]; exact hlen) fun i v x e1 e2 => ?_) RdL.nil
    rw [List.getElem?_map] at e2
    obtain ⟨z, ez, rfl⟩ := Option.map_eq_some_iff.mp e2
    obtain ⟨t, rfl⟩ := hint i v z e1 ez
    exact .int _ _
  refine fn_enter (W Option.none).lim (fnOk_inv lawL_ok2) (law_at Y (by decide) (by decide) (by decide)) (d := 10) room_caller ⟨[], rfl, fun _ m => nomatch m⟩ K hr ht (start_len lawL_start) fun env h0 tk L R I ht' keep _ => ?_
  rw [start_eq lawL_start rfl] at I
  obtain ⟨px, py, pf, p1, p2, p3, hb⟩ := lawOf_inv lawL_at
  rw [hb, execs_cons]
  obtain ⟨n, hn3, ei, eu⟩ := law_it (orc 10) (0, 0) h63 [.unb, .unb, .unb, .unb]
  obtain ⟨ρ', e5⟩ := cells_run h63 (0, 0) n 0 .unb .unb .unb .unb (by rw [Nat.zero_add]; exact hn3)
  have hk1 : (callAct (fT 58) env s₁.heap L).vars[1]? = some (lawL.1, .loc) := by
    show gL.vars[1]? = _
    rw [lawL_vars, lawL_names.1]; rfl
  have T := turn_snd (D := 9) (px := px) (py := py) (pf := pf) (p1 := p1) (p2 := p2) W H (law_at Y (by decide) (by decide) (by decide)) (c := callAct (fT 58) env s₁.heap L) rfl rfl
  refine G.bind (G.mono (For_pre (fz := false) (l := []) (target := .Name lawL.1 px) (upd' := fun x ρ => some (ρ.set 1 x)) (comp_E lawL_it).set ((comp_snd (W Option.none) (H Option.none 10) (fun _ _ _ e => orc_takes e) fuel gL _ false _ _ lawL_it rfl rfl).1 rfl) GoC.name (fun A s pr B ρ p y ρ1 v hh I ht r e => Option.some.inj e ▸ SetC.name ⟨lawL.1, px, .loc, rfl, hk1, fun q => nomatch q⟩ A s pr B ρ p y v I ht r) T (fun x ρ p r e => ⟨_, rfl, e⟩) R I ht' ei eu e5) fun fl s2 k => ?_)
  cases k with
  | mk Y2 I2 ht2 hfl =>
  rename_i pr2 B2 h2 tk2
  have hfl : fl = .next := hfl
  rw [hfl]
  have S := (cS_snd (N := NQ) (c := callAct (fT 58) env s₁.heap L) (W Option.none) (H Option.none 10) (fun _ _ _ e => orc_takes e) (Γ := gL) rfl rfl 50).2 [lawL.2.2.2.2.2]
  rw [lawL_ret] at S
  refine G.mono (S _ (upd s₁ h2 tk2) pr2 B2 ρ' (0, 0) (some (.bool true), ρ', (0, 0)) R I2 ht2 rfl) fun fl s3 k => ?_
  cases k with
  | mk Y3 I3 ht3 hu =>
  obtain ⟨u, hu, ru⟩ := hu
  rw [hu]
  exact ⟨ru.bool_inv, fun b o e => I3.keep b o (Y3.mono b o (Y2.mono b o e)), rfl, rfl⟩
/-- the objects that stay to the sign -/
noncomputable def BS (base : Heap) (B : Bm) (h : Heap) : Prop := ∀ a o, base.get? a = some o → h.get? a = some o ∧ (B a = some o ∨ ∀ es n, o.data ≠ .dict es n)
/-- dicts stay but for their slots -/
noncomputable def DS (h h' : Heap) : Prop := ∀ a o, h.get? a = some o → (∃ es n, o.data = .dict es n) → Same h' a o
theorem DS.trans {h h' h'' : Heap} (x : DS h h') (y : DS h' h'') : DS h h'' := fun a o e hd => by
  obtain ⟨o1, e1, d1⟩ := (x a o e hd).ex
  exact (x a o e hd).trans fun o' e' => y a o' e' (by rw [e1] at e'; cases e'; rw [d1]; exact hd)
theorem DS.keep {h h' : Heap} (k : ∀ a o, h.get? a = some o → h'.get? a = some o) : DS h h' := fun a o e _ => .inl (k a o e)
theorem DS.up {h h' : Heap} (k : h.UpToSlots h') : DS h h' := fun a o e ⟨es, n, hd⟩ =>
  let ⟨sl, e'⟩ := k a o e fun vs q => by rw [hd] at q; cases q
  .inr ⟨⟨es, n, hd⟩, sl, e'⟩
theorem BS.evo {g : Cfg} (hg : g.P = none) {base : Heap} {B B' : Bm} {h h' : Heap} {p' : Pl} (x : BS base B h) (y : Evo g B h p' B' h') : BS base B' h' := fun a o e => by
  obtain ⟨e1, e2⟩ := x a o e
  rcases e2 with e2 | e2
  · exact ⟨y.keep a o (y.mono a o e2), .inl (y.mono a o e2)⟩
  · exact ⟨(y.old a o e1 (by rw [hg]; intro z; cases z)).exact e2, .inr e2⟩
section
variable {b0 : Heap} {g : Cfg} {c : Act} {pr : List Addr} {B B0 : Bm} {ρ : List PV} {p : Pl} {h base : Heap} {l : List Env}
theorem BS.inv (hg : g.P = none) (x : BS base B0 c.h0) (I : Inv b0 g c pr B ρ p h) (sb : Sub B0 B) : BS base B h := fun a o e => by
  obtain ⟨e1, e2⟩ := x a o e
  rcases e2 with e2 | e2
  · exact ⟨I.keep a o (sb a o e2), .inl (sb a o e2)⟩
  · exact ⟨(I.old a o e1 (by rw [hg]; intro z; cases z)).exact e2, .inr e2⟩
theorem DS.inv (hg : g.P = none) (I : Inv b0 g c pr B ρ p h) : DS c.h0 h := fun a o e _ => I.old a o e (by rw [hg]; intro z; cases z)
theorem DS.evo {B' : Bm} {h' : Heap} {p' : Pl} (hg : g.P = none) (y : Evo g B h p' B' h') : DS h h' := fun a o e _ => y.old a o e (by rw [hg]; intro z; cases z)
/-- the frames around an activation -/
structure Fx (base : Heap) (l : List Env) (c : Act) (B0 : Bm) : Prop where
  kind : c.env.scope.kind ≠ .module
  frame : c.env.frame = some c.env.locals
  loc : base.get? c.env.locals = none
  outer : ∀ env ∈ l, env.scope.kind ≠ .module ∧ ∃ L ∈ c.F, env.frame = some L ∧ base.get? L = none
  bs : BS base B0 c.h0
theorem Fx.frames (F : Fx base l c B0) (I : Inv b0 g c pr B ρ p h) : h.FunFrames base (c.env :: l) := by
  have one : ∀ L ∈ c.env.locals :: c.F, ∃ o, h.get? L = some o ∧ ∀ vs, o.data ≠ .fields vs := fun L m => by
    obtain ⟨⟨o, es, n, h1, h2⟩, _⟩ := I.frs L m
    exact ⟨o, h1, fun vs q => by rw [h2] at q; cases q⟩
  obtain ⟨o, h1, h2⟩ := one _ List.mem_cons_self
  refine ⟨F.kind, ⟨_, o, F.frame, F.loc, h1, h2⟩, ?_⟩
  have key : ∀ l' : List Env, (∀ env ∈ l', env ∈ l) → h.FunFrames base l' := fun l' => by
    induction l' with
    | nil => intro _; trivial
    | cons env r ih =>
      intro hm
      obtain ⟨k, L, mL, hf, hb⟩ := F.outer env (hm env List.mem_cons_self)
      obtain ⟨o, h1, h2⟩ := one L (List.mem_cons_of_mem _ mL)
      exact ⟨k, ⟨L, o, hf, hb, h1, h2⟩, ih fun e m => hm e (List.mem_cons_of_mem _ m)⟩
  exact key l fun _ m => m
/-- an exception on its way, ahead of leaving -/
noncomputable def Exn (base : Heap) (l : List Env) (S e : Addr) (h : Heap) : Prop := (∃ oe vs a0, h.get? e = some oe ∧ oe.cls = .ref S ∧ oe.data = .fields vs ∧ vs[1]? = some .none ∧ vs[0]? = some a0 ∧ base.StaysIn h ∧ base.get? e = none ∧ h.FunFrames base l) ∨ ∃ a0, Heap.FlyingW base l e (.ref S) a0 h
inductive ExnP (base : Heap) (l : List Env) (S : Addr) (h0 : Heap) (s : Shared) : Value → Shared → Prop
  | mk {e : Addr} {h' : Heap} {tk : Nat} (d : DS h0 h') (x : Exn base l S e h') : ExnP base l S h0 s (.ref e) (upd s h' tk)
inductive FlyP (base : Heap) (l : List Env) (S : Addr) (h0 : Heap) (s : Shared) : Value → Shared → Prop
  | mk {e : Addr} {h' : Heap} {tk : Nat} {a0 : Value} (d : DS h0 h') (x : Heap.FlyingW base l e (.ref S) a0 h') : FlyP base l S h0 s (.ref e) (upd s h' tk)
theorem leave_exn {M : Model} {A : Around} {s : Shared} {env : Env} {l : List Env} {L S e : Addr} {E : Value → Shared → Prop} {Q : Unit → Shared → Prop} (hfr : A.frames = some (env :: l)) (hf : env.frame = some L) (x : Exn base (env :: l) S e s.heap)
    (hQ : ∀ h' a0, Heap.FlyingW base l e (.ref S) a0 h' → DS s.heap h' → Q () { s with heap := h' }) : wpAny M A (leaving env (.ref e)) Q E s := by
  rcases x with ⟨oe, vs, a0, he, hc, hd, h1, h0, hb, hn, hl⟩ | ⟨a0, hfl⟩
  · refine wpAny_leaving_firstW hfr hl hf he hb hn hd h1 h0 fun h' ⟨k1, ⟨_, _, k2⟩, k3, k4⟩ => ?_
    rw [hc] at k3
    exact hQ h' a0 ⟨k1, hn, k2, k3⟩ (DS.up k4)
  · exact wpAny_leaves_onW hfr hf hfl fun h' k u => hQ h' a0 k (DS.up u)
end
section
variable {b0 : Heap} {g : Cfg} {prog : Program} {w : World} {d : Nat} {c : Act} {base : Heap} {l : List Env} {S : Addr}
/-- entering a function that may raise -/
theorem fn_enterE (lim : b0.NoLimit) (hg : g.P = none) {f : FnT} (F : FnK f) {a : Addr} (hf : FnAt b0 a f)
    {A : Around} {s : Shared} {B : Bm} {p : Pl} {xs : List PV} {vs : List Value} (R : Room (d + 1) A) (hl : A.frames = some l) (ff : FF g B A s.heap) (bs : BS base B s.heap) (hb : ∀ env ∈ l, ∀ L, env.frame = some L → base.get? L = none)
    (K : Kp b0 g B p s.heap) (hr : RdL g B vs xs) (ht : 1 ≤ s.toks) (hlen : xs.length = f.params.args.length) {Q : Value → Shared → Prop} {E : Value → Shared → Prop}
    (hQ : ∀ env h0 tk L pr, RoomC d (callAct f env s.heap L) (A.deeper env) → (A.deeper env).frames = some (env :: l) → Inv b0 g (callAct f env s.heap L) pr B (startOf (gmOf f.scope).vars (f.params.args.map (·.arg)) xs) p h0 → 1 ≤ tk →
      Fx base l (callAct f env s.heap L) B → (∀ a o, s.heap.get? a = some o → h0.get? a = some o) →
      wpE (model prog w) (A.deeper env) (execs f.body env) (fun fl s' => Q (flowVal fl) s') (fun e s' => wpE (model prog w) (A.deeper env) (leaving env e) (fun _ s'' => E e s'') (fun e' s'' => E e' s'') s') (upd s h0 tk)) :
    wpE (model prog w) A (PySem.call (.ref a) vs) Q E s :=
  fn_go lim F hf R ff K hr ht hlen fun env h0 tk l' hl' R' I ht' keep hce hes hef => by
    rw [hl] at hl'
    rw [← Option.some.inj hl'] at R' I
    obtain ⟨l2, hl2, hlm⟩ := ff
    rw [hl] at hl2
    rw [← Option.some.inj hl2] at hlm
    have hloc : base.get? env.locals = none := by
      cases q : base.get? env.locals with
      | none => rfl
      | some ob => exact nomatch (I.prv _ I.Lpr).1.symm.trans (bs _ _ q).1
    exact hQ env h0 tk _ _ R' (Around.frames_deeper hl) I ht' ⟨fun z => (by have z : env.scope.kind = _ := z; rw [hes, F.kind] at z; cases z), hef, hloc, fun e m => (by
      obtain ⟨k, L, o, es, n, q1, _⟩ := hlm e m
      exact ⟨k, L, List.mem_filterMap.mpr ⟨e, m, q1⟩, q1, hb e m L q1⟩), bs⟩ keep
/-- a function that raises -/
theorem fn_raise (lim : b0.NoLimit) (hg : g.P = none) {f : FnT} (F : FnK f) {a : Addr} (hf : FnAt b0 a f)
    {A : Around} {s : Shared} {B : Bm} {p : Pl} {xs : List PV} {vs : List Value} (R : Room (d + 1) A) (hl : A.frames = some l) (ff : FF g B A s.heap) (bs : BS base B s.heap) (hb : ∀ env ∈ l, ∀ L, env.frame = some L → base.get? L = none)
    (K : Kp b0 g B p s.heap) (hr : RdL g B vs xs) (ht : 1 ≤ s.toks) (hlen : xs.length = f.params.args.length)
    (hQ : ∀ env h0 tk L pr, RoomC d (callAct f env s.heap L) (A.deeper env) → (A.deeper env).frames = some (env :: l) → Inv b0 g (callAct f env s.heap L) pr B (startOf (gmOf f.scope).vars (f.params.args.map (·.arg)) xs) p h0 → 1 ≤ tk →
      Fx base l (callAct f env s.heap L) B → wpE (model prog w) (A.deeper env) (execs f.body env) No (ExnP base (env :: l) S s.heap (upd s h0 tk)) (upd s h0 tk)) :
    wpE (model prog w) A (PySem.call (.ref a) vs) No (FlyP base l S s.heap s) s := by
  refine fn_enterE lim hg F hf R hl ff bs hb K hr ht hlen fun env h0 tk L pr R' hfr I ht' Fx' _ => X.mono (hQ env h0 tk L pr R' hfr I ht' Fx') (fun _ _ x => x.elim) fun ev s'' k => ?_
  cases k with
  | mk q3 q4 => exact G.any (leave_exn hfr Fx'.frame q4 fun h3 a0 q5 q6 => .mk (s := s) (q3.trans q6) q5)
end
noncomputable abbrev excMro (P : Addr) : List Value := [.ref P, .type "Exception", .type "BaseException", .type "object"]
noncomputable abbrev excObj (t : Addr) (S : Addr) : Obj := { cls := .ref S, data := .fields #[.ref t, .none, .none, .none, .bool false, .none] }
structure ExcK (K : Frag) (S P : Addr) : Prop where
  obj : ∃ nm q N bs sn sub col dd k0 k1 k2 k3 k5, K.lookup S = some (excClassObj nm q S N bs (excMro P) true sn sub false col dd k0 k1 k2 k3 k5 "Exception.__new__")
  call : specialIn K (.ref S) "__call__" = some (some (.builtin "type.__call__"))
  set : findIn K (.ref S) "__setattr__" = some (some (.builtin "object.__setattr__"))
  tk : takerIn K S "message" = some none
theorem six {α : Type} {a : Array α} (h : a.size = 6) : ∃ x0 x1 x2 x3 x4 x5, a = #[x0, x1, x2, x3, x4, x5] := by
  obtain ⟨l⟩ := a
  match l, h with
  | [x0, x1, x2, x3, x4, x5], _ => exact ⟨_, _, _, _, _, _, rfl⟩
theorem exc_k {K : Frag} {S P : Addr} (h : excOk K S P = true) : ExcK K S P := by
  unfold excOk at h
  simp only [Bool.and_eq_true, beq_iff_eq] at h
  obtain ⟨⟨⟨⟨h1, h2⟩, h3⟩, h4⟩, h5⟩ := h
  refine ⟨?_, h3, h4, h5⟩
  unfold clsIn at h1
  cases q : K.lookup S with
  | none => rw [q] at h2; cases h2
  | some o =>
    rw [q] at h1 h2
    obtain ⟨oc, od, oda, osl⟩ := o
    cases oda with
    | cls cd =>
      obtain ⟨nm, bs, mro, N, qn, hdct, sn, sub, ab, col, hdel⟩ := cd
      simp only [Option.any_some, Bool.and_eq_true, Bool.not_eq_true', beq_iff_eq] at h1 h2
      obtain ⟨⟨⟨e1, e2⟩, e3⟩, e4⟩ := h1
      obtain ⟨⟨f1, f2⟩, f3⟩ := h2
      obtain ⟨x0, x1, x2, x3, x4, x5, rfl⟩ := six f1
      have f2 : x4 = some (.builtin "Exception.__new__") := by
        cases x4 with
        | none => cases f2
        | some v => exact f2
      subst e1 e2 e3 e4 f2 f3
      exact ⟨nm, qn, N, bs, sn, sub, col, od, x0, x1, x2, x3, x5, rfl⟩
    | _ => cases h1
section
variable {prog : Program} {w : World} {A : Around} {E : Value → Shared → Prop} {h : Heap} {g : Array GenState} {d : Drawn} {t : Nat} {os : OsState} {K : Frag} {S P : Addr} {R : Result → Shared → Prop}
variable {nm q : Str} {N : Addr} {bs : List Value} {sn : List Str} {sub : List Value} {col : Option Bool} {dd : Option Addr} {k0 k1 k2 k3 k5 : Option Value}
noncomputable abbrev F0 := PySem.F.excBase_Exception
theorem check_new {M : Model} {rest : List Value} {Q : Unit → Shared → Prop} (hC : h.get? S = some (excClassObj nm q S N bs (excMro P) true sn sub false col dd k0 k1 k2 k3 k5 "Exception.__new__")) (hq : Q () ⟨h, g, d, t, os⟩) :
    wpAny M A (checkBuiltinCall "Exception.__new__" ⟨.ref S :: rest, []⟩) Q E ⟨h, g, d, t, os⟩ := by
  have hstar := F0.noStar
  have hcont : (Value.ref S :: excMro P).contains (.type "Exception") = true := by rfl
  simp only [checkBuiltinCall, F0.newKind, F0.newSplit, F0.newRow]
  repeat (first | refine wpAny_loadPart_at hC ?_ | (refine wpAny_isSubtype_exc hC ?_; rw [hcont]) | refine wpAny_staticBase_exc hC ?_ | refine wpAny_madeBy_exc hC ?_ | simp only [bne_self_eq_false, Bool.false_eq_true, if_false] | wp_step)
  exact hq
theorem code_new {rest : List Value} (hC : h.get? S = some (excClassObj nm q S N bs (excMro P) true sn sub false col dd k0 k1 k2 k3 k5 "Exception.__new__"))
    (hq : R (.ok (.ret (.ref (h.objs.size + 1)))) ⟨(h.push { cls := .type "tuple", data := .seq rest.toArray }).push (excObj h.objs.size S), g, d, t, os⟩) (hrest : rest.length ≤ sizeLine) :
    codeAny (model prog w) A (.builtin "Exception.__new__" ⟨.ref S :: rest, []⟩) R ⟨h, g, d, t, os⟩ := by
  have hends := F0.ends
  have hcB : (Value.ref S :: excMro P).contains (.type "Exception") = true := by rfl
  have hcA : (Value.ref S :: excMro P).contains (.type "AttributeError") = false := by rfl
  have hcN : (Value.ref S :: excMro P).contains (.type "NameError") = false := by rfl
  refine codeAny_builtinAt F0.entry ?_
  unfold Builtin.«BaseException.__new__»
  refine PySem.wpAt_bind ?_
  show PySem.wpAt _ _ _ (stack >>= _) _ _ _
  refine PySem.wpAt_bind (PySem.wpAt_stack fun p below => PySem.wpAt_of_wpAny ?_)
  wp_walk
  refine PySem.wpAt_of_wpAny ?_
  rw [F0.owner]
  repeat (first | with_reducible refine wpAny_madeHere_exc F0.canon hC ?_ | with_reducible refine wpAny_loadPart_at hC ?_ | (with_reducible refine wpAny_isSubtype_exc hC ?_; first | rw [hcB] | rw [hcA] | rw [hcN]) | wp_step)
  show R _ _
  rw [Heap.size_push]
  exact hq
end
noncomputable abbrev excObj2 (t : Addr) (S dx : Addr) : Obj := { cls := .ref S, dict := some dx, data := .fields #[.ref t, .none, .none, .none, .bool false, .none] }
section
variable {prog : Program} {w : World} {A : Around} {E : Value → Shared → Prop} {s : Shared} {K : Frag} {S P : Addr} {R : Result → Shared → Prop}
theorem ExcK.clsIn (EK : ExcK K S P) : ∃ cd, W.clsIn K S = some cd ∧ cd.mro = .ref S :: excMro P ∧ cd.hasDict = true ∧ cd.hasDel = false := by
  obtain ⟨nm, q, N, bs, sn, sub, col, dd, k0, k1, k2, k3, k5, ho⟩ := EK.obj
  exact ⟨_, by unfold W.clsIn; rw [ho], rfl, rfl, rfl⟩
theorem exc_store0 (X : K.In s.heap) (EK : ExcK K S P) {e t : Addr} (he : s.heap.get? e = some (excObj t S)) {v : Value} {tk : Tok}
    (hQ : ∀ h' dx tk, (∀ b o, b ≠ e → s.heap.get? b = some o → h'.get? b = some o) → h'.get? e = some (excObj2 t S dx) → R (.ok (.ret .none)) { s with heap := h', toks := tk }) :
    codeAny (model prog w) A (.call (.builtin "object.__setattr__") ⟨[.ref e, .str "message" tk, v], []⟩) R s := by
  have I : InstAt s.heap e (excObj t S) S none := ⟨he, rfl, rfl, trivial⟩
  obtain ⟨cd, hc, hmro, hdict, _⟩ := EK.clsIn
  have SF := PySem.F.store_Exception
  have hm : Looks (model prog w) s.heap (mroOf (.ref S)) cd.mro := (looks_clsIn X hc).andThen .now
  have sub : Looks (model prog w) s.heap (isInstance (.ref e) (.type "object")) true := I.type.andThen (looks_mroIn X (by unfold mroIn; rw [hc, Option.bind_some, hmro]; rfl))
  refine codeAny_call_builtin SF.slot.plain SF.entry (@check_slot (model prog w) _ _ s "object.__setattr__" "object" "__setattr__" (.ref e) [.str "message" tk, v] [] _ SF.kind SF.split sub (SF.args (.ref e) (.str "message" tk) v) ?_)
  obtain ⟨attr, ha, hr⟩ := Option.bind_eq_some_iff.mp EK.tk
  have L3 : Looks (model prog w) s.heap (Builtin.ObjectAttr.storeTaker? attr) none := by
    cases attr with
    | none => exact .now
    | some a =>
      obtain ⟨b, hb, hb2⟩ := Option.map_eq_some_iff.mp hr
      refine (looks_takesIn X hb).andThen ?_
      cases b
      · exact .now
      · cases hb2
  rw [osa_eq, refuse_eq]
  refine wpAny_bind (wpAny_bind (I.type.here (wpAny_bind (hm.here ?_))))
  rw [hmro, refuseLoop_ref, refuseLoop_ref, SF.passes]
  refine wpAny_pure (wpAny_bind (I.type.here (wpAny_bind ((looks_findIn X ha).here (wpAny_bind (L3.here ?_))))))
  dsimp only
  refine wpAny_bind (wpAny_pure (wpAny_bind (wpAny_bind (wpAny_loadPart he (wpAny_bind ((looks_clsIn X hc).here ?_))))))
  rw [hdict]
  have hes : e ≠ s.heap.objs.size := Nat.ne_of_lt (Heap.lt_size he)
  have he1 : (s.heap.push { cls := .type "dict", data := .dict #[] }).get? e = some (excObj t S) := Heap.get?_push_of_some _ he
  obtain ⟨hh, gg, dd, tt, os⟩ := s
  refine wpAny_bind (wpAny_alloc' ?_)
  refine wpAny_bind (wpAny_update' he1 ?_)
  refine wpAny_pure ?_
  have hgd : ((hh.push { cls := .type "dict", data := .dict #[] }).update e fun o => { cls := o.cls, dict := some hh.objs.size, data := o.data, slots := o.slots }).get? hh.objs.size
      = some { cls := .type "dict", data := .dict #[] } := (Heap.get?_update_ne _ _ _ _ hes.symm).trans (Heap.get?_push_at rfl rfl)
  have hnd : ((hh.push { cls := .type "dict", data := .dict #[] }).update e fun o => { cls := o.cls, dict := some hh.objs.size, data := o.data, slots := o.slots }).Ns hh.objs.size (fun _ => none) :=
    ⟨_, #[], _, hgd, rfl, fun e he => absurd he (by simp), fun _ => rfl⟩
  show wpAny _ _ (Builtin.ObjectAttr.storeInDict hh.objs.size (.str "message" tk) "message" v) _ _ _
  unfold Builtin.ObjectAttr.storeInDict Builtin.ObjectAttr.newKeyGuard
  refine wpAny_bind (wpAny_pure (wpAny_bind (wpAny_nsSet1 (Heap.Ns1.of_empty hnd) fun h' hn' hs => ?_)))
  obtain ⟨oD, esD, epD, hoD, hdD, hcD⟩ := hn'.count (Within.cons "message" v Within.nil)
  refine wpAny_bind (wpAny_lookBehind hoD (by rw [hdD]; exact pastItsLine_dict (Nat.le_trans hcD (by rw [List.length_cons, List.length_nil, sizeLine_eq]; omega))) ?_)
  refine wpAny_pure ?_
  refine hQ h' hh.objs.size _ (fun b ob hb e => ?_) ?_
  · exact (hs.2 b (Nat.ne_of_lt (Heap.lt_size e))).trans ((Heap.get?_update_ne _ _ _ _ hb).trans (Heap.get?_push_of_some _ e))
  · exact (hs.2 e hes).trans (Heap.get?_update_self _ he1 rfl)
theorem exc_store (X : K.In s.heap) (EK : ExcK K S P) {e t : Addr} (he : s.heap.get? e = some (excObj t S)) {v : Value} {Q : Unit → Shared → Prop}
    (hQ : ∀ h' dx tk, (∀ b o, b ≠ e → s.heap.get? b = some o → h'.get? b = some o) → h'.get? e = some (excObj2 t S dx) → Q () { s with heap := h', toks := tk }) : wpAny (model prog w) A (setAttr (.ref e) "message" v) Q E s :=
  set_plain (od := none) X ⟨he, rfl, rfl, trivial⟩ EK.set (exc_store0 (s := { s with toks := s.toks + 1 }) X EK he hQ)
/-- what is left of a made exception -/
noncomputable def Made (S : Addr) (s : Shared) : Value → Shared → Prop := fun x s' => ∃ e t dx h' tk, x = .ref e ∧ s' = { s with heap := h', toks := tk } ∧ s.heap.get? e = none ∧ (∀ a o, s.heap.get? a = some o → h'.get? a = some o) ∧ h'.get? e = some (excObj2 t S dx)
/-- calling the class: __new__, then its own __init__ -/
theorem exc_call (X : K.In s.heap) (EK : ExcK K S P) {fI : Addr} (hi : findIn K (.ref S) "__init__" = some (some (.ref fI))) (hf : typeIn K (.ref fI) = some (.type "function")) {v : Value} {Q : Value → Shared → Prop}
    (hinit : ∀ (s1 : Shared) (e t : Addr) (A' : Around), A'.depth ≤ A.depth + 2 → (∀ a o, s.heap.get? a = some o → s1.heap.get? a = some o) → s.heap.get? e = none → s1.heap.get? e = some (excObj t S) → (∃ tk h1, s1 = { s with heap := h1, toks := tk }) →
      codeAny (model prog w) A' (.call (.ref fI) ⟨[.ref e, v], []⟩) (fun r s' => match r with | .ok (.ret u) => u = .none ∧ Q (.ref e) s' | .ok _ => False | .error x => E x s') s1) :
    wpAny (model prog w) A (call (.ref S) [v]) Q E s := by
  obtain ⟨nm, q, N, bs, sn, sub, col, dd, k0, k1, k2, k3, k5, ho⟩ := EK.obj
  have hC := X _ _ ho
  have hcall := looks_specialIn (M := model prog w) X EK.call
  obtain ⟨h, g, d, tk, os⟩ := s
  refine wpAny_call (codeAny_of_tree ?_)
  show wpAny _ _ (callAny (.ref S) _) _ _ _
  refine nd_load hC ?_
  show wpAny _ _ (callAny.viaDunder (.ref S) _) _ _ _
  unfold callAny.viaDunder
  refine wpAny_bind (hcall.at ?_)
  dsimp only
  rw [tc_bind]
  refine wpAny_bind (wpAny_pure (wpAny_bind (wpAny_pure ?_)))
  refine wpAny_pure (a := Fin.again (.call (.builtin "type.__call__") ⟨.ref S :: [v], []⟩)) (And.intro rfl ?_)
  refine codeAny_call_builtin_at (Code.quiet_builtin _ (by decide +kernel)) entry_typeCall (wpAny_check_type_call_sub hC ?_)
  repeat (first | with_reducible refine wpAny_loadPart_at hC ?_ | with_reducible refine wpAny_madeBy_exc hC ?_ | wp_step)
  refine codeAny_call_builtin_code (Code.quiet_builtin _ F0.quiet) (check_new hC ?_)
  refine code_new hC ?_ (by size_fits)
  show wpAny _ _ _ _ _ _
  have hC₁ := Heap.get?_push_of_some (excObj h.objs.size S) (Heap.get?_push_of_some { cls := .type "tuple", data := .seq [v].toArray } hC)
  have hget : ((h.push { cls := .type "tuple", data := .seq [v].toArray }).push (excObj h.objs.size S)).get? (h.objs.size + 1) = some (excObj h.objs.size S) := by heap_get
  have kk : ∀ a o, h.get? a = some o → ((h.push { cls := .type "tuple", data := .seq [v].toArray }).push (excObj h.objs.size S)).get? a = some o := fun a o e => Heap.get?_push_of_some _ (Heap.get?_push_of_some _ e)
  have hcC : (Value.ref S :: excMro P).contains (.ref S) = true := by simp
  have X1 : K.In ((h.push { cls := .type "tuple", data := .seq [v].toArray }).push (excObj h.objs.size S)) := X.keeps kk
  unfold isInstance
  repeat (first | with_reducible refine wpAny_loadPart_at hget ?_ | (with_reducible refine wpAny_isSubtype_exc hC₁ ?_; rw [hcC]) | wp_step)
  refine (looks_findIn X1 hi).here ?_
  dsimp only
  refine wpAny_holding (wpAny_bind ((bind_fn X1 _ hf).here ?_))
  dsimp only
  refine wpAny_bind (wpAny_call (codeAny_mono (hinit ⟨(h.push { cls := .type "tuple", data := .seq [v].toArray }).push (excObj h.objs.size S), g, d, tk, os⟩ (h.objs.size + 1) h.objs.size _ ?_ kk (Heap.get?_none_of_le (Nat.le_succ _)) hget ⟨_, _, rfl⟩) fun r s' z => ?_))
  · have e2 : (Code.builtin "type.__call__" ⟨[.ref S, v], []⟩).weight = 1 := by kernel_rfl
    show A.depth + (Code.builtin "type.__call__" ⟨[.ref S, v], []⟩).weight ≤ _
    rw [e2]; omega
  · cases r with
    | error x => exact z
    | ok f =>
      cases f with
      | ret u =>
        obtain ⟨rfl, z⟩ := z
        exact wpAny_pure (wpAny_pure z)
      | _ => exact z.elim
end
/-- __init__ of PagebaseError -/
noncomputable def excInitF : FnT := toF (some (fnAt "PagebaseError.__init__" excBody[0]?))
theorem eI_body : excInitF.body.map selfSt = [some (Str.ofString "message")] := by kernel_rfl
theorem eI_names : excInitF.params.args.map (·.arg) = [Str.ofString "self", Str.ofString "message"] := by kernel_rfl
theorem eI_ok : fnOk excInitF = true := by kernel_rfl
theorem eI_nocell : (excInitF.scope.names.all fun x => x.2 != .cell) = true := by kernel_rfl
theorem eI_locals : ([Str.ofString "self", Str.ofString "message"].map fun n => excInitF.scope.names.lookup n) = [some .local, some .local] := by kernel_rfl
theorem eI_isFn : isFnN (some (fnAt "PagebaseError.__init__" excBody[0]?)) = true := by kernel_rfl
section
variable {w : World} {s0 : Shared}
theorem eI_there (Y : Gd w s0) : ∃ fI, findIn (kF s0.heap) (.ref (kSql s0.heap)) "__init__" = some (some (.ref fI)) ∧ typeIn (kF s0.heap) (.ref fI) = some (.type "function") ∧ FnAt s0.heap fI excInitF := by
  obtain ⟨fI, hf, e⟩ := Option.map_eq_some_iff.mp Y.cls.exc
  obtain ⟨q1, q2⟩ := fnIn_inv hf
  have e : nv s0.heap (.ref fI) = fnAt "PagebaseError.__init__" excBody[0]? := e
  have r := eI_isFn
  rw [← e] at r
  obtain ⟨a, ha, hh⟩ := fn_at r
  cases ha
  refine ⟨fI, q1, q2, ?_⟩
  unfold excInitF
  rw [← e]
  exact hh
theorem eI_call (Y : Gd w s0) {fI : Addr} (hf : FnAt s0.heap fI excInitF) {A : Around} {s : Shared} {e t : Addr} {v : Value} {R : Result → Shared → Prop} (hroom : A.depth < recursionLimit) (hk : ∀ a o, s0.heap.get? a = some o → s.heap.get? a = some o)
    (he : s.heap.get? e = some (excObj t (kSql s0.heap)))
    (hR : ∀ h' dx tk, (∀ b o, b ≠ e → s.heap.get? b = some o → h'.get? b = some o) → h'.get? e = some (excObj2 t (kSql s0.heap) dx) → R (.ok (.ret .none)) { s with heap := h', toks := tk }) :
    codeAny (model pw w) A (.call (.ref fI) ⟨[.ref e, v], []⟩) R s := by
  have F := fnOk_inv eI_ok
  obtain ⟨o, fd, ho, hd, hpar, hbody, hsc, hgl, hclo, hbl, hcode, hdef⟩ := hf
  have hn : fd.params.args.map (·.arg) = [Str.ofString "self", Str.ofString "message"] := by rw [hpar]; exact eI_names
  have hlen : fd.params.args.length = 2 := by have := congrArg List.length hn; simpa using this
  have hb2 := bind_snd (s := s) (fd := fd) (vals := [.ref e, v]) (by rw [hpar]; exact F.po) (by rw [hpar]; exact F.ko) (by rw [hpar]; exact F.va) (by rw [hpar]; exact F.ka) (by rw [hpar]; exact F.pn) (by rw [hlen]; rfl) (fun M A E Q hQ => by
    rcases hdef with h | ⟨T, oT, items, n, h, hT, hdT⟩
    · rw [h]; exact seq_none (hQ _)
    · rw [h]; exact wpAny_seqItems (hk _ _ hT) hdT (hQ _))
  rw [hn] at hb2
  have hl : excInitF.scope.names.lookup (Str.ofString "self") = some .local ∧ excInitF.scope.names.lookup (Str.ofString "message") = some .local := by
    have := eI_locals
    simp only [List.map_cons, List.map_nil, List.cons.injEq, and_true] at this
    exact this
  refine codeAny_call_def hroom (hk _ _ ho) hd (Y.ground.T.nolimit.keeps hk) (hcode.keeps hk) hbody hb2 (fun x m => ?_) (fun x m => ?_) (fun h₀ hns hk0 => ?_) (by rw [hsc]; exact F.co) (by rw [hsc]; exact F.gen) (by rw [hsc]; exact F.kind)
  · rw [hsc] at m
    have := List.all_eq_true.mp eI_nocell x m
    simpa using this
  · rw [hsc]
    have m : x ∈ [(Str.ofString "self", Value.ref e), (Str.ofString "message", v)] := m
    rcases List.mem_cons.mp m with rfl | m
    · exact hl.1
    · rw [List.mem_singleton.mp m]; exact hl.2
  · obtain ⟨st, hb, hst⟩ : ∃ st, excInitF.body = [st] ∧ selfSt st = some (Str.ofString "message") := by
      have h := eI_body
      cases hb : excInitF.body with
      | nil => rw [hb] at h; cases h
      | cons st r =>
        rw [hb] at h
        cases r with
        | nil => exact ⟨st, rfl, by simpa using h⟩
        | cons y r => simp at h
    rw [hb]
    have ek : ∀ y, (callEnv fd s.heap.objs.size fI).kindOf y = excInitF.scope.names.lookup y := fun y => by show fd.scope.names.lookup y = _; rw [hsc]
    refine Assign_selfs (m := fun z => ([(Str.ofString "self", Value.ref e), (Str.ofString "message", v)] : List (Str × Value)).reverse.lookup z) hst (by show fd.scope.kind = _; rw [hsc]; exact F.kind) hns ((ek _).trans hl.1) ((ek _).trans hl.2) (u := .ref e) (v := v) (by kernel_rfl) (by kernel_rfl) (by decide) ?_
    have X : (kF s0.heap).In h₀ := (pick_in _).keeps fun a o q => hk0 a o (hk a o q)
    refine exc_store (s := { s with heap := h₀, toks := _ }) X (exc_k Y.cls.okE) (hk0 _ _ he) fun h' dx tk k1 k2 => ?_
    refine wpAny_execs_nil ?_
    exact hR h' dx tk (fun b o hb e => k1 b o hb (hk0 b o e)) k2
/-- SqlError(v) -/
theorem sql_make (Y : Gd w s0) {A : Around} {s : Shared} {v : Value} (hroom : A.depth + 2 < recursionLimit) (hk : ∀ a o, s0.heap.get? a = some o → s.heap.get? a = some o) : wpAny (model pw w) A (PySem.call (.ref (kSql s0.heap)) [v]) (Made (kSql s0.heap) s) No s := by
  obtain ⟨fI, h1, h2, hf⟩ := eI_there Y
  have X : (kF s0.heap).In s.heap := (pick_in _).keeps hk
  refine exc_call X (exc_k Y.cls.okE) h1 h2 fun s1 e t A' hA k1 hn he ⟨tk, hh, es⟩ => ?_
  subst es
  refine eI_call Y hf (by omega) (fun a o q => k1 a o (hk a o q)) he fun h' dx tk2 k2 k3 => ⟨rfl, e, t, dx, h', tk2, rfl, rfl, hn, fun a o q => k2 a o (fun z => by rw [z, hn] at q; cases q) (k1 a o q), k3⟩
end
section
variable {b0 : Heap} {g : Cfg} {prog : Program} {w : World} {d : Nat} {c : Act} {call : Orc} {N : Md} {fa : Nat → Addr} {base : Heap} {l : List Env} {SE : Addr} {B0 : Bm}
/-- statements that raise -/
noncomputable def RaiseC (b0 : Heap) (g : Cfg) (prog : Program) (w : World) (d : Nat) (c : Act) (base : Heap) (l : List Env) (SE : Addr) (B0 : Bm) (t : Sem Flow) (ρ : List PV) (p : Pl) : Prop := ∀ A s pr B, RoomC d c A → A.frames = some (c.env :: l) → Inv b0 g c pr B ρ p s.heap → Sub B0 B → 1 ≤ s.toks →
  wpE (model prog w) A t No (ExnP base (c.env :: l) SE c.h0 s) s
/-- a call that raises -/
noncomputable def RaiseV (b0 : Heap) (g : Cfg) (prog : Program) (w : World) (d : Nat) (c : Act) (base : Heap) (l : List Env) (SE : Addr) (B0 : Bm) (t : Sem Value) (ρ : List PV) (p : Pl) : Prop := ∀ A s pr B, RoomC d c A → A.frames = some (c.env :: l) → Inv b0 g c pr B ρ p s.heap → Sub B0 B → 1 ≤ s.toks →
  wpE (model prog w) A t No (FlyP base (c.env :: l) SE c.h0 s) s
/-- a function whose call raises -/
noncomputable def RaiseF (b0 : Heap) (g : Cfg) (prog : Program) (w : World) (fa : Nat → Addr) (base : Heap) (SE : Addr) (d k : Nat) (xs : List PV) : Prop := ∀ A s B p vs l, Room d A → A.frames = some l → FF g B A s.heap → BS base B s.heap → (∀ env ∈ l, ∀ L, env.frame = some L → base.get? L = none) →
  Kp b0 g B p s.heap → RdL g B vs xs → 1 ≤ s.toks → wpE (model prog w) A (PySem.call (.ref (fa k)) vs) No (FlyP base l SE s.heap s) s
theorem FlyP.exn {h0 h1 : Heap} {s : Shared} {v : Value} {s' : Shared} {h : Heap} {tk : Nat} (ds : DS h0 h1) (x : FlyP base l SE h1 (upd s h tk) v s') : ExnP base l SE h0 s v s' := by
  cases x with
  | mk q3 q4 => exact .mk (s := s) (ds.trans q3) (.inr ⟨_, q4⟩)
theorem FlyP.up {h0 h1 : Heap} {s : Shared} {v : Value} {s' : Shared} {h : Heap} {tk : Nat} (ds : DS h0 h1) (x : FlyP base l SE h1 (upd s h tk) v s') : FlyP base l SE h0 s v s' := by
  cases x with
  | mk q3 q4 => exact .mk (s := s) (ds.trans q3) q4
theorem ExnP.up {h0 : Heap} {s : Shared} {v : Value} {s' : Shared} {h : Heap} {tk : Nat} (x : ExnP base l SE h0 (upd s h tk) v s') : ExnP base l SE h0 s v s' := by
  cases x with
  | mk q3 q4 => exact .mk (s := s) q3 q4
theorem RaiseC.then {β : Type} {t : Sem Flow} {k : Flow → Sem Flow} {ρ1 : List PV} {p p1 : Pl} {ρ : List PV} (ht : ∀ A s pr B, RoomC d c A → Inv b0 g c pr B ρ p s.heap → 1 ≤ s.toks → wpG (model prog w) A t (OkS b0 g c pr B s (none, ρ1, p1)) s) (hr : RaiseC b0 g prog w d c base l SE B0 (k .next) ρ1 p1) :
    RaiseC b0 g prog w d c base l SE B0 (t >>= k) ρ p := fun A s pr B R hfr I sb h1 => X.bindG (G.mono (ht A s pr B R I h1) fun f s' q => by
  cases q with
  | mk Y I' ht' hf =>
    have hf : f = .next := hf
    rw [hf]
    exact X.mono (hr A _ _ _ R hfr I' (sb.trans Y.mono) ht') (fun _ _ x => x) fun v s' x => x.up)
theorem RaiseC.next {st : Stmt} {rest : List Stmt} {ms : S} {ρ ρ1 : List PV} {p p1 : Pl} (h : StC b0 g prog w d c call N st ms) (e : xS call N ms ρ p = some (none, ρ1, p1)) (hr : RaiseC b0 g prog w d c base l SE B0 (execs rest c.env) ρ1 p1) :
    RaiseC b0 g prog w d c base l SE B0 (execs (st :: rest) c.env) ρ p := by
  rw [execs_cons]
  exact RaiseC.then (β := Unit) (fun A s pr B R I ht => h A s pr B ρ p _ R I ht e) hr
theorem RaiseC.app {a b : List Stmt} {ms : Ss} {ρ ρ1 : List PV} {p p1 : Pl} (h : SsC b0 g prog w d c call N a ms) (e : xSs call N ms ρ p = some (none, ρ1, p1)) (hr : RaiseC b0 g prog w d c base l SE B0 (execs b c.env) ρ1 p1) :
    RaiseC b0 g prog w d c base l SE B0 (execs (a ++ b) c.env) ρ p := by
  rw [execs_app]
  exact RaiseC.then (β := Unit) (fun A s pr B R I ht => h A s pr B ρ p _ R I ht e) hr
theorem RaiseC.here {st : Stmt} {rest : List Stmt} {ρ : List PV} {p : Pl} (h : RaiseC b0 g prog w d c base l SE B0 (exec st c.env) ρ p) : RaiseC b0 g prog w d c base l SE B0 (execs (st :: rest) c.env) ρ p := fun A s pr B R hfr I sb ht => by
  rw [execs_cons]
  exact X.bindR (h A s pr B R hfr I sb ht)
theorem RaiseC.ifT {t : Expr} {body orelse : List Stmt} {pos : Pos} {me : E} {ρ : List PV} {p p1 : Pl} (h : TrC b0 g prog w d c call t me) (e : ev call me true ρ p = some (.bool true, p1)) (hb : RaiseC b0 g prog w d c base l SE B0 (execs body c.env) ρ p1) :
    RaiseC b0 g prog w d c base l SE B0 (exec (.If t body orelse pos) c.env) ρ p := fun A s pr B R hfr I sb ht => by
  rw [exec_If]
  refine g_stand (X.bindG (G.mono (h A s pr B ρ p true p1 R I ht e) fun f s' q => ?_))
  cases q with
  | mk X1 hf ht' =>
    rw [hf]
    exact X.mono (hb A _ pr _ R hfr (I.evo X1) (sb.trans X1.mono) ht') (fun _ _ x => x) fun v s' x => x.up
theorem RaiseV.callN (hg : g.P = none) (F : Fx base l c B0) {x : Str} {np pos : Pos} {es : List Expr} {mes : List E} {k : Nat} {ρ : List PV} {p : Pl} {rs : List PV × Pl}
    (hname : ∀ {A : Around} {s : Shared} {pr : List Addr} {B : Bm} {Q : Value → Shared → Prop} {E : Value → Shared → Prop}, Inv b0 g c pr B ρ p s.heap → Q (.ref (fa k)) s → wpAny (model prog w) A (eval (.Name x np) c.env) Q E s)
    (hcalm : ∀ s : Shared, (∀ a o, b0.get? a = some o → s.heap.get? a = some o) → Calm (.ref (fa k)) s)
    (hes : All2 (fun e me => NonStar e ∧ EvC b0 g prog w d c call e me) es mes) (q : evs call (toEs mes) ρ p = some rs) (H : RaiseF b0 g prog w fa base SE d k rs.1) :
    RaiseV b0 g prog w d c base l SE B0 (eval (.Call (.Name x np) es [] pos) c.env) ρ p := fun A s pr B R hfr I sb ht =>
  CallN_any hcalm hes (hname I) R I ht q fun vs B₁ h₁ tk X1 rv ht1 => by
    have I1 := I.evo X1
    refine X.mono (H A (upd s h₁ tk) B₁ rs.2 vs (c.env :: l) R.toRoom hfr (I1.ff R) (F.bs.inv hg I1 (sb.trans X1.mono)) (fun env m L hL => ?_) I1.kp rv ht1) (fun _ _ x => x) fun v s' x => x.up (DS.inv hg I1)
    rcases List.mem_cons.mp m with rfl | m
    · rw [F.frame] at hL; rw [← Option.some.inj hL]; exact F.loc
    · obtain ⟨_, L', _, h1, h2⟩ := F.outer env m
      rw [hL] at h1; rw [Option.some.inj h1]; exact h2
theorem RaiseC.ret {e : Expr} {pos : Pos} {ρ : List PV} {p : Pl} (h : RaiseV b0 g prog w d c base l SE B0 (eval e c.env) ρ p) : RaiseC b0 g prog w d c base l SE B0 (exec (.Return (some e) pos) c.env) ρ p := fun A s pr B R hfr I sb ht => by
  rw [exec_Return_some]
  exact g_stand (X.bindR (X.mono (h A s pr B R hfr I sb ht) (fun _ _ x => x) fun v s' x => x.exn (DS.keep fun _ _ e => e)))
/-- return [call] -/
theorem RaiseV.retList {e : Expr} {lp pos : Pos} (hs : NonStar e) {ρ : List PV} {p : Pl} (h : RaiseV b0 g prog w d c base l SE B0 (eval e c.env) ρ p) {A : Around} {s : Shared} {pr : List Addr} {B : Bm} (R : RoomC d c A) (hfr : A.frames = some (c.env :: l)) (I : Inv b0 g c pr B ρ p s.heap) (sb : Sub B0 B) (ht : 1 ≤ s.toks) :
    wpE (model prog w) A (execs [.Return (some (.List [e] lp)) pos] c.env) No (FlyP base (c.env :: l) SE c.h0 s) s := by
  rw [execs_cons]
  refine X.bindR ?_
  rw [exec_Return_some]
  refine g_stand (X.bindR ?_)
  rw [arm_eval_List, hs]
  refine g_stand (X.bindR ?_)
  show wpE _ A (eval e c.env >>= _) _ _ s
  exact X.bindR (h A s pr B R hfr I sb ht)
theorem RaiseF.of (lim : b0.NoLimit) (hg : g.P = none) {f : FnT} (F : FnK f) {k : Nat} (hf : FnAt b0 (fa k) f) {xs : List PV} (hlen : xs.length = f.params.args.length)
    (H : ∀ env h0 L l B p, Fx base l (callAct f env h0 L) B → RaiseC b0 g prog w d (callAct f env h0 L) base l SE B (execs f.body env) (startOf (gmOf f.scope).vars (f.params.args.map (·.arg)) xs) p) : RaiseF b0 g prog w fa base SE (d + 1) k xs :=
  fun A s B p vs l R hl ff bs hb K hr ht => fn_raise lim hg F hf R hl ff bs hb K hr ht hlen fun env h0 tk L pr R' hfr I ht' Fx' =>
    H env s.heap L l B p Fx' (A.deeper env) (upd s h0 tk) pr B R' hfr I (Sub.refl B) ht'
end
section
variable {w : World} {s0 : Shared} {M : Model} {A : Around} {E : Value → Shared → Prop}
theorem raise_rest (Y : Gd w s0) {s : Shared} {e t dx : Addr} {env : Env} {Q : Flow → Shared → Prop} (hk : ∀ a o, s0.heap.get? a = some o → s.heap.get? a = some o) (hh : A.handled = none) (he : s.heap.get? e = some (excObj2 t (kSql s0.heap) dx)) (hE : E (.ref e) s) :
    wpAny M A (raiseStmt env (some (pure (.ref e))) none) Q E s := by
  obtain ⟨nm, q, N, bs, sn, sub, col, dd, k0, k1, k2, k3, k5, ho⟩ := (exc_k Y.cls.okE).obj
  have hC := hk _ _ ((pick_in _) _ _ ho)
  have hcB : (Value.ref (kSql s0.heap) :: excMro (kBase s0.heap)).contains (.type "BaseException") = true := by rfl
  have hcT : (Value.ref (kSql s0.heap) :: excMro (kBase s0.heap)).contains (.type "type") = false := by rfl
  obtain ⟨hp, g, d, tk, os⟩ := s
  unfold raiseStmt
  refine wpAny_bind (wpAny_pure ?_)
  repeat (first | with_reducible refine wpAny_loadPart_at he ?_ | with_reducible refine wpAny_loadPart_at hC ?_ | (with_reducible refine wpAny_isSubtype_exc hC ?_; first | rw [hcB] | rw [hcT]) | wp_step)
  exact wpAny_raiseNew_none hh hE
end
theorem raise_eq {env : Env} {x : Sem Value} : raiseStmt env (some x) none = x >>= fun v => raiseStmt env (some (pure v)) none := rfl
theorem X.ofG {α : Type} {M : Model} {A : Around} {s : Shared} {t : Sem α} {Q : α → Shared → Prop} {E : Value → Shared → Prop} (h : wpG M A t Q s) : wpE M A t Q E s := X.mono h (fun _ _ x => x) fun _ _ x => x.elim
section
variable {w : World} {s0 : Shared} {g : Cfg} {d : Nat} {c : Act} {call : Orc} {base : Heap} {l : List Env} {B0 : Bm}
theorem RaiseC.raise (Y : Gd w s0) (hg : g.P = none) (F : Fx base l c B0) {np cp pos : Pos} {es : List Expr} {mes : List E} {ρ : List PV} {p p1 : Pl} {z : PV} (hx : c.names.lookup (Str.ofString "SqlError") = some .globalImplicit)
    (hes : All2 (fun e me => NonStar e ∧ EvC s0.heap g pw w d c call e me) es mes) (q : evs call (toEs mes) ρ p = some ([z], p1)) :
    RaiseC s0.heap g pw w d c base l (kSql s0.heap) B0 (exec (.Raise (some (.Call (.Name (Str.ofString "SqlError") np) es [] cp)) none pos) c.env) ρ p := fun A s pr B R hfr I sb ht => by
  rw [arm_exec_Raise]
  refine g_stand ?_
  show wpE _ A (raiseStmt c.env (some (eval (.Call (.Name (Str.ofString "SqlError") np) es [] cp) c.env >>= fun v => standAt pos >>= fun _ => pure v)) none) _ _ s
  rw [raise_eq]
  refine X.bindG (G.bind (CallN_any (f := .ref (kSql s0.heap)) (fun s h M A Q hQ => by
    obtain ⟨nm, q', N, bs, sn, sub, col, dd, k0, k1, k2, k3, k5, ho⟩ := (exc_k Y.cls.okE).obj
    obtain ⟨hh, gg, dd', tt, oo⟩ := s
    exact wpAny_keeperOf_exc (h _ _ ((pick_in _) _ _ ho)) (hQ _)) hes (glob_eval I Y.ground.T.g hx (by decide) Y.cls.sql) R I ht q fun vs B₁ h₁ tk X1 rv ht1 => ?_))
  have I1 := I.evo X1
  obtain ⟨v, e1, rv1⟩ := rv.one
  rw [e1]
  refine G.mono (G.any (sql_make Y (Nat.lt_of_le_of_lt (Nat.add_le_add (Nat.le_add_right _ d) (Nat.le_of_ble_eq_true rfl)) R.depth) I1.kp.heap)) fun x s' ⟨e, t, dx, h', tk', q1, q2, q3, q4, q5⟩ => ?_
  rw [q1, q2]
  refine g_stand (G.pure (G.any (raise_rest Y (fun a o q => q4 a o (I1.kp.heap a o q)) R.handled q5 ?_)))
  have I2 := I1.evo (Evo.grow I1.keep I1.pool q4)
  have bs := F.bs.inv hg I2 (sb.trans X1.mono)
  refine .mk (s := s) ((DS.inv hg I1).trans (DS.keep q4)) (.inl ⟨_, _, _, q5, rfl, rfl, rfl, rfl, fun a o q => (bs a o q).1, ?_, F.frames I2⟩)
  cases qb : base.get? e with
  | none => rfl
  | some ob => exact nomatch q3.symm.trans (F.bs.inv hg I1 (sb.trans X1.mono) e ob qb).1
/-- the clause for SqlError, giving a new empty list -/
theorem catch_rest (Y : Gd w s0) {A : Around} {s : Shared} {env : Env} {e : Addr} {a0 : Value} {hp lp rp hpos : Pos} {Q : Flow → Shared → Prop} (hfr : A.frames = some (env :: l)) (hf : env.frame = some env.locals)
    (hk : ∀ a o, s0.heap.get? a = some o → base.get? a = some o) (fly : Heap.FlyingW base (env :: l) e (.ref (kSql s0.heap)) a0 s.heap)
    (hname : ∀ {A : Around} {s : Shared} {Q : Value → Shared → Prop} {E : Value → Shared → Prop}, (∀ a o, s0.heap.get? a = some o → s.heap.get? a = some o) → Q (.ref (kSql s0.heap)) s → wpAny (model pw w) A (eval (.Name (Str.ofString "SqlError") hp) env) Q E s)
    (hQ : ∀ h', base.StaysIn h' → DS s.heap h' → Q (.ret (.ref h'.objs.size)) { s with heap := h'.push (listO #[] 0) }) :
    wpAny (model pw w) A (do
      noteFrame (.ref e) env
      setFlight (.ref e) none
      handleBy (.ref e) env [.ExceptHandler (some (.Name (Str.ofString "SqlError") hp)) none [.Return (some (.List [] lp)) rp] hpos]) Q No s := by
  obtain ⟨nm, q', N, bs, sn, sub, col, dd, k0, k1, k2, k3, k5, ho⟩ := (exc_k Y.cls.okE).obj
  have hC := (pick_in _) _ _ ho
  refine wpAny_bind (wpAny_looks_onW hfr hf fly fun h1 held up1 => ?_)
  refine wpAny_bind (wpAny_landsW held fun h2 fly2 up2 => ?_)
  have st2 : base.StaysIn h2 := fly2.1
  refine wpAny_handleBy_cons (codeAny_handlers_test (hname (fun a o q => st2 a o (hk a o q)) ?_)) (by intro q; cases q)
  obtain ⟨oe, vs, T, oT, ts, he, ⟨hcls, _⟩, _⟩ := fly2.2.2.2
  refine wpAny_excMatches_sub_self (st2 _ _ (hk _ _ hC)) he hcls (by rfl) ?_
  refine codeAny_handlers_suite ?_
  refine wpAny_setFlight_noneW fly2.1 fly2.2.2.1 fly2.2.2.2.at fun h3 r1 r2 r3 r4 => ?_
  rw [execs_cons, exec_Return_some]
  refine wpAny_bind (wpAny_bind (wpAny_standAt ?_))
  rw [arm_eval_List]
  refine wpAny_bind (wpAny_bind (wpAny_standAt (wpAny_bind (wpAny_pure ?_))))
  refine wpAny_newObj_type ?_ (by show (#[] : Array Value).size ≤ sizeLine; exact Nat.zero_le _)
  refine wpAny_pure (wpAny_pure ?_)
  exact hQ h3 r1 (((DS.up up1).trans (DS.up up2)).trans fun a o q ⟨es, n, hd⟩ => .inl (r4 a o q fun vs z => by rw [hd] at z; cases z))
/-- the shape of _law_call -/
noncomputable def hOf : ExceptHandler → Option (Expr × List Stmt)
  | .ExceptHandler t n b _ => optE (fun t => optE (fun _ => none) (some (t, b)) n) none t
theorem hOf_inv {h : ExceptHandler} {z : Expr × List Stmt} (q : hOf h = some z) : ∃ p, h = .ExceptHandler (some z.1) none z.2 p := by
  cases h with
  | ExceptHandler t n b p =>
    cases t with
    | none => exact noneN q
    | some t =>
      cases n with
      | some _ => exact noneN q
      | none => rw [← Option.some.inj q]; exact ⟨p, rfl⟩
noncomputable def retL (b : List Stmt) : Option (List Expr) := oneE (fun s => thn (retOf s) listOf) b
theorem retL_inv {b : List Stmt} {es : List Expr} (h : retL b = some es) : ∃ lp rp, b = [.Return (some (.List es lp)) rp] :=
  oneC (P := fun b => ∃ lp rp, b = [.Return (some (.List es lp)) rp]) h fun s h => thnC h fun e he h => by
    obtain ⟨rp, e1⟩ := retOf_inv he
    obtain ⟨lp, e2⟩ := listOf_inv h
    rw [e1, e2]
    exact ⟨lp, rp, rfl⟩
noncomputable abbrev TryT := Str × List Expr × Str
noncomputable def tryOf (b : List Stmt) : Option TryT := oneE (fun s => thn (triOf s) fun z => thn (retL z.1) fun es => oneE (fun e => thn (callN e) fun c => thn (hOf z.2) fun h => thn (nameOf h.1) fun x => thn (retL h.2) fun l => nilE (some (c.1, c.2, x)) l) es) b
theorem tryOf_inv {b : List Stmt} {z : TryT} (h : tryOf b = some z) : ∃ np cp lp rp hp lp2 rp2 hpos pos, b = [.Try [.Return (some (.List [.Call (.Name z.1 np) z.2.1 [] cp] lp)) rp] [.ExceptHandler (some (.Name z.2.2 hp)) none [.Return (some (.List [] lp2)) rp2] hpos] [] [] pos] :=
  oneC (P := fun b => ∃ np cp lp rp hp lp2 rp2 hpos pos, b = [.Try [.Return (some (.List [.Call (.Name z.1 np) z.2.1 [] cp] lp)) rp] [.ExceptHandler (some (.Name z.2.2 hp)) none [.Return (some (.List [] lp2)) rp2] hpos] [] [] pos]) h fun s h => thnC h fun y hy h => thnC h fun es he h => by
    obtain ⟨pos, e1⟩ := triOf_inv hy
    obtain ⟨lp, rp, e2⟩ := retL_inv he
    rw [e1, e2]
    refine oneC (P := fun es => ∃ np cp lp' rp' hp lp2 rp2 hpos pos', [Stmt.Try [.Return (some (.List es lp)) rp] [y.2] [] [] pos] = [.Try [.Return (some (.List [.Call (.Name z.1 np) z.2.1 [] cp] lp')) rp'] [.ExceptHandler (some (.Name z.2.2 hp)) none [.Return (some (.List [] lp2)) rp2] hpos] [] [] pos']) h fun e h => thnC h fun c hc h => thnC h fun hh hh1 h => thnC h fun x hx h => thnC h fun l hl h => ?_
    obtain ⟨np, cp, e3⟩ := callN_inv hc
    obtain ⟨hpos, e4⟩ := hOf_inv hh1
    obtain ⟨hp, e5⟩ := nameOf_inv hx
    obtain ⟨lp2, rp2, e6⟩ := retL_inv hl
    rw [e3, e4, e5, e6]
    cases l with
    | nil => rw [← Option.some.inj h]; exact ⟨np, cp, lp, rp, hp, lp2, rp2, hpos, pos, rfl⟩
    | cons _ _ => exact noneN h
noncomputable def tryL : TryT := (tryOf (fT 42).body).getD (Str.ofString "", [], Str.ofString "")
theorem tryL_at : tryOf (fT 42).body = some tryL := opt_get (by kernel_rfl)
theorem tryL_names : tryL.1 = Str.ofString "call_function" ∧ tryL.2.2 = Str.ofString "SqlError" := ⟨by kernel_rfl, by kernel_rfl⟩
theorem tryL_args : mapO (comp (gmOf (fT 42).scope) fuel false) tryL.2.1 = some [.var 0, .var 1, .cst (.str ⟨#[98, 105, 110, 97, 114, 121]⟩), .cst .none] := by kernel_rfl
theorem tryL_glob : (gmOf (fT 42).scope).glob (Str.ofString "call_function") = true ∧ (gmOf (fT 42).scope).glob (Str.ofString "SqlError") = true := ⟨by kernel_rfl, by kernel_rfl⟩
theorem tryL_id : fnId (Str.ofString "call_function") = some 37 := by kernel_rfl
theorem tryL_ok2 : fnOk (fT 42) = true := by kernel_rfl
theorem tryL_start : startOk (fT 42) 2 2 = true := by kernel_rfl
/-- the objects of a heap that must stay -/
noncomputable def keptH (B : Bm) (h : Heap) : Heap := by
  classical exact ⟨(h.objs.mapIdx fun a o => if (B a).isSome ∨ ∀ es n, o.data ≠ .dict es n then o else { o with data := .freed }), h.life⟩
theorem keptH_get {B : Bm} {h : Heap} {a : Addr} {o : Obj} : (keptH B h).get? a = some o ↔ h.get? a = some o ∧ ((B a).isSome ∨ ∀ es n, o.data ≠ .dict es n) := by
  classical
  unfold keptH Heap.get?
  simp only [Array.getElem?_mapIdx]
  cases q : h.objs[a]? with
  | none => simp
  | some ob =>
    simp only [Option.map_some]
    obtain ⟨oc, od, oda, osl⟩ := ob
    by_cases hq : (B a).isSome ∨ ∀ es n, oda ≠ .dict es n
    · rw [if_pos hq]
      cases oda <;> simp <;> (intro e; subst e; exact hq)
    · rw [if_neg hq]
      cases oda <;> simp <;> (intro e; subst e; simpa using hq)
end
section
variable {w : World} {s0 : Shared} {g : Cfg} {d : Nat}
/-- _law_call, where the call raises -/
theorem catch_snd (Y : Gd w s0) (hg : g.P = none) (hC : g.C = kPart s0.heap) (H : CallOk s0.heap g pw w (faOf s0.heap) d (orc d)) {x0 x1 : PV} (h0 : vis x0 = some x0) (h1 : vis x1 = some x1)
    (HR : ∀ base : Heap, RaiseF s0.heap g pw w (faOf s0.heap) base (kSql s0.heap) d 37 [x0, x1, .str ⟨#[98, 105, 110, 97, 114, 121]⟩, .none])
    {A : Around} {s : Shared} {B : Bm} {p : Pl} {vs : List Value} (R : Room (d + 1) A) (ff : FF g B A s.heap) (K : Kp s0.heap g B p s.heap) (hr : RdL g B vs [x0, x1]) (ht : 1 ≤ s.toks) :
    wpG (model pw w) A (PySem.call (.ref (faOf s0.heap 42)) vs) (Ok g B s p (.list [])) s := by
  have W := wd Y hC
  obtain ⟨l, hl, hlm⟩ := ff
  have bs : BS (keptH B s.heap) B s.heap := fun a o e => by
    obtain ⟨e1, e2⟩ := keptH_get.mp e
    refine ⟨e1, e2.imp (fun q => ?_) id⟩
    obtain ⟨o', ho'⟩ := Option.isSome_iff_exists.mp q
    rw [ho', ← Option.some.inj ((K.keep a o' ho').symm.trans e1)]
  have hb : ∀ env ∈ l, ∀ L, env.frame = some L → (keptH B s.heap).get? L = none := fun env m L hL => by
    obtain ⟨_, L', o, es, n, q1, q2, q3, q4, _⟩ := hlm env m
    rw [hL] at q1
    rw [← Option.some.inj q1] at q2 q4
    cases q : (keptH B s.heap).get? L with
    | none => rfl
    | some ob =>
      obtain ⟨e1, e2⟩ := keptH_get.mp q
      rw [q2] at e1
      rw [← Option.some.inj e1, q4] at e2
      exact e2.elim (fun z => nomatch z) fun z => absurd q3 (z es n)
  have hk0 : ∀ a o, s0.heap.get? a = some o → (keptH B s.heap).get? a = some o := fun a o e => keptH_get.mpr ⟨K.heap a o e, .inl (by rw [K.base a o e]; rfl)⟩
  obtain ⟨np, cp, lp, rp, hp, lp2, rp2, hpos, pos, hbody⟩ := tryOf_inv tryL_at
  rw [tryL_names.1, tryL_names.2] at hbody
  refine G.toks ht ?_
  have key := fn_enterE (prog := pw) (w := w) (base := keptH B s.heap) (Q := fun v s' => 1 ≤ s'.toks → Ok g B s p (.list []) v s') (E := No) W.lim hg (fnOk_inv tryL_ok2) (law_at Y (by decide) (by decide) (by decide)) R hl ⟨l, hl, hlm⟩ bs hb K hr ht (start_len tryL_start) fun env h0' tk L pr R' hfr I ht' Fx' keep => ?_
  · exact key
  rw [start_eq tryL_start rfl] at I
  rw [hbody, execs_cons, arm_exec_Try]
  have hes : All2 (fun e me => NonStar e ∧ EvC s0.heap g pw w d (callAct (fT 42) env s.heap L) (orc d) e me) tryL.2.1 [.var 0, .var 1, .cst (.str ⟨#[98, 105, 110, 97, 114, 121]⟩), .cst .none] :=
    All2.of_mapO tryL_args fun e me _ q => ⟨(comp_E q).star, (comp_snd W H (fun _ _ _ e => orc_takes e) fuel (gmOf (fT 42).scope) _ false e me q rfl rfl).1 rfl⟩
  obtain ⟨mg, mb, WN⟩ := W.ns
  obtain ⟨hx, hd⟩ := Gm.glob_inv tryL_glob.1
  obtain ⟨hx2, hd2⟩ := Gm.glob_inv tryL_glob.2
  have qe : evs (orc d) (toEs [.var 0, .var 1, .cst (.str ⟨#[98, 105, 110, 97, 114, 121]⟩), .cst .none]) [x0, x1] p = some ([x0, x1, .str ⟨#[98, 105, 110, 97, 114, 121]⟩, .none], p) := by
    show @bnd _ _ (@bnd _ _ (vis x0) ⟨_⟩) ⟨_⟩ = _
    rw [h0]
    show @bnd _ _ (@bnd _ _ (@bnd _ _ (vis x1) ⟨_⟩) ⟨_⟩) ⟨_⟩ = _
    rw [h1]
    rfl
  have V := RaiseV.callN (np := np) (pos := cp) hg Fx' (fun I hq => glob_eval I WN.hg hx hd (WN.fn _ 37 tryL_id) hq) (fun s h => W.calm 37 s h) hes qe (HR _)
  refine X.ofG (G.bind (g_stand ?_))
  unfold tryStmt
  show wpG _ _ ((execs [.Return (some (.List [.Call (.Name (Str.ofString "call_function") np) tryL.2.1 [] cp] lp)) rp] env).attempt >>= _) _ _
  refine G.bind (X.attempt (X.mono (RaiseV.retList (c := callAct (fT 42) env s.heap L) (fun _ _ => rfl) V R' hfr I (Sub.refl B) ht') (fun _ _ x => x.elim) fun ev s' k => ?_))
  cases k with
  | mk q3 q4 =>
  refine G.any (catch_rest (hp := hp) (lp := lp2) (rp := rp2) (hpos := hpos) Y (env := env) hfr Fx'.frame hk0 q4 (fun {A s Q E} hk hq => Name_function_global I.ok.kind (I.ok.gname _ hx2) (loadGlobal_global (I.ok.glob ▸ Y.ground.T.g.keeps hk) Y.cls.sql hq) hd2) fun h3 st3 ds3 => ?_)
  refine G.pure fun ht3 => ?_
  have ds : DS s.heap h3 := q3.trans ds3
  have kp : Keep B h3 := fun a o e => st3 a o (keptH_get.mpr ⟨K.keep a o e, .inl (by rw [e]; rfl)⟩)
  have old : ∀ a o, s.heap.get? a = some o → Same h3 a o := fun a o e => by
    by_cases hq : ∃ es n, o.data = .dict es n
    · exact ds a o e hq
    · exact .inl (st3 a o (keptH_get.mpr ⟨e, .inr fun es n z => hq ⟨es, n, z⟩⟩))
  have X0 : Evo g B s.heap p B h3 := ⟨Sub.refl B, fun _ _ e => .inl e, kp, fun a o e _ => old a o e, fun a o e => let ⟨o', e', _⟩ := (old a o e).ex; ⟨o', e'⟩, fun a e => by rw [hg] at e; cases e⟩
  exact .mk (s := s) (X0.trans (Evo.alloc kp X0.pool (listO #[] 0) rfl)) (Rd.newList (kp.fresh (Heap.get_size h3)) RdL.nil) ht3
end
theorem at_head {b : List Stmt} {n : Nat} {s : Stmt} (h : hdO (b.drop n) = some s) : ∃ r, b = b.take n ++ s :: r := by
  obtain ⟨r, e⟩ := hdO_inv h
  exact ⟨r, by rw [← e, List.take_append_drop]⟩
/-- if t: n1; .. -/
noncomputable def ifAt (n : Nat) (b : List Stmt) : Option (Expr × Stmt × List Stmt) := thn (hdO (b.drop n)) fun s => thn (iteOf s) fun i => thn (hdO i.2) fun m => some (i.1, m, i.2.drop 1)
theorem ifAt_inv {n : Nat} {b : List Stmt} {z} (h : ifAt n b = some z) : ∃ r2 o p r, b = b.take n ++ .If z.1 (z.2.1 :: r2) o p :: r ∧ r2 = z.2.2 :=
  thnC h fun s hs h => thnC h fun i hi h => thnC h fun m hm h => by
    obtain ⟨r, e⟩ := at_head hs
    obtain ⟨o, p, e2⟩ := iteOf_inv hi
    obtain ⟨r2, e3⟩ := hdO_inv hm
    rw [← Option.some.inj h]
    exact ⟨r2, o, p, r, by rw [← e3, ← e2]; exact e, by show r2 = i.2.drop 1; rw [e3]; rfl⟩
/-- pre; if t: n1; if t2: raise x(es) .. -/
noncomputable def rzOf (n : Nat) (b : List Stmt) : Option (List Stmt × Expr × Stmt × Expr × Str × List Expr) := thn (ifAt n b) fun i => thn (ifAt 0 i.2.2) fun j => thn (raiseOf j.2.1) fun e => thn (callN e) fun c => some (b.take n, i.1, i.2.1, j.1, c.1, c.2)
theorem rzOf_inv {n : Nat} {b : List Stmt} {z} (h : rzOf n b = some z) : ∃ np cp rp r1 o2 p2 r2 o1 p1 r, b = z.1 ++ .If z.2.1 (z.2.2.1 :: .If z.2.2.2.1 (.Raise (some (.Call (.Name z.2.2.2.2.1 np) z.2.2.2.2.2 [] cp)) none rp :: r1) o2 p2 :: r2) o1 p1 :: r :=
  thnC h fun i hi h => thnC h fun j hj h => thnC h fun e he h => thnC h fun c hc h => by
    obtain ⟨q, o1, p1, r, e1, e2⟩ := ifAt_inv hi
    obtain ⟨r1, o2, p2, r2, e3, _⟩ := ifAt_inv hj
    obtain ⟨rp, e4⟩ := raiseOf_inv he
    obtain ⟨np, cp, e5⟩ := callN_inv hc
    rw [← Option.some.inj h]
    rw [e2, e3, e4, e5] at e1
    exact ⟨np, cp, rp, r1, o2, p2, r2, o1, p1, r, e1⟩
/-- a returned call -/
noncomputable def retC (s : Stmt) : Option (Str × List Expr) := thn (retOf s) callN
theorem retC_inv {s : Stmt} {z} (h : retC s = some z) : ∃ np cp rp, s = .Return (some (.Call (.Name z.1 np) z.2 [] cp)) rp :=
  thnC h fun e he h => by
    obtain ⟨rp, e1⟩ := retOf_inv he
    obtain ⟨np, cp, e2⟩ := callN_inv h
    exact ⟨np, cp, rp, by rw [e1, e2]⟩
/-- pre; if t: return f(es) -/
noncomputable def rcOf (n : Nat) (b : List Stmt) : Option (List Stmt × Expr × Str × List Expr) := thn (ifAt n b) fun i => thn (retC i.2.1) fun c => some (b.take n, i.1, c.1, c.2)
theorem rcOf_inv {n : Nat} {b : List Stmt} {z} (h : rcOf n b = some z) : ∃ np cp rp r1 o1 p1 r, b = z.1 ++ .If z.2.1 (.Return (some (.Call (.Name z.2.2.1 np) z.2.2.2 [] cp)) rp :: r1) o1 p1 :: r :=
  thnC h fun i hi h => thnC h fun c hc h => by
    obtain ⟨r1, o1, p1, r, e1, _⟩ := ifAt_inv hi
    obtain ⟨np, cp, rp, e2⟩ := retC_inv hc
    rw [← Option.some.inj h]
    rw [e2] at e1
    exact ⟨np, cp, rp, r1, o1, p1, r, e1⟩
/-- pre; return f(es) -/
noncomputable def rlOf (n : Nat) (b : List Stmt) : Option (List Stmt × Str × List Expr) := thn (hdO (b.drop n)) fun s => thn (retC s) fun c => some (b.take n, c.1, c.2)
theorem rlOf_inv {n : Nat} {b : List Stmt} {z} (h : rlOf n b = some z) : ∃ np cp rp r, b = z.1 ++ .Return (some (.Call (.Name z.2.1 np) z.2.2 [] cp)) rp :: r :=
  thnC h fun s hs h => thnC h fun c hc h => by
    obtain ⟨r, e1⟩ := at_head hs
    obtain ⟨np, cp, rp, e2⟩ := retC_inv hc
    rw [← Option.some.inj h]
    rw [e2] at e1
    exact ⟨np, cp, rp, r, e1⟩
noncomputable def absZ := (rzOf 4 (fT 37).body).getD ([], .Constant .none 0 default, .Pass default, .Constant .none 0 default, Str.ofString "", [])
noncomputable def matZ := (rzOf 2 (fT 35).body).getD ([], .Constant .none 0 default, .Pass default, .Constant .none 0 default, Str.ofString "", [])
noncomputable def txtZ := (rcOf 7 (fT 38).body).getD ([], .Constant .none 0 default, Str.ofString "", [])
noncomputable def fnZ := (rlOf 8 (fT 37).body).getD ([], Str.ofString "", [])
theorem absZ_at : rzOf 4 (fT 37).body = some absZ := opt_get (by kernel_rfl)
theorem matZ_at : rzOf 2 (fT 35).body = some matZ := opt_get (by kernel_rfl)
theorem txtZ_at : rcOf 7 (fT 38).body = some txtZ := opt_get (by kernel_rfl)
theorem fnZ_at : rlOf 8 (fT 37).body = some fnZ := opt_get (by kernel_rfl)
noncomputable abbrev g37 : Gm := gmOf (fT 37).scope
noncomputable abbrev g38 : Gm := gmOf (fT 38).scope
noncomputable abbrev g35 : Gm := gmOf (fT 35).scope
noncomputable abbrev tBin : PV := .str ⟨#[98, 105, 110, 97, 114, 121]⟩
noncomputable abbrev tAbs : PV := .str (Str.ofString "abs")
noncomputable abbrev tLike : PV := .str (Str.ofString "like")
section
variable {w : World} {s0 : Shared} {g : Cfg} {d : Nat} {base : Heap}
/-- what the walk ahead of a raise tells -/
structure Rz (call : Orc) (f : FnT) (z : List Stmt × Expr × Stmt × Expr × Str × List Expr) (ρ0 ρ1 ρ2 : List PV) (m1 m2 : E) (es : List E) (x : PV) : Prop where
  pre : ∀ p, xSs call NQ (cSs (gmOf f.scope) 50 z.1) ρ0 p = some (none, ρ1, p)
  t1 : comp (gmOf f.scope) fuel true z.2.1 = some m1
  v1 : ∀ p, ev call m1 true ρ1 p = some (.bool true, p)
  n1 : ∀ p, xS call NQ (cS (gmOf f.scope) 50 z.2.2.1) ρ1 p = some (none, ρ2, p)
  t2 : comp (gmOf f.scope) fuel true z.2.2.2.1 = some m2
  v2 : ∀ p, ev call m2 true ρ2 p = some (.bool true, p)
  nm : z.2.2.2.2.1 = Str.ofString "SqlError"
  gl : (gmOf f.scope).glob (Str.ofString "SqlError") = true
  as : mapO (comp (gmOf f.scope) fuel false) z.2.2.2.2.2 = some es
  va : ∀ p, evs call (toEs es) ρ2 p = some ([x], p)
theorem rz_raise (Y : Gd w s0) (hg : g.P = none) (hC : g.C = kPart s0.heap) (H : CallOk s0.heap g pw w (faOf s0.heap) d (orc d)) {k n m v : Nat} (hk : k < 59) (k0 : k ≠ 0) (k1 : k ≠ 1) (ok : fnOk (fT k) = true) (st : startOk (fT k) m v = true) {xs ρ1 ρ2 : List PV} {z} {m1 m2 : E} {es : List E} {x : PV}
    (hz : rzOf n (fT k).body = some z) (hl : xs.length = m) (Z : Rz (orc d) (fT k) z (xs ++ List.replicate (v - m) .unb) ρ1 ρ2 m1 m2 es x) : RaiseF s0.heap g pw w (faOf s0.heap) base (kSql s0.heap) (d + 1) k xs := by
  have W := wd Y hC
  obtain ⟨np, cp, rp, r1, o2, p2, r2, o1, p1, r, hb⟩ := rzOf_inv hz
  rw [Z.nm] at hb
  refine RaiseF.of W.lim hg (fnOk_inv ok) (law_at Y hk k0 k1) (hl.trans (start_len st)) fun env h0 L l B p F => ?_
  rw [start_eq st hl, hb]
  have S := cS_snd (N := NQ) (c := callAct (fT k) env h0 L) W H (fun _ _ _ e => orc_takes e) (Γ := gmOf (fT k).scope) rfl rfl 50
  have T : ∀ {e : Expr} {me : E}, comp (gmOf (fT k).scope) fuel true e = some me → TrC s0.heap g pw w d (callAct (fT k) env h0 L) (orc d) e me := fun h => (comp_snd W H (fun _ _ _ e => orc_takes e) fuel (gmOf (fT k).scope) _ true _ _ h rfl rfl).2 rfl
  have hes : All2 (fun e me => NonStar e ∧ EvC s0.heap g pw w d (callAct (fT k) env h0 L) (orc d) e me) z.2.2.2.2.2 es :=
    All2.of_mapO Z.as fun e me _ q => ⟨(comp_E q).star, (comp_snd W H (fun _ _ _ e => orc_takes e) fuel (gmOf (fT k).scope) _ false e me q rfl rfl).1 rfl⟩
  refine RaiseC.app (S.2 z.1) (Z.pre p) (RaiseC.here (RaiseC.ifT (T Z.t1) (Z.v1 p) ?_))
  refine RaiseC.next (S.1 z.2.2.1) (Z.n1 p) (RaiseC.here (RaiseC.ifT (T Z.t2) (Z.v2 p) (RaiseC.here ?_)))
  exact RaiseC.raise Y hg F (Gm.glob_inv Z.gl).1 hes (Z.va p)
/-- what the walk ahead of a raising call tells -/
structure Rk (call : Orc) (f : FnT) (pre : List Stmt) (nm : Str) (as : List Expr) (ρ0 ρ1 : List PV) (es : List E) (k : Nat) (xs : List PV) : Prop where
  pre : ∀ p, xSs call NQ (cSs (gmOf f.scope) 50 pre) ρ0 p = some (none, ρ1, p)
  id : fnId nm = some k
  gl : (gmOf f.scope).glob nm = true
  as : mapO (comp (gmOf f.scope) fuel false) as = some es
  va : ∀ p, evs call (toEs es) ρ1 p = some (xs, p)
theorem rk_call (Y : Gd w s0) (hC : g.C = kPart s0.heap) (hg : g.P = none) (H : CallOk s0.heap g pw w (faOf s0.heap) d (orc d)) {k : Nat} {pre : List Stmt} {nm : Str} {as : List Expr} {ρ0 ρ1 xs : List PV} {es : List E} {j : Nat} {c : Act} {l : List Env} {B0 : Bm} (hn : c.names = (gmOf (fT k).scope).names) (hv : c.vars = (gmOf (fT k).scope).vars)
    (Z : Rk (orc d) (fT k) pre nm as ρ0 ρ1 es j xs) (F : Fx base l c B0) (HR : RaiseF s0.heap g pw w (faOf s0.heap) base (kSql s0.heap) d j xs) {np cp : Pos} (p : Pl) :
    RaiseV s0.heap g pw w d c base l (kSql s0.heap) B0 (eval (.Call (.Name nm np) as [] cp) c.env) ρ1 p := by
  have W := wd Y hC
  have hes : All2 (fun e me => NonStar e ∧ EvC s0.heap g pw w d c (orc d) e me) as es :=
    All2.of_mapO Z.as fun e me _ q => ⟨(comp_E q).star, (comp_snd W H (fun _ _ _ e => orc_takes e) fuel (gmOf (fT k).scope) _ false e me q hn hv).1 rfl⟩
  obtain ⟨mg, mb, WN⟩ := W.ns
  obtain ⟨hx, hd⟩ := Gm.glob_inv Z.gl
  exact RaiseV.callN hg F (fun I hq => glob_eval I WN.hg (hn ▸ hx) hd (WN.fn _ j Z.id) hq) (fun s h => W.calm j s h) hes (Z.va p) HR
end
noncomputable abbrev lMin : PV := .list [.int (-9223372036854775808)]
noncomputable abbrev lLike : PV := .list [.str (Str.ofString "a"), .str (Str.ofString "a"), .str (Str.ofString "!!")]
noncomputable def E0 : E := .cst .none
theorem abs_Z (d : Nat) : Rz (orc (d + 2)) (fT 37) absZ [tAbs, lMin, tBin, .none, .unb, .unb, .unb, .unb, .unb] [tAbs, lMin, tBin, .none, tAbs, .bool false, .none, .int (-9223372036854775808), .unb]
    [tAbs, lMin, tBin, .none, tAbs, .bool false, .none, .int (-9223372036854775808), .int (-9223372036854775808)] ((comp g37 fuel true absZ.2.1).getD E0) ((comp g37 fuel true absZ.2.2.2.1).getD E0) ((mapO (comp g37 fuel false) absZ.2.2.2.2.2).getD []) (.str (Str.ofString "integer overflow")) where
  pre p := by kernel_rfl
  t1 := opt_get (by kernel_rfl)
  v1 p := by kernel_rfl
  n1 p := by kernel_rfl
  t2 := opt_get (by kernel_rfl)
  v2 p := by kernel_rfl
  nm := by kernel_rfl
  gl := by kernel_rfl
  as := opt_get (by kernel_rfl)
  va p := by kernel_rfl
theorem mat_Z (d : Nat) : Rz (orc (d + 1)) (fT 35) matZ [tLike, lLike, .unb] [tLike, lLike, .none] [tLike, lLike, .str (Str.ofString "!!")]
    ((comp g35 fuel true matZ.2.1).getD E0) ((comp g35 fuel true matZ.2.2.2.1).getD E0) ((mapO (comp g35 fuel false) matZ.2.2.2.2.2).getD []) (.str (Str.ofString "ESCAPE expression must be a single character")) where
  pre p := by kernel_rfl
  t1 := opt_get (by kernel_rfl)
  v1 p := by kernel_rfl
  n1 p := by kernel_rfl
  t2 := opt_get (by kernel_rfl)
  v2 p := by kernel_rfl
  nm := by kernel_rfl
  gl := by kernel_rfl
  as := opt_get (by kernel_rfl)
  va p := by kernel_rfl
theorem txt_K (d : Nat) : Rk (orc (d + 2)) (fT 38) txtZ.1 txtZ.2.2.1 txtZ.2.2.2 [tLike, lLike, .unb] [tLike, lLike, .unb] ((mapO (comp g38 fuel false) txtZ.2.2.2).getD []) 35 [tLike, lLike] where
  pre p := by kernel_rfl
  id := by kernel_rfl
  gl := by kernel_rfl
  as := opt_get (by kernel_rfl)
  va p := by kernel_rfl
theorem txt_t : comp g38 fuel true txtZ.2.1 = some ((comp g38 fuel true txtZ.2.1).getD E0) := opt_get (by kernel_rfl)
theorem txt_v (d : Nat) (p : Pl) : ev (orc (d + 2)) ((comp g38 fuel true txtZ.2.1).getD E0) true [tLike, lLike, .unb] p = some (.bool true, p) := by kernel_rfl
theorem fn_K (d : Nat) : Rk (orc (d + 3)) (fT 37) fnZ.1 fnZ.2.1 fnZ.2.2 [tLike, lLike, tBin, .none, .unb, .unb, .unb, .unb, .unb] [tLike, lLike, tBin, .none, tLike, .bool false, .none, .str (Str.ofString "!!"), .unb] ((mapO (comp g37 fuel false) fnZ.2.2).getD []) 38 [tLike, lLike] where
  pre p := by kernel_rfl
  id := by kernel_rfl
  gl := by kernel_rfl
  as := opt_get (by kernel_rfl)
  va p := by kernel_rfl
theorem ok37 : fnOk (fT 37) = true ∧ startOk (fT 37) 4 9 = true := ⟨by kernel_rfl, by kernel_rfl⟩
theorem ok38 : fnOk (fT 38) = true ∧ startOk (fT 38) 2 3 = true := ⟨by kernel_rfl, by kernel_rfl⟩
theorem ok35 : fnOk (fT 35) = true ∧ startOk (fT 35) 2 3 = true := ⟨by kernel_rfl, by kernel_rfl⟩
section
variable {w : World} {s0 : Shared} {g : Cfg} {d : Nat} {base : Heap}
theorem abs_raise (Y : Gd w s0) (hg : g.P = none) (hC : g.C = kPart s0.heap) (H : CallOk s0.heap g pw w (faOf s0.heap) (d + 2) (orc (d + 2))) : RaiseF s0.heap g pw w (faOf s0.heap) base (kSql s0.heap) (d + 3) 37 [tAbs, lMin, tBin, .none] :=
  rz_raise Y hg hC H (by decide) (by decide) (by decide) ok37.1 ok37.2 absZ_at rfl (abs_Z d)
theorem mat_raise (Y : Gd w s0) (hg : g.P = none) (hC : g.C = kPart s0.heap) (H : CallOk s0.heap g pw w (faOf s0.heap) (d + 1) (orc (d + 1))) : RaiseF s0.heap g pw w (faOf s0.heap) base (kSql s0.heap) (d + 2) 35 [tLike, lLike] :=
  rz_raise Y hg hC H (by decide) (by decide) (by decide) ok35.1 ok35.2 matZ_at rfl (mat_Z d)
theorem txt_raise (Y : Gd w s0) (hg : g.P = none) (hC : g.C = kPart s0.heap) (H1 : CallOk s0.heap g pw w (faOf s0.heap) (d + 1) (orc (d + 1))) (H2 : CallOk s0.heap g pw w (faOf s0.heap) (d + 2) (orc (d + 2))) : RaiseF s0.heap g pw w (faOf s0.heap) base (kSql s0.heap) (d + 3) 38 [tLike, lLike] := by
  have W := wd Y hC
  obtain ⟨np, cp, rp, r1, o1, p1, r, hb⟩ := rcOf_inv txtZ_at
  refine RaiseF.of W.lim hg (fnOk_inv ok38.1) (law_at Y (by decide) (by decide) (by decide)) (start_len ok38.2) fun env h0 L l B p F => ?_
  rw [start_eq ok38.2 rfl, hb]
  have S := cS_snd (N := NQ) (c := callAct (fT 38) env h0 L) W H2 (fun _ _ _ e => orc_takes e) (Γ := gmOf (fT 38).scope) rfl rfl 50
  refine RaiseC.app (S.2 txtZ.1) ((txt_K d).pre p) (RaiseC.here (RaiseC.ifT ((comp_snd W H2 (fun _ _ _ e => orc_takes e) fuel g38 _ true _ _ txt_t rfl rfl).2 rfl) (txt_v d p) (RaiseC.here (RaiseC.ret ?_))))
  exact rk_call Y hC hg H2 (k := 38) rfl rfl (txt_K d) F (mat_raise Y hg hC H1) p
theorem like_raise (Y : Gd w s0) (hg : g.P = none) (hC : g.C = kPart s0.heap) (H : ∀ e, e ≤ d + 3 → CallOk s0.heap g pw w (faOf s0.heap) e (orc e)) : RaiseF s0.heap g pw w (faOf s0.heap) base (kSql s0.heap) (d + 4) 37 [tLike, lLike, tBin, .none] := by
  have W := wd Y hC
  obtain ⟨np, cp, rp, r, hb⟩ := rlOf_inv fnZ_at
  have H3 := H (d + 3) (Nat.le_refl _)
  refine RaiseF.of W.lim hg (fnOk_inv ok37.1) (law_at Y (by decide) (by decide) (by decide)) (start_len ok37.2) fun env h0 L l B p F => ?_
  rw [start_eq ok37.2 rfl, hb]
  have S := cS_snd (N := NQ) (c := callAct (fT 37) env h0 L) W H3 (fun _ _ _ e => orc_takes e) (Γ := gmOf (fT 37).scope) rfl rfl 50
  refine RaiseC.app (S.2 fnZ.1) ((fn_K d).pre p) (RaiseC.here (RaiseC.ret ?_))
  exact rk_call Y hC hg H3 (k := 37) rfl rfl (fn_K d) F (txt_raise Y hg hC (H _ (by omega)) (H _ (by omega))) p
end
theorem optB_inv {o : Option Bool} (h : optB o = true) : o = some true := by
  cases o with
  | none => cases h
  | some b => exact congrArg some h
section
variable {α : Type} {x : PV} {r : α}
theorem str_i {f : Str → Option α} (h : strE f none x = some r) : ∃ s, x = .str s ∧ f s = some r := by
  cases x with
  | str s => exact ⟨s, rfl, h⟩
  | _ => exact noneN h
theorem list_i {f : List PV → Option α} (h : listE f none x = some r) : ∃ l, x = .list l ∧ f l = some r := by
  cases x with
  | list l => exact ⟨l, rfl, h⟩
  | _ => exact noneN h
theorem int_i {f : Int → Option α} (h : intE f none x = some r) : ∃ i, x = .int i ∧ f i = some r := by
  cases x with
  | int i => exact ⟨i, rfl, h⟩
  | _ => exact noneN h
theorem one_i {f : PV → Option α} {l : List PV} (h : one f l = some r) : ∃ x, l = [x] ∧ f x = some r := by
  cases l with
  | nil => exact noneN h
  | cons x l =>
    cases l with
    | nil => exact ⟨x, rfl, h⟩
    | cons _ _ => exact noneN h
end
theorem special_inv {xs : List PV} (h : special xs = true) : xs = [tAbs, lMin] ∨ xs = [tLike, lLike] := by
  obtain ⟨x, y, e, h⟩ := two_inv (optB_inv h)
  obtain ⟨n, e1, h⟩ := str_i h
  obtain ⟨l, e2, h⟩ := list_i h
  rw [e, e1, e2]
  rcases (Bool.or_eq_true _ _).mp (Option.some.inj h) with h | h
  · obtain ⟨h1, h2⟩ := and_inv h
    obtain ⟨z, e3, h2⟩ := one_i (optB_inv h2)
    obtain ⟨i, e4, h2⟩ := int_i h2
    rw [eq_of_beq h1, e3, e4, eq_of_beq (Option.some.inj h2)]
    exact .inl (by kernel_rfl)
  · obtain ⟨h1, h2⟩ := and_inv h
    have h2 := optB_inv h2
    cases l with
    | nil => exact noneN h2
    | cons z r =>
      obtain ⟨u, v, e3, h2⟩ := two_inv h2
      obtain ⟨a, e4, h2⟩ := str_i h2
      obtain ⟨b, e5, h2⟩ := str_i h2
      obtain ⟨c, e6, h2⟩ := str_i h2
      obtain ⟨h2, h5⟩ := and_inv (Option.some.inj h2)
      obtain ⟨h3, h4⟩ := and_inv h2
      rw [eq_of_beq h1, e3, e4, e5, e6, eq_of_beq h3, eq_of_beq h4, eq_of_beq h5]
      exact .inr (by kernel_rfl)
theorem spec_none {w : World} {s0 : Shared} {g : Cfg} (Y : Gd w s0) (hg : g.P = none) (hC : g.C = kPart s0.heap) : SpecOk s0.heap g w (faOf s0.heap) := by
  intro d hd H A s B p xs vs hsp R ff K hr ht
  obtain ⟨e, rfl⟩ : ∃ e, d = e + 5 := ⟨d - 5, by omega⟩
  rcases special_inv hsp with rfl | rfl
  · exact catch_snd Y hg hC (H _ (Nat.le_refl _)) rfl rfl (fun base => abs_raise (d := e + 2) Y hg hC (H _ (by omega))) R ff K hr ht
  · exact catch_snd Y hg hC (H _ (Nat.le_refl _)) rfl rfl (fun base => like_raise (d := e + 1) Y hg hC fun e' he => H e' (by omega)) R ff K hr ht
theorem spec_pf {xs : List PV} (h : special xs = true) : ∀ x ∈ xs, PF x := by
  have no : ∀ x ∈ ([] : List PV), PF x := fun x m => nomatch m
  rcases special_inv h with e | e
  · rw [e]
    exact List.forall_mem_cons.mpr ⟨PF.str _, List.forall_mem_cons.mpr ⟨PF.list (List.forall_mem_cons.mpr ⟨PF.int _, no⟩), no⟩⟩
  · rw [e]
    exact List.forall_mem_cons.mpr ⟨PF.str _, List.forall_mem_cons.mpr ⟨PF.list (List.forall_mem_cons.mpr ⟨PF.str _, List.forall_mem_cons.mpr ⟨PF.str _, List.forall_mem_cons.mpr ⟨PF.str _, no⟩⟩⟩), no⟩⟩
theorem spec_ok : SpecT := by
  intro w s0 g Y hC
  obtain ⟨P?, C⟩ := g
  cases P? with
  | none => exact spec_none Y rfl hC
  | some P =>
    intro d hd _ A s B p xs vs hsp R ff K hr ht
    have hC : C = kPart s0.heap := hC
    have H : ∀ d, CallOk s0.heap ⟨Option.none, C⟩ pw w (faOf s0.heap) d (orc d) := call_ok (wd Y hC) (fun k hk => fn_tab Y.names hk) (takes_there Y.cls) (part_ok Y hC) (spec_none Y rfl hC)
    have hr' : RdL ⟨Option.none, C⟩ B vs xs := ⟨hr.1, fun i v x e1 e2 => (spec_pf hsp x (List.mem_of_getElem? e2)).2 C P B v (hr.2 i v x e1 e2)⟩
    have K' : Kp s0.heap ⟨Option.none, C⟩ B p s.heap := ⟨K.base, K.keep, fun _ e => (by cases e), fun _ e => (by cases e)⟩
    obtain ⟨l, hl, hlm⟩ := ff
    have ff' : FF ⟨Option.none, C⟩ B A s.heap := ⟨l, hl, fun env m => let ⟨q1, L, o, es, n, q2, q3, q4, q5, _⟩ := hlm env m; ⟨q1, L, o, es, n, q2, q3, q4, q5, fun z => (by cases z)⟩⟩
    refine G.mono (spec_none Y rfl hC d hd (fun e _ => H e) A s B p xs vs hsp R ff' K' hr' ht) fun v s' k => ?_
    cases k with
    | mk X r t =>
    refine .mk (s := s) ⟨X.mono, X.new, X.keep, fun a o e _ => X.old a o e (fun z => by cases z), X.there, fun a e => ?_⟩ (Rd.lift r) t
    obtain ⟨t1, u1, n1, q⟩ := K.pool a e
    exact ⟨t1, u1, n1, (X.old a _ q (fun z => by cases z)).exact fun es ep z => by cases z⟩
theorem law_done (left : LeftO pw qv lv (fun _ => true) obs want 6400) : rwL.Holds := law_holds left (main_of spec_ok)
end Nt
theorem PySem.Challenge.cw_nt0115_01_holds : PySem.Challenge.rw_nt0115_01.Holds :=
  Nt.law_done Nt.left
