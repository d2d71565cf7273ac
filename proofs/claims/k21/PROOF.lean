import PyProof.Rows.All
import Wide.All
import OpenK.AllK
import Wide.FinOn
import HandS.ForMost
import HandS.Deep
import HandS.Flow
import HandS.TupAny
import HandS.TupMul
import HandS.Style
import HandS.Zip
import KE.KDictKeyed
import KE.KeyNested
import KE.DataAny
import KE.DataMinMax
import KE.SortData
import KE.KTupSum
import HandS.Flt
import HandS.Sort
import HandS.Walk
import KE.GoesEnum
import HandS.IsInst
import KE.KRevSl
import HandS.Dict
import KE.KDictZip
import KE.KDictItemsList
import KE.GoesDict
import HandS.Conv
import HandS.DictTup
import HandS.Defaults
import HandS.Codes
import HandS.Ends
import HandS.Head0
import HandS.Head1
import HandS.Head2
import HandS.HeadEnd
import HandS.HeadHook1
import HandS.HeadHook2
import PySem.Challenge.RW_stretchrows_k21_whole_roots_of_the_form
set_option Elab.async false
set_option linter.all false
set_option maxRecDepth 100000
set_option maxHeartbeats 0
section
/-! SrData: deep data in the abstract heap: Rp (a value stands for a datum), Grow (what an expression may do), the pool of draws, the readings made of functions on data. -/
namespace SR
open PySem PySem.Spec PyProof.Rows L2
abbrev D := PyData

/-- the tuple at a has no dict of its own -/
def ExT (K : PySem.W.Frag) (F : Hp) (a : Addr) : Prop := (∃ o vs, F a = some (.frz o (.tup vs)) ∧ o.dict = none) ∨ ∃ o, K.lookup a = some o ∧ o.dict = none
mutual
inductive Rp (K : PySem.W.Frag) (F : Hp) : V → D → Prop
  | non : Rp K F .non .none
  | bl (b : Bool) : Rp K F (.bl b) (.bool b)
  | int (i : Int) : Rp K F (.int i) (.int i)
  | str (x : Str) : Rp K F (.str x) (.str x)
  | lst {a : Addr} {vs : List V} {ds : List D} : F a = some (.lst vs) → RpAll K F vs ds → vs.length ≤ sizeLine → Rp K F (.ref a) (.list ds)
  | tup {a : Addr} {vs : List V} {ds : List D} : SqT K F a vs → RpAll K F vs ds → vs.length ≤ sizeLine → ExT K F a → Rp K F (.ref a) (.tuple ds)
inductive RpAll (K : PySem.W.Frag) (F : Hp) : List V → List D → Prop
  | nil : RpAll K F [] []
  | cons {v : V} {vs : List V} {d : D} {ds : List D} : Rp K F v d → RpAll K F vs ds → RpAll K F (v :: vs) (d :: ds)
end

/-- all that stands stays -/
abbrev Ex (F H : Hp) : Prop := ∀ a o, F a = some o → H a = some o
theorem ex_refl (F : Hp) : Ex F F := fun _ _ h => h
theorem ex_trans {F G H : Hp} (a : Ex F G) (b : Ex G H) : Ex F H := fun x o h => b x o (a x o h)
theorem ex_new {H : Hp} {p : Addr} {o : HO} (h : H p = none) : Ex H (upd H p o) := fun a u e => by
  rw [upd_ne (ne_of_none e h)]; exact e
theorem ex_back {F H : Hp} {p : Addr} (e : Ex F H) (h : H p = none) : F p = none := by
  cases q : F p with
  | none => rfl
  | some o => rw [e p o q] at h; cases h
theorem ex_rd {F H : Hp} {a : Addr} {u : HO} (e : Ex F H) (h : Rd F a u) : Rd H a u := by
  rcases h with h | ⟨o, h⟩
  · exact .inl (e a _ h)
  · exact .inr ⟨o, e a _ h⟩
theorem ex_sqL {K : PySem.W.Frag} {F H : Hp} {a : Addr} {xs : List V} (e : Ex F H) (h : SqL K F a xs) : SqL K H a xs := by
  rcases h with h | h
  · exact .inl (ex_rd e h)
  · exact .inr h
theorem ex_sqT {K : PySem.W.Frag} {F H : Hp} {a : Addr} {xs : List V} (e : Ex F H) (h : SqT K F a xs) : SqT K H a xs := by
  rcases h with h | h
  · exact .inl (ex_rd e h)
  · exact .inr h

theorem ex_ExT {K : PySem.W.Frag} {F H : Hp} {a : Addr} (e : Ex F H) (h : ExT K F a) : ExT K H a := by
  rcases h with ⟨o, vs, h, d⟩ | h
  · exact .inl ⟨o, vs, e _ _ h, d⟩
  · exact .inr h
mutual
theorem Rp.mono {K : PySem.W.Frag} {F G : Hp} (e : Ex F G) : ∀ {v : V} {d : D}, Rp K F v d → Rp K G v d
  | _, _, .non => .non
  | _, _, .bl b => .bl b
  | _, _, .int i => .int i
  | _, _, .str x => .str x
  | _, _, .lst h r z => .lst (e _ _ h) (RpAll.mono e r) z
  | _, _, .tup h r z x => .tup (ex_sqT e h) (RpAll.mono e r) z (ex_ExT e x)
theorem RpAll.mono {K : PySem.W.Frag} {F G : Hp} (e : Ex F G) : ∀ {vs : List V} {ds : List D}, RpAll K F vs ds → RpAll K G vs ds
  | _, _, .nil => .nil
  | _, _, .cons r t => .cons (Rp.mono e r) (RpAll.mono e t)
end
mutual
theorem Rp.dp {K : PySem.W.Frag} {F : Hp} : ∀ {v : V} {d : D}, Rp K F v d → Dp K F v d
  | _, _, .non => .non
  | _, _, .bl b => .bl b
  | _, _, .int i => .int i
  | _, _, .str x => .str x
  | _, _, .lst h r _ => .lst (SqL.of h) (RpAll.dp r)
  | _, _, .tup h r _ _ => .tup h (RpAll.dp r)
theorem RpAll.dp {K : PySem.W.Frag} {F : Hp} : ∀ {vs : List V} {ds : List D}, RpAll K F vs ds → DpAll K F vs ds
  | _, _, .nil => .nil
  | _, _, .cons r t => .cons (Rp.dp r) (RpAll.dp t)
end

section
variable {K : PySem.W.Frag} {F : Hp} {vs ws : List V} {ds es : List D}
theorem RpAll.len : ∀ {vs : List V} {ds : List D}, RpAll K F vs ds → vs.length = ds.length
  | _, _, .nil => rfl
  | _, _, .cons _ t => congrArg (· + 1) (RpAll.len t)
theorem RpAll.get : ∀ {vs : List V} {ds : List D} {i : Nat} {d : D}, RpAll K F vs ds → ds[i]? = some d → ∃ v, vs[i]? = some v ∧ Rp K F v d
  | _, _, _, _, .nil, e => by simp at e
  | _, _, 0, _, .cons r _, e => by simp at e; subst e; exact ⟨_, rfl, r⟩
  | _, _, i + 1, d, .cons _ t, e => by
    obtain ⟨v, h1, h2⟩ := RpAll.get (i := i) (d := d) t (by simpa using e)
    exact ⟨v, by simpa using h1, h2⟩
theorem RpAll.getV : ∀ {vs : List V} {ds : List D} {i : Nat} {v : V}, RpAll K F vs ds → vs[i]? = some v → ∃ d, ds[i]? = some d ∧ Rp K F v d
  | _, _, _, _, .nil, e => by simp at e
  | _, _, 0, _, .cons r _, e => by simp at e; subst e; exact ⟨_, rfl, r⟩
  | _, _, i + 1, v, .cons _ t, e => by
    obtain ⟨d, h1, h2⟩ := RpAll.getV (i := i) (v := v) t (by simpa using e)
    exact ⟨d, by simpa using h1, h2⟩
theorem RpAll.append : ∀ {vs ws : List V} {ds es : List D}, RpAll K F vs ds → RpAll K F ws es → RpAll K F (vs ++ ws) (ds ++ es)
  | _, _, _, _, .nil, s => s
  | _, _, _, _, .cons r t, s => .cons r (RpAll.append t s)
theorem RpAll.take : ∀ {vs : List V} {ds : List D} (n : Nat), RpAll K F vs ds → RpAll K F (vs.take n) (ds.take n)
  | _, _, 0, _ => .nil
  | _, _, _ + 1, .nil => .nil
  | _, _, n + 1, .cons r t => .cons r (RpAll.take n t)
theorem RpAll.drop : ∀ {vs : List V} {ds : List D} (n : Nat), RpAll K F vs ds → RpAll K F (vs.drop n) (ds.drop n)
  | _, _, 0, r => r
  | _, _, _ + 1, .nil => .nil
  | _, _, n + 1, .cons _ t => RpAll.drop n t
theorem RpAll.set {v : V} {d : D} (r : Rp K F v d) : ∀ {vs : List V} {ds : List D} (i : Nat), RpAll K F vs ds → RpAll K F (vs.set i v) (ds.set i d)
  | _, _, _, .nil => .nil
  | _, _, 0, .cons _ t => .cons r t
  | _, _, i + 1, .cons q t => .cons q (RpAll.set r i t)
theorem RpAll.reverse {vs : List V} {ds : List D} (h : RpAll K F vs ds) : RpAll K F vs.reverse ds.reverse := by
  induction vs generalizing ds with
  | nil => cases h; exact .nil
  | cons v vs ih =>
    cases h with
    | cons r t =>
      rw [List.reverse_cons, List.reverse_cons]
      exact RpAll.append (ih t) (.cons r .nil)
theorem RpAll.rep {vs : List V} {ds : List D} (h : RpAll K F vs ds) : ∀ k : Nat, RpAll K F (List.replicate k vs).flatten (List.replicate k ds).flatten
  | 0 => .nil
  | k + 1 => by
    rw [List.replicate_succ, List.replicate_succ, List.flatten_cons, List.flatten_cons]
    exact h.append (RpAll.rep h k)
theorem RpAll.ints : ∀ {vs : List V} {ns : List Int}, RpAll K F vs (ns.map PyData.int) → vs = ns.map V.int
  | _, [], .nil => rfl
  | _, n :: ns, .cons r t => by cases r; rw [RpAll.ints t]; rfl
theorem RpAll.bls : ∀ {vs : List V} {ns : List Bool}, RpAll K F vs (ns.map PyData.bool) → vs = ns.map V.bl
  | _, [], .nil => rfl
  | _, n :: ns, .cons r t => by cases r; rw [RpAll.bls t]; rfl
theorem RpAll.strs : ∀ {vs : List V} {ns : List Str}, RpAll K F vs (ns.map PyData.str) → vs = ns.map V.str
  | _, [], .nil => rfl
  | _, n :: ns, .cons r t => by cases r; rw [RpAll.strs t]; rfl
theorem RpAll.of_ints : ∀ (ns : List Int), RpAll K F (ns.map V.int) (ns.map PyData.int)
  | [] => .nil
  | n :: ns => .cons (.int n) (RpAll.of_ints ns)
theorem RpAll.of_strs : ∀ (ns : List Str), RpAll K F (ns.map V.str) (ns.map PyData.str)
  | [] => .nil
  | n :: ns => .cons (.str n) (RpAll.of_strs ns)
end

/-! ### what an expression may do: F is the part of H that never changes (from which data are read); at pa the pool may change -/
structure Grow (pa : Option Addr) (F H F' H' : Hp) : Prop where
  f : Ex F F'
  sub : Ex F' H'
  h : ∀ a o, some a ≠ pa → H a = some o → H' a = some o
  n : ∀ a o, H a = some o → F a = none → F' a = none
  p : ∀ a, pa = some a → ∀ o, H a = some o → ∃ o', H' a = some o'
theorem Grow.refl {pa : Option Addr} {F H : Hp} (e : Ex F H) : Grow pa F H F H := ⟨ex_refl F, e, fun _ _ _ q => q, fun _ _ _ q => q, fun _ _ o q => ⟨o, q⟩⟩
theorem Grow.trans {pa : Option Addr} {F H F1 H1 F2 H2 : Hp} (a : Grow pa F H F1 H1) (b : Grow pa F1 H1 F2 H2) : Grow pa F H F2 H2 :=
  ⟨ex_trans a.f b.f, b.sub, fun x o ne q => b.h x o ne (a.h x o ne q), fun x o q n => by
    by_cases hx : some x = pa
    · obtain ⟨o', q'⟩ := a.p x hx.symm o q
      exact b.n x o' q' (a.n x o q n)
    · exact b.n x o (a.h x o hx q) (a.n x o q n), fun x hx o q => by
    obtain ⟨o', q'⟩ := a.p x hx o q
    exact b.p x hx o' q'⟩
theorem Grow.any {pa : Option Addr} {F H F' H' : Hp} (g : Grow none F H F' H') : Grow pa F H F' H' :=
  ⟨g.f, g.sub, fun a o _ q => g.h a o (by simp) q, g.n, fun a _ o q => ⟨o, g.h a o (by simp) q⟩⟩
/-- a new object that data may speak of -/
theorem Grow.new {pa : Option Addr} {F H : Hp} {p : Addr} {o : HO} (e : Ex F H) (hp : H p = none) : Grow pa F H (upd F p o) (upd H p o) :=
  ⟨ex_new (ex_back e hp), fun a u q => by
    by_cases ha : a = p
    · subst ha; rw [upd_same] at q ⊢; exact q
    · rw [upd_ne ha] at q ⊢; exact e a u q, fun a u _ q => by rw [upd_ne (ne_of_none q hp)]; exact q, fun a u q n => by rw [upd_ne (ne_of_none q hp)]; exact n,
    fun a _ u q => ⟨u, by rw [upd_ne (ne_of_none q hp)]; exact q⟩⟩
/-- a new object that no datum speaks of -/
theorem Grow.scrap {pa : Option Addr} {F H : Hp} {p : Addr} {o : HO} (e : Ex F H) (hp : H p = none) : Grow pa F H F (upd H p o) :=
  ⟨ex_refl F, ex_trans e (ex_new hp), fun a u _ q => by rw [upd_ne (ne_of_none q hp)]; exact q, fun _ _ _ n => n, fun a _ u q => ⟨u, by rw [upd_ne (ne_of_none q hp)]; exact q⟩⟩

/-! ### the pool -/
structure Pool where
  script : List Int
  pos : Int
  cur : Int
  cnt : Int
  salt : Int
  len : script.length ≤ sizeLine
/-- an item of the pool -/
def Pool.at (π : Pool) : Nat → Option D
  | 0 => some (.list (π.script.map PyData.int))
  | 1 => some (.int π.pos)
  | 2 => some (.int π.cur)
  | 3 => some (.int π.cnt)
  | 4 => some (.int π.salt)
  | _ => none
/-- the pool with an item put -/
def Pool.put (π : Pool) : Nat → D → Option Pool
  | 1, .int i => some { π with pos := i }
  | 2, .int i => some { π with cur := i }
  | 3, .int i => some { π with cnt := i }
  | 4, .int i => some { π with salt := i }
  | _, _ => none
def PoolAt (K : PySem.W.Frag) (pa : Option Addr) (F H : Hp) (π : Pool) : Prop :=
  ∀ a, pa = some a → F a = none ∧ ∃ sa, H a = some (.lst [.ref sa, .int π.pos, .int π.cur, .int π.cnt, .int π.salt]) ∧ F sa = some (.lst (π.script.map V.int))
theorem PoolAt.no {K : PySem.W.Frag} {F H : Hp} {π : Pool} : PoolAt K none F H π := fun _ e => by cases e
theorem PoolAt.grow0 {K : PySem.W.Frag} {pa : Option Addr} {F H F' H' : Hp} {π : Pool} (P : PoolAt K pa F H π) (g : Grow none F H F' H') : PoolAt K pa F' H' π := fun a e => by
  obtain ⟨n, sa, h1, h2⟩ := P a e
  exact ⟨g.n a _ h1 n, sa, g.h a _ (by simp) h1, g.f sa _ h2⟩

/-! ### partial functions that draw -/
abbrev M (α : Type) := Pool → Option (α × Pool)
def ret {α : Type} (a : α) : M α := fun π => some (a, π)
def stuck {α : Type} : M α := fun _ => none
def bnd {α β : Type} (m : M α) (f : α → M β) : M β := fun π => match m π with
  | some (a, π1) => f a π1
  | none => none
def lift {α : Type} : Option α → M α
  | some a => ret a
  | none => stuck
section
variable {α β γ : Type}
@[simp] theorem bnd_ret (a : α) (f : α → M β) : bnd (ret a) f = f a := rfl
@[simp] theorem bnd_stuck (f : α → M β) : bnd stuck f = stuck := rfl
@[simp] theorem bnd_assoc (m : M α) (f : α → M β) (g : β → M γ) : bnd (bnd m f) g = bnd m fun a => bnd (f a) g := by
  funext π; unfold bnd; cases m π <;> rfl
@[simp] theorem lift_some (a : α) : lift (some a) = ret a := rfl
@[simp] theorem lift_none : lift (none : Option α) = stuck := rfl
@[simp] theorem ret_ap (a : α) (π : Pool) : ret a π = some (a, π) := rfl
@[simp] theorem stuck_ap (π : Pool) : (stuck : M α) π = none := rfl
theorem bnd_some {m : M α} {f : α → M β} {π : Pool} {b : β} {π' : Pool} (h : bnd m f π = some (b, π')) : ∃ a π1, m π = some (a, π1) ∧ f a π1 = some (b, π') := by
  unfold bnd at h
  cases e : m π with
  | none => rw [e] at h; cases h
  | some p => rw [e] at h; exact ⟨p.1, p.2, rfl, h⟩
theorem lift_eq {o : Option α} {π : Pool} {a : α} {π' : Pool} (h : lift o π = some (a, π')) : o = some a ∧ π' = π := by
  cases o with
  | none => cases h
  | some b => cases h; exact ⟨rfl, rfl⟩
theorem bnd_ap {m : M α} {f : α → M β} {π π1 : Pool} {a : α} (h : m π = some (a, π1)) : bnd m f π = f a π1 := by unfold bnd; rw [h]
end

/-! ### the slots of a def -/
inductive Cell where
  | lst (ds : List D)
  | dic (kvs : List (D × D))
inductive Slot where
  | no
  | dat (d : D)
  | own (c : Cell)
  | pool
abbrev Sl := List Slot

/-- the program and the world that dicts lean on -/
class Wd where
  prog : Program
  w : World
mutual
/-- a datum as a key -/
def nk : D → Option NestedKey
  | .int i => some (.num i)
  | .str x => some (.text x)
  | .tuple ds => (nks ds).map .tup
  | _ => none
def nks : List D → Option (List NestedKey)
  | [] => some []
  | d :: ds => match nk d, nks ds with
    | some k, some ks => some (k :: ks)
    | _, _ => none
end
/-- an entry: its key, where the key's tuple stands, the value -/
abbrev Ent := NestedKey × Addr × V
def EntV (p : Ent) (q : NestedKey × Addr × Value) : Prop := p.1 = q.1 ∧ p.2.1 = q.2.1 ∧ RelV p.2.2 q.2.2
def EntD (K : PySem.W.Frag) (F : Hp) (p : Ent) (q : D × D) : Prop := nk q.1 = some p.1 ∧ p.1.depth ≤ 8 ∧ Rp K F (.ref p.2.1) q.1 ∧ Rp K F p.2.2 q.2
variable [Wd]
/-- at a stands a dict with these entries -/
def dicP (a : Addr) (ents : List Ent) (ep : Nat) : Heap → Prop := fun h => (a == sysModules) = false ∧ ents.length ≤ sizeLine ∧ ∃ xs : List (NestedKey × Addr × Value), Paired EntV ents xs ∧
  ∃ o es, h.get? a = some o ∧ o.ExactDict ∧ o.data = .dict es ep ∧ es.toList = xs.map (entryOfKey (nestedKind Wd.prog Wd.w)) ∧ (xs.map (·.1)).Nodup
def DicO (a : Addr) (ents : List Ent) (ep : Nat) : HO := .ext (dicP a ents ep)
/-- an own object at a: no datum speaks of it -/
def CellAt' (K : PySem.W.Frag) (F H : Hp) (a : Addr) : Cell → Prop
  | .lst ds => ∃ vs, H a = some (.lst vs) ∧ RpAll K F vs ds ∧ vs.length ≤ sizeLine
  | .dic kvs => ∃ ents ep, H a = some (DicO a ents ep) ∧ Paired (EntD K F) ents kvs ∧ ents.length ≤ sizeLine
theorem EntD.mono {K : PySem.W.Frag} {F G : Hp} (e : Ex F G) {p : Ent} {q : D × D} (h : EntD K F p q) : EntD K G p q := ⟨h.1, h.2.1, h.2.2.1.mono e, h.2.2.2.mono e⟩
structure Own (K : PySem.W.Frag) (pa : Option Addr) (F H : Hp) (a : Addr) (c : Cell) : Prop where
  f : F a = none
  np : pa ≠ some a
  at_ : CellAt' K F H a c
structure Env (K : PySem.W.Frag) (pa : Option Addr) (σ : L2.St) (ρ : Sl) (F H : Hp) : Prop where
  len : ρ.length = σ.length
  dat : ∀ (i : Nat) d, ρ[i]? = some (.dat d) → ∃ v, σ[i]? = some (some v) ∧ Rp K F v d
  own : ∀ (i : Nat) c, ρ[i]? = some (.own c) → ∃ a, σ[i]? = some (some (.ref a)) ∧ Own K pa F H a c
  inj : ∀ (i j : Nat) c c' a, ρ[i]? = some (.own c) → ρ[j]? = some (.own c') → σ[i]? = some (some (.ref a)) → σ[j]? = some (some (.ref a)) → i = j
  pool : ∀ i : Nat, ρ[i]? = some .pool → ∃ a, pa = some a ∧ σ[i]? = some (some (.ref a))

theorem CellAt'.grow {K : PySem.W.Frag} {pa : Option Addr} {F H F' H' : Hp} (g : Grow pa F H F' H') {a : Addr} (np : pa ≠ some a) {c : Cell} (h : CellAt' K F H a c) : CellAt' K F' H' a c := by
  cases c with
  | lst ds => obtain ⟨vs, h1, h2, h3⟩ := h; exact ⟨vs, g.h a _ (fun e => np e.symm) h1, h2.mono g.f, h3⟩
  | dic kvs => obtain ⟨es, ep, h1, h2⟩ := h; exact ⟨es, ep, g.h a _ (fun e => np e.symm) h1, Paired.mapP h2.1 fun _ _ z => z.mono g.f, h2.2⟩
theorem CellAt'.there {K : PySem.W.Frag} {F H : Hp} {a : Addr} {c : Cell} (h : CellAt' K F H a c) : ∃ o, H a = some o := by
  cases c with
  | lst ds => obtain ⟨vs, h1, _⟩ := h; exact ⟨_, h1⟩
  | dic kvs => obtain ⟨es, ep, h1, _⟩ := h; exact ⟨_, h1⟩
theorem Own.grow {K : PySem.W.Frag} {pa : Option Addr} {F H F' H' : Hp} (g : Grow pa F H F' H') {a : Addr} {c : Cell} (o : Own K pa F H a c) : Own K pa F' H' a c := by
  obtain ⟨u, hu⟩ := o.at_.there
  exact ⟨g.n a u hu o.f, o.np, o.at_.grow g o.np⟩
theorem Env.grow {K : PySem.W.Frag} {pa : Option Addr} {σ : L2.St} {ρ : Sl} {F H F' H' : Hp} (g : Grow pa F H F' H') (e : Env K pa σ ρ F H) : Env K pa σ ρ F' H' where
  len := e.len
  dat := fun i d h => let ⟨v, h1, h2⟩ := e.dat i d h; ⟨v, h1, h2.mono g.f⟩
  own := fun i c h => let ⟨a, h1, h2⟩ := e.own i c h; ⟨a, h1, h2.grow g⟩
  inj := e.inj
  pool := e.pool

/-- the whole state of a def's body: slots, pool, the lasting part F of H -/
structure Stt (K : PySem.W.Frag) (pa : Option Addr) (σ : L2.St) (ρ : Sl) (π : Pool) (F H : Hp) : Prop where
  env : Env K pa σ ρ F H
  ex : Ex F H
  pool : PoolAt K pa F H π
theorem Stt.next {K : PySem.W.Frag} {pa : Option Addr} {σ : L2.St} {ρ : Sl} {π π' : Pool} {F H F' H' : Hp} (s : Stt K pa σ ρ π F H) (g : Grow pa F H F' H') (p : PoolAt K pa F' H' π') : Stt K pa σ ρ π' F' H' :=
  ⟨s.env.grow g, g.sub, p⟩
theorem Stt.next0 {K : PySem.W.Frag} {pa : Option Addr} {σ : L2.St} {ρ : Sl} {π : Pool} {F H F' H' : Hp} (s : Stt K pa σ ρ π F H) (g : Grow none F H F' H') : Stt K pa σ ρ π F' H' :=
  ⟨s.env.grow g.any, g.sub, s.pool.grow0 g⟩

/-! ### the readings of functions on data -/
section
variable (K : PySem.W.Frag) (pa : Option Addr)
/-- an expression of the value f -/
def tD (f : Sl → M D) : TE := fun σ H Q => ∃ ρ π F d π', Stt K pa σ ρ π F H ∧ f ρ π = some (d, π') ∧ ∀ F' H' v, Grow pa F H F' H' → PoolAt K pa F' H' π' → Rp K F' v d → Q v H'
/-- a test -/
def tDT (f : Sl → M Bool) : TT := fun σ H Q => ∃ ρ π F b π', Stt K pa σ ρ π F H ∧ f ρ π = some (b, π') ∧ ∀ F' H', Grow pa F H F' H' → PoolAt K pa F' H' π' → Q b H'
/-- arguments -/
def tDA (f : Sl → M (List D)) : TA := fun σ H Q => ∃ ρ π F ds π', Stt K pa σ ρ π F H ∧ f ρ π = some (ds, π') ∧ ∀ F' H' vs, Grow pa F H F' H' → PoolAt K pa F' H' π' → RpAll K F' vs ds → Q vs H'
/-- an expression that makes a new list -/
def tDL (f : Sl → M (List D)) : TE := fun σ H Q => ∃ ρ π F ds π', Stt K pa σ ρ π F H ∧ f ρ π = some (ds, π') ∧ ∀ F' H' p vs, Grow pa F H F' H' → PoolAt K pa F' H' π' → H p = none → F' p = none → pa ≠ some p → H' p = some (.lst vs) → vs.length ≤ sizeLine → RpAll K F' vs ds → Q (.ref p) H'
end

section
variable {X : Cx} {e : Expr} {es : List Expr} {t t' : TE} {u u' : TT} {a a' : TA}
theorem PE.imp (h : PE X e t) (w : ∀ σ H Q, t' σ H Q → t σ H Q) : PE X e t' := ⟨fun pins s σ H Q I q => h.run pins s σ H Q I (w σ H Q q)⟩
theorem PT.imp (h : PT X e u) (w : ∀ σ H Q, u' σ H Q → u σ H Q) : PT X e u' := ⟨fun pins s σ H Q I q => h.run pins s σ H Q I (w σ H Q q)⟩
theorem PW.imp (h : PW X e u) (w : ∀ σ H Q, u' σ H Q → u σ H Q) : PW X e u' := ⟨fun wh pins s σ H Q I q => h.run wh pins s σ H Q I (w σ H Q q)⟩
theorem PA.imp (h : PA X es a) (w : ∀ σ H Q, a' σ H Q → a σ H Q) : PA X es a' := ⟨fun p pins s σ H Q I q => h.run p pins s σ H Q I (w σ H Q q)⟩
theorem PSs.imp {st : List Stmt} {t t' : TS} (h : PSs X st t) (w : ∀ D σ H, t' D σ H → t D σ H) : PSs X st t' := ⟨fun pins s σ H D I q => h.run pins s σ H D I (w D σ H q)⟩
theorem PS.imp {st : Stmt} {t t' : TS} (h : PS X st t) (w : ∀ D σ H, t' D σ H → t D σ H) : PS X st t' := ⟨fun pins s σ H D I q => h.run pins s σ H D I (w D σ H q)⟩
theorem PI.imp {tg : Expr} {t t' : TI} (h : PI X tg e t) (w : ∀ σ H R, t' σ H R → t σ H R) : PI X tg e t' := ⟨fun pins s σ H R I q => h.run pins s σ H R I (w σ H R q)⟩
theorem OpR.imp {f : Value → Value → Sem Value} {r r' : R2} (h : OpR X f r) (w : ∀ x y H Q, r' x y H Q → r x y H Q) : OpR X f r' := fun pins s σ H x y v u Q I rx ry q => h pins s σ H x y v u Q I rx ry (w x y H Q q)
end
/-- a new list as a datum -/
theorem tDL_tD {K : PySem.W.Frag} {pa : Option Addr} {f : Sl → M (List D)} {σ : L2.St} {H : Hp} {Q : VK} (h : tD K pa (fun ρ => bnd (f ρ) fun ds => ret (.list ds)) σ H Q) : tDL K pa f σ H Q := by
  obtain ⟨ρ, π, F, d, π', S, e, q⟩ := h
  obtain ⟨ds, π1, e1, e2⟩ := bnd_some e
  cases e2
  refine ⟨ρ, π, F, ds, _, S, e1, fun F' H' p vs g P n1 n2 np hp z0 r => ?_⟩
  have ef : Ex F' (upd F' p (.lst vs)) := ex_new n2
  refine q (upd F' p (.lst vs)) H' (.ref p) ⟨ex_trans g.f ef, fun a o h => ?_, g.h, fun a o h n => ?_, g.p⟩ (fun a e => ?_) (.lst upd_same (r.mono ef) z0)
  · by_cases ha : a = p
    · subst ha; rw [upd_same] at h; cases h; exact hp
    · rw [upd_ne ha] at h; exact g.sub a o h
  · rw [upd_ne (ne_of_none h n1)]; exact g.n a o h n
  · obtain ⟨m1, sa, m2, m3⟩ := P a e
    refine ⟨by rw [upd_ne (fun z => np (by rw [e, z]))]; exact m1, sa, m2, ef sa _ m3⟩
end SR
end
section
/-! SrOps: operators on data. -/
namespace SR
open PySem PySem.Spec PyProof.Rows L2

/-! ### readings of operations on values -/
section
variable (K : PySem.W.Frag)
def rD2 (f : D → D → Option D) : R2 := fun x y H Q => ∃ F d e r, Ex F H ∧ Rp K F x d ∧ Rp K F y e ∧ f d e = some r ∧ ∀ F' H' z, Grow none F H F' H' → Rp K F' z r → Q z H'
def rD1 (f : D → Option D) : V → Hp → VK → Prop := fun x H Q => ∃ F d r, Ex F H ∧ Rp K F x d ∧ f d = some r ∧ ∀ F' H' z, Grow none F H F' H' → Rp K F' z r → Q z H'
/-- a call with arguments -/
def rDC (f : List D → Option D) : List V → Hp → VK → Prop := fun xs H Q => ∃ F ds r, Ex F H ∧ RpAll K F xs ds ∧ f ds = some r ∧ ∀ F' H' z, Grow none F H F' H' → Rp K F' z r → Q z H'
/-- .. whose result is a new list -/
def rDCL (f : List D → Option (List D)) : List V → Hp → VK → Prop := fun xs H Q => ∃ F ds r, Ex F H ∧ RpAll K F xs ds ∧ f ds = some r ∧ ∀ F' H' p vs, Grow none F H F' H' → H p = none → F' p = none → H' p = some (.lst vs) → vs.length ≤ sizeLine → RpAll K F' vs r → Q (.ref p) H'
end
section
variable {X : Cx} {K : PySem.W.Frag} {F H : Hp} {v : V} {d : D}
theorem rp_none (h : Rp K F v .none) : v = .non := by cases h; rfl
theorem rp_bool {b : Bool} (h : Rp K F v (.bool b)) : v = .bl b := by cases h; rfl
theorem rp_int {i : Int} (h : Rp K F v (.int i)) : v = .int i := by cases h; rfl
theorem rp_str {x : Str} (h : Rp K F v (.str x)) : v = .str x := by cases h; rfl
theorem rp_list {ds : List D} (h : Rp K F v (.list ds)) : ∃ a vs, v = .ref a ∧ F a = some (.lst vs) ∧ RpAll K F vs ds := by cases h with | lst a b _ => exact ⟨_, _, rfl, a, b⟩
theorem rp_tuple {ds : List D} (h : Rp K F v (.tuple ds)) : ∃ a vs, v = .ref a ∧ SqT K F a vs ∧ RpAll K F vs ds := by cases h with | tup a b _ => exact ⟨_, _, rfl, a, b⟩
theorem rp_llen {ds : List D} (h : Rp K F v (.list ds)) : ds.length ≤ sizeLine := by cases h with | lst a b z => rw [← b.len]; exact z
theorem rp_tlen {ds : List D} (h : Rp K F v (.tuple ds)) : ds.length ≤ sizeLine := by cases h with | tup a b z => rw [← b.len]; exact z
theorem new_tup {p : Addr} {vs : List V} {ds : List D} {o : Obj} (hd : o.dict = none) (e : Ex F H) (hp : H p = none) (r : RpAll K F vs ds) (z : vs.length ≤ sizeLine) : Grow none F H (upd F p (.frz o (.tup vs))) (upd H p (.frz o (.tup vs))) ∧ Rp K (upd F p (.frz o (.tup vs))) (.ref p) (.tuple ds) :=
  ⟨Grow.new e hp, .tup (.inl (.inr ⟨o, upd_same⟩)) (r.mono (ex_new (ex_back e hp))) z (.inl ⟨o, vs, upd_same, hd⟩)⟩
/-- a new tuple, its object known -/
abbrev tupO (its : List Value) : Obj := { cls := .type "tuple", data := .seq its.toArray }
theorem laidT {X : Cx} {pins : List (Addr × Obj)} {σ : L2.St} {H : Hp} {s : Shared} {xs : List V} {its : List Value} (I : L2.Inv X pins σ H s) (r : Vals xs its) (z : xs.length ≤ sizeLine) (t' : Nat) :
    L2.Inv X pins σ (upd H s.heap.objs.size (.frz (tupO its) (.tup xs))) { s with heap := s.heap.push (tupO its), toks := t' } :=
  I.laid (o := .frz (tupO its) (.tup xs)) (fun b ob q => Heap.get?_push_of_some _ q) (Nat.le_refl _) ⟨Heap.get?_push_size _ rfl, z, its, r, IsTup.new _ _⟩
theorem new_lst {p : Addr} {vs : List V} {ds : List D} (e : Ex F H) (hp : H p = none) (r : RpAll K F vs ds) (z : vs.length ≤ sizeLine) : Grow none F H (upd F p (.lst vs)) (upd H p (.lst vs)) ∧ Rp K (upd F p (.lst vs)) (.ref p) (.list ds) :=
  ⟨Grow.new e hp, .lst upd_same (r.mono (ex_new (ex_back e hp))) z⟩
theorem atI_map {α : Type} {xs : List α} {i : Int} {v : α} (h : atI xs i = some v) : ∃ j, ixN xs.length i = some j ∧ xs[j]? = some v := by
  unfold atI at h
  cases e : ixN xs.length i with
  | none => rw [e] at h; cases h
  | some j => rw [e] at h; exact ⟨j, rfl, h⟩
theorem rp_at {vs : List V} {ds : List D} {i : Int} {d : D} (r : RpAll K F vs ds) (h : atI ds i = some d) : ∃ v, atI vs i = some v ∧ Rp K F v d := by
  obtain ⟨j, e1, e2⟩ := atI_map h
  obtain ⟨v, h1, h2⟩ := r.get e2
  refine ⟨v, ?_, h2⟩
  unfold atI
  rw [r.len, e1]
  exact h1
end

/-! ### arithmetic -/
inductive Op2 where
  | add | sub | mul | mod | fdiv
def Op2.op : Op2 → Operator
  | .add => .Add
  | .sub => .Sub
  | .mul => .Mult
  | .mod => .Mod
  | .fdiv => .FloorDiv
def mulOk (i j : Int) : Bool := (decide (-(2 ^ 64) < i) && decide (i < 2 ^ 64)) || (decide (-(2 ^ 64) < j) && decide (j < 2 ^ 64))
/-- xs repeated k times -/
def rept {α : Type} (k : Int) (xs : List α) : List α := (List.replicate k.toNat xs).flatten
def op2 : Op2 → D → D → Option D
  | .add, .int i, .int j => some (.int (i + j))
  | .add, .str x, .str y => if x.length + y.length ≤ sizeLine then some (.str (x ++ y)) else none
  | .add, .tuple xs, .tuple ys => if xs.length + ys.length ≤ sizeLine then some (.tuple (xs ++ ys)) else none
  | .add, .list xs, .list ys => if xs.length + ys.length ≤ sizeLine then some (.list (xs ++ ys)) else none
  | .sub, .int i, .int j => some (.int (i - j))
  | .mul, .int i, .int j => if mulOk i j then some (.int (i * j)) else none
  | .mul, .tuple xs, .int k => if -1000 ≤ k ∧ k ≤ 1000 ∧ xs.length ≤ 1000 then some (.tuple (rept k xs)) else none
  | .mul, .str x, .int k => if k ≤ 1000 ∧ 0 < x.length ∧ x.length ≤ 1000 ∧ 0 ≤ k then some (.str ⟨(List.replicate k.toNat x.cps.toList).flatten.toArray⟩) else none
  | .mod, .int i, .int j => if 0 < j then some (.int (i % j)) else none
  | .fdiv, .int i, .int j => if 0 < j ∧ j < 1073741824 then some (.int (i / j)) else none
  | _, _, _ => none

/-! ### t * k at any k -/
theorem tuple_mulSame (l : Addr) (items : Array Value) (n : Nat) (dd : Option Addr) (sl : Array (Option Value)) (x : Int) (u : Tok) (c0 : (decide (x < -(2 ^ 63)) || decide (x ≥ 2 ^ 63)) = false) (c1 : (items.isEmpty || x == 1) = true) :
    Meets (Builtin.«tuple.__mul__» ⟨[.ref l, .int x u], []⟩) (fun _ R s => s.heap.get? l = some { cls := .type "tuple", dict := dd, data := .seq items n, slots := sl } ∧ R (.ok (.ret (Value.ref l))) s) :=
  .of_wp fun prog w A R s h => by
    obtain ⟨hp, g, d, tk, os⟩ := s
    obtain ⟨hl, h⟩ := h
    have f1 := AutoSeq1.idx_int
    wp_walk using wpAny_loadPart' hl
    repeat (first
      | (refine wpAny_ite_false (decide_eq_false (by rw [c0]; exact Bool.false_ne_true)) ?_; wp_walk using wpAny_loadPart' hl)
      | (refine wpAny_ite_true (decide_eq_true (by rw [c1])) ?_; wp_walk using wpAny_loadPart' hl))
    exact ⟨_, rfl, h⟩
theorem tuple_mulNone (l : Addr) (items : Array Value) (n : Nat) (dd : Option Addr) (sl : Array (Option Value)) (x : Int) (u : Tok) (c0 : (decide (x < -(2 ^ 63)) || decide (x ≥ 2 ^ 63)) = false) (c1 : (items.isEmpty || x == 1) = false) (c2 : (decide (x ≤ 0) || items.isEmpty) = true) :
    Meets (Builtin.«tuple.__mul__» ⟨[.ref l, .int x u], []⟩) (fun _ R s => s.heap.get? l = some { cls := .type "tuple", dict := dd, data := .seq items n, slots := sl } ∧
      R (.ok (.ret (Value.ref s.heap.objs.size))) { s with heap := s.heap.push { cls := Value.type "tuple", data := Data.seq #[] }, toks := s.toks }) :=
  .of_wp fun prog w A R s h => by
    obtain ⟨hp, g, d, tk, os⟩ := s
    obtain ⟨hl, h⟩ := h
    have f1 := AutoSeq1.idx_int
    wp_walk using wpAny_loadPart' hl
    repeat (first
      | (refine wpAny_ite_false (decide_eq_false (by rw [c0]; exact Bool.false_ne_true)) ?_; wp_walk using wpAny_loadPart' hl)
      | (refine wpAny_ite_false (decide_eq_false (by rw [c1]; exact Bool.false_ne_true)) ?_; wp_walk using wpAny_loadPart' hl)
      | (refine wpAny_ite_true (decide_eq_true (by rw [c2])) ?_; wp_walk using wpAny_loadPart' hl))
    exact ⟨_, rfl, h⟩
section
variable {X : Cx}
def rRepA (K : PySem.W.Frag) : R2 := fun x y H Q => ∃ l k xs, x = .ref l ∧ y = .int k ∧ SqT K H l xs ∧ -1000 ≤ k ∧ k ≤ 1000 ∧ xs.length ≤ 1000 ∧ ((xs = [] ∨ k = 1) → Q (.ref l) H) ∧ (¬ (xs = [] ∨ k = 1) → ∀ p o, o.dict = none → H p = none → Q (.ref p) (upd H p (.frz o (.tup (rept k xs)))))
theorem op_repA : OpR X (binaryOp .Mult) (rRepA X.K) := by
  intro pins s σ H x y v u Q I rx ry h
  obtain ⟨l, k, xs, rfl, rfl, hT, hk, h2, hz, qs, qn⟩ := h
  by_cases hs : xs = [] ∨ k = 1
  · have q := qs hs
    cases rx
    obtain ⟨t, rfl⟩ := ry
    obtain ⟨its, r, ⟨⟨cls, dd, data, sl⟩, ho, hc, n, hd⟩, hsz⟩ := I.tuple hT
    simp only at hc hd
    subst hc hd
    have c0 : (decide (k < -(2 ^ 63)) || decide (k ≥ 2 ^ 63)) = false := by
      rw [decide_eq_false (by omega), decide_eq_false (by omega)] <;> rfl
    have c1 : (its.toArray.isEmpty || k == 1) = true := by
      rcases hs with e | e
      · subst e; cases r; rfl
      · subst e; simp
    refine wpAny_binaryOp_repeat_ref (T := "tuple") (U := "int") (by decide) ⟨_, ho, rfl⟩ (fun s' => typeIs_int s' k t) noFill_tuple_mul F.fills_int_mul F.slot_int_rmul repeat_tuple F.slot_int_index.lookup
      (call_meets F.slot_int_rmul (typeIs_int s k t) F.entry_int_rmul (F.args_int_rmul_2 _ _) (int_rmul_tuple k t l its.toArray n dd sl)
        ⟨ho, rfl, ⟨_, ho, rfl⟩, call_meets F.slot_tuple_mul ⟨_, ho, rfl⟩ F.entry_tuple_mul (F.args_tuple_mul_2 _ _) (tuple_mulSame l its.toArray n dd sl k t c0 c1) ⟨ho, ?_⟩⟩)
    exact ⟨.ref l, H, I, rfl, q⟩
  · have q := qn hs
    have hne : xs ≠ [] := fun e => hs (.inl e)
    have hk1 : k ≠ 1 := fun e => hs (.inr e)
    by_cases h1 : 2 ≤ k
    · cases rx
      obtain ⟨t, rfl⟩ := ry
      obtain ⟨its, r, ⟨⟨cls, dd, data, sl⟩, ho, hc, n, hd⟩, hs'⟩ := I.tuple hT
      simp only at hc hd
      subst hc hd
      have hle : its.length = xs.length := r.length.symm
      have hn : its ≠ [] := fun e => hne (by
        rw [e] at hle
        exact List.eq_nil_of_length_eq_zero hle.symm)
      have hi : its.toArray.isEmpty = false := by
        cases its with
        | nil => exact absurd rfl hn
        | cons a b => rfl
      have hsz0 : its.toArray.size = xs.length := by rw [List.size_toArray, hle]
      have hm : ((its.toArray.size : Nat) : Int) * k ≤ 1000000 := by
        rw [hsz0]
        have a1 : ((xs.length : Nat) : Int) * k ≤ 1000 * k := Int.mul_le_mul_of_nonneg_right (by omega) (by omega)
        omega
      have flen : (List.replicate k.toNat its).flatten.length ≤ sizeLine := by
        rw [PyProof.Rows.lm_len_rep_flat, hle, sizeLine_eq]
        have a1 : k.toNat * xs.length ≤ 1000 * 1000 := Nat.mul_le_mul (by omega) hz
        omega
      have c0 : (decide (k < -(2 ^ 63)) || decide (k ≥ 2 ^ 63)) = false := by
        rw [decide_eq_false (by omega), decide_eq_false (by omega)] <;> rfl
      have c1 : (its.toArray.isEmpty || k == 1) = false := by
        rw [hi, Bool.false_or]
        exact beq_eq_false_iff_ne.mpr (by omega)
      have c2 : (decide (k ≤ 0) || its.toArray.isEmpty) = false := by
        rw [hi, Bool.or_false]
        exact decide_eq_false (by omega)
      have c4 : Builtin.Tuple.tupleTooMany (((its.toArray.size : Nat) : Int) * k) = false := by
        unfold Builtin.Tuple.tupleTooMany
        rw [sizeLine_eq]
        exact decide_eq_false (by omega)
      refine wpAny_binaryOp_repeat_ref (T := "tuple") (U := "int") (by decide) ⟨_, ho, rfl⟩ (fun s' => typeIs_int s' k t) noFill_tuple_mul F.fills_int_mul F.slot_int_rmul repeat_tuple F.slot_int_index.lookup
        (call_meets F.slot_int_rmul (typeIs_int s k t) F.entry_int_rmul (F.args_int_rmul_2 _ _) (int_rmul_tuple k t l its.toArray n dd sl)
          ⟨ho, rfl, ⟨_, ho, rfl⟩, call_meets F.slot_tuple_mul ⟨_, ho, rfl⟩ F.entry_tuple_mul (F.args_tuple_mul_2 _ _) (tuple_mulW l its.toArray n dd sl k t c0 c1 c2 (by omega) c4 (by rw [size_rep, List.size_toArray]; exact flen)) ⟨ho, ?_⟩⟩)
      rw [size_rep]
      refine ⟨.ref s.heap.objs.size, _, laidT I (r.rep k.toNat) ?_ s.toks, rfl, q _ (tupO (List.replicate k.toNat its).flatten) rfl (I.hok.fresh (Nat.le_refl _))⟩
      rw [PyProof.Rows.lm_len_rep_flat, sizeLine_eq]
      have a1 : k.toNat * xs.length ≤ 1000 * 1000 := Nat.mul_le_mul (by omega) hz
      omega
    · have h0 : k ≤ 0 := by omega
      have e0 : rept k xs = [] := by unfold rept; rw [Int.toNat_of_nonpos h0]; rfl
      rw [e0] at q
      cases rx
      obtain ⟨t, rfl⟩ := ry
      obtain ⟨its, r, ⟨⟨cls, dd, data, sl⟩, ho, hc, n, hd⟩, hsz⟩ := I.tuple hT
      simp only at hc hd
      subst hc hd
      have c0 : (decide (k < -(2 ^ 63)) || decide (k ≥ 2 ^ 63)) = false := by
        rw [decide_eq_false (by omega), decide_eq_false (by omega)] <;> rfl
      have hi : its.toArray.isEmpty = false := by
        cases r with
        | nil => exact absurd rfl hne
        | cons a b => rfl
      have c1 : (its.toArray.isEmpty || k == 1) = false := by rw [hi, Bool.false_or]; exact beq_eq_false_iff_ne.mpr hk1
      have c2 : (decide (k ≤ 0) || its.toArray.isEmpty) = true := by rw [decide_eq_true h0]; rfl
      refine wpAny_binaryOp_repeat_ref (T := "tuple") (U := "int") (by decide) ⟨_, ho, rfl⟩ (fun s' => typeIs_int s' k t) noFill_tuple_mul F.fills_int_mul F.slot_int_rmul repeat_tuple F.slot_int_index.lookup
        (call_meets F.slot_int_rmul (typeIs_int s k t) F.entry_int_rmul (F.args_int_rmul_2 _ _) (int_rmul_tuple k t l its.toArray n dd sl)
          ⟨ho, rfl, ⟨_, ho, rfl⟩, call_meets F.slot_tuple_mul ⟨_, ho, rfl⟩ F.entry_tuple_mul (F.args_tuple_mul_2 _ _) (tuple_mulNone l its.toArray n dd sl k t c0 c1 c2) ⟨ho, ?_⟩⟩)
      exact ⟨.ref s.heap.objs.size, _, laidT I .nil (Nat.zero_le _) s.toks, rfl, q _ (tupO []) rfl (I.hok.fresh (Nat.le_refl _))⟩
/-- t + u -/
def rCatF (K : PySem.W.Frag) : R2 := fun x y H Q => ∃ a b xs ys, x = .ref a ∧ y = .ref b ∧ SqT K H a xs ∧ SqT K H b ys ∧ xs.length + ys.length ≤ sizeLine ∧
  (xs = [] → Q (.ref b) H) ∧ (xs ≠ [] → ys = [] → Q (.ref a) H) ∧ (xs ≠ [] → ys ≠ [] → ∀ p o, o.dict = none → H p = none → Q (.ref p) (upd H p (.frz o (.tup (xs ++ ys)))))
theorem op_catF : OpR X (binaryOp .Add) (rCatF X.K) := by
  intro pins s σ H x y v u Q I rx ry h
  obtain ⟨a, b, xs, ys, rfl, rfl, ha, hb, hz, q0, q1, q2⟩ := h
  by_cases hx : xs = []
  · subst hx
    cases rx
    cases ry
    obtain ⟨its, r1, p1, _⟩ := I.tuple ha
    obtain ⟨its2, r2, p2, _⟩ := I.tuple hb
    cases r1
    exact cat_tup0 p1 p2 ⟨.ref b, H, I, rfl, q0 rfl⟩
  · cases rx
    cases ry
    obtain ⟨its, r1, p1, _⟩ := I.tuple ha
    obtain ⟨its2, r2, p2, _⟩ := I.tuple hb
    refine HT.cat_tup p1 p2 (fun z => hx (r1.nil_iff.mp z)) (fun z => ⟨.ref a, H, I, rfl, q1 hx (r2.nil_iff.mp z)⟩) (fun z => ?_) (by rw [← r1.length, ← r2.length]; exact hz)
    exact ⟨.ref s.heap.objs.size, _, laidT I (r1.append r2) (by rw [List.length_append]; exact hz) s.toks, rfl, q2 hx (fun w => z (r2.nil_iff.mpr w)) _ (tupO (its ++ its2)) rfl (I.hok.fresh (Nat.le_refl _))⟩
theorem op_repS : OpR X (binaryOp .Mult) (fun x y H Q => ∃ z k, x = .str z ∧ y = .int k ∧ 0 ≤ k ∧ k ≤ 1000 ∧ 0 < z.length ∧ z.length ≤ 1000 ∧ Q (.str ⟨(List.replicate k.toNat z.cps.toList).flatten.toArray⟩) H) := by
  intro pins s σ H x y v u Q I rx ry h
  obtain ⟨z, k, rfl, rfl, h0, h1, h2, h3, q⟩ := h
  obtain ⟨t, rfl⟩ := rx
  obtain ⟨t', rfl⟩ := ry
  have c0 : (decide (k < -(2 ^ 63)) || decide (k ≥ 2 ^ 63)) = false := by
    rw [decide_eq_false (by omega), decide_eq_false (by omega)] <;> rfl
  have hb : z.length * k.toNat ≤ 1000 * 1000 := Nat.mul_le_mul h3 (by omega)
  refine P.mul_str c0 (fun hk _ => ?_) (fun _ _ => ?_) ?_
  · have e1 : (9223372036854775 : Int) ≤ (2 ^ 63 - 1) / k := by
      rw [Int.le_ediv_iff_mul_le (by omega)]
      have : 9223372036854775 * k ≤ 9223372036854775 * 1000 := Int.mul_le_mul_of_nonneg_left h1 (by omega)
      omega
    omega
  · unfold Builtin.Str.tooLong
    rw [sizeLine_eq]
    exact decide_eq_false (by omega)
  · by_cases hk : k < 1
    · rw [if_pos hk]
      have e : k.toNat = 0 := by omega
      rw [e] at q
      exact ⟨Nat.zero_le _, .str _, H, I.tok _, ⟨_, rfl⟩, q⟩
    · rw [if_neg hk]
      have hl : (z.length == 0) = false := beq_eq_false_iff_ne.mpr (by omega)
      rw [hl, Bool.or_false]
      by_cases h11 : k = 1
      · subst h11
        rw [if_pos (by rfl)]
        refine ⟨.str z, H, I, ⟨t, rfl⟩, ?_⟩
        have e : (⟨(List.replicate (1 : Int).toNat z.cps.toList).flatten.toArray⟩ : Str) = z := by
          show (⟨([z.cps.toList].flatten).toArray⟩ : Str) = z
          simp
        rw [e] at q
        exact q
      · rw [if_neg (by simpa using h11)]
        have e : ∀ n : Nat, (List.replicate n z.cps).foldl (· ++ ·) #[] = (List.replicate n z.cps.toList).flatten.toArray := by
          have g : ∀ (n : Nat) (acc : Array Nat), (List.replicate n z.cps).foldl (· ++ ·) acc = acc ++ (List.replicate n z.cps.toList).flatten.toArray := by
            intro n
            induction n with
            | zero => intro acc; simp
            | succ n ih => intro acc; rw [List.replicate_succ, List.foldl_cons, ih, List.replicate_succ, List.flatten_cons]; apply Array.ext'; simp
          intro n; rw [g]; simp
        rw [e]
        refine ⟨?_, .str _, H, I.tok _, ⟨_, rfl⟩, q⟩
        show (List.toArray _).size ≤ sizeLine
        rw [List.size_toArray, PyProof.Rows.lm_len_rep_flat, sizeLine_eq]
        have : z.cps.toList.length = z.length := by simp [Str.length]
        rw [this, Nat.mul_comm]
        omega
end

/-! ### the operators on data -/
theorem mulOk_c {i j : Int} (h : mulOk i j = true) : CMul i j := by
  unfold mulOk at h
  simp only [Bool.or_eq_true, Bool.and_eq_true, decide_eq_true_eq] at h
  exact h
theorem rept_map {K : PySem.W.Frag} {F : Hp} {vs : List V} {ds : List D} (k : Int) (r : RpAll K F vs ds) : RpAll K F (rept k vs) (rept k ds) := r.rep k.toNat
theorem rept_line {α : Type} {k : Int} {xs : List α} (h0 : -1000 ≤ k) (h1 : k ≤ 1000) (h2 : xs.length ≤ 1000) : (rept k xs).length ≤ sizeLine := by
  unfold rept
  rw [PyProof.Rows.lm_len_rep_flat, sizeLine_eq]
  have : k.toNat * xs.length ≤ 1000 * 1000 := Nat.mul_le_mul (by omega) h2
  omega
theorem op2_ok {X : Cx} (o : Op2) : OpR X (binaryOp o.op) (rD2 X.K (op2 o)) := by
  intro pins s σ H x y v u Q I rx ry h
  obtain ⟨F, d, e, r, ex, hd, he, hf, q⟩ := h
  have fin : ∀ z, Rp X.K F z r → Q z H := fun z rz => q F H z (Grow.refl ex) rz
  unfold op2 at hf
  split at hf
  case h_1 => -- int + int
    cases hf
    rw [rp_int hd] at rx; rw [rp_int he] at ry
    exact op_add pins s σ H _ _ v u Q I rx ry ⟨_, _, rfl, rfl, fin _ (.int _)⟩
  case h_2 =>
    split at hf
    · cases hf
      rw [rp_str hd] at rx; rw [rp_str he] at ry
      exact op_add_str pins s σ H _ _ v u Q I rx ry ⟨_, _, rfl, rfl, by assumption, fin _ (.str _)⟩
    · cases hf
  case h_3 =>
    split at hf
    · rename_i hz
      cases hf
      obtain ⟨a, vs, rfl, ha, ra⟩ := rp_tuple hd
      obtain ⟨b, ws, rfl, hb, rb⟩ := rp_tuple he
      refine op_catF pins s σ H _ _ v u Q I rx ry ⟨a, b, vs, ws, rfl, rfl, ex_sqT ex ha, ex_sqT ex hb, by rw [ra.len, rb.len]; exact hz, fun e => ?_, fun _ e => ?_, fun _ _ p ob hob hp => ?_⟩
      · subst e; cases ra; exact fin _ he
      · subst e; cases rb; rw [List.append_nil] at fin; exact fin _ hd
      · obtain ⟨g, rz⟩ := new_tup (K := X.K) hob ex hp (ra.append rb) (by rw [List.length_append, ra.len, rb.len]; exact hz)
        exact q _ _ _ g rz
    · cases hf
  case h_4 =>
    split at hf
    · rename_i hz
      cases hf
      obtain ⟨a, vs, rfl, ha, ra⟩ := rp_list hd
      obtain ⟨b, ws, rfl, hb, rb⟩ := rp_list he
      refine op_cat pins s σ H _ _ v u Q I rx ry ⟨a, b, vs, ws, rfl, rfl, ex _ _ ha, ex _ _ hb, by rw [ra.len, rb.len]; exact hz, fun p hp => ?_⟩
      obtain ⟨g, rz⟩ := new_lst (K := X.K) ex hp (ra.append rb) (by rw [List.length_append, ra.len, rb.len]; exact hz)
      exact q _ _ _ g rz
    · cases hf
  case h_5 =>
    cases hf
    rw [rp_int hd] at rx; rw [rp_int he] at ry
    exact op_sub pins s σ H _ _ v u Q I rx ry ⟨_, _, rfl, rfl, fin _ (.int _)⟩
  case h_6 =>
    split at hf
    · rename_i hm
      cases hf
      rw [rp_int hd] at rx; rw [rp_int he] at ry
      exact op_mul pins s σ H _ _ v u Q I rx ry ⟨_, _, rfl, rfl, mulOk_c hm, fin _ (.int _)⟩
    · cases hf
  case h_7 =>
    split at hf
    · rename_i hz
      cases hf
      obtain ⟨a, vs, rfl, ha, ra⟩ := rp_tuple hd
      have hk := rp_int he
      subst hk
      refine op_repA pins s σ H _ _ v u Q I rx ry ⟨a, _, vs, rfl, rfl, ex_sqT ex ha, hz.1, hz.2.1, by rw [ra.len]; exact hz.2.2, fun e => ?_, fun _ p ob hob hp => ?_⟩
      · rcases e with e | e
        · subst e
          cases ra
          rw [show ∀ k : Int, rept k ([] : List D) = [] from fun k => by unfold rept; simp] at fin
          exact fin _ hd
        · subst e
          rw [show ∀ l : List D, rept 1 l = l from fun l => by unfold rept; simp] at fin
          exact fin _ hd
      · obtain ⟨g, rz⟩ := new_tup (K := X.K) hob ex hp (rept_map _ ra) (rept_line hz.1 hz.2.1 (by rw [ra.len]; exact hz.2.2))
        exact q _ _ _ g rz
    · cases hf
  case h_8 =>
    split at hf
    · rename_i hz
      cases hf
      rw [rp_str hd] at rx; rw [rp_int he] at ry
      exact op_repS pins s σ H _ _ v u Q I rx ry ⟨_, _, rfl, rfl, hz.2.2.2, hz.1, hz.2.1, hz.2.2.1, fin _ (.str _)⟩
    · cases hf
  case h_9 =>
    split at hf
    · rename_i hz
      cases hf
      rw [rp_int hd] at rx; rw [rp_int he] at ry
      exact op_mod pins s σ H _ _ v u Q I rx ry ⟨_, _, rfl, rfl, hz, fin _ (.int _)⟩
    · cases hf
  case h_10 =>
    split at hf
    · rename_i hz
      cases hf
      rw [rp_int hd] at rx; rw [rp_int he] at ry
      exact op_fdiv pins s σ H _ _ v u Q I rx ry ⟨_, _, rfl, rfl, hz, fin _ (.int _)⟩
    · cases hf
  case h_11 => cases hf
end SR
end
section
/-! SrCmp: comparisons and truth of data. -/
namespace SR
open PySem PySem.Spec PyProof.Rows L2

mutual
/-- data of a depth of at most n, without dicts -/
def sh : Nat → D → Bool
  | _, .none => true
  | _, .bool _ => true
  | _, .int _ => true
  | _, .str x => PyData.strOk x
  | 0, .list _ => false
  | 0, .tuple _ => false
  | n + 1, .list xs => shs n xs
  | n + 1, .tuple xs => shs n xs
  | _, .dict _ => false
def shs : Nat → List D → Bool
  | _, [] => true
  | n, x :: xs => sh n x && shs n xs
end
mutual
theorem sh_lay : ∀ (n : Nat) (d : D), sh n d = true → d.canLay0 = true ∧ d.depth ≤ n
  | n, .none, _ => ⟨by simp [PyData.canLay0], by simp [PyData.depth]⟩
  | n, .bool _, _ => ⟨by simp [PyData.canLay0], by simp [PyData.depth]⟩
  | n, .int _, _ => ⟨by simp [PyData.canLay0], by simp [PyData.depth]⟩
  | n, .str x, h => ⟨by simpa [PyData.canLay0, sh] using h, by simp [PyData.depth]⟩
  | 0, .list _, h => by simp [sh] at h
  | 0, .tuple _, h => by simp [sh] at h
  | n + 1, .list xs, h => by
    have := shs_lay n xs (by simpa [sh] using h)
    exact ⟨by simpa [PyData.canLay0] using this.1, by simp only [PyData.depth]; omega⟩
  | n + 1, .tuple xs, h => by
    have := shs_lay n xs (by simpa [sh] using h)
    exact ⟨by simpa [PyData.canLay0] using this.1, by simp only [PyData.depth]; omega⟩
  | n, .dict _, h => by cases n <;> simp [sh] at h
theorem shs_lay : ∀ (n : Nat) (ds : List D), shs n ds = true → PyData.canLayAll0 ds = true ∧ PyData.depthAll ds ≤ n
  | n, [], _ => ⟨by simp [PyData.canLayAll0], by simp [PyData.depthAll]⟩
  | n, x :: xs, h => by
    have h' : sh n x = true ∧ shs n xs = true := by simpa [shs] using h
    have h1 := sh_lay n x h'.1
    have h2 := shs_lay n xs h'.2
    exact ⟨by simp [PyData.canLayAll0, h1.1, h2.1], by simp only [PyData.depthAll]; omega⟩
end
theorem shs_all (n : Nat) : ∀ ds : List D, shs n ds = ds.all (sh n)
  | [] => by simp [shs]
  | x :: xs => by simp [shs, shs_all n xs]
theorem sh_shaped {d : D} (h : sh 40 d = true) : SeqAt.shaped d = true := by
  obtain ⟨h1, h2⟩ := sh_lay 40 d h
  unfold SeqAt.shaped
  rw [h1, decide_eq_true (by omega)]; rfl

inductive Cmp where
  | lt | le | gt | ge | eq | ne | is | isnot | mem | nmem
def Cmp.op : Cmp → CmpOp
  | .lt => .Lt | .le => .LtE | .gt => .Gt | .ge => .GtE | .eq => .Eq | .ne => .NotEq | .is => .Is | .isnot => .IsNot | .mem => .In | .nmem => .NotIn
def isNone : D → Bool
  | .none => true
  | _ => false
def memD (d : D) : D → Option Bool
  | .list ds => if sh 40 d && shs 39 ds then some (ds.any fun z => PyData.eqv z d) else none
  | .tuple ds => if sh 40 d && shs 39 ds then some (ds.any fun z => PyData.eqv z d) else none
  | .str z => match d with
    | .str x => match x.cps.toList with
      | [c] => some (decide (c ∈ z.cps.toList))
      | _ => none
    | _ => none
  | _ => none
def cmpD : Cmp → D → D → Option Bool
  | .lt, .int i, .int j => some (decide (i < j))
  | .le, .int i, .int j => some (decide (i ≤ j))
  | .gt, .int i, .int j => some (decide (j < i))
  | .ge, .int i, .int j => some (decide (j ≤ i))
  | .eq, d, e => if sh 40 d && sh 40 e then some (PyData.eqv d e) else none
  | .ne, d, e => if sh 40 d && sh 40 e then some (!PyData.eqv d e) else none
  | .is, d, .none => some (isNone d)
  | .isnot, d, .none => some (!isNone d)
  | .mem, d, e => memD d e
  | .nmem, d, e => (memD d e).map not
  | _, _, _ => none
/-- two data, a truth value; the heap as it is -/
def rDB (K : PySem.W.Frag) (f : D → D → Option Bool) : R2 := fun x y H Q => ∃ F d e b, Ex F H ∧ Rp K F x d ∧ Rp K F y e ∧ f d e = some b ∧ Q (.bl b) H
theorem rp_isNone {K : PySem.W.Frag} {F : Hp} {v : V} {d : D} (h : Rp K F v d) : decide (v = .non) = isNone d := by
  cases h <;> simp [isNone]
theorem op_memT {X : Cx} (hu : X.A.units + 65 < cLine) : OpR X (compareOp .In) (fun x y H Q => ∃ d ds, Dp X.K H x d ∧ Dp X.K H y (.tuple ds) ∧ SeqAt.shaped d = true ∧ PyData.canLayAll0 ds = true ∧ Q (.bl (ds.any fun z => PyData.eqv z d)) H) := by
  intro pins s σ H x y v u Q I rx ry h
  obtain ⟨d, ds, hd, he, sd, se, q⟩ := h
  obtain ⟨as, r1⟩ := Dp.reads I d x v hd rx
  obtain ⟨bs, r2⟩ := Dp.reads I (.tuple ds) y u he ry
  exact SeqAt.in_tuple_reads r2 r1 se (SeqAt.canLay_of_shaped sd) (room_in_shaped sd hu) ⟨.bl _, H, I, rfl, q⟩
theorem op_nmemT {X : Cx} (hu : X.A.units + 65 < cLine) : OpR X (compareOp .NotIn) (fun x y H Q => ∃ d ds, Dp X.K H x d ∧ Dp X.K H y (.tuple ds) ∧ SeqAt.shaped d = true ∧ PyData.canLayAll0 ds = true ∧ Q (.bl (!ds.any fun z => PyData.eqv z d)) H) := by
  intro pins s σ H x y v u Q I rx ry h
  obtain ⟨d, ds, hd, he, sd, se, q⟩ := h
  obtain ⟨as, r1⟩ := Dp.reads I d x v hd rx
  obtain ⟨bs, r2⟩ := Dp.reads I (.tuple ds) y u he ry
  exact SeqAt.notIn_tuple_reads r2 r1 se (SeqAt.canLay_of_shaped sd) (room_in_shaped sd hu) ⟨.bl _, H, I, rfl, q⟩
theorem sh_shaped_l {ds : List D} (h : shs 39 ds = true) : SeqAt.shaped (.list ds) = true := sh_shaped (by simpa [sh] using h)
theorem str1 {x : Str} {c : Nat} (h : x.cps.toList = [c]) : x = ⟨#[c]⟩ := by
  cases x with
  | mk a => cases a with | mk l => simp at h; subst h; rfl
theorem cmp_ok {X : Cx} (hu : X.A.units + 65 < cLine) (c : Cmp) : OpR X (compareOp c.op) (rDB X.K (cmpD c)) := by
  intro pins s σ H x y v u Q I rx ry h
  obtain ⟨F, d, e, b, ex, hd, he, hf, q⟩ := h
  have dx : Dp X.K H x d := (hd.mono ex).dp
  have dy : Dp X.K H y e := (he.mono ex).dp
  unfold cmpD at hf
  split at hf
  case h_1 => cases hf; rw [rp_int hd] at rx; rw [rp_int he] at ry; exact op_lt pins s σ H _ _ v u Q I rx ry ⟨_, _, rfl, rfl, q⟩
  case h_2 => cases hf; rw [rp_int hd] at rx; rw [rp_int he] at ry; exact op_le pins s σ H _ _ v u Q I rx ry ⟨_, _, rfl, rfl, q⟩
  case h_3 => cases hf; rw [rp_int hd] at rx; rw [rp_int he] at ry; exact op_gt pins s σ H _ _ v u Q I rx ry ⟨_, _, rfl, rfl, q⟩
  case h_4 => cases hf; rw [rp_int hd] at rx; rw [rp_int he] at ry; exact op_ge pins s σ H _ _ v u Q I rx ry ⟨_, _, rfl, rfl, q⟩
  case h_5 =>
    split at hf
    · rename_i hs
      cases hf
      rw [Bool.and_eq_true] at hs
      exact op_eqD (by omega) pins s σ H _ _ v u Q I rx ry ⟨_, _, dx, dy, sh_shaped hs.1, sh_shaped hs.2, q⟩
    · cases hf
  case h_6 =>
    split at hf
    · rename_i hs
      cases hf
      rw [Bool.and_eq_true] at hs
      exact op_neD (by omega) pins s σ H _ _ v u Q I rx ry ⟨_, _, dx, dy, sh_shaped hs.1, sh_shaped hs.2, q⟩
    · cases hf
  case h_7 => cases hf; rw [rp_none he] at ry; exact op_isN pins s σ H _ _ v u Q I rx ry ⟨rfl, by rw [rp_isNone hd]; exact q⟩
  case h_8 => cases hf; rw [rp_none he] at ry; exact op_notN pins s σ H _ _ v u Q I rx ry ⟨rfl, by rw [rp_isNone hd]; exact q⟩
  case h_9 =>
    unfold memD at hf
    split at hf
    · split at hf
      · rename_i hs
        cases hf
        rw [Bool.and_eq_true] at hs
        exact op_inD hu pins s σ H _ _ v u Q I rx ry ⟨_, _, dx, dy, sh_shaped hs.1, sh_shaped_l hs.2, q⟩
      · cases hf
    · split at hf
      · rename_i hs
        cases hf
        rw [Bool.and_eq_true] at hs
        exact op_memT hu pins s σ H _ _ v u Q I rx ry ⟨_, _, dx, dy, sh_shaped hs.1, (shs_lay _ _ hs.2).1, q⟩
      · cases hf
    · split at hf
      · split at hf
        · rename_i hc
          cases hf
          rw [rp_str hd, str1 hc] at rx; rw [rp_str he] at ry
          exact op_in_sign pins s σ H _ _ v u Q I rx ry ⟨_, _, rfl, rfl, q⟩
        · cases hf
      · cases hf
    · cases hf
  case h_10 =>
    unfold memD at hf
    split at hf
    · split at hf
      · rename_i hs
        cases hf
        rw [Bool.and_eq_true] at hs
        exact op_notInD hu pins s σ H _ _ v u Q I rx ry ⟨_, _, dx, dy, sh_shaped hs.1, sh_shaped_l hs.2, q⟩
      · cases hf
    · split at hf
      · rename_i hs
        cases hf
        rw [Bool.and_eq_true] at hs
        exact op_nmemT hu pins s σ H _ _ v u Q I rx ry ⟨_, _, dx, dy, sh_shaped hs.1, (shs_lay _ _ hs.2).1, q⟩
      · cases hf
    · split at hf
      · split at hf
        · rename_i hc
          cases hf
          rw [rp_str hd, str1 hc] at rx; rw [rp_str he] at ry
          exact op_notIn_sign pins s σ H _ _ v u Q I rx ry ⟨_, _, rfl, rfl, q⟩
        · cases hf
      · cases hf
    · cases hf
  case h_11 => cases hf

/-! ### truth -/
def truth : D → Option Bool
  | .none => some false
  | .bool b => some b
  | .int i => some (i != 0)
  | .str x => if x.length ≤ sizeLine then some ((x.length : Int) != 0) else none
  | .list xs => some (!xs.isEmpty)
  | .tuple xs => some (!xs.isEmpty)
  | .dict _ => none
theorem RpAll.empty {K : PySem.W.Frag} {F : Hp} {vs : List V} {ds : List D} (r : RpAll K F vs ds) : vs.isEmpty = ds.isEmpty := by cases r <;> rfl
theorem truth_ok {K : PySem.W.Frag} {F H : Hp} {v : V} {d : D} {k : Bool} (r : Rp K F v d) (e : Ex F H) (h : truth d = some k) : TruV K v H k := by
  cases r with
  | non => cases h; rfl
  | bl b => cases h; rfl
  | int i => cases h; rfl
  | str x =>
    simp only [truth] at h
    split at h
    · rename_i hz; cases h; exact ⟨hz, rfl⟩
    · cases h
  | lst a b _ => cases h; exact .inl ⟨_, SqL.of (e _ _ a), by rw [b.empty]⟩
  | tup a b _ => cases h; exact .inr (.inl ⟨_, ex_sqT e a, by rw [b.empty]⟩)
end SR
end
section
/-! SrBi: built-in functions on data. -/
namespace SR
open PySem PySem.Spec PyProof.Rows L2

def asInts : List D → Option (List Int)
  | [] => some []
  | .int i :: r => (asInts r).map (i :: ·)
  | _ :: _ => none
theorem asInts_map (ns : List Int) : asInts (ns.map PyData.int) = some ns := by
  induction ns with
  | nil => rfl
  | cons n ns ih => simp [asInts, ih]
theorem asInts_of : ∀ {ds : List D} {ns : List Int}, asInts ds = some ns → ds = ns.map PyData.int
  | [], ns, h => by cases h; rfl
  | .int i :: r, ns, h => by
    simp only [asInts, Option.map_eq_some_iff] at h
    obtain ⟨ms, e, rfl⟩ := h
    rw [asInts_of e]; rfl
  | .none :: _, _, h => by simp [asInts] at h
  | .bool _ :: _, _, h => by simp [asInts] at h
  | .str _ :: _, _, h => by simp [asInts] at h
  | .list _ :: _, _, h => by simp [asInts] at h
  | .tuple _ :: _, _, h => by simp [asInts] at h
  | .dict _ :: _, _, h => by simp [asInts] at h
/-- the items of a list or a tuple -/
def items : D → Option (List D)
  | .list ds => some ds
  | .tuple ds => some ds
  | _ => none
theorem rp_items {K : PySem.W.Frag} {F H : Hp} {v : V} {d : D} {ds : List D} (r : Rp K F v d) (ex : Ex F H) (h : items d = some ds) : ∃ a vs, v = .ref a ∧ (SqL K H a vs ∨ SqT K H a vs) ∧ RpAll K F vs ds := by
  cases r with
  | lst a b _ => cases h; exact ⟨_, _, rfl, .inl (SqL.of (ex _ _ a)), b⟩
  | tup a b _ => cases h; exact ⟨_, _, rfl, .inr (ex_sqT ex a), b⟩
  | _ => cases h
theorem rp_ilen {K : PySem.W.Frag} {F : Hp} {v : V} {d : D} {ds : List D} (r : Rp K F v d) (h : items d = some ds) : ds.length ≤ sizeLine := by
  cases r with
  | lst a b z => cases h; rw [← b.len]; exact z
  | tup a b z => cases h; rw [← b.len]; exact z
  | _ => cases h
section
variable {X : Cx} {pins : List (Addr × Obj)} {σ : L2.St} {H : Hp} {s : Shared} {a : Addr} {vs : List V}
/-- a list's or tuple's values -/
theorem Inv.seq (I : Inv X pins σ H s) (h : SqL X.K H a vs ∨ SqT X.K H a vs) : ∃ its : List Value, Vals vs its ∧ vs.length ≤ sizeLine ∧ ((s.heap.IsList a its.toArray) ∨ (s.heap.IsTuple a its.toArray)) := by
  rcases h with h | h
  · obtain ⟨its, r, p, z⟩ := I.list h; exact ⟨its, r, z, .inl p.isList⟩
  · obtain ⟨its, r, p, z⟩ := I.tuple h; exact ⟨its, r, z, .inr p⟩
end
/-! ### sum -/
theorem sum_tup {prog : Program} {w : World} {A : Around} {E : Value → Shared → Prop} {s : Shared} {l : Addr} {its : List Value} {ns : List Int} {Q : Value → Shared → Prop} (hh : A.handled = none) (hl : s.heap.IsTuple l its.toArray) (hi : IntsAre its ns)
    (h : ∀ h' tk t', (∀ b o, s.heap.get? b = some o → h'.get? b = some o) → Q (.int ns.sum t') { s with heap := h', toks := tk }) : wpAny (model prog w) A (call (.builtin "sum") [.ref l]) Q E s := by
  obtain ⟨xs, e⟩ := hi.allInts.items
  have hn : numsOf (intItems xs).toList = ns := by rw [← e]; exact hi.numsOf
  rw [nums_intItems] at hn
  rw [e] at hl
  refine PySem.W.ktm_sumG hh hl fun h' tk t' hk => ?_
  have := h h' tk t' hk
  rw [preSum_eq, List.take_of_length_le (by simp), hn]; exact this

/-! ### the built-ins -/
inductive Bi where
  | len | sum | max | min | any | all | tuple | list | int | str | sorted
def maxI : List Int → Option Int
  | [] => none
  | x :: xs => some (xs.foldl max x)
def minI : List Int → Option Int
  | [] => none
  | x :: xs => some (xs.foldl min x)
def lenD : D → Option Int
  | .list xs => some xs.length
  | .tuple xs => some xs.length
  | .str x => if x.length ≤ sizeLine then some x.length else none
  | _ => none
def truths : List D → Option (List Bool)
  | [] => some []
  | .bool b :: r => (truths r).map (b :: ·)
  | .int i :: r => (truths r).map ((i != 0) :: ·)
  | _ :: _ => none
/-- all the items are of one form (nested), so that sorting may compare them -/
def alikes (ds : List D) : Bool := ds.all fun d => ds.all fun e => PySem.W.alike d e
def tupled : List D → Bool := fun ds => ds.all fun d => match d with
  | .tuple (_ :: _) => true
  | _ => false
def untupled : List D → Bool := fun ds => ds.all fun d => match d with
  | .tuple _ => false
  | .none => false
  | _ => true
def sortD (ds : List D) : List D := ds.mergeSort (PySem.W.dataLe false id)
def sortedD (ds : List D) : Option (List D) := if alikes ds && (tupled ds || untupled ds) && decide (ds.length ≤ sizeLine) && shs 39 ds then some (sortD ds) else none
/-- sorted(d): a list of one item is not compared -/
def sortedOf : D → Option (List D)
  | .list [x] => some [x]
  | d => (items d).bind sortedD
def bi : Bi → List D → Option D
  | .len, [d] => (lenD d).map .int
  | .sum, [d] => ((items d).bind asInts).map fun ns => .int ns.sum
  | .max, [d] => (((items d).bind asInts).bind maxI).map .int
  | .min, [d] => (((items d).bind asInts).bind minI).map .int
  | .max, [.int i, .int j] => some (.int (max i j))
  | .min, [.int i, .int j] => some (.int (min i j))
  | .max, [.int i, .int j, .int k] => some (.int (max (max i j) k))
  | .min, [.int i, .int j, .int k] => some (.int (min (min i j) k))
  | .any, [d] => ((items d).bind truths).map fun bs => .bool (bs.any id)
  | .all, [d] => ((items d).bind truths).map fun bs => .bool (bs.all id)
  | .tuple, [d] => (items d).map .tuple
  | .list, [d] => (items d).map .list
  | .int, [.int i] => some (.int i)
  | .int, [.bool b] => some (.int (if b then 1 else 0))
  | .str, [.int i] => if i.natAbs.log2 < 1920 then some (.str (toString i)) else none
  | .sorted, [d] => (sortedOf d).map .list
  | _, _ => none
def Bi.name : Bi → Str
  | .len => "len" | .sum => "sum" | .max => "max" | .min => "min" | .any => "any" | .all => "all" | .tuple => "tuple" | .list => "list" | .int => "int" | .str => "str" | .sorted => "sorted"
def Bi.val : Bi → Value
  | .len => .builtin "len" | .sum => .builtin "sum" | .max => .builtin "max" | .min => .builtin "min" | .any => .builtin "any" | .all => .builtin "all" | .sorted => .builtin "sorted"
  | .tuple => .type "tuple" | .list => .type "list" | .int => .type "int" | .str => .type "str"

theorem vals_one {x : V} {us : List Value} (r : Vals [x] us) : ∃ u, us = [u] ∧ RelV x u := Vals.one r
theorem foldl_max_mem : ∀ (xs : List Int) (x : Int), xs.foldl max x = x ∨ xs.foldl max x ∈ xs
  | [], x => .inl rfl
  | y :: ys, x => by
    rw [List.foldl_cons]
    rcases foldl_max_mem ys (max x y) with h | h
    · rcases Int.le_total x y with q | q
      · rw [h, Int.max_eq_right q]; exact .inr List.mem_cons_self
      · rw [h, Int.max_eq_left q]; exact .inl rfl
    · exact .inr (List.mem_cons_of_mem _ h)
theorem foldl_max_ge : ∀ (xs : List Int) (x : Int), x ≤ xs.foldl max x ∧ ∀ y ∈ xs, y ≤ xs.foldl max x
  | [], x => ⟨Int.le_refl _, fun _ h => nomatch h⟩
  | y :: ys, x => by
    rw [List.foldl_cons]
    obtain ⟨h1, h2⟩ := foldl_max_ge ys (max x y)
    refine ⟨Int.le_trans (Int.le_max_left ..) h1, fun z hz => ?_⟩
    rcases List.mem_cons.mp hz with rfl | hz
    · exact Int.le_trans (Int.le_max_right ..) h1
    · exact h2 z hz
theorem foldl_min_mem : ∀ (xs : List Int) (x : Int), xs.foldl min x = x ∨ xs.foldl min x ∈ xs
  | [], x => .inl rfl
  | y :: ys, x => by
    rw [List.foldl_cons]
    rcases foldl_min_mem ys (min x y) with h | h
    · rcases Int.le_total x y with q | q
      · rw [h, Int.min_eq_left q]; exact .inl rfl
      · rw [h, Int.min_eq_right q]; exact .inr List.mem_cons_self
    · exact .inr (List.mem_cons_of_mem _ h)
theorem foldl_min_le : ∀ (xs : List Int) (x : Int), xs.foldl min x ≤ x ∧ ∀ y ∈ xs, xs.foldl min x ≤ y
  | [], x => ⟨Int.le_refl _, fun _ h => nomatch h⟩
  | y :: ys, x => by
    rw [List.foldl_cons]
    obtain ⟨h1, h2⟩ := foldl_min_le ys (min x y)
    refine ⟨Int.le_trans h1 (Int.min_le_left ..), fun z hz => ?_⟩
    rcases List.mem_cons.mp hz with rfl | hz
    · exact Int.le_trans h1 (Int.min_le_right ..)
    · exact h2 z hz
theorem truths_data : ∀ {ds : List D} {bs : List Bool}, truths ds = some bs → bs = ds.map PyData.truthy ∧ PyData.plainAll ds = true ∧ ∀ x ∈ ds, x.fits63
  | [], bs, h => by cases h; exact ⟨rfl, rfl, fun _ h => nomatch h⟩
  | .bool b :: r, bs, h => by
    simp only [truths, Option.map_eq_some_iff] at h
    obtain ⟨cs, e, rfl⟩ := h
    obtain ⟨h1, h2, h3⟩ := truths_data e
    refine ⟨by rw [h1]; rfl, by simp [PyData.plainAll, PyData.plain, h2], fun x hx => ?_⟩
    rcases List.mem_cons.mp hx with rfl | hx
    · trivial
    · exact h3 x hx
  | .int b :: r, bs, h => by
    simp only [truths, Option.map_eq_some_iff] at h
    obtain ⟨cs, e, rfl⟩ := h
    obtain ⟨h1, h2, h3⟩ := truths_data e
    refine ⟨by rw [h1]; rfl, by simp [PyData.plainAll, PyData.plain, h2], fun x hx => ?_⟩
    rcases List.mem_cons.mp hx with rfl | hx
    · trivial
    · exact h3 x hx
  | .none :: _, _, h => by simp [truths] at h
  | .str _ :: _, _, h => by simp [truths] at h
  | .list _ :: _, _, h => by simp [truths] at h
  | .tuple _ :: _, _, h => by simp [truths] at h
  | .dict _ :: _, _, h => by simp [truths] at h
/-- the items that stand for data read as them -/
theorem reads_all {X : Cx} {pins : List (Addr × Obj)} {σ : L2.St} {F H : Hp} {s : Shared} {vs : List V} {its : List Value} {ds : List D} (I : Inv X pins σ H s) (ex : Ex F H) (r : RpAll X.K F vs ds) (rv : Vals vs its) : ∃ as, ReadsAll s.heap its.toArray.toList ds as := by
  obtain ⟨as, q⟩ := Dp.readsAll I ds vs its (r.mono ex).dp rv
  exact ⟨as, by simpa using q⟩
section
variable {X : Cx}
theorem bi_len : CallR X (.builtin "len") (rDC X.K (bi .len)) := by
  intro pins s σ H xs us Q I rx h
  obtain ⟨F, ds, r, ex, rd, hf, q⟩ := h
  match ds, hf with
  | [d], hf =>
    cases rd with
    | cons r1 r2 =>
      cases r2
      simp only [bi, Option.map_eq_some_iff] at hf
      obtain ⟨n, hn, rfl⟩ := hf
      cases r1 with
      | str x =>
        simp only [lenD] at hn
        split at hn
        · rename_i hz; cases hn
          exact call_len_str pins s σ H _ us Q I rx ⟨x, rfl, hz, q F H _ (Grow.refl ex) (.int _)⟩
        · cases hn
      | lst a b _ =>
        cases hn
        exact call_len_seq pins s σ H _ us Q I rx ⟨_, _, rfl, .inl (SqL.of (ex _ _ a)), by rw [b.len]; exact q F H _ (Grow.refl ex) (.int _)⟩
      | tup a b _ =>
        cases hn
        exact call_len_seq pins s σ H _ us Q I rx ⟨_, _, rfl, .inr (ex_sqT ex a), by rw [b.len]; exact q F H _ (Grow.refl ex) (.int _)⟩
      | _ => cases hn
theorem bi_sum (hc : X.calm = true) : CallR X (.builtin "sum") (rDC X.K (bi .sum)) := by
  intro pins s σ H xs us Q I rx h
  obtain ⟨F, ds, r, ex, rd, hf, q⟩ := h
  match ds, hf with
  | [d], hf =>
    cases rd with
    | cons r1 r2 =>
      cases r2
      simp only [bi, Option.map_eq_some_iff, Option.bind_eq_some_iff] at hf
      obtain ⟨ns, ⟨es, h1, h2⟩, rfl⟩ := hf
      obtain ⟨a, vs, rfl, hs, rv⟩ := rp_items r1 ex h1
      rw [asInts_of h2] at rv
      have ev := rv.ints
      subst ev
      obtain ⟨its, r, hz, p⟩ := Inv.seq I hs
      obtain ⟨u, rfl, ru⟩ := vals_one rx
      cases ru
      have fin : ∀ h' tk t', (∀ b o, s.heap.get? b = some o → h'.get? b = some o) → EP X pins σ Q (.int ns.sum t') { s with heap := h', toks := tk } := fun h' tk t' k =>
        ⟨.int _, H, I.kept k, ⟨_, rfl⟩, q F H _ (Grow.refl ex) (.int _)⟩
      rcases p with p | p
      · exact sum_raw (I.ok.hd hc) p r.ints fin
      · exact sum_tup (I.ok.hd hc) p r.ints fin
end

end SR
namespace PySem.W
open PySem PySem.Calls PyProof.Rows
section
variable {prog : Program} {w : World} {A : Around} {E : Value → Shared → Prop} {s : Shared}
theorem collect_tuple {l : Addr} {vs : List Value} {Q : List Value → Shared → Prop} (hl : s.heap.IsTuple l vs.toArray)
    (h : Q vs { s with heap := (s.heap.push (seqObj "list" #[] 0)).update s.heap.objs.size (Obj.mapSeq (· ++ vs.toArray)) }) (hsz : vs.length ≤ sizeLine) :
    wpAny (model prog w) A (collect (.ref l)) Q E s := by
  obtain ⟨o, ho, hc, n, hd⟩ := id hl
  unfold collect
  refine wpAny_bind (wpAny_runValue (codeAny_builtin entry_proto_collect' ?_))
  show wpAny _ _ (do again (.builtin "list.__iadd__" ⟨[← newList [], .ref l], []⟩)) _ _ s
  refine wpAny_bind (wpAny_newList (wpAny_pure ⟨Code.quiet_builtin _ (by decide +kernel), codeAny_builtin entry_list_iadd' ?_⟩))
  show wpAny _ _ (Builtin.List.listExtendWith (.ref s.heap.objs.size) (.ref l) (.ref s.heap.objs.size)) _ _ { s with heap := s.heap.push (seqObj "list" #[] 0) }
  unfold Builtin.List.listExtendWith
  have ho' : (s.heap.push (seqObj "list" #[] 0)).get? l = some o := Heap.get?_push_of_some _ ho
  refine wpAny_bind (wpAny_typeOf (T := "tuple") ⟨o, ho', hc⟩ ?_)
  have ht : (Value.type "tuple" == Value.type "tuple") = true := by rfl
  rw [if_pos (by rw [ht]; simp)]
  refine wpAny_bind (listItems_at ho' hd ?_)
  refine wpAny_bind (listItems_at (xs := #[]) (n := 0) (Heap.get?_push_size _ rfl) rfl ?_)
  rw [if_neg (by simp)]
  refine wpAny_bind (listUpdate_at (xs := #[]) (n := 0) (Heap.get?_push_size _ rfl) rfl ?_ (Nat.zero_le _) (by show (#[] ++ vs.toArray).size ≤ sizeLine + 1; simp only [Array.size_append, List.size_toArray, List.length_nil]; omega))
  refine wpAny_pure ?_
  show wpAny (model prog w) A (do
      let o ← load s.heap.objs.size
      match o.data with
      | .seq xs _ => pure xs.toList
      | _ => unsupported "internal:collect") Q E { s with heap := (s.heap.push (seqObj "list" #[] 0)).update s.heap.objs.size (Obj.mapSeq (· ++ vs.toArray)) }
  refine wpAny_bind (wpAny_load (get?_update_seq (Heap.get?_push_size _ rfl) _) ?_)
  show wpAny _ _ (pure ((#[] : Array Value) ++ vs.toArray).toList) Q E _
  rw [show ((#[] : Array Value) ++ vs.toArray).toList = vs by simp]
  exact wpAny_pure h
theorem sortedT_of_sort {l : Addr} {vs : List Value} {kw : List (Str × Value)} {Q : Value → Shared → Prop} (hl : s.heap.IsTuple l vs.toArray) (hL : vs.length ≤ sizeLine) (ha1 : argsOk "sorted" ⟨[.ref l], kw⟩) (ha2 : ∀ x, argsOk "list.sort" ⟨[.ref x], kw⟩)
    (body : ∀ E' : Value → Shared → Prop, wpAny (model prog w) A.in1.in1 (Builtin.«list.sort» ⟨[.ref (s.heap.objs.size + 1)], kw⟩) (fun f s' => f = .done (.ret .none) ∧ Q (.ref (s.heap.objs.size + 1)) s') E' { s with heap := copyHeap s.heap vs }) :
    wpAny (model prog w) A (call (.builtin "sorted") [.ref l] kw) Q E s := by
  refine call_function_entry_kw kind_sorted plain_sorted entry_sorted ha1 ?_
  unfold Builtin.«sorted»
  refine wpAny_bind (m := checkCount "sorted" 1 1 _) (wpAny_pure ?_)
  refine wpAny_bind (collect_tuple hl ?_ hL)
  refine wpAny_bind (wpAny_newList ?_ hL)
  have hsz : ((s.heap.push (seqObj "list" #[] 0)).update s.heap.objs.size (Obj.mapSeq (· ++ vs.toArray))).objs.size = s.heap.objs.size + 1 := by
    rw [Heap.size_update, size_push']
  show wpAny _ _ _ _ _ { s with heap := copyHeap s.heap vs }
  rw [hsz]
  refine wpAny_bind (wpAny_holding (wpAny_call_entry_kw slot_list_sort ⟨_, copyHeap_at s.heap vs, rfl⟩ entry_list_sort ?body (ha2 _)))
  case body =>
    show wpAny (model prog w) A.in1.in1 (Builtin.«list.sort» ⟨[.ref (s.heap.objs.size + 1)], kw⟩) _ _ _
    refine wpAny_mono (body _) (fun f s' hf => ?_) fun _ _ e => e
    obtain ⟨rfl, hq⟩ := hf
    exact ⟨_, rfl, wpAny_pure ⟨_, rfl, hq⟩⟩
theorem sortedT_data {β : Type} {R : Value → β → Prop} {enc : β → PyData} {bs : List β} {l : Addr} {vs : List Value} {Q : Value → Shared → Prop} (hl : s.heap.IsTuple l vs.toArray) (e : EachIs R vs bs) (er : EachIs (fun v b => ∃ as, Reads s.heap v (enc b) as) vs bs) (hal : AllAlike (bs.map enc)) (hk : Sortable (bs.map enc)) (hL : bs.length ≤ sizeLine)
    (hu : ∀ b, b ∈ bs → A.units + 2 + (enc b).depth < cLine) (h : ∀ out, out.length = bs.length → EachIs R out (bs.mergeSort (dataLe false enc)) → Q (.ref (s.heap.objs.size + 1)) { s with heap := sortedAll s.heap vs (List.toArray out) }) :
    wpAny (model prog w) A (call (.builtin "sorted") [.ref l]) Q E s := by
  have er' : EachIs (fun v b => ∃ as, Reads (sortingHeap (copyHeap s.heap vs) (s.heap.objs.size + 1) vs) v (enc b) as) vs bs := er.mono fun _ _ ⟨as, r⟩ => ⟨as, PyProof.Rows.Reads.keeps (fun _ _ => sorting_copy_old) r⟩
  have S := SortsAt.data (prog := prog) (w := w) (A := A.in1.in1) (s := { s with heap := sortingHeap (copyHeap s.heap vs) (s.heap.objs.size + 1) vs }) (each_map (R := fun v d => ∃ as, Reads (sortingHeap (copyHeap s.heap vs) (s.heap.objs.size + 1) vs) v d as) enc er') hal hk (bound_map hu)
  have hq := h _ (by rw [sortVals_length false rfl]; exact e.length) (sortVals_data false e er' hal)
  exact sortedT_of_sort hl (by rw [e.length]; exact hL) (args_sorted1 _) (fun _ => args_list_sort _) fun _ => list_sort_vals (s := { s with heap := copyHeap s.heap vs }) (copyHeap_at s.heap vs) S (by rw [e.length]; exact hL) ⟨rfl, hq⟩
end
end PySem.W
namespace SR
open PySem PySem.Spec PyProof.Rows L2
section
variable {X : Cx}
theorem rp_int_of {K : PySem.W.Frag} {F : Hp} {v : V} {i : Int} (h : v = .int i) : Rp K F v (.int i) := by subst h; exact .int i
theorem alike_ints_all {ns : List Int} : PySem.W.AlikeAll (ns.map PyData.int) := by
  refine ⟨fun x hx y hy => ?_, fun x hx => ?_⟩
  · obtain ⟨i, _, rfl⟩ := List.mem_map.mp hx
    obtain ⟨j, _, rfl⟩ := List.mem_map.mp hy
    rfl
  · obtain ⟨i, _, rfl⟩ := List.mem_map.mp hx
    exact fun z => nomatch z
theorem depth_ints : ∀ ns : List Int, PyData.depthAll (ns.map PyData.int) = 0
  | [] => rfl
  | n :: ns => by simp only [List.map_cons, PyData.depthAll, depth_ints ns]; rfl
theorem reads_int {h : Heap} {v : Value} {i : Int} {as : List Addr} (r : Reads h v (.int i) as) : ∃ t, v = .int i t := by cases r; exact ⟨_, rfl⟩
theorem bi_max (hc : X.calm = true) (hu : X.A.units + 65 < cLine) : CallR X (.builtin "max") (rDC X.K (bi .max)) := by
  intro pins s σ H xs us Q I rx h
  obtain ⟨F, ds, r, ex, rd, hf, q⟩ := h
  match ds, hf with
  | [d], hf =>
    cases rd with
    | cons r1 r2 =>
      cases r2
      simp only [bi, Option.map_eq_some_iff, Option.bind_eq_some_iff] at hf
      obtain ⟨m, ⟨ns, ⟨es, h1, h2⟩, h3⟩, rfl⟩ := hf
      obtain ⟨a, vs, rfl, hs, rv⟩ := rp_items r1 ex h1
      rw [asInts_of h2] at rv
      cases ns with
      | nil => cases h3
      | cons n ns =>
        cases h3
        obtain ⟨its, r, hz, p⟩ := Inv.seq I hs
        obtain ⟨u, rfl, ru⟩ := vals_one rx
        cases ru
        obtain ⟨as, ra⟩ := reads_all I ex rv r
        have fin : ∀ (i : Nat) v h' tk bs, its.toArray[i]? = some v → Reads h' v (PySem.W.maxD (.int n) (ns.map .int)) bs → (∀ b o, s.heap.get? b = some o → h'.get? b = some o) → EP X pins σ Q v { s with heap := h', toks := tk } := fun i v h' tk bs _ rr k => by
          rw [PySem.W.maxD_ints] at rr
          obtain ⟨t, rfl⟩ := reads_int rr
          exact ⟨.int _, H, I.kept k, ⟨_, rfl⟩, q F H _ (Grow.refl ex) (.int _)⟩
        have hd : X.A.units + 1 + PyData.depthAll (PyData.int n :: ns.map PyData.int) < cLine := by
          rw [show PyData.int n :: ns.map PyData.int = (n :: ns).map PyData.int from rfl, depth_ints]; omega
        rcases p with p | p
        · exact PySem.W.max_list_data (I.ok.hd hc) p ra (alike_ints_all (ns := n :: ns)) hd fin
        · exact PySem.W.max_tuple_data (I.ok.hd hc) p ra (alike_ints_all (ns := n :: ns)) hd fin
  | [.int i, .int j], hf =>
    cases hf
    cases rd with
    | cons r1 r2 =>
      cases r2 with
      | cons r2 r3 =>
        cases r3; cases r1; cases r2
        refine call_max2 hc pins s σ H _ us Q I rx ⟨_, _, rfl, ?_⟩
        have : (if j > i then j else i) = max i j := by rw [Int.max_def]; split <;> split <;> omega
        rw [this]
        exact q F H _ (Grow.refl ex) (.int _)
  | [.int i, .int j, .int k], hf =>
    cases hf
    cases rd with
    | cons r1 r2 =>
      cases r2 with
      | cons r2 r3 =>
        cases r3 with
        | cons r3 r4 =>
          cases r4; cases r1; cases r2; cases r3
          refine call_max3Nu hc pins s σ H _ us Q I rx ⟨.int i, .int j, .int k, .int (max (max i j) k), rfl, ?_, q F H _ (Grow.refl ex) (.int _)⟩
          have e1 : nuMax2 (.int i) (.int j) = some (.int (max i j)) := by
            show some (if decide (i < j) = true then V.int j else V.int i) = _
            by_cases hh : i < j
            · rw [if_pos (by simpa using hh), Int.max_eq_right (by omega)]
            · rw [if_neg (by simpa using hh), Int.max_eq_left (by omega)]
          show (nuMax2 (.int i) (.int j)).bind (fun m => nuMax2 m (.int k)) = _
          rw [e1]
          show some (if decide (max i j < k) = true then V.int k else V.int (max i j)) = _
          by_cases hh : max i j < k
          · rw [if_pos (by simpa using hh)]; exact congrArg (fun z => some (V.int z)) (Int.max_eq_right (by omega)).symm
          · rw [if_neg (by simpa using hh)]; exact congrArg (fun z => some (V.int z)) (Int.max_eq_left (by omega)).symm
theorem bi_min (hc : X.calm = true) (hu : X.A.units + 65 < cLine) : CallR X (.builtin "min") (rDC X.K (bi .min)) := by
  intro pins s σ H xs us Q I rx h
  obtain ⟨F, ds, r, ex, rd, hf, q⟩ := h
  match ds, hf with
  | [d], hf =>
    cases rd with
    | cons r1 r2 =>
      cases r2
      simp only [bi, Option.map_eq_some_iff, Option.bind_eq_some_iff] at hf
      obtain ⟨m, ⟨ns, ⟨es, h1, h2⟩, h3⟩, rfl⟩ := hf
      obtain ⟨a, vs, rfl, hs, rv⟩ := rp_items r1 ex h1
      rw [asInts_of h2] at rv
      cases ns with
      | nil => cases h3
      | cons n ns =>
        cases h3
        obtain ⟨its, r, hz, p⟩ := Inv.seq I hs
        obtain ⟨u, rfl, ru⟩ := vals_one rx
        cases ru
        obtain ⟨as, ra⟩ := reads_all I ex rv r
        have fin : ∀ (i : Nat) v h' tk bs, its.toArray[i]? = some v → Reads h' v (PySem.W.minD (.int n) (ns.map .int)) bs → (∀ b o, s.heap.get? b = some o → h'.get? b = some o) → EP X pins σ Q v { s with heap := h', toks := tk } := fun i v h' tk bs _ rr k => by
          rw [PySem.W.minD_ints] at rr
          obtain ⟨t, rfl⟩ := reads_int rr
          exact ⟨.int _, H, I.kept k, ⟨_, rfl⟩, q F H _ (Grow.refl ex) (.int _)⟩
        have hd : X.A.units + 1 + PyData.depthAll (PyData.int n :: ns.map PyData.int) < cLine := by
          rw [show PyData.int n :: ns.map PyData.int = (n :: ns).map PyData.int from rfl, depth_ints]; omega
        rcases p with p | p
        · exact PySem.W.min_list_data (I.ok.hd hc) p ra (alike_ints_all (ns := n :: ns)) hd fin
        · exact PySem.W.min_tuple_data (I.ok.hd hc) p ra (alike_ints_all (ns := n :: ns)) hd fin
  | [.int i, .int j], hf =>
    cases hf
    cases rd with
    | cons r1 r2 =>
      cases r2 with
      | cons r2 r3 =>
        cases r3; cases r1; cases r2
        refine call_min2 hc pins s σ H _ us Q I rx ⟨_, _, rfl, ?_⟩
        have : (if j < i then j else i) = min i j := by rw [Int.min_def]; split <;> split <;> omega
        rw [this]
        exact q F H _ (Grow.refl ex) (.int _)
  | [.int i, .int j, .int k], hf =>
    cases hf
    cases rd with
    | cons r1 r2 =>
      cases r2 with
      | cons r2 r3 =>
        cases r3 with
        | cons r3 r4 =>
          cases r4; cases r1; cases r2; cases r3
          refine call_min3Nu hc pins s σ H _ us Q I rx ⟨.int i, .int j, .int k, .int (min (min i j) k), rfl, ?_, q F H _ (Grow.refl ex) (.int _)⟩
          have e1 : nuMin2 (.int i) (.int j) = some (.int (min i j)) := by
            show some (if decide (j < i) = true then V.int j else V.int i) = _
            by_cases hh : j < i
            · rw [if_pos (by simpa using hh), Int.min_eq_right (by omega)]
            · rw [if_neg (by simpa using hh), Int.min_eq_left (by omega)]
          show (nuMin2 (.int i) (.int j)).bind (fun m => nuMin2 m (.int k)) = _
          rw [e1]
          show some (if decide (k < min i j) = true then V.int k else V.int (min i j)) = _
          by_cases hh : k < min i j
          · rw [if_pos (by simpa using hh)]; exact congrArg (fun z => some (V.int z)) (Int.min_eq_right (by omega)).symm
          · rw [if_neg (by simpa using hh)]; exact congrArg (fun z => some (V.int z)) (Int.min_eq_left (by omega)).symm
theorem bi_any (hc : X.calm = true) : CallR X (.builtin "any") (rDC X.K (bi .any)) := by
  intro pins s σ H xs us Q I rx h
  obtain ⟨F, ds, r, ex, rd, hf, q⟩ := h
  match ds, hf with
  | [d], hf =>
    cases rd with
    | cons r1 r2 =>
      cases r2
      simp only [bi, Option.map_eq_some_iff, Option.bind_eq_some_iff] at hf
      obtain ⟨bs, ⟨es, h1, h2⟩, rfl⟩ := hf
      obtain ⟨a, vs, rfl, hs, rv⟩ := rp_items r1 ex h1
      obtain ⟨its, r, hz, p⟩ := Inv.seq I hs
      obtain ⟨u, rfl, ru⟩ := vals_one rx
      cases ru
      obtain ⟨as, ra⟩ := reads_all I ex rv r
      obtain ⟨rfl, hp, hf63⟩ := truths_data h2
      have fin : ∀ h' tk, (∀ b o, s.heap.get? b = some o → h'.get? b = some o) → EP X pins σ Q (.bool (es.any PyData.truthy)) { s with heap := h', toks := tk } := fun h' tk k => by
        refine ⟨.bl _, H, I.kept k, rfl, ?_⟩
        have e : es.any PyData.truthy = (es.map PyData.truthy).any id := by rw [List.any_map]; rfl
        rw [e]
        exact q F H _ (Grow.refl ex) (.bl _)
      rcases p with p | p
      · exact PySem.W.any_list_data (I.ok.hd hc) p ra hp hf63 fin
      · exact PySem.W.any_tuple_data (I.ok.hd hc) p ra hp hf63 fin
theorem bi_all (hc : X.calm = true) : CallR X (.builtin "all") (rDC X.K (bi .all)) := by
  intro pins s σ H xs us Q I rx h
  obtain ⟨F, ds, r, ex, rd, hf, q⟩ := h
  match ds, hf with
  | [d], hf =>
    cases rd with
    | cons r1 r2 =>
      cases r2
      simp only [bi, Option.map_eq_some_iff, Option.bind_eq_some_iff] at hf
      obtain ⟨bs, ⟨es, h1, h2⟩, rfl⟩ := hf
      obtain ⟨a, vs, rfl, hs, rv⟩ := rp_items r1 ex h1
      obtain ⟨its, r, hz, p⟩ := Inv.seq I hs
      obtain ⟨u, rfl, ru⟩ := vals_one rx
      cases ru
      obtain ⟨as, ra⟩ := reads_all I ex rv r
      obtain ⟨rfl, hp, hf63⟩ := truths_data h2
      have fin : ∀ h' tk, (∀ b o, s.heap.get? b = some o → h'.get? b = some o) → EP X pins σ Q (.bool (es.all PyData.truthy)) { s with heap := h', toks := tk } := fun h' tk k => by
        refine ⟨.bl _, H, I.kept k, rfl, ?_⟩
        have e : es.all PyData.truthy = (es.map PyData.truthy).all id := by rw [List.all_map]; rfl
        rw [e]
        exact q F H _ (Grow.refl ex) (.bl _)
      rcases p with p | p
      · exact PySem.W.all_list_data (I.ok.hd hc) p ra hp hf63 fin
      · exact PySem.W.all_tuple_data (I.ok.hd hc) p ra hp hf63 fin
theorem call_tuple_F : CallR X (.type "tuple") (fun xs H Q => ∃ p ys, xs = [.ref p] ∧ ((SqL X.K H p ys ∧ ∀ l o, o.dict = none → H l = none → Q (.ref l) (upd H l (.frz o (.tup ys)))) ∨ (SqT X.K H p ys ∧ Q (.ref p) H))) := by
  intro pins s σ H xs us Q I r h
  obtain ⟨p, ys, rfl, h⟩ := h
  obtain ⟨u, rfl, rx⟩ := vals1 r
  cases rx
  rcases h with ⟨hq, q⟩ | ⟨hq, q⟩
  · obtain ⟨its, r', pl, hz⟩ := I.list hq
    refine call_tuple_list pl.isList (fun h' kp => ?_) (by simp only [List.size_toArray] <;> (have := r'.length; omega))
    have I1 : L2.Inv X pins σ H { s with heap := h' } := I.kept (t' := s.toks) kp
    exact ⟨.ref h'.objs.size, _, laidT I1 r' hz s.toks, rfl, q _ (tupO its) rfl (I1.hok.fresh (Nat.le_refl _))⟩
  · obtain ⟨its, r', pl, hz⟩ := I.tuple hq
    exact call_tuple_same pl ⟨.ref p, H, I, rfl, q⟩
theorem bi_tuple : CallR X (.type "tuple") (rDC X.K (bi .tuple)) := by
  intro pins s σ H xs us Q I rx h
  obtain ⟨F, ds, r, ex, rd, hf, q⟩ := h
  match ds, hf with
  | [d], hf =>
    cases rd with
    | cons r1 r2 =>
      cases r2
      simp only [bi, Option.map_eq_some_iff] at hf
      obtain ⟨es, h1, rfl⟩ := hf
      cases r1 with
      | lst a b z =>
        cases h1
        refine call_tuple_F pins s σ H _ us Q I rx ⟨_, _, rfl, .inl ⟨SqL.of (ex _ _ a), fun l ob hob hl => ?_⟩⟩
        obtain ⟨g, rz⟩ := new_tup (K := X.K) hob ex hl b z
        exact q _ _ _ g rz
      | tup a b z x =>
        cases h1
        exact call_tuple_F pins s σ H _ us Q I rx ⟨_, _, rfl, .inr ⟨ex_sqT ex a, q F H _ (Grow.refl ex) (.tup a b z x)⟩⟩
      | _ => cases h1
/-- list(x), the list new -/
theorem bi_listL : CallR X (.type "list") (rDCL X.K fun ds => match ds with
    | [d] => items d
    | _ => none) := by
  intro pins s σ H xs us Q I rx h
  obtain ⟨F, ds, r, ex, rd, hf, q⟩ := h
  match ds, hf with
  | [d], hf =>
    cases rd with
    | cons r1 r2 =>
      cases r2
      obtain ⟨a, vs, rfl, hs, rv⟩ := rp_items r1 ex hf
      refine call_list_of pins s σ H _ us Q I rx ⟨a, vs, rfl, hs, fun l hl => ?_⟩
      exact q F _ l vs (Grow.scrap ex hl) hl (ex_back ex hl) upd_same (by rw [rv.len]; exact rp_ilen r1 hf) rv
/-- a new list as a datum -/
theorem rDCL_rDC {K : PySem.W.Frag} {f : List D → Option (List D)} {xs : List V} {H : Hp} {Q : VK} (h : rDC K (fun ds => (f ds).map .list) xs H Q) : rDCL K f xs H Q := by
  obtain ⟨F, ds, r, ex, rd, hf, q⟩ := h
  rw [Option.map_eq_some_iff] at hf
  obtain ⟨es, h1, rfl⟩ := hf
  refine ⟨F, ds, es, ex, rd, h1, fun F' H' p vs g n1 n2 hp z0 r => ?_⟩
  have ef : Ex F' (upd F' p (.lst vs)) := ex_new n2
  refine q (upd F' p (.lst vs)) H' (.ref p) ⟨ex_trans g.f ef, fun a o h => ?_, g.h, fun a o h n => ?_, g.p⟩ (.lst upd_same (r.mono ef) z0)
  · by_cases ha : a = p
    · subst ha; rw [upd_same] at h; cases h; exact hp
    · rw [upd_ne ha] at h; exact g.sub a o h
  · rw [upd_ne (ne_of_none h n1)]; exact g.n a o h n
theorem CallR.imp {f : Value} {r r' : List V → Hp → VK → Prop} (h : CallR X f r) (w : ∀ xs H Q, r' xs H Q → r xs H Q) : CallR X f r' := fun pins s σ H xs us Q I rx q => h pins s σ H xs us Q I rx (w xs H Q q)
theorem bi_list : CallR X (.type "list") (rDC X.K (bi .list)) := CallR.imp bi_listL fun xs H Q h => rDCL_rDC (by
  obtain ⟨F, ds, r, ex, rd, hf, q⟩ := h
  refine ⟨F, ds, r, ex, rd, ?_, q⟩
  match ds, hf with
  | [d], hf => exact hf)
theorem bi_int : CallR X (.type "int") (rDC X.K (bi .int)) := by
  intro pins s σ H xs us Q I rx h
  obtain ⟨F, ds, r, ex, rd, hf, q⟩ := h
  match ds, hf with
  | [.int i], hf =>
    cases hf
    cases rd with
    | cons r1 r2 => cases r2; cases r1; exact call_int1 pins s σ H _ us Q I rx (.inl ⟨i, rfl, q F H _ (Grow.refl ex) (.int _)⟩)
  | [.bool b], hf =>
    cases hf
    cases rd with
    | cons r1 r2 => cases r2; cases r1; exact call_int1 pins s σ H _ us Q I rx (.inr ⟨b, rfl, q F H _ (Grow.refl ex) (.int _)⟩)
theorem bi_str : CallR X (.type "str") (rDC X.K (bi .str)) := by
  intro pins s σ H xs us Q I rx h
  obtain ⟨F, ds, r, ex, rd, hf, q⟩ := h
  match ds, hf with
  | [.int i], hf =>
    simp only [bi] at hf
    split at hf
    · rename_i hz
      cases hf
      cases rd with
      | cons r1 r2 => cases r2; cases r1; exact call_str_int pins s σ H _ us Q I rx ⟨i, rfl, hz, q F H _ (Grow.refl ex) (.str _)⟩
    · cases hf
end
end SR
end
section
/-! SrSort: sorted(..) of alike data. -/
namespace SR
open PySem PySem.Spec PyProof.Rows L2
open PySem.W (EachIs dataLe AllAlike Sortable)
section
variable {K : PySem.W.Frag} {F : Hp}
abbrev PR (K : PySem.W.Frag) (F : Hp) : Value → V × D → Prop := fun v b => RelV b.1 v ∧ Rp K F b.1 b.2
theorem each_of : ∀ {vs : List V} {its : List Value} {ds : List D}, Vals vs its → RpAll K F vs ds → EachIs (PR K F) its (vs.zip ds)
  | _, _, _, .nil, .nil => .nil
  | _, _, _, .cons r t, .cons q u => .cons ⟨r, q⟩ (each_of t u)
theorem each_back : ∀ {out : List Value} {bs : List (V × D)}, EachIs (PR K F) out bs → Vals (bs.map (·.1)) out ∧ RpAll K F (bs.map (·.1)) (bs.map (·.2))
  | _, _, .nil => ⟨.nil, .nil⟩
  | _, _, .cons r t => ⟨.cons r.1 (each_back t).1, .cons r.2 (each_back t).2⟩
theorem zip_snd : ∀ {vs : List V} {ds : List D}, vs.length = ds.length → (vs.zip ds).map (·.2) = ds
  | [], [], _ => rfl
  | _ :: _, _ :: _, h => by simp [zip_snd (Nat.succ.inj h)]
theorem alikes_all {ds : List D} (h : alikes ds = true) : AllAlike ds := by
  unfold alikes at h
  intro d hd e he
  exact List.all_eq_true.mp (List.all_eq_true.mp h d hd) e he
theorem sortable_of {ds : List D} (h : (tupled ds || untupled ds) = true) : Sortable ds := by
  rw [Bool.or_eq_true] at h
  rcases h with h | h
  · refine .inl fun d hd => ?_
    have q := List.all_eq_true.mp h d hd
    match d, q with
    | .tuple (x :: r), _ => exact ⟨x, r, rfl⟩
  · refine .inr fun d hd => ?_
    have q := List.all_eq_true.mp h d hd
    refine ⟨fun e => ?_, fun xs e => ?_⟩
    · subst e; cases q
    · subst e; cases q
theorem depth_mem : ∀ {ds : List D} {n : Nat}, PyData.depthAll ds ≤ n → ∀ d ∈ ds, d.depth ≤ n
  | x :: xs, n, h, d, hd => by
    simp only [PyData.depthAll] at h
    rcases List.mem_cons.mp hd with rfl | hd
    · omega
    · exact depth_mem (by omega) d hd
end
section
variable {X : Cx}
theorem bi_sortedL (hu : X.A.units + 65 < cLine) : CallR X (.builtin "sorted") (rDCL X.K fun ds => match ds with
    | [d] => sortedOf d
    | _ => none) := by
  intro pins s σ H xs us Q I rx h
  obtain ⟨F, ds, r, ex, rd, hf, q⟩ := h
  match ds, hf with
  | [d], hf =>
    cases rd with
    | cons r1 r2 =>
      cases r2
      by_cases h1x : ∃ x, d = .list [x]
      · obtain ⟨x, rfl⟩ := h1x
        cases hf
        obtain ⟨a, vs, rfl, ha, rv⟩ := rp_list r1
        obtain ⟨its, rl, hz, p⟩ := Inv.seq I (.inl (SqL.of (ex _ _ ha)))
        obtain ⟨u, rfl, ru⟩ := vals_one rx
        cases ru
        have l1 : its.length = 1 := by rw [← rl.length, rv.len]; rfl
        have pl : s.heap.IsList a its.toArray := by
          obtain ⟨z, its2, n, r2, e2⟩ := (show ObjOk X.prog X.w H s.heap a (.lst vs) from I.hok a _ (ex _ _ ha))
          obtain ⟨its3, r3, p3, _⟩ := I.list (SqL.of (ex _ _ ha))
          rcases p with p | p
          · exact p
          · obtain ⟨o, ho, hc, _⟩ := p
            rw [e2] at ho; cases ho
            exact absurd (show Value.type "list" = Value.type "tuple" from hc) (by decide)
        refine Srt.sorted_any pl (by rw [l1]; decide) (fun h2 => absurd h2 (by rw [l1]; decide)) fun out hp => ?_
        have ho : out = its := by
          match its, l1, hp with
          | [y], _, hp => exact List.perm_singleton.mp hp
        subst ho
        obtain ⟨c, hc⟩ := sortedAll_at s.heap out out.toArray
        have hfr : H (s.heap.objs.size + 1) = none := I.hok.fresh (Nat.le_succ _)
        refine ⟨.ref (s.heap.objs.size + 1), upd H (s.heap.objs.size + 1) (.lst vs), I.laid (t' := s.toks) (fun b o e => sortedAll_old e) (Nat.le_succ _) ⟨hz, out, c, rl, hc⟩, rfl, ?_⟩
        exact q F _ _ _ (Grow.scrap ex hfr) hfr (ex_back ex hfr) upd_same hz rv
      have hf : (items d).bind sortedD = some r := by
        match d, h1x, hf with
        | .list [], _, hf => exact hf
        | .list [x], h1x, _ => exact absurd ⟨x, rfl⟩ h1x
        | .list (_ :: _ :: _), _, hf => exact hf
        | .tuple _, _, hf => exact hf
        | .none, _, hf => exact hf
        | .bool _, _, hf => exact hf
        | .int _, _, hf => exact hf
        | .str _, _, hf => exact hf
        | .dict _, _, hf => exact hf
      simp only [Option.bind_eq_some_iff] at hf
      obtain ⟨es, h1, h2⟩ := hf
      obtain ⟨a, vs, rfl, hs, rv⟩ := rp_items r1 ex h1
      unfold sortedD at h2
      split at h2
      · rename_i hc
        cases h2
        simp only [Bool.and_eq_true, decide_eq_true_eq] at hc
        obtain ⟨⟨⟨c1, c2⟩, c3⟩, c4⟩ := hc
        obtain ⟨its, rl, hz, p⟩ := Inv.seq I hs
        obtain ⟨u, rfl, ru⟩ := vals_one rx
        cases ru
        have hsn : (vs.zip es).map (·.2) = es := zip_snd rv.len
        have hlen : (vs.zip es).length = es.length := by rw [← List.length_map (f := fun b : V × D => b.2), hsn]
        have e0 : EachIs (PR X.K F) its (vs.zip es) := each_of rl rv
        have er : EachIs (fun v (b : V × D) => ∃ as, Reads s.heap v b.2 as) its (vs.zip es) := e0.mono fun v b hb => Dp.reads I b.2 b.1 v (hb.2.mono ex).dp hb.1
        have hdep := (shs_lay 39 es c4).2
        have hb : ∀ b, b ∈ vs.zip es → X.A.units + 2 + b.2.depth < cLine := fun b hb => by
          have := depth_mem hdep b.2 (by rw [← hsn]; exact List.mem_map.mpr ⟨b, hb, rfl⟩)
          omega
        have fin : ∀ out : List Value, out.length = (vs.zip es).length → EachIs (PR X.K F) out ((vs.zip es).mergeSort (dataLe false fun b => b.2)) → EP X pins σ Q (.ref (s.heap.objs.size + 1)) { s with heap := sortedAll s.heap its (List.toArray out) } := fun out ho hout => by
          obtain ⟨b1, b2⟩ := each_back hout
          have hm : ((vs.zip es).mergeSort (dataLe false fun b => b.2)).map (·.2) = sortD es := by
            have z := List.map_mergeSort (r := dataLe false (fun b : V × D => b.2)) (s := dataLe false (id : D → D)) (f := fun b : V × D => b.2) (l := vs.zip es) (fun a _ b _ => rfl)
            rw [hsn] at z; exact z
          rw [hm] at b2
          obtain ⟨c, hc⟩ := sortedAll_at s.heap its out.toArray
          have hfr : H (s.heap.objs.size + 1) = none := I.hok.fresh (Nat.le_succ _)
          refine ⟨.ref (s.heap.objs.size + 1), upd H (s.heap.objs.size + 1) (.lst (((vs.zip es).mergeSort (dataLe false fun b => b.2)).map (·.1))), I.laid (t' := s.toks) (fun b o e => sortedAll_old e) (Nat.le_succ _) ⟨?_, out, c, b1, hc⟩, rfl, ?_⟩
          · have z := b1.length
            rw [z, ho, hlen]; exact c3
          · exact q F _ _ _ (Grow.scrap ex hfr) hfr (ex_back ex hfr) upd_same (by have z := b1.length; rw [z, ho, hlen]; exact c3) b2
        rcases p with p | p
        · exact PySem.W.sorted_data p e0 er (by rw [hsn]; exact alikes_all c1) (by rw [hsn]; exact sortable_of c2) (by rw [hlen]; exact c3) hb fin
        · exact PySem.W.sortedT_data p e0 er (by rw [hsn]; exact alikes_all c1) (by rw [hsn]; exact sortable_of c2) (by rw [hlen]; exact c3) hb fin
      · cases h2
theorem bi_sorted (hu : X.A.units + 65 < cLine) : CallR X (.builtin "sorted") (rDC X.K (bi .sorted)) := CallR.imp (bi_sortedL hu) fun xs H Q h => rDCL_rDC (by
  obtain ⟨F, ds, r, ex, rd, hf, q⟩ := h
  refine ⟨F, ds, r, ex, rd, ?_, q⟩
  match ds, hf with
  | [d], hf => exact hf)
theorem bi_ok (hc : X.calm = true) (hu : X.A.units + 65 < cLine) (b : Bi) : CallR X b.val (rDC X.K (bi b)) := by
  cases b
  · exact bi_len
  · exact bi_sum hc
  · exact bi_max hc hu
  · exact bi_min hc hu
  · exact bi_any hc
  · exact bi_all hc
  · exact bi_tuple
  · exact bi_list
  · exact bi_int
  · exact bi_str
  · exact bi_sorted hu
end
end SR
end
section
/-! SrIt: what is walked: sequences, texts, ranges, zip and enumerate over data. -/
namespace SR
open PySem PySem.Spec PyProof.Rows L2
variable [Wd]

/-- J walks ds while what F holds stands -/
structure Goes (K : PySem.W.Frag) (F : Hp) (J : It) (ds : List D) : Prop where
  len : ds.length ≤ sizeLine
  go : ∀ i H, Ex F H → i < ds.length → J.go i H
  stop : ∀ H, Ex F H → J.stop ds.length H
  yld : ∀ i G H x H' d, Ex F G → Ex G H → ds[i]? = some d → J.yld i H x H' → ∃ G', Grow none G H G' H' ∧ Rp K G' x d
section
variable (K : PySem.W.Frag) (pa : Option Addr)
def tDI (f : Sl → M (List D)) : TI := fun σ H R => ∃ ρ π F ds π', Stt K pa σ ρ π F H ∧ f ρ π = some (ds, π') ∧ ∀ F' H' J, Grow pa F H F' H' → PoolAt K pa F' H' π' → Goes K F' J ds → R J H'
end
theorem Goes.same {K : PySem.W.Frag} {F : Hp} {J : It} {vs : List V} {ds : List D} (r : RpAll K F vs ds) (z : vs.length ≤ sizeLine) (go : ∀ i H, Ex F H → i < vs.length → J.go i H) (stop : ∀ H, Ex F H → J.stop vs.length H)
    (y : ∀ i H x H', Ex F H → i < vs.length → J.yld i H x H' → H' = H ∧ vs[i]? = some x) : Goes K F J ds where
  len := by rw [← r.len]; exact z
  go := fun i H e h => go i H e (by rw [r.len]; exact h)
  stop := fun H e => by rw [← r.len]; exact stop H e
  yld := fun i G H x H' d eg gh hd h => by
    have hi : i < vs.length := by rw [r.len]; exact (List.getElem?_eq_some_iff.mp hd).1
    obtain ⟨rfl, hx⟩ := y i H x H' (ex_trans eg gh) hi h
    obtain ⟨d', h1, h2⟩ := r.getV hx
    rw [hd] at h1; cases h1
    exact ⟨G, Grow.refl gh, h2.mono eg⟩
theorem goes_list {K : PySem.W.Frag} {F : Hp} {a : Addr} {vs : List V} {ds : List D} (h : F a = some (.lst vs)) (r : RpAll K F vs ds) (z : vs.length ≤ sizeLine) : Goes K F (Itl K a) ds :=
  Goes.same r z (fun i H e hi => walk_list.goes i H hi (SqL.of (e _ _ h))) (fun H e => walk_list.stops H (SqL.of (e _ _ h))) (fun i H x H' e hi y => walk_list.yields i H x H' hi (SqL.of (e _ _ h)) y)
theorem goes_tup {K : PySem.W.Frag} {F : Hp} {a : Addr} {vs : List V} {ds : List D} (h : SqT K F a vs) (r : RpAll K F vs ds) (z : vs.length ≤ sizeLine) : Goes K F (Itt K a) ds :=
  Goes.same r z (fun i H e hi => walk_tup.goes i H hi (ex_sqT e h)) (fun H e => walk_tup.stops H (ex_sqT e h)) (fun i H x H' e hi y => walk_tup.yields i H x H' hi (ex_sqT e h) y)
theorem goes_str {K : PySem.W.Frag} {F : Hp} {z : Str} (hz : z.length ≤ sizeLine) : Goes K F (Its z) (z.cps.toList.map fun c => PyData.str ⟨#[c]⟩) where
  len := by simpa [Str.length] using hz
  go := fun i H e h => by show i < z.cps.size; simpa using h
  stop := fun H e => by show z.cps.size ≤ _; simp
  yld := fun i G H x H' d eg gh hd y => by
    obtain ⟨rfl, c, hc, rfl⟩ := y
    have hd' : (z.cps.toList.map fun c => PyData.str ⟨#[c]⟩)[i]? = some (PyData.str ⟨#[c]⟩) := by
      rw [List.getElem?_map, Array.getElem?_toList, hc]; rfl
    rw [hd] at hd'
    cases hd'
    exact ⟨G, Grow.refl gh, .str _⟩
def rangeD (lo hi : Int) : List D := (List.range (hi - lo).toNat).map fun i => PyData.int (lo + (i : Nat))
theorem goes_range {K : PySem.W.Frag} {F : Hp} {lo hi : Int} (hz : hi - lo ≤ 16777216) : Goes K F (Itr lo (hi - lo).toNat) (rangeD lo hi) where
  len := by unfold rangeD; rw [List.length_map, List.length_range, sizeLine_eq]; omega
  go := fun i H e h => by show i < (hi - lo).toNat; unfold rangeD at h; simpa using h
  stop := fun H e => by show _ ≤ _; simp [rangeD]
  yld := fun i G H x H' d eg gh hd y => by
    obtain ⟨rfl, rfl⟩ := y
    unfold rangeD at hd
    rw [List.getElem?_map] at hd
    by_cases hi' : i < (hi - lo).toNat
    · rw [List.getElem?_range hi'] at hd; cases hd; exact ⟨G, Grow.refl gh, .int _⟩
    · rw [List.getElem?_eq_none (by simpa using hi')] at hd; cases hd

/-! ### sequences of both kinds -/
def SqK (k : Bool) (K : PySem.W.Frag) (H : Hp) (a : Addr) (vs : List V) : Prop := match k with
  | true => SqL K H a vs
  | false => SqT K H a vs
def IsSeq (k : Bool) (h : Heap) (a : Addr) (vs : Array Value) : Prop := match k with
  | true => h.IsList a vs
  | false => h.IsTuple a vs
def ItS (k : Bool) (it a : Addr) (i : Nat) (h : Heap) : Prop := match k with
  | true => h.IsListIter it a i
  | false => h.IsTupleIter it a i
def itO (k : Bool) (a : Addr) : Obj := match k with
  | true => { cls := .type "list_iterator", data := .fields #[.ref a, .int 0 0] }
  | false => { cls := .type "tuple_iterator", data := .fields #[.ref a, .int 0 0] }
section
variable {X : Cx} {pins : List (Addr × Obj)} {σ : L2.St} {H : Hp} {s : Shared} {a : Addr} {vs ws : List V} {k : Bool}
theorem Inv.seqK (I : Inv X pins σ H s) (h : SqK k X.K H a vs) : ∃ its : List Value, Vals vs its ∧ IsSeq k s.heap a its.toArray ∧ a < s.heap.objs.size := by
  cases k with
  | true => obtain ⟨its, r, p, z⟩ := I.list h; exact ⟨its, r, p.isList, p.lt⟩
  | false => obtain ⟨its, r, p, z⟩ := I.tuple h; exact ⟨its, r, p, p.lt⟩
theorem Inv.seqK_inj (I : Inv X pins σ H s) (h : SqK k X.K H a vs) (h' : SqK k X.K H a ws) : vs = ws := by
  cases k with
  | true => exact I.list_inj h h'
  | false => exact I.tuple_inj h h'
theorem SqK.ex {K : PySem.W.Frag} {F H : Hp} (e : Ex F H) (h : SqK k K F a vs) : SqK k K H a vs := by
  cases k with
  | true => exact ex_sqL e h
  | false => exact ex_sqT e h
theorem rp_seq {K : PySem.W.Frag} {F : Hp} {v : V} {d : D} {ds : List D} (r : Rp K F v d) (h : items d = some ds) : ∃ k a vs, v = .ref a ∧ SqK k K F a vs ∧ RpAll K F vs ds := by
  cases r with
  | lst a b _ => cases h; exact ⟨true, _, _, rfl, SqL.of a, b⟩
  | tup a b _ => cases h; exact ⟨false, _, _, rfl, a, b⟩
  | _ => cases h
theorem ItS.at {h h' : Heap} {it : Addr} {i : Nat} (x : ItS k it a i h) (e : ∀ o, h.get? it = some o → h'.get? it = some o) : ItS k it a i h' := by
  cases k with
  | true => exact Heap.IsListIter.at x e
  | false => exact Heap.IsTupleIter.at x e
theorem ItS.obj {h : Heap} {it : Addr} {i : Nat} (x : ItS k it a i h) : ∃ o, h.get? it = some o ∧ ∀ v, o.data ≠ .cell v := by
  cases k with
  | true => obtain ⟨o, e, c, d⟩ := x; exact ⟨o, e, fun v z => by rw [d] at z; cases z⟩
  | false => obtain ⟨o, e, c, d⟩ := x; exact ⟨o, e, fun v z => by rw [d] at z; cases z⟩
theorem ItS.start {h : Heap} {it : Addr} (e : h.get? it = some (itO k a)) : ItS k it a 0 h := by
  cases k with
  | true => exact ⟨_, e, rfl, rfl⟩
  | false => exact ⟨_, e, rfl, rfl⟩
theorem draws_seq {prog : Program} {w : World} {A : Around} (hh : A.handled = none) (it l : Addr) (hne : l ≠ it) (items : Array Value) :
    Draws prog w A it [it, l] items.size (fun i v => items[i]? = some v) (fun i h => ItS k it l i h ∧ IsSeq k h l items) := by
  cases k with
  | true => exact Draws.list hh it l hne items
  | false => exact Draws.tuple hh it l hne items
theorem begins_seq (l : Addr) (items : Array Value) : Begins (.ref l) (itO k l) fun h => IsSeq k h l items := by
  cases k with
  | true => exact begins_list l items
  | false => exact begins_tuple l items
end

/-! ### zip of two -/
def ItZ2 (k1 k2 : Bool) (K : PySem.W.Frag) (a b : Addr) : It :=
  ⟨fun i H => ∃ (xs ys : List V) (x y : V), SqK k1 K H a xs ∧ SqK k2 K H b ys ∧ xs[i]? = some x ∧ ys[i]? = some y,
    fun i H v H' => ∃ T x y o, v = .ref T ∧ H T = none ∧ o.dict = none ∧ H' = upd H T (.frz o (.tup [x, y])) ∧ (∀ xs, SqK k1 K H a xs → xs[i]? = some x) ∧ ∀ ys, SqK k2 K H b ys → ys[i]? = some y,
    fun i H => ∃ xs ys : List V, SqK k1 K H a xs ∧ SqK k2 K H b ys ∧ i ≤ xs.length ∧ i ≤ ys.length ∧ (i = xs.length ∨ i = ys.length)⟩
theorem turn_zip2 {P : Program} {w : World} {K : PySem.W.Frag} {elts : List Expr} {kk : Nat} {tpos : Pos} {k1 k2 : Bool} {a b z TI TO i1 i2 : Addr} (S : ZipSep2 z TI TO i1 i2 [i1, a] [i2, b]) :
    Turn P w K (.Tuple elts kk tpos) (ItZ2 k1 k2 K a b) [z, TI, TO, i1, i2] z (fun i h => IsZip h z TI TO .none ∧ IsTupOf2 h TI (.ref i1) (.ref i2) ∧ (∃ x y, IsTupOf2 h TO x y) ∧ ItS k1 i1 a i h ∧ ItS k2 i2 b i h) where
  mem := by simp
  obj := fun i h st c hc => by
    obtain ⟨hz, hTI, ⟨x, y, hTO⟩, s1, s2⟩ := st
    have e' : c = z ∨ c = TI ∨ c = TO ∨ c = i1 ∨ c = i2 := by simpa using hc
    rcases e' with q | q | q | q | q
    · rw [q]; exact ⟨_, hz, fun v q => nomatch q⟩
    · rw [q]; exact ⟨_, hTI, fun v q => nomatch q⟩
    · rw [q]; exact ⟨_, hTO, fun v q => nomatch q⟩
    · rw [q]; exact s1.obj
    · rw [q]; exact s2.obj
  keep := fun i h h' st k => by
    obtain ⟨hz, hTI, ⟨x, y, hTO⟩, h1, h2⟩ := st
    exact ⟨k z (by simp) _ hz, k TI (by simp) _ hTI, ⟨x, y, k TO (by simp) _ hTO⟩, h1.at fun o q => k i1 (by simp) o q, h2.at fun o q => k i2 (by simp) o q⟩
  item := by
    intro X hP hw hK hc i pins s σ H E I hf st hg
    subst hP hw hK
    obtain ⟨hz, hTI, ⟨x0, y0, hTO⟩, h1, h2⟩ := st
    obtain ⟨xs, ys, x, y, hqx, hqy, hx, hy⟩ := hg
    obtain ⟨its, rv, p, _⟩ := Inv.seqK I hqx
    obtain ⟨its2, rv2, p2, _⟩ := Inv.seqK I hqy
    obtain ⟨u, hu, ru⟩ := rv.get hx
    obtain ⟨u2, hu2, ru2⟩ := rv2.get hy
    have hzl : z < s.heap.objs.size := Heap.lt_size hz
    have n1 : a ≠ i1 := fun e => S.sep1_2 (by
      subst e; exact absurd S.mem1 (by
        obtain ⟨o, e1, e2⟩ := h1.obj
        intro _
        cases k1 with
        | true =>
          obtain ⟨o1, q1, c1, _⟩ := h1
          obtain ⟨o2, q2, c2, _⟩ := p
          rw [q1] at q2; cases q2; rw [c1] at c2; exact absurd c2 (by decide)
        | false =>
          obtain ⟨o1, q1, c1, _⟩ := h1
          obtain ⟨o2, q2, c2, _⟩ := p
          rw [q1] at q2; cases q2; rw [c1] at c2; exact absurd c2 (by decide)))
    have n2 : b ≠ i2 := fun e => S.sep2_1 (by
      subst e; exact absurd S.mem2 (by
        intro _
        cases k2 with
        | true =>
          obtain ⟨o1, q1, c1, _⟩ := h2
          obtain ⟨o2, q2, c2, _⟩ := p2
          rw [q1] at q2; cases q2; rw [c1] at c2; exact absurd c2 (by decide)
        | false =>
          obtain ⟨o1, q1, c1, _⟩ := h2
          obtain ⟨o2, q2, c2, _⟩ := p2
          rw [q1] at q2; cases q2; rw [c1] at c2; exact absurd c2 (by decide)))
    have lt1 : i < its.toArray.size := by have := (List.getElem?_eq_some_iff.mp hu).1; simpa using this
    have lt2 : i < its2.toArray.size := by have := (List.getElem?_eq_some_iff.mp hu2).1; simpa using this
    have hh : X.A.in1.handled = none := I.ok.hd hc
    refine wpAny_pyNext_zipD2_item S (draws_seq (k := k1) hh i1 a n1 its.toArray) (draws_seq (k := k2) hh i2 b n2 its2.toArray) hz hTI hTO ⟨h1, p⟩ ⟨h2, p2⟩ lt1 lt2 fun v1 v2 h' tk P1 P2 z' TO' g1 g2 hT hsz hk => ?_
    have ev1 : v1 = u := by
      have P1 : its.toArray[i]? = some v1 := P1
      rw [List.getElem?_toArray, hu] at P1; exact (Option.some.inj P1).symm
    have ev2 : v2 = u2 := by
      have P2 : its2.toArray[i]? = some v2 := P2
      rw [List.getElem?_toArray, hu2] at P2; exact (Option.some.inj P2).symm
    subst ev1 ev2
    refine ⟨_, rfl, wpAny_letOwnedTupleGo_zip (s := { s with heap := h', toks := tk }) z' fun h'' z'' sb => ?_⟩
    have hT2 : h''.get? s.heap.objs.size = some { cls := .type "tuple", data := .seq #[v1, v2] } := (sb.2 _ (Nat.ne_of_gt hzl)).trans hT
    have new : ObjOk X.prog X.w (upd H s.heap.objs.size (.frz (tupO [v1, v2]) (.tup [x, y]))) h'' s.heap.objs.size (.frz (tupO [v1, v2]) (.tup [x, y])) :=
      ⟨hT2, by show 2 ≤ sizeLine; decide, [v1, v2], .cons ru (.cons ru2 .nil), ⟨_, hT2, rfl, _, rfl⟩⟩
    have I1 : L2.Inv X pins σ (upd H s.heap.objs.size (.frz (tupO [v1, v2]) (.tup [x, y]))) { s with heap := h'', toks := tk } :=
      I.turnedNew (t' := tk) (ch := [z, TI, TO, i1, i2]) (fun c o hb q => (sb.2 c (fun q' => hb (by simp [q']))).trans (hk c o (fun q' => hb (by simp [q'])) (fun q' => hb (by simp [q'])) (fun q' => hb (by simp [q'])) (fun q' => hb (by simp [q'])) q)) hf (Nat.le_refl _) new
    refine ⟨.ref s.heap.objs.size, _, I1, rfl, ⟨_, x, y, tupO [v1, v2], rfl, I.hok.fresh (Nat.le_refl _), rfl, rfl, fun l hl => by rw [Inv.seqK_inj I hl hqx]; exact hx, fun l hl => by rw [Inv.seqK_inj I hl hqy]; exact hy⟩, ⟨z'', ?_, ⟨v1, v2, ?_⟩, ?_, ?_⟩, fun c hcm => ?_⟩
    · exact (sb.2 _ S.TIz).trans (hk _ _ S.TIz S.TITO S.TIi1 S.TIi2 hTI)
    · exact (sb.2 _ S.TOz).trans TO'
    · exact ItS.at g1.1 fun o q => (sb.2 _ (Ne.symm S.zi1)).trans q
    · exact ItS.at g2.1 fun o q => (sb.2 _ (Ne.symm S.zi2)).trans q
    · have hlt : c < s.heap.objs.size := by
        have e' : c = z ∨ c = TI ∨ c = TO ∨ c = i1 ∨ c = i2 := by simpa using hcm
        rcases e' with q | q | q | q | q
        · rw [q]; exact hzl
        · rw [q]; exact Heap.lt_size hTI
        · rw [q]; exact Heap.lt_size hTO
        · rw [q]; obtain ⟨_, e1, _⟩ := h1.obj; exact Heap.lt_size e1
        · rw [q]; obtain ⟨_, e2, _⟩ := h2.obj; exact Heap.lt_size e2
      rw [upd_ne (Nat.ne_of_lt hlt)]
      exact (hf c hcm).1
  done := by
    intro X hP hw hK hc i pins s σ H E I hf st hg
    subst hP hw hK
    obtain ⟨hz, hTI, ⟨x0, y0, hTO⟩, h1, h2⟩ := st
    obtain ⟨xs, ys, hqx, hqy, l1, l2, hend⟩ := hg
    obtain ⟨its, rv, p, _⟩ := Inv.seqK I hqx
    obtain ⟨its2, rv2, p2, _⟩ := Inv.seqK I hqy
    have e1 := rv.length
    have e2 := rv2.length
    have n1 : a ≠ i1 := fun e => by
      subst e
      cases k1 with
      | true =>
        obtain ⟨o1, q1, c1, _⟩ := h1
        obtain ⟨o2, q2, c2, _⟩ := p
        rw [q1] at q2; cases q2; rw [c1] at c2; exact absurd c2 (by decide)
      | false =>
        obtain ⟨o1, q1, c1, _⟩ := h1
        obtain ⟨o2, q2, c2, _⟩ := p
        rw [q1] at q2; cases q2; rw [c1] at c2; exact absurd c2 (by decide)
    have n2 : b ≠ i2 := fun e => by
      subst e
      cases k2 with
      | true =>
        obtain ⟨o1, q1, c1, _⟩ := h2
        obtain ⟨o2, q2, c2, _⟩ := p2
        rw [q1] at q2; cases q2; rw [c1] at c2; exact absurd c2 (by decide)
      | false =>
        obtain ⟨o1, q1, c1, _⟩ := h2
        obtain ⟨o2, q2, c2, _⟩ := p2
        rw [q1] at q2; cases q2; rw [c1] at c2; exact absurd c2 (by decide)
    have hh : X.A.in1.handled = none := I.ok.hd hc
    refine wpAny_pyNext_zipD2_end S (draws_seq (k := k1) hh i1 a n1 its.toArray) (draws_seq (k := k2) hh i2 b n2 its2.toArray) hz hTI hTO ⟨h1, p⟩ ⟨h2, p2⟩ (by simp; omega) (by simp; omega) (by simp; omega) fun h' tk hk => ⟨rfl, ?_⟩
    exact I.turnedL (t' := tk) (ch := [z, TI, TO, i1, i2]) (fun c o hb q => hk c o (fun q' => hb (by simp [q'])) (fun q' => hb (by simp [q'])) (fun q' => hb (by simp [q'])) (fun q' => hb (by simp [q'])) q) hf
  self := fun A i s Q E st h => wpAny_pyIter_zip st.1 h

theorem its_ne {k : Bool} {it a : Addr} {i : Nat} {h : Heap} {vs : Array Value} (x : ItS k it a i h) (p : IsSeq k h a vs) : a ≠ it := fun e => by
  subst e
  cases k with
  | true =>
    obtain ⟨o1, q1, c1, _⟩ := x
    obtain ⟨o2, q2, c2, _⟩ := p
    rw [q1] at q2; cases q2; rw [c1] at c2; exact absurd c2 (by decide)
  | false =>
    obtain ⟨o1, q1, c1, _⟩ := x
    obtain ⟨o2, q2, c2, _⟩ := p
    rw [q1] at q2; cases q2; rw [c1] at c2; exact absurd c2 (by decide)
theorem goes_zip2 {k1 k2 : Bool} {K : PySem.W.Frag} {F : Hp} {a b : Addr} {vs ws : List V} {ds es : List D} (h1 : SqK k1 K F a vs) (h2 : SqK k2 K F b ws) (r1 : RpAll K F vs ds) (r2 : RpAll K F ws es) (hz : ds.length ≤ sizeLine) :
    Goes K F (ItZ2 k1 k2 K a b) (List.zipWith (fun x y => PyData.tuple [x, y]) ds es) where
  len := by rw [List.length_zipWith]; omega
  go := fun i H e h => by
    rw [List.length_zipWith] at h
    have i1 : i < vs.length := by rw [r1.len]; omega
    have i2 : i < ws.length := by rw [r2.len]; omega
    exact ⟨vs, ws, vs[i], ws[i], h1.ex e, h2.ex e, by simp [i1], by simp [i2]⟩
  stop := fun H e => ⟨vs, ws, h1.ex e, h2.ex e, by rw [r1.len, List.length_zipWith]; omega, by rw [r2.len, List.length_zipWith]; omega, by rw [r1.len, r2.len, List.length_zipWith]; omega⟩
  yld := fun i G H x H' d eg gh hd y => by
    obtain ⟨T, u, v, ob, rfl, hT, hob, rfl, hx, hy⟩ := y
    have hx := hx vs (h1.ex (ex_trans eg gh))
    have hy := hy ws (h2.ex (ex_trans eg gh))
    obtain ⟨d1, e1, p1⟩ := r1.getV hx
    obtain ⟨d2, e2, p2⟩ := r2.getV hy
    rw [List.getElem?_zipWith, e1, e2] at hd
    cases hd
    obtain ⟨g, q⟩ := new_tup (K := K) hob gh hT (RpAll.cons (p1.mono eg) (.cons (p2.mono eg) .nil)) (by show 2 ≤ sizeLine; decide)
    exact ⟨_, g, q⟩
theorem SqK.seq {k : Bool} {K : PySem.W.Frag} {H : Hp} {a : Addr} {vs : List V} (h : SqK k K H a vs) : SqL K H a vs ∨ SqT K H a vs := by
  cases k with
  | true => exact .inl h
  | false => exact .inr h
def zip2D : List D → Option (List D)
  | [d, e] => (items d).bind fun ds => (items e).map fun es => List.zipWith (fun x y => PyData.tuple [x, y]) ds es
  | _ => none
theorem pi_zip2 {X : Cx} {pa : Option Addr} {e e2 : Expr} {fa : Sl → M (List D)} {p pos tpos : Pos} {elts : List Expr} {kk : Nat} (hg : Gl X "zip") (hm : X.mg "zip" = none) (ha : PA X [e, e2] (tDA X.K pa fa))
    (hs : starEach [e, e2] X.env = (false, eval e X.env) :: starEach [e2] X.env) (hpl : (backTo pos (starEach [e2] X.env)).any (·.1) = false) :
    PI X (.Tuple elts kk tpos) (.Call (.Name "zip" p) [e, e2] [] pos) (tDI X.K pa fun ρ => bnd (fa ρ) fun ds => lift (zip2D ds)) := by
  refine ⟨fun pins s σ H R I h => ?_⟩
  obtain ⟨ρ, π, F, ds, π', S, hf, q⟩ := h
  obtain ⟨as, π1, f1, f2⟩ := bnd_some hf
  obtain ⟨f3, rfl⟩ := lift_eq f2
  refine Call_ (ld_blt I hg hm PyProof.Rows.boot_zip (PyProof.Rows.callWith_type1 (thn (ha.run pos pins s σ H _ I ⟨ρ, π, F, as, _, S, f1, fun F1 H1 vs g P r => (⟨F1, g, P, r⟩ : ∃ F1, Grow pa F H F1 H1 ∧ PoolAt X.K pa F1 H1 π' ∧ RpAll X.K F1 vs as)⟩) fun us s1 ⟨vs, H1, I1, r1, F1, g1, P1, q1⟩ => ?_) hs hpl))
  match as, f3 with
  | [d1, d2], f3 =>
    simp only [zip2D, Option.bind_eq_some_iff, Option.map_eq_some_iff] at f3
    obtain ⟨ds1, e1, ds2, e2, rfl⟩ := f3
    cases q1 with
    | cons p1 p2 =>
      cases p2 with
      | cons p2 p3 =>
        cases p3
        have lz := rp_ilen p1 e1
        obtain ⟨k1, a, ws1, rfl, s1', ra⟩ := rp_seq p1 e1
        obtain ⟨k2, b, ws2, rfl, s2', rb⟩ := rp_seq p2 e2
        cases r1 with
        | cons r rr =>
          cases rr with
          | cons r' rr =>
            cases rr
            cases r
            cases r'
            obtain ⟨its, rv, p1, la⟩ := Inv.seqK I1 (s1'.ex g1.sub)
            obtain ⟨its2, rv2, p2, lb⟩ := Inv.seqK I1 (s2'.ex g1.sub)
            refine zip_begins2 (begins_seq (k := k1) a its.toArray) (begins_seq (k := k2) b its2.toArray) p1 p2 fun h' hz hTI hTO h1 h2 hsz hk => wpAny_pyIter_zip hz ?_
            have I2 : L2.Inv X pins σ H1 { s1 with heap := h' } := I1.kept (t' := s1.toks) hk
            have sep := zip_sep2 (N := s1.heap.objs.size) (fp1 := [a]) (fp2 := [b]) (by simpa using la) (by simpa using lb)
            refine ⟨s1.heap.objs.size + 4, [s1.heap.objs.size + 4, s1.heap.objs.size + 2, s1.heap.objs.size + 3, s1.heap.objs.size, s1.heap.objs.size + 1], _, _, H1, rfl, I2, turn_zip2 sep, ⟨hz, hTI, ⟨_, _, hTO⟩, .start h1, .start h2⟩, fun c hcm => ?_, q F1 H1 _ g1 P1 (goes_zip2 s1' s2' ra rb lz)⟩
            have e' : c = s1.heap.objs.size + 4 ∨ c = s1.heap.objs.size + 2 ∨ c = s1.heap.objs.size + 3 ∨ c = s1.heap.objs.size ∨ c = s1.heap.objs.size + 1 := by simpa using hcm
            have hle : s1.heap.objs.size ≤ c := by
              rcases e' with z | z | z | z | z <;> rw [z] <;> first | exact Nat.le_add_right _ _ | exact Nat.le_refl _
            exact I1.fpOk hle (I1.hok.fresh hle)
/-! ### zip of three -/
def ItZ3 (k1 k2 k3 : Bool) (K : PySem.W.Frag) (a b c : Addr) : It :=
  ⟨fun i H => ∃ (xs ys zs : List V) (x y z : V), SqK k1 K H a xs ∧ SqK k2 K H b ys ∧ SqK k3 K H c zs ∧ xs[i]? = some x ∧ ys[i]? = some y ∧ zs[i]? = some z,
    fun i H v H' => ∃ T x y z o, v = .ref T ∧ H T = none ∧ o.dict = none ∧ H' = upd H T (.frz o (.tup [x, y, z])) ∧ (∀ xs, SqK k1 K H a xs → xs[i]? = some x) ∧ (∀ ys, SqK k2 K H b ys → ys[i]? = some y) ∧ ∀ zs, SqK k3 K H c zs → zs[i]? = some z,
    fun i H => ∃ xs ys zs : List V, SqK k1 K H a xs ∧ SqK k2 K H b ys ∧ SqK k3 K H c zs ∧ i ≤ xs.length ∧ i ≤ ys.length ∧ i ≤ zs.length ∧ (i = xs.length ∨ i = ys.length ∨ i = zs.length)⟩
theorem turn_zip3 {P : Program} {w : World} {K : PySem.W.Frag} {elts : List Expr} {kk : Nat} {tpos : Pos} {k1 k2 k3 : Bool} {a b c z TI TO i1 i2 i3 : Addr} (S : ZipSep3 z TI TO i1 i2 i3 [i1, a] [i2, b] [i3, c]) :
    Turn P w K (.Tuple elts kk tpos) (ItZ3 k1 k2 k3 K a b c) [z, TI, TO, i1, i2, i3] z (fun i h => IsZip h z TI TO .none ∧ IsTupOf3 h TI (.ref i1) (.ref i2) (.ref i3) ∧ (∃ x y z, IsTupOf3 h TO x y z) ∧ ItS k1 i1 a i h ∧ ItS k2 i2 b i h ∧ ItS k3 i3 c i h) where
  mem := by simp
  obj := fun i h st c hc => by
    obtain ⟨hz, hTI, ⟨x, y, x3, hTO⟩, s1, s2, s3⟩ := st
    have e' : c = z ∨ c = TI ∨ c = TO ∨ c = i1 ∨ c = i2 ∨ c = i3 := by simpa using hc
    rcases e' with q | q | q | q | q | q
    · rw [q]; exact ⟨_, hz, fun v q => nomatch q⟩
    · rw [q]; exact ⟨_, hTI, fun v q => nomatch q⟩
    · rw [q]; exact ⟨_, hTO, fun v q => nomatch q⟩
    · rw [q]; exact s1.obj
    · rw [q]; exact s2.obj
    · rw [q]; exact s3.obj
  keep := fun i h h' st k => by
    obtain ⟨hz, hTI, ⟨x, y, x3, hTO⟩, h1, h2, h3⟩ := st
    exact ⟨k z (by simp) _ hz, k TI (by simp) _ hTI, ⟨x, y, x3, k TO (by simp) _ hTO⟩, h1.at fun o q => k i1 (by simp) o q, h2.at fun o q => k i2 (by simp) o q, h3.at fun o q => k i3 (by simp) o q⟩
  item := by
    intro X hP hw hK hc i pins s σ H E I hf st hg
    subst hP hw hK
    obtain ⟨hz, hTI, ⟨x0, y0, x30, hTO⟩, h1, h2, h3⟩ := st
    obtain ⟨xs, ys, zs, x, y, x3, hqx, hqy, hqz, hx, hy, hx3⟩ := hg
    obtain ⟨its, rv, p, _⟩ := Inv.seqK I hqx
    obtain ⟨its2, rv2, p2, _⟩ := Inv.seqK I hqy
    obtain ⟨its3, rv3, p3, _⟩ := Inv.seqK I hqz
    obtain ⟨u, hu, ru⟩ := rv.get hx
    obtain ⟨u2, hu2, ru2⟩ := rv2.get hy
    obtain ⟨u3, hu3, ru3⟩ := rv3.get hx3
    have hzl : z < s.heap.objs.size := Heap.lt_size hz
    have lt1 : i < its.toArray.size := by have := (List.getElem?_eq_some_iff.mp hu).1; simpa using this
    have lt2 : i < its2.toArray.size := by have := (List.getElem?_eq_some_iff.mp hu2).1; simpa using this
    have lt3 : i < its3.toArray.size := by have := (List.getElem?_eq_some_iff.mp hu3).1; simpa using this
    have hh : X.A.in1.handled = none := I.ok.hd hc
    refine wpAny_pyNext_zipD3_item S (draws_seq (k := k1) hh i1 a (its_ne h1 p) its.toArray) (draws_seq (k := k2) hh i2 b (its_ne h2 p2) its2.toArray) (draws_seq (k := k3) hh i3 c (its_ne h3 p3) its3.toArray) hz hTI hTO ⟨h1, p⟩ ⟨h2, p2⟩ ⟨h3, p3⟩ lt1 lt2 lt3 fun v1 v2 v3 h' tk P1 P2 P3 z' TO' g1 g2 g3 hT hsz hk => ?_
    have ev1 : v1 = u := by
      have P1 : its.toArray[i]? = some v1 := P1
      rw [List.getElem?_toArray, hu] at P1; exact (Option.some.inj P1).symm
    have ev2 : v2 = u2 := by
      have P2 : its2.toArray[i]? = some v2 := P2
      rw [List.getElem?_toArray, hu2] at P2; exact (Option.some.inj P2).symm
    have ev3 : v3 = u3 := by
      have P3 : its3.toArray[i]? = some v3 := P3
      rw [List.getElem?_toArray, hu3] at P3; exact (Option.some.inj P3).symm
    subst ev1 ev2 ev3
    refine ⟨_, rfl, wpAny_letOwnedTupleGo_zip (s := { s with heap := h', toks := tk }) z' fun h'' z'' sb => ?_⟩
    have hT2 : h''.get? s.heap.objs.size = some { cls := .type "tuple", data := .seq #[v1, v2, v3] } := (sb.2 _ (Nat.ne_of_gt hzl)).trans hT
    have new : ObjOk X.prog X.w (upd H s.heap.objs.size (.frz (tupO [v1, v2, v3]) (.tup [x, y, x3]))) h'' s.heap.objs.size (.frz (tupO [v1, v2, v3]) (.tup [x, y, x3])) :=
      ⟨hT2, by show 3 ≤ sizeLine; decide, [v1, v2, v3], .cons ru (.cons ru2 (.cons ru3 .nil)), ⟨_, hT2, rfl, _, rfl⟩⟩
    have I1 : L2.Inv X pins σ (upd H s.heap.objs.size (.frz (tupO [v1, v2, v3]) (.tup [x, y, x3]))) { s with heap := h'', toks := tk } :=
      I.turnedNew (t' := tk) (ch := [z, TI, TO, i1, i2, i3]) (fun c o hb q => (sb.2 c (fun q' => hb (by simp [q']))).trans (hk c o (fun q' => hb (by simp [q'])) (fun q' => hb (by simp [q'])) (fun q' => hb (by simp [q'])) (fun q' => hb (by simp [q'])) (fun q' => hb (by simp [q'])) q)) hf (Nat.le_refl _) new
    refine ⟨.ref s.heap.objs.size, _, I1, rfl, ⟨_, x, y, x3, tupO [v1, v2, v3], rfl, I.hok.fresh (Nat.le_refl _), rfl, rfl, fun l hl => by rw [Inv.seqK_inj I hl hqx]; exact hx, fun l hl => by rw [Inv.seqK_inj I hl hqy]; exact hy, fun l hl => by rw [Inv.seqK_inj I hl hqz]; exact hx3⟩, ⟨z'', ?_, ⟨v1, v2, v3, ?_⟩, ?_, ?_, ?_⟩, fun c hcm => ?_⟩
    · exact (sb.2 _ S.TIz).trans (hk _ _ S.TIz S.TITO S.TIi1 S.TIi2 S.TIi3 hTI)
    · exact (sb.2 _ S.TOz).trans TO'
    · exact ItS.at g1.1 fun o q => (sb.2 _ (Ne.symm S.zi1)).trans q
    · exact ItS.at g2.1 fun o q => (sb.2 _ (Ne.symm S.zi2)).trans q
    · exact ItS.at g3.1 fun o q => (sb.2 _ (Ne.symm S.zi3)).trans q
    · have hlt : c < s.heap.objs.size := by
        have e' : c = z ∨ c = TI ∨ c = TO ∨ c = i1 ∨ c = i2 ∨ c = i3 := by simpa using hcm
        rcases e' with q | q | q | q | q | q
        · rw [q]; exact hzl
        · rw [q]; exact Heap.lt_size hTI
        · rw [q]; exact Heap.lt_size hTO
        · rw [q]; obtain ⟨_, e1, _⟩ := h1.obj; exact Heap.lt_size e1
        · rw [q]; obtain ⟨_, e2, _⟩ := h2.obj; exact Heap.lt_size e2
        · rw [q]; obtain ⟨_, e3, _⟩ := h3.obj; exact Heap.lt_size e3
      rw [upd_ne (Nat.ne_of_lt hlt)]
      exact (hf c hcm).1
  done := by
    intro X hP hw hK hc i pins s σ H E I hf st hg
    subst hP hw hK
    obtain ⟨hz, hTI, ⟨x0, y0, x30, hTO⟩, h1, h2, h3⟩ := st
    obtain ⟨xs, ys, zs, hqx, hqy, hqz, l1, l2, l3, hend⟩ := hg
    obtain ⟨its, rv, p, _⟩ := Inv.seqK I hqx
    obtain ⟨its2, rv2, p2, _⟩ := Inv.seqK I hqy
    obtain ⟨its3, rv3, p3, _⟩ := Inv.seqK I hqz
    have e1 := rv.length
    have e2 := rv2.length
    have e3 := rv3.length
    have hh : X.A.in1.handled = none := I.ok.hd hc
    refine wpAny_pyNext_zipD3_end S (draws_seq (k := k1) hh i1 a (its_ne h1 p) its.toArray) (draws_seq (k := k2) hh i2 b (its_ne h2 p2) its2.toArray) (draws_seq (k := k3) hh i3 c (its_ne h3 p3) its3.toArray) hz hTI hTO ⟨h1, p⟩ ⟨h2, p2⟩ ⟨h3, p3⟩ (by simp; omega) (by simp; omega) (by simp; omega) (by simp; omega) fun h' tk hk => ⟨rfl, ?_⟩
    exact I.turnedL (t' := tk) (ch := [z, TI, TO, i1, i2, i3]) (fun c o hb q => hk c o (fun q' => hb (by simp [q'])) (fun q' => hb (by simp [q'])) (fun q' => hb (by simp [q'])) (fun q' => hb (by simp [q'])) (fun q' => hb (by simp [q'])) q) hf
  self := fun A i s Q E st h => wpAny_pyIter_zip st.1 h
def zip3D : List D → Option (List D)
  | [d, e, f] => (items d).bind fun ds => (items e).bind fun es => (items f).map fun fs => List.zipWith (fun x y => PyData.tuple [x, y.1, y.2]) ds (es.zip fs)
  | _ => none
theorem goes_zip3 {k1 k2 k3 : Bool} {K : PySem.W.Frag} {F : Hp} {a b c : Addr} {vs ws us : List V} {ds es fs : List D} (h1 : SqK k1 K F a vs) (h2 : SqK k2 K F b ws) (h3 : SqK k3 K F c us) (r1 : RpAll K F vs ds) (r2 : RpAll K F ws es) (r3 : RpAll K F us fs) (hz : ds.length ≤ sizeLine) :
    Goes K F (ItZ3 k1 k2 k3 K a b c) (List.zipWith (fun x y => PyData.tuple [x, y.1, y.2]) ds (es.zip fs)) where
  len := by rw [List.length_zipWith]; omega
  go := fun i H e h => by
    rw [List.length_zipWith, List.length_zip] at h
    have i1 : i < vs.length := by rw [r1.len]; omega
    have i2 : i < ws.length := by rw [r2.len]; omega
    have i3 : i < us.length := by rw [r3.len]; omega
    exact ⟨vs, ws, us, vs[i], ws[i], us[i], h1.ex e, h2.ex e, h3.ex e, by simp [i1], by simp [i2], by simp [i3]⟩
  stop := fun H e => by
    refine ⟨vs, ws, us, h1.ex e, h2.ex e, h3.ex e, ?_, ?_, ?_, ?_⟩ <;> simp only [r1.len, r2.len, r3.len, List.length_zipWith, List.length_zip] <;> omega
  yld := fun i G H x H' d eg gh hd y => by
    obtain ⟨T, u, v, t, ob, rfl, hT, hob, rfl, hx, hy, ht⟩ := y
    have hx := hx vs (h1.ex (ex_trans eg gh))
    have hy := hy ws (h2.ex (ex_trans eg gh))
    have ht := ht us (h3.ex (ex_trans eg gh))
    obtain ⟨d1, e1, p1⟩ := r1.getV hx
    obtain ⟨d2, e2, p2⟩ := r2.getV hy
    obtain ⟨d3, e3, p3⟩ := r3.getV ht
    have ez : (es.zip fs)[i]? = some (d2, d3) := by rw [List.zip, List.getElem?_zipWith, e2, e3]
    rw [List.getElem?_zipWith, e1, ez] at hd
    cases hd
    obtain ⟨g, q⟩ := new_tup (K := K) hob gh hT (RpAll.cons (p1.mono eg) (.cons (p2.mono eg) (.cons (p3.mono eg) .nil))) (by show 3 ≤ sizeLine; decide)
    exact ⟨_, g, q⟩
theorem pi_zip3 {X : Cx} {pa : Option Addr} {e e2 e3 : Expr} {fa : Sl → M (List D)} {p pos tpos : Pos} {elts : List Expr} {kk : Nat} (hg : Gl X "zip") (hm : X.mg "zip" = none) (ha : PA X [e, e2, e3] (tDA X.K pa fa))
    (hs : starEach [e, e2, e3] X.env = (false, eval e X.env) :: starEach [e2, e3] X.env) (hpl : (backTo pos (starEach [e2, e3] X.env)).any (·.1) = false) :
    PI X (.Tuple elts kk tpos) (.Call (.Name "zip" p) [e, e2, e3] [] pos) (tDI X.K pa fun ρ => bnd (fa ρ) fun ds => lift (zip3D ds)) := by
  refine ⟨fun pins s σ H R I h => ?_⟩
  obtain ⟨ρ, π, F, ds, π', S, hf, q⟩ := h
  obtain ⟨as, π1, f1, f2⟩ := bnd_some hf
  obtain ⟨f3, rfl⟩ := lift_eq f2
  refine Call_ (ld_blt I hg hm PyProof.Rows.boot_zip (PyProof.Rows.callWith_type1 (thn (ha.run pos pins s σ H _ I ⟨ρ, π, F, as, _, S, f1, fun F1 H1 vs g P r => (⟨F1, g, P, r⟩ : ∃ F1, Grow pa F H F1 H1 ∧ PoolAt X.K pa F1 H1 π' ∧ RpAll X.K F1 vs as)⟩) fun us s1 ⟨vs, H1, I1, r1, F1, g1, P1, q1⟩ => ?_) hs hpl))
  match as, f3 with
  | [d1, d2, d3], f3 =>
    simp only [zip3D, Option.bind_eq_some_iff, Option.map_eq_some_iff] at f3
    obtain ⟨ds1, e1, ds2, e2, ds3, e3, rfl⟩ := f3
    cases q1 with
    | cons p1 p2 =>
      cases p2 with
      | cons p2 p3 =>
        cases p3 with
        | cons p3 p4 =>
          cases p4
          have lz := rp_ilen p1 e1
          obtain ⟨k1, a, ws1, rfl, s1', ra⟩ := rp_seq p1 e1
          obtain ⟨k2, b, ws2, rfl, s2', rb⟩ := rp_seq p2 e2
          obtain ⟨k3, c, ws3, rfl, s3', rc⟩ := rp_seq p3 e3
          cases r1 with
          | cons r rr =>
            cases rr with
            | cons r' rr =>
              cases rr with
              | cons r'' rr =>
                cases rr
                cases r
                cases r'
                cases r''
                obtain ⟨its, rv, p1, la⟩ := Inv.seqK I1 (s1'.ex g1.sub)
                obtain ⟨its2, rv2, p2, lb⟩ := Inv.seqK I1 (s2'.ex g1.sub)
                obtain ⟨its3, rv3, p3, lc⟩ := Inv.seqK I1 (s3'.ex g1.sub)
                refine zip_begins3 (begins_seq (k := k1) a its.toArray) (begins_seq (k := k2) b its2.toArray) (begins_seq (k := k3) c its3.toArray) p1 p2 p3 fun h' hz hTI hTO h1 h2 h3 hsz hk => wpAny_pyIter_zip hz ?_
                have I2 : L2.Inv X pins σ H1 { s1 with heap := h' } := I1.kept (t' := s1.toks) hk
                have sep := zip_sep3 (N := s1.heap.objs.size) (fp1 := [a]) (fp2 := [b]) (fp3 := [c]) (by simpa using la) (by simpa using lb) (by simpa using lc)
                refine ⟨s1.heap.objs.size + 5, [s1.heap.objs.size + 5, s1.heap.objs.size + 3, s1.heap.objs.size + 4, s1.heap.objs.size, s1.heap.objs.size + 1, s1.heap.objs.size + 2], _, _, H1, rfl, I2, turn_zip3 sep, ⟨hz, hTI, ⟨_, _, _, hTO⟩, .start h1, .start h2, .start h3⟩, fun c hcm => ?_, q F1 H1 _ g1 P1 (goes_zip3 s1' s2' s3' ra rb rc lz)⟩
                have e' : c = s1.heap.objs.size + 5 ∨ c = s1.heap.objs.size + 3 ∨ c = s1.heap.objs.size + 4 ∨ c = s1.heap.objs.size ∨ c = s1.heap.objs.size + 1 ∨ c = s1.heap.objs.size + 2 := by simpa using hcm
                have hle : s1.heap.objs.size ≤ c := by
                  rcases e' with z | z | z | z | z | z <;> rw [z] <;> first | exact Nat.le_add_right _ _ | exact Nat.le_refl _
                exact I1.fpOk hle (I1.hok.fresh hle)
end SR
end
section
/-! SrIt2: enumerate over data; an expression, a range as what is walked. -/
namespace PySem
open Sem (wp)
open Builtin
theorem meets_enumerate_new1B {v : Value} {o : Obj} {H : Heap → Prop} (B : Begins v o H) :
    Meets (Builtin.«enumerate.__new__» ⟨[.type "enumerate", v], []⟩) (fun _ R s => H s.heap ∧
      R (.ok (.ret (.ref (s.heap.push o).objs.size))) { s with heap := (s.heap.push o).push { cls := .type "enumerate", data := .fields #[.none, .bool false, .ref s.heap.objs.size, rawInt 0, .none, .none] } }) :=
  .of_wp fun prog w A R s h => by
    obtain ⟨hp, g, d, tk, os⟩ := s; obtain ⟨h1, h⟩ := h
    have hsub := sub_enumerate
    have q1 : ∀ {A' : Around} {E : Value → Shared → Prop} {Q : Value → Shared → Prop}, Q (.ref hp.objs.size) ⟨hp.push o, g, d, tk, os⟩ → wpAny (model prog w) A' (pyIter v) Q E ⟨hp, g, d, tk, os⟩ :=
      fun q => B.iter prog w _ _ ⟨hp, g, d, tk, os⟩ _ h1 q
    wp_walk using q1
    refine wpAny_stack_any fun st => wpAny_pure ?_
    split
    · rename_i c _ _ _ _ _
      cases (c == Value.type "enumerate")
      · wp_walk using q1
        exact ⟨_, rfl, h⟩
      · wp_walk using q1
        exact ⟨_, rfl, h⟩
    · wp_walk using q1
      exact ⟨_, rfl, h⟩
section
variable {prog : Program} {w : World} {A : Around} {E : Value → Shared → Prop} {s : Shared}
theorem enum_begins1 {v : Value} {o : Obj} {H : Heap → Prop} {Q : Value → Shared → Prop} (B : Begins v o H) (h1 : H s.heap)
    (h : ∀ h', IsEnum h' (s.heap.objs.size + 1) s.heap.objs.size 0 .none → h'.get? s.heap.objs.size = some o → h'.objs.size = s.heap.objs.size + 2 →
      (∀ b o, s.heap.get? b = some o → h'.get? b = some o) → Q (.ref (s.heap.objs.size + 1)) { s with heap := h' }) :
    wpAny (model prog w) A (call (.type "enumerate") [v]) Q E s := by
  refine callType_new F.called_enumerate (by decide) (F.typeCall_enumerate_1 _) (F.newCall_enumerate_1 _) (fun obj => F.args_object_init_2 obj _) F.entry_enumerate_new
    (meets_enumerate_new1B B) ⟨h1, ?_⟩
  have hz : (s.heap.push o).objs.size = s.heap.objs.size + 1 := Heap.size_push ..
  show _ ∧ _
  rw [hz]
  have he : IsEnum ((s.heap.push o).push { cls := .type "enumerate", data := .fields #[.none, .bool false, .ref s.heap.objs.size, rawInt 0, .none, .none] }) (s.heap.objs.size + 1) s.heap.objs.size 0 .none := by
    have := Heap.get?_push_size (s.heap.push o) (o := { cls := .type "enumerate", data := .fields #[.none, .bool false, .ref s.heap.objs.size, rawInt 0, .none, .none] }) rfl
    rw [hz] at this; exact this
  refine ⟨⟨_, he, rfl⟩, h _ he (Heap.get?_push_of_some _ (Heap.get?_push_size _ B.free)) (by rw [Heap.size_push, hz]) fun b o x => Heap.get?_push_of_some _ (Heap.get?_push_of_some _ x)⟩
end
end PySem
namespace SR
open PySem PySem.Spec PyProof.Rows L2
variable [Wd]
def ItE (k : Bool) (K : PySem.W.Frag) (a : Addr) : It :=
  ⟨fun i H => ∃ (xs : List V) (x : V), SqK k K H a xs ∧ xs[i]? = some x, fun i H v H' => ∃ T x o, v = .ref T ∧ H T = none ∧ o.dict = none ∧ H' = upd H T (.frz o (.tup [.int (i : Nat), x])) ∧ ∀ xs, SqK k K H a xs → xs[i]? = some x, fun i H => ∃ xs : List V, SqK k K H a xs ∧ xs.length = i⟩
theorem turn_enumK {P : Program} {w : World} {K : PySem.W.Frag} {elts : List Expr} {kk : Nat} {tpos : Pos} {k : Bool} (a e it : Addr) :
    Turn P w K (.Tuple elts kk tpos) (ItE k K a) [e, it] e (fun i h => (∃ old, IsEnum h e it ((i : Nat) : Int) old) ∧ ItS k it a i h ∧ e ≠ it ∧ e ≠ a) where
  mem := by simp
  obj := fun i h st b hb => by
    obtain ⟨⟨old, he⟩, hit, _⟩ := st
    have e' : b = e ∨ b = it := by simpa using hb
    rcases e' with z | z
    · rw [z]; exact ⟨_, he, fun v q => nomatch q⟩
    · rw [z]; exact hit.obj
  keep := fun i h h' st k => let ⟨⟨old, he⟩, hi, hne⟩ := st; ⟨⟨old, k e (by simp) _ he⟩, hi.at fun o q => k it (by simp) o q, hne⟩
  item := by
    intro X hP hw hK hc i pins s σ H E I hf st hg
    subst hP hw hK
    obtain ⟨⟨old, he⟩, hit, hne, hea⟩ := st
    obtain ⟨xs, x, hq, hx⟩ := hg
    obtain ⟨its, rv, p, hz⟩ := Inv.seqK I hq
    obtain ⟨u, hu, ru⟩ := rv.get hx
    have hel : e < s.heap.objs.size := Heap.lt_size he
    have hil : it < s.heap.objs.size := by obtain ⟨_, q, _⟩ := hit.obj; exact Heap.lt_size q
    have lt1 : i < its.toArray.size := by have := (List.getElem?_eq_some_iff.mp hu).1; simpa using this
    have hh : X.A.in1.handled = none := I.ok.hd hc
    refine wpAny_pyNext_enum_itemD (draws_seq (k := k) hh it a (its_ne hit p) its.toArray) he ⟨hit, p⟩ lt1 hne (by simp [hne, hea]) fun v h' tk P1 ho hit' hT hsz hk => ?_
    have ev : v = u := by
      have P1 : its.toArray[i]? = some v := P1
      rw [List.getElem?_toArray, hu] at P1; exact (Option.some.inj P1).symm
    subst ev
    refine ⟨_, rfl, wpAny_letOwnedTupleGo_enum (s := { s with heap := h', toks := tk + 1 }) ho fun h'' he' sb => ?_⟩
    have hT2 : h''.get? s.heap.objs.size = some { cls := .type "tuple", data := .seq #[.int i tk, v] } := (sb.2 _ (Nat.ne_of_gt hel)).trans hT
    have new : ObjOk X.prog X.w (upd H s.heap.objs.size (.frz (tupO [.int i tk, v]) (.tup [.int (i : Nat), x]))) h'' s.heap.objs.size (.frz (tupO [.int i tk, v]) (.tup [.int (i : Nat), x])) :=
      ⟨hT2, by show 2 ≤ sizeLine; decide, [.int i tk, v], .cons ⟨_, rfl⟩ (.cons ru .nil), ⟨_, hT2, rfl, _, rfl⟩⟩
    have I1 : L2.Inv X pins σ (upd H s.heap.objs.size (.frz (tupO [.int i tk, v]) (.tup [.int (i : Nat), x]))) { s with heap := h'', toks := tk + 1 } :=
      I.turnedNew (t' := tk + 1) (ch := [e, it]) (fun b ob hb q => (sb.2 b (fun z => hb (by simp [z]))).trans (hk b ob (fun z => hb (by simp [z])) (fun z => hb (by simp [z])) q)) hf (Nat.le_refl _) new
    refine ⟨.ref s.heap.objs.size, _, I1, rfl, ⟨_, x, tupO [.int i tk, v], rfl, I.hok.fresh (Nat.le_refl _), rfl, rfl, fun ys hy => by rw [Inv.seqK_inj I hy hq]; exact hx⟩, ⟨⟨v, ?_⟩, ItS.at hit'.1 fun o q => (sb.2 it (Ne.symm hne)).trans q, hne, hea⟩, fun b hb => ?_⟩
    · have e1 : ((i + 1 : Nat) : Int) = (i : Int) + 1 := by omega
      rw [e1]; exact he'
    · have hb' : b < s.heap.objs.size := by
        have e' : b = e ∨ b = it := by simpa using hb
        rcases e' with z | z
        · rw [z]; exact hel
        · rw [z]; exact hil
      rw [upd_ne (Nat.ne_of_lt hb')]
      exact (hf b hb).1
  done := by
    intro X hP hw hK hc i pins s σ H E I hf st hg
    subst hP hw hK
    obtain ⟨⟨old, he⟩, hit, hne, hea⟩ := st
    obtain ⟨xs, hq, hx⟩ := hg
    obtain ⟨its, rv, p, hz⟩ := Inv.seqK I hq
    obtain ⟨f0, f1, f2, f3, f4, f5⟩ := hf it (by simp)
    have hl := rv.length
    have hh : X.A.in1.handled = none := I.ok.hd hc
    have en : its.toArray.size = i := by simp; omega
    exact wpAny_pyNext_enum_endD (draws_seq (k := k) hh it a (its_ne hit p) its.toArray) he (by rw [en]; exact ⟨hit, p⟩) fun h' eb => ⟨rfl, I.turned (t' := s.toks) (fun b o hb q => eb b o hb q) f0 f1 f3 f4 f5⟩
  self := fun A i s Q E st h => let ⟨⟨_, he⟩, _⟩ := st; wpAny_pyIter_enum he h
def enumD (ds : List D) : List D := ds.zipIdx.map fun p => PyData.tuple [.int (p.2 : Nat), p.1]
theorem goes_enum {k : Bool} {K : PySem.W.Frag} {F : Hp} {a : Addr} {vs : List V} {ds : List D} (h : SqK k K F a vs) (r : RpAll K F vs ds) (hz : ds.length ≤ sizeLine) : Goes K F (ItE k K a) (enumD ds) where
  len := by unfold enumD; rw [List.length_map, List.length_zipIdx]; exact hz
  go := fun i H e hi => by
    unfold enumD at hi
    rw [List.length_map, List.length_zipIdx] at hi
    have i1 : i < vs.length := by rw [r.len]; exact hi
    exact ⟨vs, vs[i], h.ex e, by simp [i1]⟩
  stop := fun H e => ⟨vs, h.ex e, by unfold enumD; rw [List.length_map, List.length_zipIdx, r.len]⟩
  yld := fun i G H x H' d eg gh hd y => by
    obtain ⟨T, u, ob, rfl, hT, hob, rfl, hx⟩ := y
    have hx := hx vs (h.ex (ex_trans eg gh))
    obtain ⟨d1, e1, p1⟩ := r.getV hx
    unfold enumD at hd
    rw [List.getElem?_map, List.getElem?_zipIdx, e1] at hd
    cases hd
    obtain ⟨g, q⟩ := new_tup (K := K) hob gh hT (RpAll.cons (.int (i : Nat)) (.cons (p1.mono eg) .nil)) (by show 2 ≤ sizeLine; decide)
    exact ⟨_, g, by simpa using q⟩
theorem pi_enumK {X : Cx} {pa : Option Addr} {e : Expr} {fa : Sl → M (List D)} {p pos tpos : Pos} {elts : List Expr} {kk : Nat} (hg : Gl X "enumerate") (hm : X.mg "enumerate" = none) (ha : PA X [e] (tDA X.K pa fa))
    (hs : starEach [e] X.env = [(false, eval e X.env)]) :
    PI X (.Tuple elts kk tpos) (.Call (.Name "enumerate" p) [e] [] pos) (tDI X.K pa fun ρ => bnd (fa ρ) fun ds => lift (match ds with
      | [d] => (items d).map enumD
      | _ => none)) := by
  refine ⟨fun pins s σ H R I h => ?_⟩
  obtain ⟨ρ, π, F, ds, π', S, hf, q⟩ := h
  obtain ⟨as, π1, f1, f2⟩ := bnd_some hf
  obtain ⟨f3, rfl⟩ := lift_eq f2
  refine Call_ (ld_blt I hg hm boot_enumerate (PyProof.Rows.callWith_type1 (thn (ha.run pos pins s σ H _ I ⟨ρ, π, F, as, _, S, f1, fun F1 H1 vs g P r => (⟨F1, g, P, r⟩ : ∃ F1, Grow pa F H F1 H1 ∧ PoolAt X.K pa F1 H1 π' ∧ RpAll X.K F1 vs as)⟩) fun us s1 ⟨vs, H1, I1, r1, F1, g1, P1, q1⟩ => ?_) hs rfl))
  match as, f3 with
  | [d], f3 =>
    simp only [Option.map_eq_some_iff] at f3
    obtain ⟨es, e1, rfl⟩ := f3
    cases q1 with
    | cons p1 p2 =>
      cases p2
      have lz := rp_ilen p1 e1
      obtain ⟨k, a, ws, rfl, sq, ra⟩ := rp_seq p1 e1
      cases r1 with
      | cons r rr =>
        cases rr
        cases r
        obtain ⟨its, rv, p', la⟩ := Inv.seqK I1 (sq.ex g1.sub)
        refine enum_begins1 (begins_seq (k := k) a its.toArray) p' fun h' he hit hsz hk => wpAny_pyIter_enum he ?_
        have I2 : L2.Inv X pins σ H1 { s1 with heap := h' } := I1.kept (t' := s1.toks) hk
        refine ⟨s1.heap.objs.size + 1, [s1.heap.objs.size + 1, s1.heap.objs.size], _, _, H1, rfl, I2, turn_enumK a (s1.heap.objs.size + 1) s1.heap.objs.size, ⟨⟨.none, he⟩, .start hit, Nat.succ_ne_self _, Nat.ne_of_gt (Nat.lt_succ_of_lt la)⟩, fun b hb => ?_, q F1 H1 _ g1 P1 (goes_enum sq ra lz)⟩
        have e' : b = s1.heap.objs.size + 1 ∨ b = s1.heap.objs.size := by simpa using hb
        have hle : s1.heap.objs.size ≤ b := by
          rcases e' with z | z
          · rw [z]; exact Nat.le_add_right _ _
          · rw [z]; exact Nat.le_refl _
        exact I1.fpOk hle (I1.hok.fresh hle)
/-! ### an expression that is walked -/
def iterD : D → Option (List D)
  | .list ds => some ds
  | .tuple ds => some ds
  | .str z => if z.length ≤ sizeLine then some (z.cps.toList.map fun c => PyData.str ⟨#[c]⟩) else none
  | _ => none
theorem pi_any {X : Cx} {pa : Option Addr} {tg e : Expr} {f : Sl → M D} (he : PE X e (tD X.K pa f)) : PI X tg e (tDI X.K pa fun ρ => bnd (f ρ) fun d => lift (iterD d)) := by
  refine ⟨fun pins s σ H R I h => ?_⟩
  obtain ⟨ρ, π, F, ds, π', S, hf, q⟩ := h
  obtain ⟨d, π1, f1, f2⟩ := bnd_some hf
  obtain ⟨f3, rfl⟩ := lift_eq f2
  cases d with
  | list es =>
    cases f3
    refine (pi_list (tg := tg) he).run pins s σ H R I ⟨ρ, π, F, _, _, S, f1, fun F' H' v g P r => ?_⟩
    obtain ⟨a, vs, rfl, ha, ra⟩ := rp_list r
    exact ⟨a, rfl, ⟨vs, SqL.of (g.sub _ _ ha)⟩, q F' H' _ g P (goes_list ha ra (by rw [ra.len]; exact rp_llen r))⟩
  | tuple es =>
    cases f3
    refine (pi_tup (tg := tg) he).run pins s σ H R I ⟨ρ, π, F, _, _, S, f1, fun F' H' v g P r => ?_⟩
    obtain ⟨a, vs, rfl, ha, ra⟩ := rp_tuple r
    exact ⟨a, rfl, ⟨vs, ex_sqT g.sub ha⟩, q F' H' _ g P (goes_tup ha ra (by rw [ra.len]; exact rp_tlen r))⟩
  | str z =>
    simp only [iterD] at f3
    split at f3
    · rename_i hz
      cases f3
      refine (pi_str (tg := tg) he).run pins s σ H R I ⟨ρ, π, F, _, _, S, f1, fun F' H' v g P r => ?_⟩
      rw [rp_str r]
      exact ⟨z, rfl, q F' H' _ g P (goes_str hz)⟩
    · cases f3
  | none => cases f3
  | bool _ => cases f3
  | int _ => cases f3
  | dict _ => cases f3
def rangeOk (lo hi : Int) : Bool := decide (-(2 ^ 62) ≤ lo) && decide (lo < 2 ^ 62) && decide (-(2 ^ 62) ≤ hi) && decide (hi < 2 ^ 62) && decide (hi - lo ≤ 16777216)
def rngD : List D → Option (List D)
  | [.int hi] => if rangeOk 0 hi then some (rangeD 0 hi) else none
  | [.int lo, .int hi] => if rangeOk lo hi then some (rangeD lo hi) else none
  | _ => none
theorem pi_rng1 {X : Cx} {pa : Option Addr} {tg a : Expr} {fa : Sl → M (List D)} {p pos : Pos} (hg : Gl X "range") (hm : X.mg "range" = none) (ha : PA X [a] (tDA X.K pa fa)) (hs : starEach [a] X.env = [(false, eval a X.env)]) (hone : ∀ ρ π ds π', fa ρ π = some (ds, π') → ds.length = 1) :
    PI X tg (.Call (.Name "range" p) [a] [] pos) (tDI X.K pa fun ρ => bnd (fa ρ) fun ds => lift (rngD ds)) := by
  refine PI.imp (pi_range1 hg hm ha hs) fun σ H R h => ?_
  obtain ⟨ρ, π, F, ds, π', S, hf, q⟩ := h
  obtain ⟨as, π1, f1, f2⟩ := bnd_some hf
  obtain ⟨f3, rfl⟩ := lift_eq f2
  refine ⟨ρ, π, F, as, _, S, f1, fun F' H' vs g P r => ?_⟩
  have h1 := hone _ _ _ _ f1
  match as, f3, h1 with
  | [.int hi], f3, _ =>
    simp only [rngD] at f3
    split at f3
    · rename_i hr
      cases f3
      unfold rangeOk at hr
      simp only [Bool.and_eq_true, decide_eq_true_eq] at hr
      cases r with
      | cons r rr =>
        cases rr; cases r
        refine ⟨hi, rfl, hr.1.1.2, hr.1.2, ?_⟩
        have := q F' H' (Itr 0 (hi - 0).toNat) g P (goes_range hr.2)
        simpa using this
    · cases f3
theorem pi_rng2 {X : Cx} {pa : Option Addr} {tg a b : Expr} {fa : Sl → M (List D)} {p pos : Pos} (hg : Gl X "range") (hm : X.mg "range" = none) (ha : PA X [a, b] (tDA X.K pa fa)) (hs : starEach [a, b] X.env = [(false, eval a X.env), (false, eval b X.env)]) (hs2 : starEach [b] X.env = [(false, eval b X.env)]) (hone : ∀ ρ π ds π', fa ρ π = some (ds, π') → ds.length = 2) :
    PI X tg (.Call (.Name "range" p) [a, b] [] pos) (tDI X.K pa fun ρ => bnd (fa ρ) fun ds => lift (rngD ds)) := by
  refine PI.imp (pi_range2 hg hm ha hs hs2) fun σ H R h => ?_
  obtain ⟨ρ, π, F, ds, π', S, hf, q⟩ := h
  obtain ⟨as, π1, f1, f2⟩ := bnd_some hf
  obtain ⟨f3, rfl⟩ := lift_eq f2
  refine ⟨ρ, π, F, as, _, S, f1, fun F' H' vs g P r => ?_⟩
  have h1 := hone _ _ _ _ f1
  match as, f3, h1 with
  | [.int lo, .int hi], f3, _ =>
    simp only [rngD] at f3
    split at f3
    · rename_i hr
      cases f3
      unfold rangeOk at hr
      simp only [Bool.and_eq_true, decide_eq_true_eq] at hr
      cases r with
      | cons r rr =>
        cases rr with
        | cons r' rr =>
          cases rr; cases r; cases r'
          exact ⟨lo, hi, rfl, ⟨hr.1.1.1.1, hr.1.1.1.2, hr.1.1.2, hr.1.2⟩, q F' H' (Itr lo (hi - lo).toNat) g P (goes_range hr.2)⟩
    · cases f3
end SR
end
section
/-! SrIR: an IR of Python's defs over numbered slots, its value on data, the look that an AST is such an IR. -/
namespace SR
open PySem PySem.Spec PyProof.Rows L2
variable [Wd]

abbrev Fn := List D → Option D
abbrev FnP := Pool → List D → Option (D × Pool)
/-- a target: a slot, a pair, a triple -/
inductive Tg where
  | v (i : Nat)
  | t2 (a b : Tg)
  | t3 (a b c : Tg)
  | t4 (a b c d : Tg)
inductive Ty where
  | tuple | list | str | int | bool
def Ty.name : Ty → Str
  | .tuple => "tuple" | .list => "list" | .str => "str" | .int => "int" | .bool => "bool"
def isaD : Ty → D → Bool
  | .tuple, .tuple _ => true
  | .list, .list _ => true
  | .str, .str _ => true
  | .int, .int _ => true
  | .int, .bool _ => true
  | .bool, .bool _ => true
  | _, _ => false
mutual
inductive E where
  | var (i : Nat)
  | k (d : D)
  | glob (n : Str) (d : D)
  | tup (es : EL)
  | lst (es : EL)
  | op2 (o : Op2) (a b : E)
  | neg (a : E)
  | not (a : E)
  | and (a b : E)
  | or (a b : E)
  | cmp (c : Cmp) (a b : E)
  | cmp2 (c d : Cmp) (a b e : E)
  | cmp3 (c d f : Cmp) (a b e g : E)
  | ite (c a b : E)
  | ix (a i : E)
  | sl (a : E) (lo hi : EL)
  | rev (a : E)
  | bi (b : Bi) (es : EL)
  | isa (t : Ty) (a : E)
  | call (n : Str) (f : Fn) (es : EL)
  | callP (i : Nat) (n : Str) (f : FnP) (es : EL)
  | comp (tg : Tg) (it : E) (cs : EL) (el : E) (own : List Nat)
  | comp2 (tg : Tg) (it : E) (tg1 : Tg) (it1 : E) (el : E) (own own1 : List Nat)
  | zip2 (a b : E)
  | zip3 (a b c : E)
  | enum (a : E)
  | rng1 (a : E)
  | rng2 (a b : E)
  | oix (i : Nat) (a : E)
  | olen (i : Nat)
  | osl (i : Nat) (lo hi : EL)
  | dget (i : Nat) (a : E)
  | dgetd (i : Nat) (es : EL)
  | din (i : Nat) (a : E)
  | ditems (i : Nat)
  | dkeys (i : Nat)
  | dwalk (i : Nat)
  | join (a b : E)
  | pg (i k : Nat)
inductive EL where
  | nil
  | cons (e : E) (es : EL)
end

/-! ### the value -/
def wipeS : Sl → List Nat → Sl
  | ρ, [] => ρ
  | ρ, v :: vs => (wipeS ρ vs).set v .no
def bindT : Tg → D → Sl → Option Sl
  | .v i, d, ρ => some (ρ.set i (.dat d))
  | .t2 a b, .tuple [x, y], ρ => (bindT a x ρ).bind (bindT b y)
  | .t3 a b c, .tuple [x, y, z], ρ => ((bindT a x ρ).bind (bindT b y)).bind (bindT c z)
  | .t4 a b c d, .tuple [x, y, z, u], ρ => (((bindT a x ρ).bind (bindT b y)).bind (bindT c z)).bind (bindT d u)
  | _, _, _ => none
def ixD : D → D → Option D
  | .list ds, .int i => atI ds i
  | .tuple ds, .int i => atI ds i
  | .str z, .int i => if z.length ≤ sizeLine then (atI z.cps.toList i).map fun c => .str ⟨#[c]⟩ else none
  | _, _ => none
def cutL {α : Type} (xs : List α) (lo hi : Option Int) : List α := (xs.drop (HT.sIx xs.length 0 lo)).take (HT.sIx xs.length xs.length hi - HT.sIx xs.length 0 lo)
def slD : D → Option Int → Option Int → Option D
  | .list ds, lo, hi => some (.list (cutL ds lo hi))
  | .tuple ds, lo, hi => some (.tuple (cutL ds lo hi))
  | .str z, lo, hi => if z.length ≤ sizeLine then some (.str (cutS z lo hi)) else none
  | _, _, _ => none
def partD : List D → Option (Option Int)
  | [] => some none
  | [.int i] => some (some i)
  | _ => none
def revD : D → Option D
  | .list ds => some (.list ds.reverse)
  | .tuple ds => some (.tuple ds.reverse)
  | .str z => if z.length ≤ sizeLine then some (.str ⟨z.cps.toList.reverse.toArray⟩) else none
  | _ => none
def negD : D → Option D
  | .int i => some (.int (-i))
  | _ => none
/-- the items that are kept -/
def compL (g : D → M (Option D)) : List D → M (List D)
  | [] => ret []
  | d :: ds => bnd (g d) fun o => bnd (compL g ds) fun r => ret (o.toList ++ r)
/-- the items of several lists, one behind another -/
def flatL (g : D → M (List D)) : List D → M (List D)
  | [] => ret []
  | d :: ds => bnd (g d) fun o => bnd (flatL g ds) fun r => ret (o ++ r)
def dicGet (kvs : List (D × D)) (k : NestedKey) : Option D := (kvs.find? fun p => decide (nk p.1 = some k)).map (·.2)
def dicPut (kvs : List (D × D)) (dk : D) (k : NestedKey) (dv : D) : List (D × D) := if (dicGet kvs k).isSome then kvs.map (fun p => if nk p.1 = some k then (p.1, dv) else p) else kvs ++ [(dk, dv)]
/-- a datum that may be a key: a tuple, not deep -/
def keyOf : D → Option NestedKey
  | .tuple ds => match nk (.tuple ds) with
    | some k => if k.depth ≤ 8 then some k else none
    | none => none
  | _ => none
def ownD (ρ : Sl) (i : Nat) : M (List (D × D)) := match ρ[i]? with
  | some (.own (.dic kvs)) => ret kvs
  | _ => stuck
def dicAll : List (D × D) → List D → Option (List (D × D))
  | acc, [] => some acc
  | acc, .tuple [k, v] :: r => match keyOf k with
    | some kk => dicAll (dicPut acc k kk v) r
    | none => none
  | _, _ => none
def asStrs : List D → Option (List Str)
  | [] => some []
  | .str x :: r => (asStrs r).map (x :: ·)
  | _ => none
/-- sep.join(texts) -/
def joinD : D → D → Option D
  | .str a, d => ((items d).bind asStrs).bind fun ys => if (ys.map (·.length)).sum + ys.length * a.length ≤ 16777216 then some (.str (Txt.join a ys)) else none
  | _, _ => none
def truthM (d : D) : M Bool := lift (truth d)
def asList : D → M (List D)
  | .list ds => ret ds
  | _ => stuck
mutual
def ev : E → Sl → M D
  | .var i, ρ => match ρ[i]? with
    | some (.dat d) => ret d
    | _ => stuck
  | .k d, _ => ret d
  | .glob _ d, _ => ret d
  | .tup es, ρ => bnd (evs es ρ) fun ds => if ds.length ≤ 1000 then ret (.tuple ds) else stuck
  | .lst es, ρ => bnd (evs es ρ) fun ds => if ds.length ≤ 1000 then ret (.list ds) else stuck
  | .op2 o a b, ρ => bnd (ev a ρ) fun x => bnd (ev b ρ) fun y => lift (op2 o x y)
  | .neg a, ρ => bnd (ev a ρ) fun x => lift (negD x)
  | .not a, ρ => bnd (ev a ρ) fun x => bnd (truthM x) fun k => ret (.bool (!k))
  | .and a b, ρ => bnd (ev a ρ) fun x => bnd (truthM x) fun k => if k then ev b ρ else ret x
  | .or a b, ρ => bnd (ev a ρ) fun x => bnd (truthM x) fun k => if k then ret x else ev b ρ
  | .cmp c a b, ρ => bnd (ev a ρ) fun x => bnd (ev b ρ) fun y => bnd (lift (cmpD c x y)) fun k => ret (.bool k)
  | .cmp2 c d a b e, ρ => bnd (ev a ρ) fun x => bnd (ev b ρ) fun y => bnd (lift (cmpD c x y)) fun k => if k then bnd (ev e ρ) fun z => bnd (lift (cmpD d y z)) fun k => ret (.bool k) else ret (.bool false)
  | .cmp3 c d f a b e g, ρ => bnd (ev a ρ) fun x => bnd (ev b ρ) fun y => bnd (lift (cmpD c x y)) fun k => if k then bnd (ev e ρ) fun z => bnd (lift (cmpD d y z)) fun k =>
      if k then bnd (ev g ρ) fun u => bnd (lift (cmpD f z u)) fun k => ret (.bool k) else ret (.bool false) else ret (.bool false)
  | .ite c a b, ρ => bnd (ev c ρ) fun x => bnd (truthM x) fun k => if k then ev a ρ else ev b ρ
  | .ix a i, ρ => bnd (ev a ρ) fun x => bnd (ev i ρ) fun y => lift (ixD x y)
  | .sl a lo hi, ρ => bnd (ev a ρ) fun x => bnd (bnd (evs lo ρ) fun l => lift (partD l)) fun l => bnd (bnd (evs hi ρ) fun l => lift (partD l)) fun h => lift (slD x l h)
  | .rev a, ρ => bnd (ev a ρ) fun x => lift (revD x)
  | .bi b es, ρ => bnd (evs es ρ) fun ds => lift (bi b ds)
  | .isa t a, ρ => bnd (ev a ρ) fun x => ret (.bool (isaD t x))
  | .call _ f es, ρ => bnd (evs es ρ) fun ds => lift (f ds)
  | .callP i _ f es, ρ => match ρ[i]? with
    | some .pool => bnd (evs es ρ) fun ds => fun π => f π ds
    | _ => stuck
  | .comp tg it cs el own, ρ => bnd (ev it ρ) fun d => bnd (lift (iterD d)) fun ds => bnd (compL (fun x => match bindT tg x (wipeS ρ own) with
      | some ρ' => bnd (evC cs ρ') fun k => if k then bnd (ev el ρ') fun y => ret (some y) else ret none
      | none => stuck) ds) fun ys => ret (.list ys)
  | .comp2 tg it tg1 it1 el own own1, ρ => bnd (ev it ρ) fun d => bnd (lift (iterD d)) fun ds => bnd (flatL (fun x => match bindT tg x (wipeS ρ own) with
      | some ρ' => bnd (bnd (ev it1 ρ') fun d => lift (iterD d)) fun ds => compL (fun x => match bindT tg1 x (wipeS ρ' own1) with
        | some ρ2 => bnd (ev el ρ2) fun y => ret (some y)
        | none => stuck) ds
      | none => stuck) ds) fun ys => if ys.length ≤ sizeLine then ret (.list ys) else stuck
  | .zip2 a b, ρ => bnd (ev a ρ) fun x => bnd (ev b ρ) fun y => bnd (lift (zip2D [x, y])) fun ds => ret (.list ds)
  | .zip3 a b c, ρ => bnd (ev a ρ) fun x => bnd (ev b ρ) fun y => bnd (ev c ρ) fun z => bnd (lift (zip3D [x, y, z])) fun ds => ret (.list ds)
  | .enum a, ρ => bnd (ev a ρ) fun x => bnd (lift ((items x).map enumD)) fun ds => ret (.list ds)
  | .rng1 a, ρ => bnd (ev a ρ) fun x => bnd (lift (rngD [x])) fun ds => ret (.list ds)
  | .rng2 a b, ρ => bnd (ev a ρ) fun x => bnd (ev b ρ) fun y => bnd (lift (rngD [x, y])) fun ds => ret (.list ds)
  | .oix i a, ρ => match ρ[i]? with
    | some (.own (.lst ds)) => bnd (ev a ρ) fun y => lift (ixD (.list ds) y)
    | _ => stuck
  | .olen i, ρ => match ρ[i]? with
    | some (.own (.lst ds)) => ret (.int ds.length)
    | _ => stuck
  | .osl i lo hi, ρ => match ρ[i]? with
    | some (.own (.lst ds)) => bnd (bnd (evs lo ρ) fun l => lift (partD l)) fun l => bnd (bnd (evs hi ρ) fun l => lift (partD l)) fun h => lift (slD (.list ds) l h)
    | _ => stuck
  | .dget i a, ρ => bnd (ownD ρ i) fun _ => bnd (ev a ρ) fun k => bnd (ownD ρ i) fun kvs => lift ((keyOf k).bind (dicGet kvs))
  | .dgetd i es, ρ => bnd (ownD ρ i) fun _ => bnd (evs es ρ) fun ds => bnd (ownD ρ i) fun kvs => lift (match ds with
    | [k, d] => (keyOf k).map fun k => (dicGet kvs k).getD d
    | _ => none)
  | .din i a, ρ => bnd (ev a ρ) fun k => bnd (ownD ρ i) fun kvs => bnd (lift ((keyOf k).map fun k => (dicGet kvs k).isSome)) fun b => ret (.bool b)
  | .ditems i, ρ => bnd (ownD ρ i) fun kvs => ret (.list (kvs.map fun p => PyData.tuple [p.1, p.2]))
  | .dkeys i, ρ => bnd (ownD ρ i) fun kvs => ret (.list (kvs.map (·.1)))
  | .dwalk i, ρ => bnd (ownD ρ i) fun kvs => ret (.list (kvs.map (·.1)))
  | .join a b, ρ => bnd (ev a ρ) fun x => bnd (ev b ρ) fun y => lift (joinD x y)
  | .pg i k, ρ => match ρ[i]? with
    | some .pool => fun π => (π.at k).map fun d => (d, π)
    | _ => stuck
def evs : EL → Sl → M (List D)
  | .nil, _ => ret []
  | .cons e es, ρ => bnd (ev e ρ) fun d => bnd (evs es ρ) fun ds => ret (d :: ds)
/-- a clause's tests: none or one -/
def evC : EL → Sl → M Bool
  | .nil, _ => ret true
  | .cons c _, ρ => bnd (ev c ρ) truthM
end

/-! ### the look: this AST is that IR (N: the names by slot) -/
def visB (sc : Scope) (x : Str) : Bool := match sc.names.lookup x with
  | some .local => true
  | some .cell => true
  | some .free => true
  | _ => false
def glB (sc : Scope) (x : Str) : Bool := decide (sc.names.lookup x = some .globalImplicit) && !(x == ("__debug__" : Str)) && !(x == ("__name__" : Str))
def varB (N : List Str) (sc : Scope) (i : Nat) (x : Str) : Bool := decide (N[i]? = some x) && visB sc x && !(x == ("__debug__" : Str)) && !(x == ("__classdict__" : Str))
/-- a target that may be stored: fn tells which cells are the block's own -/
def stoB (N : List Str) (sc : Scope) (fn : Str → Bool) (i : Nat) (x : Str) : Bool := decide (N[i]? = some x) && (match sc.names.lookup x with
  | some .local => true
  | some .cell => fn x
  | _ => false)
def kB : D → Const → Bool
  | .none, .none => true
  | .bool b, .bool c => b == c
  | .int i, .int j => i == j
  | .str x, .str y => x == y
  | _, _ => false
def noStar : Expr → Bool
  | .Starred .. => false
  | _ => true
def noSlice : Expr → Bool
  | .Slice .. => false
  | _ => true
def noSet : Expr → Bool
  | .Set .. => false
  | _ => true
def isTupE : Expr → Bool
  | .Tuple .. => true
  | _ => false
/-- its test is its value's truth -/
def plainT : Expr → Bool
  | .UnaryOp .Not _ _ => false
  | .BoolOp .. => false
  | .IfExp .. => false
  | .Compare .. => false
  | _ => true
def noCall : Expr → Bool
  | .Call .. => false
  | _ => true
def noIf : Expr → Bool
  | .IfExp .. => false
  | _ => true
def chkTg (N : List Str) (sc : Scope) (fn : Str → Bool) : Tg → Expr → Bool
  | .v i, x => match x with
    | .Name n _ => stoB N sc fn i n
    | _ => false
  | .t2 a b, x => match x with
    | .Tuple [x, y] _ _ => chkTg N sc fn a x && chkTg N sc fn b y
    | _ => false
  | .t3 a b c, x => match x with
    | .Tuple [x, y, z] _ _ => chkTg N sc fn a x && chkTg N sc fn b y && chkTg N sc fn c z
    | _ => false
  | .t4 a b c d, x => match x with
    | .Tuple [x, y, z, u] _ _ => chkTg N sc fn a x && chkTg N sc fn b y && chkTg N sc fn c z && chkTg N sc fn d u
    | _ => false
def tgIn (own : List Nat) : Tg → Bool
  | .v i => decide (i ∈ own)
  | .t2 a b => tgIn own a && tgIn own b
  | .t3 a b c => tgIn own a && tgIn own b && tgIn own c
  | .t4 a b c d => tgIn own a && tgIn own b && tgIn own c && tgIn own d
def ownP (N : List Str) : List Nat → Option (List (Str × Nat))
  | [] => some []
  | i :: r => match N[i]?, ownP N r with
    | some x, some l => some ((x, i) :: l)
    | _, _ => none
/-- a dict that is walked -/
def isDw : E → Bool
  | .dwalk _ => true
  | _ => false
def fnB (scope : Scope) (x : Str) : Bool := scope.names.lookup x == some .cell
def blkB (N : List Str) (sc scope : Scope) (own : List Nat) : Bool := match ownP N own with
  | some l => blkC N sc scope l
  | none => false
mutual
/-- p: the target, where the expression is walked -/
def chk (N : List Str) : E → Option Expr → Scope → Expr → Bool
  | .var i, _, sc, x => match x with
    | .Name n _ => varB N sc i n
    | _ => false
  | .k d, _, _, x => match x with
    | .Constant c _ _ => kB d c
    | _ => false
  | .glob n _, _, sc, x => match x with
    | .Name m _ => m == n && glB sc m
    | _ => false
  | .tup es, _, sc, x => match x with
    | .Tuple xs _ _ => chks N es sc xs
    | _ => false
  | .lst es, _, sc, x => match x with
    | .List xs _ => chks N es sc xs
    | _ => false
  | .op2 o a b, _, sc, x => match x with
    | .BinOp l op r _ => decide (op = o.op) && chk N a none sc l && chk N b none sc r
    | _ => false
  | .neg a, _, sc, x => match x with
    | .UnaryOp .USub y _ => chk N a none sc y
    | _ => false
  | .not a, _, sc, x => match x with
    | .UnaryOp .Not y _ => chk N a none sc y && noIf y
    | _ => false
  | .and a b, _, sc, x => match x with
    | .BoolOp .And (y :: z :: r) p => chk N a none sc y && noIf y && (match r with
      | [] => chk N b none sc z && noIf z
      | u :: r => chk N b none sc (.BoolOp .And (z :: u :: r) p))
    | _ => false
  | .or a b, _, sc, x => match x with
    | .BoolOp .Or (y :: z :: r) p => chk N a none sc y && noIf y && (match r with
      | [] => chk N b none sc z && noIf z
      | u :: r => chk N b none sc (.BoolOp .Or (z :: u :: r) p))
    | _ => false
  | .cmp c a b, _, sc, x => match x with
    | .Compare l [op] [r] _ => decide (op = c.op) && chk N a none sc l && chk N b none sc r && !behindInMarks op r
    | _ => false
  | .cmp2 c d a b e, _, sc, x => match x with
    | .Compare l [op, oq] [r, t] _ => decide (op = c.op) && decide (oq = d.op) && chk N a none sc l && chk N b none sc r && chk N e none sc t && !lastMarks [op, oq] [r, t]
    | _ => false
  | .cmp3 c d f a b e g, _, sc, x => match x with
    | .Compare l [op, oq, os] [r, t, u] _ => decide (op = c.op) && decide (oq = d.op) && decide (os = f.op) && chk N a none sc l && chk N b none sc r && chk N e none sc t && chk N g none sc u && !lastMarks [op, oq, os] [r, t, u]
    | _ => false
  | .ite c a b, _, sc, x => match x with
    | .IfExp t y z _ => chk N c none sc t && noIf t && chk N a none sc y && chk N b none sc z
    | _ => false
  | .ix a i, _, sc, x => match x with
    | .Subscript y z _ => chk N a none sc y && chk N i none sc z && noSlice z
    | _ => false
  | .sl a lo hi, _, sc, x => match x with
    | .Subscript y (.Slice l h none _) _ => chk N a none sc y && chks N lo sc l.toList && chks N hi sc h.toList
    | _ => false
  | .rev a, _, sc, x => match x with
    | .Subscript y (.Slice none none (some (.UnaryOp .USub (.Constant (.int i) _ _) _)) _) _ => i == 1 && chk N a none sc y
    | _ => false
  | .bi b es, _, sc, x => match x with
    | .Call (.Name n _) (y :: ys) [] _ => n == b.name && glB sc n && chks N es sc (y :: ys)
    | _ => false
  | .isa t a, _, sc, x => match x with
    | .Call (.Name n _) [y, .Name m _] [] _ => n == ("isinstance" : Str) && glB sc n && m == t.name && glB sc m && chk N a none sc y && noStar y
    | _ => false
  | .call n _ es, _, sc, x => match x with
    | .Call (.Name m _) (y :: ys) [] _ => m == n && glB sc m && chks N es sc (y :: ys)
    | _ => false
  | .callP i n _ es, _, sc, x => match x with
    | .Call (.Name m _) (.Name q _ :: ys) [] _ => m == n && glB sc m && varB N sc i q && chks N es sc ys
    | _ => false
  | .comp tg it cs el own, _, sc, x => match x with
    | .ListComp y [⟨t, w, ifs, a⟩] scope _ => a == 0 && blkB N sc scope own && tgIn own tg && chk N it (some t) sc w && noSet w && chkTg N (relS scope sc) (fnB scope) tg t && chkCs N cs (relS scope sc) ifs && chk N el none (relS scope sc) y
    | _ => false
  | .comp2 tg it tg1 it1 el own own1, _, sc, x => match x with
    | .ListComp y [⟨t, w, [], a⟩, ⟨t1, w1, [], a1⟩] scope _ => !isDw it && !isDw it1 && a == 0 && a1 == 0 && blkB N sc scope own && tgIn own tg && tgIn own1 tg1 && (own1.all fun i => decide (i ∈ own)) && chk N it (some t) sc w && noSet w && chkTg N (relS scope sc) (fnB scope) tg t
      && chk N it1 (some t1) (relS scope sc) w1 && noSet w1 && chkTg N (relS scope sc) (fnB scope) tg1 t1 && chk N el none (relS scope sc) y
    | _ => false
  | .zip2 a b, p, sc, x => match x, p with
    | .Call (.Name n _) [y, z] [] _, some t => isTupE t && n == ("zip" : Str) && glB sc n && chk N a none sc y && noStar y && chk N b none sc z && noStar z
    | _, _ => false
  | .zip3 a b c, p, sc, x => match x, p with
    | .Call (.Name n _) [y, z, u] [] _, some t => isTupE t && n == ("zip" : Str) && glB sc n && chk N a none sc y && noStar y && chk N b none sc z && noStar z && chk N c none sc u && noStar u
    | _, _ => false
  | .enum a, p, sc, x => match x, p with
    | .Call (.Name n _) [y] [] _, some t => isTupE t && n == ("enumerate" : Str) && glB sc n && chk N a none sc y && noStar y
    | _, _ => false
  | .rng1 a, p, sc, x => match x, p with
    | .Call (.Name n _) [y] [] _, some _ => n == ("range" : Str) && glB sc n && chk N a none sc y && noStar y
    | _, _ => false
  | .rng2 a b, p, sc, x => match x, p with
    | .Call (.Name n _) [y, z] [] _, some _ => n == ("range" : Str) && glB sc n && chk N a none sc y && noStar y && chk N b none sc z && noStar z
    | _, _ => false
  | .oix i a, _, sc, x => match x with
    | .Subscript (.Name n _) z _ => varB N sc i n && chk N a none sc z && noSlice z
    | _ => false
  | .olen i, _, sc, x => match x with
    | .Call (.Name n _) [.Name m _] [] _ => n == ("len" : Str) && glB sc n && varB N sc i m
    | _ => false
  | .osl i lo hi, _, sc, x => match x with
    | .Subscript (.Name n _) (.Slice l h none _) _ => varB N sc i n && chks N lo sc l.toList && chks N hi sc h.toList
    | _ => false
  | .dget i a, _, sc, x => match x with
    | .Subscript (.Name n _) z _ => varB N sc i n && chk N a none sc z && noSlice z
    | _ => false
  | .dgetd i es, _, sc, x => match x with
    | .Call (.Attribute (.Name n _) m ap) [y, z] [] cp => m == ("get" : Str) && varB N sc i n && ap.endLine == cp.line && chks N es sc [y, z]
    | _ => false
  | .din i a, _, sc, x => match x with
    | .Compare y [.In] [.Name n _] _ => varB N sc i n && chk N a none sc y
    | _ => false
  | .ditems i, _, sc, x => match x with
    | .Call (.Name l _) [.Call (.Attribute (.Name n _) m ap) [] [] cp] [] _ => l == ("list" : Str) && glB sc l && m == ("items" : Str) && varB N sc i n && ap.endLine == cp.line
    | _ => false
  | .dwalk i, p, sc, x => match x, p with
    | .Name n _, some _ => varB N sc i n
    | _, _ => false
  | .dkeys i, _, sc, x => match x with
    | .Call (.Name l _) [.Name n _] [] _ => l == ("list" : Str) && glB sc l && varB N sc i n
    | _ => false
  | .join a b, _, sc, x => match x with
    | .Call (.Attribute y m ap) [z] [] cp => m == ("join" : Str) && noCall y && ap.endLine == cp.line && noStar z && chk N a none sc y && chk N b none sc z
    | _ => false
  | .pg i k, _, sc, x => match x with
    | .Subscript (.Name n _) (.Constant (.int j) _ _) _ => j == (k : Int) && varB N sc i n
    | _ => false
def chks (N : List Str) : EL → Scope → List Expr → Bool
  | .nil, _, xs => match xs with
    | [] => true
    | _ => false
  | .cons e es, sc, xs => match xs with
    | x :: xs => noStar x && chk N e none sc x && chks N es sc xs
    | [] => false
def chkCs (N : List Str) : EL → Scope → List Expr → Bool
  | .nil, _, xs => match xs with
    | [] => true
    | _ => false
  | .cons e es, sc, xs => match es, xs with
    | .nil, [x] => chk N e none sc x && noIf x
    | _, _ => false
end
end SR
end
section
/-! SrPe: one lemma for each form of expression. -/
namespace SR
open PySem PySem.Spec PyProof.Rows L2
variable [Wd]

section
variable {X : Cx} {pa : Option Addr} {a b c e x y z : Expr} {fa fb fc fd : Sl → M D} {pos : Pos}
/-- two values in a row, from the whole -/
theorem two {α : Type} {K : PySem.W.Frag} {σ : L2.St} {H : Hp} {fa fb : Sl → M D} {g : D → D → M α} {R : α → Pool → Hp → Hp → Prop} {W : V → V → Hp → Prop}
    (h : ∃ ρ π F d π', Stt K pa σ ρ π F H ∧ (bnd (fa ρ) fun x => bnd (fb ρ) fun y => g x y) π = some (d, π') ∧ ∀ F' H', Grow pa F H F' H' → PoolAt K pa F' H' π' → R d π' F' H')
    (k : ∀ ρ π F F2 H2 x y d π' v w, Stt K pa σ ρ π F2 H2 → Grow pa F H F2 H2 → Rp K F2 v x → Rp K F2 w y → g x y π = some (d, π') → (∀ F' H', Grow pa F H F' H' → PoolAt K pa F' H' π' → R d π' F' H') → W v w H2) :
    tD K pa fa σ H fun v H1 => tD K pa fb σ H1 fun w H2 => W v w H2 := by
  obtain ⟨ρ, π, F, d, π', S, hf, q⟩ := h
  replace hf := bnd_some hf; obtain ⟨x, π1, e1, hf⟩ := hf
  replace hf := bnd_some hf; obtain ⟨y, π2, e2, hf⟩ := hf
  exact ⟨ρ, π, F, x, π1, S, e1, fun F1 H1 v g1 P1 r1 => ⟨ρ, π1, F1, y, π2, S.next g1 P1, e2, fun F2 H2 w g2 P2 r2 => k ρ π2 F F2 H2 x y d π' v w ((S.next g1 P1).next g2 P2) (g1.trans g2) (r1.mono g2.f) r2 hf q⟩⟩
theorem s_var {i : Nat} {n : Str} (hN : X.N[i]? = some n) (hv : Vis X.env.scope n) (hd : (n == ("__debug__" : Str)) = false) (hcd : (n == ("__classdict__" : Str)) = false) : PE X (.Name n pos) (tD X.K pa (ev (.var i))) := by
  refine PE.imp (pe_var hN hv hd hcd) fun σ H Q h => ?_
  obtain ⟨ρ, π, F, d, π', S, hf, q⟩ := h
  simp only [ev] at hf
  cases e0 : ρ[i]? with
  | none => rw [e0] at hf; cases hf
  | some sl =>
    rw [e0] at hf
    cases sl with
    | dat d' =>
      cases hf
      obtain ⟨v, h1, h2⟩ := S.env.dat i _ e0
      exact ⟨v, h1, q F H v (Grow.refl S.ex) S.pool h2⟩
    | _ => cases hf
theorem tD_const {K : PySem.W.Frag} {d : D} {v : V} (r : ∀ F, Rp K F v d) {σ : L2.St} {H : Hp} {Q : VK} (h : tD K pa (fun _ => ret d) σ H Q) : Q v H := by
  obtain ⟨ρ, π, F, d', π', S, hf, q⟩ := h
  cases hf
  exact q F H v (Grow.refl S.ex) S.pool (r F)
theorem s_k {d : D} {cc : Const} {j : Nat} (h : kB d cc = true) : PE X (.Constant cc j pos) (tD X.K pa (fun _ => ret d)) := by
  cases d <;> cases cc <;> simp only [kB, Bool.false_eq_true, beq_iff_eq] at h
  · exact PE.imp pe_non fun σ H Q q => tD_const (fun _ => .non) q
  · subst h; exact PE.imp pe_bl fun σ H Q q => tD_const (fun _ => .bl _) q
  · subst h; exact PE.imp pe_int fun σ H Q q => tD_const (fun _ => .int _) q
  · subst h; exact PE.imp pe_str fun σ H Q q => tD_const (fun _ => .str _) q
theorem s_glob {n : Str} {d : D} {v : V} {u : Value} (hg : Gl X n) (hm : X.mg n = some u) (r : RelV v u) (rp : Rp X.K (fun _ => none) v d) (hd : (n == ("__debug__" : Str)) = false) : PE X (.Name n pos) (tD X.K pa (fun _ => ret d)) :=
  PE.imp (pe_glob hg hm r hd) fun σ H Q q => tD_const (fun F => rp.mono fun _ _ e => by cases e) q

theorem s_op2 (o : Op2) (ha : PE X a (tD X.K pa fa)) (hb : PE X b (tD X.K pa fb)) : PE X (.BinOp a o.op b pos) (tD X.K pa fun ρ => bnd (fa ρ) fun x => bnd (fb ρ) fun y => lift (op2 o x y)) := by
  refine PE.imp (pe_op (op2_ok o) ha hb) fun σ H Q h => ?_
  obtain ⟨ρ, π, F, d, π', S, hf, q⟩ := h
  replace hf := bnd_some hf; obtain ⟨x, π1, e1, hf⟩ := hf
  replace hf := bnd_some hf; obtain ⟨y, π2, e2, hf⟩ := hf
  obtain ⟨e3, rfl⟩ := lift_eq hf
  refine ⟨ρ, π, F, x, π1, S, e1, fun F1 H1 v g1 P1 r1 => ⟨ρ, π1, F1, y, _, S.next g1 P1, e2, fun F2 H2 w g2 P2 r2 => ?_⟩⟩
  exact ⟨F2, x, y, d, g2.sub, r1.mono g2.f, r2, e3, fun F3 H3 z g3 r3 => q F3 H3 z ((g1.trans g2).trans g3.any) (P2.grow0 g3) r3⟩
theorem s_neg (ha : PE X a (tD X.K pa fa)) : PE X (.UnaryOp .USub a pos) (tD X.K pa fun ρ => bnd (fa ρ) fun x => lift (negD x)) := by
  refine PE.imp (pe_un un_neg ha) fun σ H Q h => ?_
  obtain ⟨ρ, π, F, d, π', S, hf, q⟩ := h
  replace hf := bnd_some hf; obtain ⟨x, π1, e1, hf⟩ := hf
  obtain ⟨e3, rfl⟩ := lift_eq hf
  refine ⟨ρ, π, F, x, _, S, e1, fun F1 H1 v g1 P1 r1 => ?_⟩
  cases x with
  | int i => cases e3; cases r1; exact ⟨i, rfl, q F1 H1 _ g1 P1 (.int _)⟩
  | _ => cases e3
theorem s_not (ha : PE X a (tD X.K pa fa)) : PE X (.UnaryOp .Not a pos) (tD X.K pa fun ρ => bnd (fa ρ) fun x => bnd (truthM x) fun k => ret (.bool (!k))) := by
  refine PE.imp (pe_notT ha) fun σ H Q h => ?_
  obtain ⟨ρ, π, F, d, π', S, hf, q⟩ := h
  replace hf := bnd_some hf; obtain ⟨x, π1, e1, hf⟩ := hf
  replace hf := bnd_some hf; obtain ⟨k, π2, e2, hf⟩ := hf
  obtain ⟨e3, rfl⟩ := lift_eq e2
  cases hf
  exact ⟨ρ, π, F, x, _, S, e1, fun F1 H1 v g1 P1 r1 => ⟨k, truth_ok r1 g1.sub e3, q F1 H1 _ g1 P1 (.bl _)⟩⟩
theorem s_and {rest : List Expr} (ha : PE X a (tD X.K pa fa)) (hb : PE X (.BoolOp .And (b :: rest) pos) (tD X.K pa fb)) :
    PE X (.BoolOp .And (a :: b :: rest) pos) (tD X.K pa fun ρ => bnd (fa ρ) fun x => bnd (truthM x) fun k => if k then fb ρ else ret x) := by
  refine PE.imp (pe_andT ha hb) fun σ H Q h => ?_
  obtain ⟨ρ, π, F, d, π', S, hf, q⟩ := h
  replace hf := bnd_some hf; obtain ⟨x, π1, e1, hf⟩ := hf
  replace hf := bnd_some hf; obtain ⟨k, π2, e2, hf⟩ := hf
  obtain ⟨e3, rfl⟩ := lift_eq e2
  refine ⟨ρ, π, F, x, _, S, e1, fun F1 H1 v g1 P1 r1 => ⟨k, truth_ok r1 g1.sub e3, ?_⟩⟩
  cases k with
  | true =>
    rw [if_pos rfl] at hf ⊢
    exact ⟨ρ, _, F1, d, π', S.next g1 P1, hf, fun F2 H2 w g2 P2 r2 => q F2 H2 w (g1.trans g2) P2 r2⟩
  | false =>
    rw [if_neg Bool.false_ne_true] at hf ⊢
    cases hf
    exact q F1 H1 v g1 P1 r1
theorem s_or {rest : List Expr} (ha : PE X a (tD X.K pa fa)) (hb : PE X (.BoolOp .Or (b :: rest) pos) (tD X.K pa fb)) :
    PE X (.BoolOp .Or (a :: b :: rest) pos) (tD X.K pa fun ρ => bnd (fa ρ) fun x => bnd (truthM x) fun k => if k then ret x else fb ρ) := by
  refine PE.imp (pe_orT ha hb) fun σ H Q h => ?_
  obtain ⟨ρ, π, F, d, π', S, hf, q⟩ := h
  replace hf := bnd_some hf; obtain ⟨x, π1, e1, hf⟩ := hf
  replace hf := bnd_some hf; obtain ⟨k, π2, e2, hf⟩ := hf
  obtain ⟨e3, rfl⟩ := lift_eq e2
  refine ⟨ρ, π, F, x, _, S, e1, fun F1 H1 v g1 P1 r1 => ⟨k, truth_ok r1 g1.sub e3, ?_⟩⟩
  cases k with
  | true =>
    rw [if_pos rfl] at hf ⊢
    cases hf
    exact q F1 H1 v g1 P1 r1
  | false =>
    rw [if_neg Bool.false_ne_true] at hf ⊢
    exact ⟨ρ, _, F1, d, π', S.next g1 P1, hf, fun F2 H2 w g2 P2 r2 => q F2 H2 w (g1.trans g2) P2 r2⟩
/-! ### tests -/
/-- its value's truth -/
abbrev tru (f : Sl → M D) : Sl → M Bool := fun ρ => bnd (f ρ) truthM
theorem t_plain (ha : PE X a (tD X.K pa fa)) (hp : plainT a = true) : PT X a (tDT X.K pa (tru fa)) := by
  have he : ∀ whole, isTrue a X.env whole = (do let v ← whole; standAt a.pos; holding [v] (truthy v)) := fun whole => by
    cases a with
    | UnaryOp op x p => cases op <;> first | rfl | cases hp
    | BoolOp _ _ _ => cases hp
    | IfExp _ _ _ _ => cases hp
    | Compare _ _ _ _ => cases hp
    | _ => rfl
  refine PT.imp (pt_truth ha he) fun σ H Q h => ?_
  obtain ⟨ρ, π, F, d, π', S, hf, q⟩ := h
  replace hf := bnd_some hf; obtain ⟨x, π1, e1, hf⟩ := hf
  obtain ⟨e3, rfl⟩ := lift_eq hf
  exact ⟨ρ, π, F, x, _, S, e1, fun F1 H1 v g1 P1 r1 => ⟨d, truth_ok r1 g1.sub e3, q F1 H1 g1 P1⟩⟩
theorem t_not (ha : PT X a (tDT X.K pa (tru fa))) : PT X (.UnaryOp .Not a pos) (tDT X.K pa (tru fun ρ => bnd (fa ρ) fun x => bnd (truthM x) fun k => ret (.bool (!k)))) := by
  refine PT.imp (pt_not ha) fun σ H Q h => ?_
  obtain ⟨ρ, π, F, d, π', S, hf, q⟩ := h
  unfold tru at hf
  simp only [bnd_assoc] at hf
  replace hf := bnd_some hf; obtain ⟨x, π1, e1, hf⟩ := hf
  replace hf := bnd_some hf; obtain ⟨k, π2, e2, hf⟩ := hf
  have e4 : d = !k ∧ π' = π2 := by cases hf; exact ⟨rfl, rfl⟩
  obtain ⟨rfl, rfl⟩ := e4
  exact ⟨ρ, π, F, k, _, S, by unfold tru; rw [bnd_ap e1]; exact e2, fun F1 H1 g1 P1 => q F1 H1 g1 P1⟩
theorem w_and1 (ha : PT X a (tDT X.K pa (tru fa))) : PW X (.BoolOp .And [a] pos) (tDT X.K pa (tru fa)) := pw_and1 ha
theorem w_or1 (ha : PT X a (tDT X.K pa (tru fa))) : PW X (.BoolOp .Or [a] pos) (tDT X.K pa (tru fa)) := pw_or1 ha
theorem w_and {rest : List Expr} (ha : PT X a (tDT X.K pa (tru fa))) (hb : PW X (.BoolOp .And (b :: rest) pos) (tDT X.K pa (tru fb))) :
    PW X (.BoolOp .And (a :: b :: rest) pos) (tDT X.K pa (tru fun ρ => bnd (fa ρ) fun x => bnd (truthM x) fun k => if k then fb ρ else ret x)) := by
  refine PW.imp (pw_and ha hb) fun σ H Q h => ?_
  obtain ⟨ρ, π, F, d, π', S, hf, q⟩ := h
  unfold tru at hf
  simp only [bnd_assoc] at hf
  replace hf := bnd_some hf; obtain ⟨x, π1, e1, hf⟩ := hf
  replace hf := bnd_some hf; obtain ⟨k, π2, e2, hf⟩ := hf
  refine ⟨ρ, π, F, k, π2, S, by unfold tru; rw [bnd_ap e1]; exact e2, fun F1 H1 g1 P1 => ?_⟩
  cases k with
  | true =>
    rw [if_pos rfl] at hf ⊢
    exact ⟨ρ, π2, F1, d, π', S.next g1 P1, hf, fun F2 H2 g2 P2 => q F2 H2 (g1.trans g2) P2⟩
  | false =>
    rw [if_neg Bool.false_ne_true] at hf ⊢
    obtain ⟨e3, rfl⟩ := lift_eq e2
    obtain ⟨e4, rfl⟩ := lift_eq (show lift (truth x) _ = some (d, π') from hf)
    rw [e3] at e4; cases e4
    exact q F1 H1 g1 P1
theorem w_or {rest : List Expr} (ha : PT X a (tDT X.K pa (tru fa))) (hb : PW X (.BoolOp .Or (b :: rest) pos) (tDT X.K pa (tru fb))) :
    PW X (.BoolOp .Or (a :: b :: rest) pos) (tDT X.K pa (tru fun ρ => bnd (fa ρ) fun x => bnd (truthM x) fun k => if k then ret x else fb ρ)) := by
  refine PW.imp (pw_or ha hb) fun σ H Q h => ?_
  obtain ⟨ρ, π, F, d, π', S, hf, q⟩ := h
  unfold tru at hf
  simp only [bnd_assoc] at hf
  replace hf := bnd_some hf; obtain ⟨x, π1, e1, hf⟩ := hf
  replace hf := bnd_some hf; obtain ⟨k, π2, e2, hf⟩ := hf
  refine ⟨ρ, π, F, k, π2, S, by unfold tru; rw [bnd_ap e1]; exact e2, fun F1 H1 g1 P1 => ?_⟩
  cases k with
  | true =>
    rw [if_pos rfl] at hf ⊢
    obtain ⟨e3, rfl⟩ := lift_eq e2
    obtain ⟨e4, rfl⟩ := lift_eq (show lift (truth x) _ = some (d, π') from hf)
    rw [e3] at e4; cases e4
    exact q F1 H1 g1 P1
  | false =>
    rw [if_neg Bool.false_ne_true] at hf ⊢
    exact ⟨ρ, π2, F1, d, π', S.next g1 P1, hf, fun F2 H2 g2 P2 => q F2 H2 (g1.trans g2) P2⟩
theorem s_ite (hc : PT X c (tDT X.K pa (tru fc))) (ha : PE X a (tD X.K pa fa)) (hb : PE X b (tD X.K pa fb)) :
    PE X (.IfExp c a b pos) (tD X.K pa fun ρ => bnd (fc ρ) fun x => bnd (truthM x) fun k => if k then fa ρ else fb ρ) := by
  refine PE.imp (pe_ifExp hc ha hb) fun σ H Q h => ?_
  obtain ⟨ρ, π, F, d, π', S, hf, q⟩ := h
  replace hf := bnd_some hf; obtain ⟨x, π1, e1, hf⟩ := hf
  replace hf := bnd_some hf; obtain ⟨k, π2, e2, hf⟩ := hf
  refine ⟨ρ, π, F, k, π2, S, by unfold tru; rw [bnd_ap e1]; exact e2, fun F1 H1 g1 P1 => ?_⟩
  cases k with
  | true =>
    rw [if_pos rfl] at hf ⊢
    exact ⟨ρ, π2, F1, d, π', S.next g1 P1, hf, fun F2 H2 v g2 P2 r => q F2 H2 v (g1.trans g2) P2 r⟩
  | false =>
    rw [if_neg Bool.false_ne_true] at hf ⊢
    exact ⟨ρ, π2, F1, d, π', S.next g1 P1, hf, fun F2 H2 v g2 P2 r => q F2 H2 v (g1.trans g2) P2 r⟩
/-! ### comparisons -/
theorem s_cmp (hu : X.A.units + 65 < cLine) (cc : Cmp) (ha : PE X a (tD X.K pa fa)) (hb : PE X b (tD X.K pa fb)) (hm : behindInMarks cc.op b = false) :
    PE X (.Compare a [cc.op] [b] pos) (tD X.K pa fun ρ => bnd (fa ρ) fun x => bnd (fb ρ) fun y => bnd (lift (cmpD cc x y)) fun k => ret (.bool k)) := by
  refine PE.imp (pe_cmpR (cmp_ok hu cc) ha hb hm) fun σ H Q h => ?_
  obtain ⟨ρ, π, F, d, π', S, hf, q⟩ := h
  replace hf := bnd_some hf; obtain ⟨x, π1, e1, hf⟩ := hf
  replace hf := bnd_some hf; obtain ⟨y, π2, e2, hf⟩ := hf
  replace hf := bnd_some hf; obtain ⟨k, π3, e3, hf⟩ := hf
  obtain ⟨e4, rfl⟩ := lift_eq e3
  cases hf
  exact ⟨ρ, π, F, x, π1, S, e1, fun F1 H1 v g1 P1 r1 => ⟨ρ, π1, F1, y, _, S.next g1 P1, e2, fun F2 H2 w g2 P2 r2 => ⟨F2, x, y, k, g2.sub, r1.mono g2.f, r2, e4, q F2 H2 _ (g1.trans g2) P2 (.bl _)⟩⟩⟩
theorem t_cmp (hu : X.A.units + 65 < cLine) (cc : Cmp) (ha : PE X a (tD X.K pa fa)) (hb : PE X b (tD X.K pa fb)) (hm : behindInMarks cc.op b = false) :
    PT X (.Compare a [cc.op] [b] pos) (tDT X.K pa (tru fun ρ => bnd (fa ρ) fun x => bnd (fb ρ) fun y => bnd (lift (cmpD cc x y)) fun k => ret (.bool k))) := by
  refine PT.imp (pt_cmpR (cmp_ok hu cc) ha hb hm) fun σ H Q h => ?_
  obtain ⟨ρ, π, F, d, π', S, hf, q⟩ := h
  unfold tru at hf
  simp only [bnd_assoc] at hf
  replace hf := bnd_some hf; obtain ⟨x, π1, e1, hf⟩ := hf
  replace hf := bnd_some hf; obtain ⟨y, π2, e2, hf⟩ := hf
  replace hf := bnd_some hf; obtain ⟨k, π3, e3, hf⟩ := hf
  obtain ⟨e4, rfl⟩ := lift_eq e3
  cases hf
  exact ⟨ρ, π, F, x, π1, S, e1, fun F1 H1 v g1 P1 r1 => ⟨ρ, π1, F1, y, _, S.next g1 P1, e2, fun F2 H2 w g2 P2 r2 => ⟨F2, x, y, d, g2.sub, r1.mono g2.f, r2, e4, d, rfl, q F2 H2 (g1.trans g2) P2⟩⟩⟩
abbrev vC2 (c1 c2 : Cmp) (fa fb fc : Sl → M D) : Sl → M D := fun ρ => bnd (fa ρ) fun x => bnd (fb ρ) fun y => bnd (lift (cmpD c1 x y)) fun k => if k then bnd (fc ρ) fun z => bnd (lift (cmpD c2 y z)) fun k => ret (.bool k) else ret (.bool false)
theorem s_cmp2 (hu : X.A.units + 65 < cLine) (c1 c2 : Cmp) (ha : PE X a (tD X.K pa fa)) (hb : PE X b (tD X.K pa fb)) (hc : PE X c (tD X.K pa fc)) (hm : lastMarks [c1.op, c2.op] [b, c] = false) :
    PE X (.Compare a [c1.op, c2.op] [b, c] pos) (tD X.K pa (vC2 c1 c2 fa fb fc)) := by
  refine PE.imp (pe_chain (cmp_ok hu c1) (cmp_ok hu c2) ha hb hc hm) fun σ H Q h => ?_
  obtain ⟨ρ, π, F, d, π', S, hf, q⟩ := h
  replace hf := bnd_some hf; obtain ⟨x, π1, e1, hf⟩ := hf
  replace hf := bnd_some hf; obtain ⟨y, π2, e2, hf⟩ := hf
  replace hf := bnd_some hf; obtain ⟨k, π3, e3, hf⟩ := hf
  obtain ⟨e4, rfl⟩ := lift_eq e3
  refine ⟨ρ, π, F, x, π1, S, e1, fun F1 H1 v g1 P1 r1 => ⟨ρ, π1, F1, y, _, S.next g1 P1, e2, fun F2 H2 w g2 P2 r2 => ⟨F2, x, y, k, g2.sub, r1.mono g2.f, r2, e4, k, rfl, ?_⟩⟩⟩
  cases k with
  | false =>
    rw [if_neg Bool.false_ne_true] at hf ⊢
    cases hf
    exact q F2 H2 _ (g1.trans g2) P2 (.bl _)
  | true =>
    rw [if_pos rfl] at hf ⊢
    replace hf := bnd_some hf; obtain ⟨z, π4, e5, hf⟩ := hf
    replace hf := bnd_some hf; obtain ⟨k, π5, e6, hf⟩ := hf
    obtain ⟨e7, rfl⟩ := lift_eq e6
    cases hf
    exact ⟨ρ, _, F2, z, _, (S.next g1 P1).next g2 P2, e5, fun F3 H3 u g3 P3 r3 => ⟨F3, y, z, k, g3.sub, r2.mono g3.f, r3, e7, q F3 H3 _ ((g1.trans g2).trans g3) P3 (.bl _)⟩⟩
theorem t_cmp2 (hu : X.A.units + 65 < cLine) (c1 c2 : Cmp) (ha : PE X a (tD X.K pa fa)) (hb : PE X b (tD X.K pa fb)) (hc : PE X c (tD X.K pa fc)) (hm : lastMarks [c1.op, c2.op] [b, c] = false) :
    PT X (.Compare a [c1.op, c2.op] [b, c] pos) (tDT X.K pa (tru (vC2 c1 c2 fa fb fc))) := by
  refine PT.imp (pt_chain (cmp_ok hu c1) (cmp_ok hu c2) ha hb hc hm) fun σ H Q h => ?_
  obtain ⟨ρ, π, F, d, π', S, hf, q⟩ := h
  unfold tru vC2 at hf
  simp only [bnd_assoc] at hf
  replace hf := bnd_some hf; obtain ⟨x, π1, e1, hf⟩ := hf
  replace hf := bnd_some hf; obtain ⟨y, π2, e2, hf⟩ := hf
  replace hf := bnd_some hf; obtain ⟨k, π3, e3, hf⟩ := hf
  obtain ⟨e4, rfl⟩ := lift_eq e3
  refine ⟨ρ, π, F, x, π1, S, e1, fun F1 H1 v g1 P1 r1 => ⟨ρ, π1, F1, y, _, S.next g1 P1, e2, fun F2 H2 w g2 P2 r2 => ⟨F2, x, y, k, g2.sub, r1.mono g2.f, r2, e4, k, rfl, ?_⟩⟩⟩
  cases k with
  | false =>
    rw [if_neg Bool.false_ne_true] at hf ⊢
    cases hf
    exact ⟨false, rfl, q F2 H2 (g1.trans g2) P2⟩
  | true =>
    rw [if_pos rfl] at hf ⊢
    simp only [bnd_assoc] at hf
    replace hf := bnd_some hf; obtain ⟨z, π4, e5, hf⟩ := hf
    replace hf := bnd_some hf; obtain ⟨k, π5, e6, hf⟩ := hf
    obtain ⟨e7, rfl⟩ := lift_eq e6
    cases hf
    exact ⟨ρ, _, F2, z, _, (S.next g1 P1).next g2 P2, e5, fun F3 H3 u g3 P3 r3 => ⟨F3, y, z, d, g3.sub, r2.mono g3.f, r3, e7, d, rfl, q F3 H3 ((g1.trans g2).trans g3) P3⟩⟩
end
end SR
end
section
/-! SrPe2: arguments, displays, items, slices, calls. -/
namespace SR
open PySem PySem.Spec PyProof.Rows L2
variable [Wd]
section
variable {X : Cx} {pa : Option Addr} {a b c e x y z : Expr} {fa fb fc fd : Sl → M D} {fs : Sl → M (List D)} {pos : Pos} {es : List Expr}
/-! ### three in a chain -/
abbrev vC3 (c1 c2 c3 : Cmp) (fa fb fc fd : Sl → M D) : Sl → M D := fun ρ => bnd (fa ρ) fun x => bnd (fb ρ) fun y => bnd (lift (cmpD c1 x y)) fun k => if k then bnd (fc ρ) fun z => bnd (lift (cmpD c2 y z)) fun k =>
  if k then bnd (fd ρ) fun u => bnd (lift (cmpD c3 z u)) fun k => ret (.bool k) else ret (.bool false) else ret (.bool false)
/-- the reading of a chain of three -/
def tChain3 (r r' r'' : R2) (ta tb tc td : TE) : TE := fun σ H Q => ta σ H fun x H1 => tb σ H1 fun y H2 => r x y H2 fun z H3 => ∃ k, z = .bl k ∧
  (if k = true then tc σ H3 fun w H4 => r' y w H4 fun z H5 => ∃ k, z = .bl k ∧ (if k = true then td σ H5 fun u H6 => r'' w u H6 Q else Q (.bl false) H5) else Q (.bl false) H3)
theorem pe_chain3 {op op' op'' : CmpOp} {r r' r'' : R2} {ta tb tc td : TE} {d : Expr} (ho : OpR X (compareOp op) r) (ho' : OpR X (compareOp op') r') (ho'' : OpR X (compareOp op'') r'') (ha : PE X a ta) (hb : PE X b tb) (hc : PE X c tc) (hd : PE X d td)
    (hm : lastMarks [op, op', op''] [b, c, d] = false) : PE X (.Compare a [op, op', op''] [b, c, d] pos) (tChain3 r r' r'' ta tb tc td) := by
  refine ⟨fun pins s σ H Q I h => ?_⟩
  refine Compare_chain (thn (ha.run pins s σ H _ I h) fun v s1 ⟨x, H1, I1, r1, q1⟩ => chain_link (thn (hb.run pins s1 σ H1 _ I1 q1) fun u s2 ⟨y, H2, I2, r2, q2⟩ =>
    thn (ho pins s2 σ H2 x y v u _ I2 r1 r2 q2) fun d s3 ⟨z, H3, I3, r3, k, e, q3⟩ => ?_)) hm
  subst e
  cases r3
  refine wpAny_truthy_bool ?_
  cases k with
  | false => exact ite_ff ⟨.bl false, H3, I3, rfl, q3⟩
  | true =>
    refine ite_tt (chain_link (thn (hc.run pins s3 σ H3 _ I3 q3) fun w' s4 ⟨z', H4, I4, r4, q4⟩ => thn (ho' pins s4 σ H4 y z' u w' _ I4 r2 r4 q4) fun d' s5 ⟨z2, H5, I5, r5, k2, e2, q5⟩ => ?_))
    subst e2
    cases r5
    refine wpAny_truthy_bool ?_
    cases k2 with
    | false => exact ite_ff ⟨.bl false, H5, I5, rfl, q5⟩
    | true => exact ite_tt (chain_last (thn (hd.run pins s5 σ H5 _ I5 q5) fun w2 s6 ⟨z3, H6, I6, r6, q6⟩ => ho'' pins s6 σ H6 z' z3 w' w2 Q I6 r4 r6 q6))
theorem pt_chain3 {op op' op'' : CmpOp} {r r' r'' : R2} {ta tb tc td : TE} {d : Expr} (ho : OpR X (compareOp op) r) (ho' : OpR X (compareOp op') r') (ho'' : OpR X (compareOp op'') r'') (ha : PE X a ta) (hb : PE X b tb) (hc : PE X c tc) (hd : PE X d td)
    (hm : lastMarks [op, op', op''] [b, c, d] = false) : PT X (.Compare a [op, op', op''] [b, c, d] pos) (tTest (tChain3 r r' r'' ta tb tc td)) := by
  refine ⟨fun pins s σ H Q I h => ?_⟩
  refine isTrue_chain (thn (ha.run pins s σ H _ I h) fun v s1 ⟨x, H1, I1, r1, q1⟩ => test_link (thn (hb.run pins s1 σ H1 _ I1 q1) fun u s2 ⟨y, H2, I2, r2, q2⟩ =>
    thn (ho pins s2 σ H2 x y v u _ I2 r1 r2 q2) fun d s3 ⟨z, H3, I3, r3, k, e, q3⟩ => ?_)) hm
  subst e
  cases r3
  refine wpAny_truthy_bool ?_
  cases k with
  | false =>
    obtain ⟨k', e', q'⟩ := q3
    cases e'
    exact ite_ff ⟨H3, I3, q'⟩
  | true =>
    refine ite_tt (test_link (thn (hc.run pins s3 σ H3 _ I3 q3) fun w' s4 ⟨z', H4, I4, r4, q4⟩ => thn (ho' pins s4 σ H4 y z' u w' _ I4 r2 r4 q4) fun d' s5 ⟨z2, H5, I5, r5, k2, e2, q5⟩ => ?_))
    subst e2
    cases r5
    refine wpAny_truthy_bool ?_
    cases k2 with
    | false =>
      obtain ⟨k', e', q'⟩ := q5
      cases e'
      exact ite_ff ⟨H5, I5, q'⟩
    | true =>
      refine ite_tt (test_last (thn (hd.run pins s5 σ H5 _ I5 q5) fun w2 s6 ⟨z3, H6, I6, r6, q6⟩ => thn (ho'' pins s6 σ H6 z' z3 w' w2 _ I6 r4 r6 q6) fun d2 s7 ⟨z4, H7, I7, r7, k3, e3, q7⟩ => ?_))
      subst e3
      cases r7
      exact wpAny_truthy_bool ⟨H7, I7, q7⟩
theorem chain3_of {K : PySem.W.Frag} (c1 c2 c3 : Cmp) {σ : L2.St} {H : Hp} {Q : VK} (h : tD K pa (vC3 c1 c2 c3 fa fb fc fd) σ H Q) : tChain3 (rDB K (cmpD c1)) (rDB K (cmpD c2)) (rDB K (cmpD c3)) (tD K pa fa) (tD K pa fb) (tD K pa fc) (tD K pa fd) σ H Q := by
  obtain ⟨ρ, π, F, d, π', S, hf, q⟩ := h
  replace hf := bnd_some hf; obtain ⟨x, π1, e1, hf⟩ := hf
  replace hf := bnd_some hf; obtain ⟨y, π2, e2, hf⟩ := hf
  replace hf := bnd_some hf; obtain ⟨k, π3, e3, hf⟩ := hf
  obtain ⟨e4, rfl⟩ := lift_eq e3
  refine ⟨ρ, π, F, x, π1, S, e1, fun F1 H1 v g1 P1 r1 => ⟨ρ, π1, F1, y, _, S.next g1 P1, e2, fun F2 H2 w g2 P2 r2 => ⟨F2, x, y, k, g2.sub, r1.mono g2.f, r2, e4, k, rfl, ?_⟩⟩⟩
  cases k with
  | false =>
    rw [if_neg Bool.false_ne_true] at hf ⊢
    cases hf
    exact q F2 H2 _ (g1.trans g2) P2 (.bl _)
  | true =>
    rw [if_pos rfl] at hf ⊢
    replace hf := bnd_some hf; obtain ⟨z, π4, e5, hf⟩ := hf
    replace hf := bnd_some hf; obtain ⟨k, π5, e6, hf⟩ := hf
    obtain ⟨e7, rfl⟩ := lift_eq e6
    refine ⟨ρ, _, F2, z, _, (S.next g1 P1).next g2 P2, e5, fun F3 H3 u g3 P3 r3 => ⟨F3, y, z, k, g3.sub, r2.mono g3.f, r3, e7, k, rfl, ?_⟩⟩
    cases k with
    | false =>
      rw [if_neg Bool.false_ne_true] at hf ⊢
      cases hf
      exact q F3 H3 _ ((g1.trans g2).trans g3) P3 (.bl _)
    | true =>
      rw [if_pos rfl] at hf ⊢
      replace hf := bnd_some hf; obtain ⟨u', π6, e8, hf⟩ := hf
      replace hf := bnd_some hf; obtain ⟨k, π7, e9, hf⟩ := hf
      obtain ⟨e10, rfl⟩ := lift_eq e9
      cases hf
      exact ⟨ρ, _, F3, u', _, ((S.next g1 P1).next g2 P2).next g3 P3, e8, fun F4 H4 u4 g4 P4 r4 => ⟨F4, z, u', k, g4.sub, r3.mono g4.f, r4, e10, q F4 H4 _ (((g1.trans g2).trans g3).trans g4) P4 (.bl _)⟩⟩
theorem s_cmp3 {d : Expr} (hu : X.A.units + 65 < cLine) (c1 c2 c3 : Cmp) (ha : PE X a (tD X.K pa fa)) (hb : PE X b (tD X.K pa fb)) (hc : PE X c (tD X.K pa fc)) (hd : PE X d (tD X.K pa fd)) (hm : lastMarks [c1.op, c2.op, c3.op] [b, c, d] = false) :
    PE X (.Compare a [c1.op, c2.op, c3.op] [b, c, d] pos) (tD X.K pa (vC3 c1 c2 c3 fa fb fc fd)) :=
  PE.imp (pe_chain3 (cmp_ok hu c1) (cmp_ok hu c2) (cmp_ok hu c3) ha hb hc hd hm) fun σ H Q h => chain3_of c1 c2 c3 h
/-- a value that is a bool, as a test -/
theorem tD_test {K : PySem.W.Frag} {f : Sl → M D} (hb : ∀ ρ π d π', f ρ π = some (d, π') → ∃ k, d = .bool k) {σ : L2.St} {H : Hp} {Q : Bool → Hp → Prop} (h : tDT K pa (tru f) σ H Q) : tD K pa f σ H fun v H1 => ∃ k, v = .bl k ∧ Q k H1 := by
  obtain ⟨ρ, π, F, d, π', S, hf, q⟩ := h
  unfold tru at hf
  replace hf := bnd_some hf; obtain ⟨x, π1, e1, hf⟩ := hf
  obtain ⟨k, rfl⟩ := hb _ _ _ _ e1
  cases hf
  exact ⟨ρ, π, F, _, _, S, e1, fun F1 H1 v g1 P1 r1 => ⟨_, rp_bool r1, q F1 H1 g1 P1⟩⟩
theorem ite_ret {k : Bool} {m : M D} {π : Pool} {d : D} {π' : Pool} (hm : m π = some (d, π') → ∃ k, d = .bool k) (h : (if k then m else ret (.bool false)) π = some (d, π')) : ∃ k, d = .bool k := by
  cases k with
  | true => exact hm (by simpa using h)
  | false => exact ⟨false, by simp at h; exact h.1.symm⟩
theorem bnd_bool {α : Type} {m : M α} {f : α → M D} (hf : ∀ a π d π', f a π = some (d, π') → ∃ k, d = .bool k) {π : Pool} {d : D} {π' : Pool} (h : bnd m f π = some (d, π')) : ∃ k, d = .bool k := by
  obtain ⟨a, π1, _, e⟩ := bnd_some h
  exact hf _ _ _ _ e
theorem t_cmp3 {d : Expr} (hu : X.A.units + 65 < cLine) (c1 c2 c3 : Cmp) (ha : PE X a (tD X.K pa fa)) (hb : PE X b (tD X.K pa fb)) (hc : PE X c (tD X.K pa fc)) (hd : PE X d (tD X.K pa fd)) (hm : lastMarks [c1.op, c2.op, c3.op] [b, c, d] = false) :
    PT X (.Compare a [c1.op, c2.op, c3.op] [b, c, d] pos) (tDT X.K pa (tru (vC3 c1 c2 c3 fa fb fc fd))) :=
  PT.imp (pt_chain3 (cmp_ok hu c1) (cmp_ok hu c2) (cmp_ok hu c3) ha hb hc hd hm) fun σ H Q h => chain3_of c1 c2 c3 (tD_test (fun ρ π d π' e => by
    refine bnd_bool (fun x π d π' e => bnd_bool (fun y π d π' e => bnd_bool (fun k π d π' e => ite_ret (fun e => bnd_bool (fun z π d π' e => bnd_bool (fun k π d π' e => ite_ret (fun e => bnd_bool (fun u π d π' e => bnd_bool (fun k π d π' e => ?_) e) e) e) e) e) e) e) e) e
    cases e; exact ⟨_, rfl⟩) h)
/-! ### arguments, displays -/
theorem starEach_cons {e : Expr} {es : List Expr} {env : PySem.Env} (h : noStar e = true) : starEach (e :: es) env = (false, eval e env) :: starEach es env := by
  cases e <;> first | rfl | cases h
theorem a_nil : PA X [] (tDA X.K pa fun _ => ret []) := by
  refine PA.imp pa_nil fun σ H Q h => ?_
  obtain ⟨ρ, π, F, ds, π', S, hf, q⟩ := h
  cases hf
  exact q F H [] (Grow.refl S.ex) S.pool .nil
theorem a_cons (hs : noStar a = true) (ha : PE X a (tD X.K pa fa)) (hr : PA X es (tDA X.K pa fs)) : PA X (a :: es) (tDA X.K pa fun ρ => bnd (fa ρ) fun d => bnd (fs ρ) fun ds => ret (d :: ds)) := by
  refine PA.imp (pa_cons ha hr (starEach_cons hs)) fun σ H Q h => ?_
  obtain ⟨ρ, π, F, ds, π', S, hf, q⟩ := h
  replace hf := bnd_some hf; obtain ⟨x, π1, e1, hf⟩ := hf
  replace hf := bnd_some hf; obtain ⟨y, π2, e2, hf⟩ := hf
  cases hf
  exact ⟨ρ, π, F, x, π1, S, e1, fun F1 H1 v g1 P1 r1 => ⟨ρ, π1, F1, y, _, S.next g1 P1, e2, fun F2 H2 ws g2 P2 r2 => q F2 H2 (v :: ws) (g1.trans g2) P2 (.cons (r1.mono g2.f) r2)⟩⟩
theorem Grow.np {pa : Option Addr} {F H : Hp} {K : PySem.W.Frag} {π : Pool} {p : Addr} (P : PoolAt K pa F H π) (hp : H p = none) : pa ≠ some p := fun e => by
  obtain ⟨_, sa, h, _⟩ := P p e
  rw [hp] at h; cases h
theorem PoolAt.scrap {K : PySem.W.Frag} {pa : Option Addr} {F H : Hp} {π : Pool} {p : Addr} {o : HO} (P : PoolAt K pa F H π) (hp : H p = none) : PoolAt K pa F (upd H p o) π := fun a e => by
  obtain ⟨n, sa, h1, h2⟩ := P a e
  exact ⟨n, sa, by rw [upd_ne (ne_of_none h1 hp)]; exact h1, h2⟩
theorem thousand {n : Nat} (h : n ≤ 1000) : n ≤ sizeLine := Nat.le_of_lt (small1000 h)
theorem pe_tupF {es : List Expr} {x1 : Nat} {t : TA} (h : PA X es t) : PE X (.Tuple es x1 pos) (fun σ H Q => t σ H fun xs H1 => xs.length ≤ sizeLine ∧ ∀ p o, o.dict = none → H1 p = none → Q (.ref p) (upd H1 p (.frz o (.tup xs)))) := by
  refine ⟨fun pins s σ H Q I hq => ?_⟩
  refine wpAny_Tuple_spliced (thn (h.run pos pins s σ H _ I hq) fun us s1 ⟨xs, H1, I1, r, z, q⟩ => ⟨by rw [← r.length]; exact z, ?_⟩)
  exact ⟨.ref s1.heap.objs.size, _, laidT I1 r z s1.toks, rfl, q _ (tupO us) rfl (I1.hok.fresh (Nat.le_refl _))⟩
theorem s_tup {k : Nat} (h : PA X es (tDA X.K pa fs)) : PE X (.Tuple es k pos) (tD X.K pa fun ρ => bnd (fs ρ) fun ds => if ds.length ≤ 1000 then ret (.tuple ds) else stuck) := by
  refine PE.imp (pe_tupF h) fun σ H Q h => ?_
  obtain ⟨ρ, π, F, d, π', S, hf, q⟩ := h
  replace hf := bnd_some hf; obtain ⟨ds, π1, e1, hf⟩ := hf
  split at hf
  · rename_i hz
    cases hf
    refine ⟨ρ, π, F, ds, _, S, e1, fun F1 H1 vs g1 P1 r1 => ⟨by rw [r1.len]; exact thousand hz, fun p ob hob hp => ?_⟩⟩
    obtain ⟨g, rz⟩ := new_tup (K := X.K) hob g1.sub hp r1 (by rw [r1.len]; exact thousand hz)
    exact q _ _ _ (g1.trans g.any) (P1.grow0 g) rz
  · cases hf
theorem s_lstL (h : PA X es (tDA X.K pa fs)) : PE X (.List es pos) (tDL X.K pa fun ρ => bnd (fs ρ) fun ds => if ds.length ≤ 1000 then ret ds else stuck) := by
  refine PE.imp (pe_lst h) fun σ H Q h => ?_
  obtain ⟨ρ, π, F, d, π', S, hf, q⟩ := h
  replace hf := bnd_some hf; obtain ⟨ds, π1, e1, hf⟩ := hf
  split at hf
  · rename_i hz
    cases hf
    refine ⟨ρ, π, F, _, _, S, e1, fun F1 H1 vs g1 P1 r1 => ⟨by rw [r1.len]; exact thousand hz, fun p hp => ?_⟩⟩
    exact q F1 _ p vs (g1.trans (Grow.scrap g1.sub hp)) (P1.scrap hp) (by
      cases e : H p with
      | none => rfl
      | some o =>
        by_cases hpa : some p = pa
        · obtain ⟨o', e'⟩ := g1.p p hpa.symm o e; rw [hp] at e'; cases e'
        · rw [g1.h p o hpa e] at hp; cases hp) (ex_back g1.sub hp) (Grow.np P1 hp) upd_same (by rw [r1.len]; exact thousand hz) r1
  · cases hf
/-- a reading of a new list, as data -/
theorem s_ofL {e : Expr} {f : Sl → M (List D)} (h : PE X e (tDL X.K pa f)) : PE X e (tD X.K pa fun ρ => bnd (f ρ) fun ds => ret (.list ds)) := PE.imp h fun σ H Q q => tDL_tD q
/-! ### items, slices -/
theorem plainIx {e : Expr} (h : noSlice e = true) : PlainIx e := fun o i => by
  cases e <;> first | rfl | cases h
def rDI (K : PySem.W.Frag) (f : D → D → Option D) : R2 := fun x y H Q => ∃ F d e r, Ex F H ∧ Rp K F x d ∧ Rp K F y e ∧ f d e = some r ∧ ∀ z, Rp K F z r → Q z H
theorem ix_ok : IxR X (rDI X.K ixD) := by
  intro value slice pins s σ H x y v u Q I rx ry h hop
  obtain ⟨F, d, e, r, ex, hd, he, hf, q⟩ := h
  cases hd with
  | lst ha ra z =>
    cases he with
    | int i =>
      obtain ⟨w, h1, h2⟩ := rp_at ra hf
      exact ix_list value slice pins s σ H _ _ v u Q I rx ry ⟨_, _, i, w, rfl, rfl, SqL.of (ex _ _ ha), h1, q w h2⟩ hop
    | _ => cases hf
  | tup ha ra z =>
    cases he with
    | int i =>
      obtain ⟨w, h1, h2⟩ := rp_at ra hf
      exact ix_tup value slice pins s σ H _ _ v u Q I rx ry ⟨_, _, i, w, rfl, rfl, ex_sqT ex ha, h1, q w h2⟩ hop
    | _ => cases hf
  | str t =>
    cases he with
    | int i =>
      simp only [ixD] at hf
      split at hf
      · rename_i hz
        rw [Option.map_eq_some_iff] at hf
        obtain ⟨c, hc, rfl⟩ := hf
        exact ix_str value slice pins s σ H _ _ v u Q I rx ry ⟨t, i, c, rfl, rfl, hz, hc, q _ (.str _)⟩ hop
      · cases hf
    | _ => cases hf
  | _ => cases hf
theorem s_ix (hs : noSlice b = true) (ha : PE X a (tD X.K pa fa)) (hb : PE X b (tD X.K pa fb)) : PE X (.Subscript a b pos) (tD X.K pa fun ρ => bnd (fa ρ) fun x => bnd (fb ρ) fun y => lift (ixD x y)) := by
  refine PE.imp (pe_ix ix_ok ha hb (plainIx hs)) fun σ H Q h => ?_
  obtain ⟨ρ, π, F, d, π', S, hf, q⟩ := h
  replace hf := bnd_some hf; obtain ⟨x, π1, e1, hf⟩ := hf
  replace hf := bnd_some hf; obtain ⟨y, π2, e2, hf⟩ := hf
  obtain ⟨e3, rfl⟩ := lift_eq hf
  exact ⟨ρ, π, F, x, π1, S, e1, fun F1 H1 v g1 P1 r1 => ⟨ρ, π1, F1, y, _, S.next g1 P1, e2, fun F2 H2 w g2 P2 r2 => ⟨F2, x, y, d, g2.sub, r1.mono g2.f, r2, e3, fun z rz => q F2 H2 z (g1.trans g2) P2 rz⟩⟩⟩
theorem cutL_rp {K : PySem.W.Frag} {F : Hp} {vs : List V} {ds : List D} (r : RpAll K F vs ds) (lo hi : Option Int) : RpAll K F (cutV vs lo hi) (cutL ds lo hi) := by
  unfold cutV cutL
  rw [r.len]
  exact (r.drop _).take _
theorem cutL_all {α : Type} {xs : List α} {lo hi : Option Int} (h : HT.sIx xs.length 0 lo = 0 ∧ HT.sIx xs.length xs.length hi = xs.length) : cutL xs lo hi = xs := by
  unfold cutL; rw [h.1, h.2]; simp
def rDS (K : PySem.W.Frag) : V → Option Int → Option Int → Hp → VK → Prop := fun x lo hi H Q => ∃ F d r, Ex F H ∧ Rp K F x d ∧ slD d lo hi = some r ∧ ∀ F' H' z, Grow none F H F' H' → Rp K F' z r → Q z H'
/-- t[lo:hi]: the whole of it is t itself -/
def rSlF (K : PySem.W.Frag) : V → Option Int → Option Int → Hp → VK → Prop := fun x lo hi H Q => ∃ a xs, x = .ref a ∧ SqT K H a xs ∧
  (HT.sIx xs.length 0 lo = 0 ∧ HT.sIx xs.length xs.length hi = xs.length → Q (.ref a) H) ∧ (¬ (HT.sIx xs.length 0 lo = 0 ∧ HT.sIx xs.length xs.length hi = xs.length) → ∀ p o, o.dict = none → H p = none → Q (.ref p) (upd H p (.frz o (.tup (cutV xs lo hi)))))
theorem sl_tupF : SlR X (rSlF X.K) := by
  intro pins s σ H x v vl vu lo hi sl Q I rx hs pl pu h
  obtain ⟨a, xs, rfl, hx, q1, q2⟩ := h
  by_cases hw : HT.sIx xs.length 0 lo = 0 ∧ HT.sIx xs.length xs.length hi = xs.length
  · exact sl_tupA pins s σ H _ v vl vu lo hi sl Q I rx hs pl pu ⟨a, xs, rfl, hx, q1, fun z => absurd hw z⟩
  · cases rx
    obtain ⟨its, r, ht, hz⟩ := I.tuple hx
    have hlen : its.toArray.size = xs.length := by rw [List.size_toArray]; exact r.length.symm
    refine ⟨"tuple", _, PyProof.Rows.slot_tuple_getitem.lookup, ht.typeIs, ?_⟩
    refine HT.getItem_tuple_cut ht hs pl pu (by rw [hlen]; exact hw) ?_ (by rw [hlen]; exact hz)
    rw [hlen]
    exact ⟨.ref s.heap.objs.size, _, laidT I ((r.drop (HT.sIx xs.length 0 lo)).take (HT.sIx xs.length xs.length hi - HT.sIx xs.length 0 lo)) (Nat.le_trans (cutV_length xs lo hi) hz) s.toks, rfl, q2 hw _ (tupO _) rfl (I.hok.fresh (Nat.le_refl _))⟩
theorem sl_ok : SlR X (rDS X.K) := by
  intro pins s σ H x v vl vu lo hi sl Q I rx hs pl pu h
  obtain ⟨F, d, r, ex, hd, hf, q⟩ := h
  cases hd with
  | lst ha ra z =>
    cases hf
    refine sl_list pins s σ H _ v vl vu lo hi sl Q I rx hs pl pu ⟨_, _, rfl, SqL.of (ex _ _ ha), fun p hp => ?_⟩
    obtain ⟨g, rz⟩ := new_lst (K := X.K) ex hp (cutL_rp ra lo hi) (Nat.le_trans (cutV_length _ _ _) z)
    exact q _ _ _ g rz
  | tup ha ra z hx =>
    cases hf
    refine sl_tupF pins s σ H _ v vl vu lo hi sl Q I rx hs pl pu ⟨_, _, rfl, ex_sqT ex ha, fun hw => ?_, fun hw p ob hob hp => ?_⟩
    · refine q F H _ (Grow.refl ex) ?_
      rw [ra.len] at hw
      rw [cutL_all hw]
      exact .tup ha ra z hx
    · obtain ⟨g, rz⟩ := new_tup (K := X.K) hob ex hp (cutL_rp ra lo hi) (Nat.le_trans (cutV_length _ _ _) z)
      exact q _ _ _ g rz
  | str t =>
    simp only [slD] at hf
    split at hf
    · rename_i hz
      cases hf
      exact sl_str pins s σ H _ v vl vu lo hi sl Q I rx hs pl pu ⟨t, rfl, hz, q F H _ (Grow.refl ex) (.str _)⟩
    · cases hf
  | _ => cases hf
/-- a slice's part -/
def tDO (K : PySem.W.Frag) (pa : Option Addr) (f : Sl → M (Option Int)) : TO := fun σ H Q => ∃ ρ π F o π', Stt K pa σ ρ π F H ∧ f ρ π = some (o, π') ∧ ∀ F' H', Grow pa F H F' H' → PoolAt K pa F' H' π' → Q o H'
theorem PO.imp {e : Option Expr} {t t' : TO} (h : PO X e t) (w : ∀ σ H Q, t' σ H Q → t σ H Q) : PO X e t' := ⟨fun pins s σ H Q I q => h.run pins s σ H Q I (w σ H Q q)⟩
theorem o_none : PO X none (tDO X.K pa fun _ => ret none) := PO.imp po_none fun σ H Q h => by
  obtain ⟨ρ, π, F, o, π', S, hf, q⟩ := h
  cases hf
  exact q F H (Grow.refl S.ex) S.pool
theorem o_some (ha : PE X a (tD X.K pa fa)) : PO X (some a) (tDO X.K pa fun ρ => bnd (bnd (fa ρ) fun d => ret [d]) fun l => lift (partD l)) := PO.imp (po_some ha) fun σ H Q h => by
  obtain ⟨ρ, π, F, o, π', S, hf, q⟩ := h
  simp only [bnd_assoc, bnd_ret] at hf
  replace hf := bnd_some hf; obtain ⟨x, π1, e1, hf⟩ := hf
  obtain ⟨e3, rfl⟩ := lift_eq (show lift (partD [x]) π1 = _ from hf)
  refine ⟨ρ, π, F, x, _, S, e1, fun F1 H1 v g1 P1 r1 => ?_⟩
  cases x with
  | int i => cases e3; exact ⟨i, rp_int r1, q F1 H1 g1 P1⟩
  | _ => cases e3
theorem s_sl {lo hi : Option Expr} {fl fh : Sl → M (Option Int)} {p2 : Pos} (ha : PE X a (tD X.K pa fa)) (hl : PO X lo (tDO X.K pa fl)) (hh : PO X hi (tDO X.K pa fh)) :
    PE X (.Subscript a (.Slice lo hi none p2) pos) (tD X.K pa fun ρ => bnd (fa ρ) fun x => bnd (fl ρ) fun l => bnd (fh ρ) fun h => lift (slD x l h)) := by
  refine PE.imp (pe_slice sl_ok ha hl hh) fun σ H Q h => ?_
  obtain ⟨ρ, π, F, d, π', S, hf, q⟩ := h
  replace hf := bnd_some hf; obtain ⟨x, π1, e1, hf⟩ := hf
  replace hf := bnd_some hf; obtain ⟨l, π2, e2, hf⟩ := hf
  replace hf := bnd_some hf; obtain ⟨u, π3, e3, hf⟩ := hf
  obtain ⟨e4, rfl⟩ := lift_eq hf
  exact ⟨ρ, π, F, x, π1, S, e1, fun F1 H1 v g1 P1 r1 => ⟨ρ, π1, F1, l, π2, S.next g1 P1, e2, fun F2 H2 g2 P2 => ⟨ρ, π2, F2, u, _, (S.next g1 P1).next g2 P2, e3, fun F3 H3 g3 P3 => ⟨F3, x, d, g3.sub, r1.mono (ex_trans g2.f g3.f), e4, fun F4 H4 z g4 r4 => q F4 H4 z (((g1.trans g2).trans g3).trans g4.any) (P3.grow0 g4) r4⟩⟩⟩⟩
end
end SR
end
section
/-! SrPe3: calls, targets, comprehensions. -/
namespace SR
open PySem PySem.Spec PyProof.Rows L2
variable [Wd]
section
variable {X : Cx} {pa : Option Addr} {a b c e x y z : Expr} {fa fb fc fd : Sl → M D} {fs : Sl → M (List D)} {pos p apos : Pos} {es : List Expr}
theorem noStars_each {pos : Pos} : ∀ {es : List Expr} {env : PySem.Env}, es.all noStar = true → (backTo pos (starEach es env)).any (·.1) = false
  | [], _, _ => rfl
  | e :: es, env, h => by
    rw [List.all_cons, Bool.and_eq_true] at h
    rw [starEach_cons h.1]
    have ih := @noStars_each pos es env h.2
    unfold backTo at ih ⊢
    rw [List.map_cons, List.any_cons, ih]; rfl
/-- a call rule on values, a call -/
theorem dc_of {K : PySem.W.Frag} {f : List D → Option D} {σ : L2.St} {H : Hp} {Q : VK} (h : tD K pa (fun ρ => bnd (fs ρ) fun ds => lift (f ds)) σ H Q) : tCB (rDC K f) (tDA K pa fs) σ H Q := by
  obtain ⟨ρ, π, F, d, π', S, hf, q⟩ := h
  replace hf := bnd_some hf; obtain ⟨ds, π1, e1, hf⟩ := hf
  obtain ⟨e2, rfl⟩ := lift_eq hf
  exact ⟨ρ, π, F, ds, _, S, e1, fun F1 H1 vs g1 P1 r1 => ⟨F1, ds, d, g1.sub, r1, e2, fun F2 H2 z g2 r2 => q F2 H2 z (g1.trans g2.any) (P1.grow0 g2) r2⟩⟩
theorem dcl_of {K : PySem.W.Frag} {f : List D → Option (List D)} {σ : L2.St} {H : Hp} {Q : VK} (h : tDL K pa (fun ρ => bnd (fs ρ) fun ds => lift (f ds)) σ H Q) : tCB (rDCL K f) (tDA K pa fs) σ H Q := by
  obtain ⟨ρ, π, F, d, π', S, hf, q⟩ := h
  replace hf := bnd_some hf; obtain ⟨ds, π1, e1, hf⟩ := hf
  obtain ⟨e2, rfl⟩ := lift_eq hf
  refine ⟨ρ, π, F, ds, _, S, e1, fun F1 H1 vs g1 P1 r1 => ⟨F1, ds, d, g1.sub, r1, e2, fun F2 H2 p ws g2 n1 n2 hp hz r2 => ?_⟩⟩
  refine q F2 H2 p ws (g1.trans g2.any) (P1.grow0 g2) ?_ n2 (Grow.np P1 n1) hp hz r2
  cases e : H p with
  | none => rfl
  | some o =>
    by_cases hpa : some p = pa
    · obtain ⟨o', e'⟩ := g1.p p hpa.symm o e; rw [n1] at e'; cases e'
    · rw [g1.h p o hpa e] at n1; cases n1
theorem boot_bi (b : Bi) : bootBuiltins b.name = some b.val := by
  cases b <;> decide +kernel
theorem bi_dbg (b : Bi) : (b.name == ("__debug__" : Str)) = false ∧ b.name ≠ "__name__" := by
  cases b <;> exact ⟨by decide +kernel, by decide +kernel⟩
theorem s_bi {e : Expr} {es : List Expr} (hc : X.calm = true) (hu : X.A.units + 65 < cLine) (b : Bi) (hg : Gl X b.name) (hm : X.mg b.name = none) (hs : (e :: es).all noStar = true) (ha : PA X (e :: es) (tDA X.K pa fs)) :
    PE X (.Call (.Name b.name p) (e :: es) [] pos) (tD X.K pa fun ρ => bnd (fs ρ) fun ds => lift (bi b ds)) := by
  rw [List.all_cons, Bool.and_eq_true] at hs
  have hb := boot_bi b
  have hd := bi_dbg b
  have hx := bi_ok hc hu b
  generalize b.name = n at *
  refine PE.imp (t := tCB (rDC X.K (bi b)) (tDA X.K pa fs)) ?_ fun σ H Q h => dc_of h
  cases b
  case tuple => exact pe_callTy hx hg hm hb ha hd.2 hd.1 (starEach_cons hs.1) (noStars_each hs.2)
  case list => exact pe_callTy hx hg hm hb ha hd.2 hd.1 (starEach_cons hs.1) (noStars_each hs.2)
  case int => exact pe_callTy hx hg hm hb ha hd.2 hd.1 (starEach_cons hs.1) (noStars_each hs.2)
  case str => exact pe_callTy hx hg hm hb ha hd.2 hd.1 (starEach_cons hs.1) (noStars_each hs.2)
  all_goals exact pe_callB hx hg hm hb ha hd.2 hd.1 (starEach_cons hs.1) (noStars_each hs.2)
/-- list(x), sorted(x): a new list -/
theorem s_listL {e : Expr} {es : List Expr} (hc : X.calm = true) (hg : Gl X "list") (hm : X.mg "list" = none) (hs : (e :: es).all noStar = true) (ha : PA X (e :: es) (tDA X.K pa fs)) :
    PE X (.Call (.Name "list" p) (e :: es) [] pos) (tDL X.K pa fun ρ => bnd (fs ρ) fun ds => lift (match ds with
      | [d] => items d
      | _ => none)) := by
  rw [List.all_cons, Bool.and_eq_true] at hs
  exact PE.imp (pe_callTy bi_listL hg hm (boot_bi .list) ha (by decide +kernel) (by decide +kernel) (starEach_cons hs.1) (noStars_each hs.2)) fun σ H Q h => dcl_of h
theorem s_sortedL {e : Expr} {es : List Expr} (hc : X.calm = true) (hu : X.A.units + 65 < cLine) (hg : Gl X "sorted") (hm : X.mg "sorted" = none) (hs : (e :: es).all noStar = true) (ha : PA X (e :: es) (tDA X.K pa fs)) :
    PE X (.Call (.Name "sorted" p) (e :: es) [] pos) (tDL X.K pa fun ρ => bnd (fs ρ) fun ds => lift (match ds with
      | [d] => sortedOf d
      | _ => none)) := by
  rw [List.all_cons, Bool.and_eq_true] at hs
  exact PE.imp (pe_callB (bi_sortedL hu) hg hm (boot_bi .sorted) ha (by decide +kernel) (by decide +kernel) (starEach_cons hs.1) (noStars_each hs.2)) fun σ H Q h => dcl_of h
/-! ### isinstance -/
def tyN : D → String
  | .none => "NoneType" | .bool _ => "bool" | .int _ => "int" | .str _ => "str" | .list _ => "list" | .tuple _ => "tuple" | .dict _ => "dict"
def Ty.id : Ty → String
  | .tuple => "tuple" | .list => "list" | .str => "str" | .int => "int" | .bool => "bool"
def repD : D → D
  | .none => .none | .bool _ => .bool false | .int _ => .int 0 | .str _ => .str Str.empty | .list _ => .list [] | .tuple _ => .tuple [] | .dict _ => .dict []
theorem ty_kit (K : PySem.W.Frag) (t : Ty) {d : D} (hd : ∀ kvs, d ≠ .dict kvs) : PySem.W.kitOne K (.type (tyN d)) (.type t.id) = some (isaD t d) := by
  refine kit_ty ?_
  have e1 : tyN d = tyN (repD d) := by cases d <;> rfl
  have e2 : isaD t d = isaD t (repD d) := by cases t <;> cases d <;> rfl
  rw [e1, e2]
  cases d with
  | dict kvs => exact absurd rfl (hd kvs)
  | none => cases t <;> decide +kernel
  | bool b => show kitB (tyN (.bool false)) t.id = some (isaD t (.bool false)); cases t <;> decide +kernel
  | int i => show kitB (tyN (.int 0)) t.id = some (isaD t (.int 0)); cases t <;> decide +kernel
  | str x => show kitB (tyN (.str Str.empty)) t.id = some (isaD t (.str Str.empty)); cases t <;> decide +kernel
  | list x => show kitB (tyN (.list [])) t.id = some (isaD t (.list [])); cases t <;> decide +kernel
  | tuple x => show kitB (tyN (.tuple [])) t.id = some (isaD t (.tuple [])); cases t <;> decide +kernel
theorem ty_of {K : PySem.W.Frag} {F H : Hp} {v : V} {d : D} (r : Rp K F v d) (ex : Ex F H) : TyX K H v (.type (tyN d)) := by
  cases r with
  | non => exact .base .non
  | bl b => exact .base (.bl b)
  | int i => exact .base (.int i)
  | str x => exact .base (.str x)
  | lst a _ _ => exact .base (.lst (ex _ _ a))
  | tup a _ _ =>
    rcases ex_sqT ex a with (h | ⟨o, h⟩) | ⟨o, its, n, h1, h2, _⟩
    · exact .base (.tup h)
    · exact .fTuple h
    · exact .kTuple h1 h2
theorem boot_ty (t : Ty) : bootBuiltins t.name = some (.type t.id) := by cases t <;> decide +kernel
theorem ty_dbg (t : Ty) : (t.name == ("__debug__" : Str)) = false ∧ t.name ≠ "__name__" := by
  cases t <;> exact ⟨by decide +kernel, by decide +kernel⟩
theorem boot_isi : bootBuiltins ("isinstance" : Str) = some (.builtin "isinstance") := by decide +kernel
theorem s_isa {q : Pos} (t : Ty) (hg : Gl X "isinstance") (hm : X.mg "isinstance" = none) (hgt : Gl X t.name) (hmt : X.mg t.name = none) (hs : noStar a = true) (ha : PE X a (tD X.K pa fa)) :
    PE X (.Call (.Name "isinstance" p) [a, .Name t.name q] [] pos) (tD X.K pa fun ρ => bnd (fa ρ) fun x => ret (.bool (isaD t x))) := by
  have hn := pe_bltn (X := X) (v := .ty t.id) (pos := q) hgt hmt (boot_ty t) rfl (ty_dbg t).2 (ty_dbg t).1
  refine PE.imp (pe_callB call_isi hg hm boot_isi (pa_cons ha (pa_cons hn pa_nil (starEach_cons rfl)) (starEach_cons hs)) (by decide +kernel) (by decide +kernel) (starEach_cons hs) (noStars_each (by rfl))) fun σ H Q h => ?_
  obtain ⟨ρ, π, F, d, π', S, hf, q⟩ := h
  replace hf := bnd_some hf; obtain ⟨x, π1, e1, hf⟩ := hf
  cases hf
  refine ⟨ρ, π, F, x, _, S, e1, fun F1 H1 v g1 P1 r1 => ⟨v, .ty t.id, .type (tyN x), .type t.id, isaD t x, rfl, .ty _, ty_of r1 g1.sub, ty_kit X.K t (fun kvs e => by subst e; cases r1), q F1 H1 _ g1 P1 (.bl _)⟩⟩
/-! ### own defs -/
def spF (K : PySem.W.Frag) (f : Fn) : Sp := fun vs H Q _ => ∃ F ds d, Ex F H ∧ RpAll K F vs ds ∧ f ds = some d ∧ ∀ F' H' v, Grow none F H F' H' → Rp K F' v d → Q v H'
def spP (K : PySem.W.Frag) (f : FnP) : Sp := fun vs H Q _ => ∃ a ws F ds π d π', vs = .ref a :: ws ∧ Ex F H ∧ PoolAt K (some a) F H π ∧ RpAll K F ws ds ∧ f π ds = some (d, π') ∧ ∀ F' H' v, Grow (some a) F H F' H' → PoolAt K (some a) F' H' π' → Rp K F' v d → Q v H'
structure FnSem (P : Program) (w : World) (K : PySem.W.Frag) (mg : Str → Option Value) (base : Heap) (k : Nat) (n : Str) (sp : Sp) : Prop where
  ex : ∃ fa fd ps, FnOk P w K mg base CX0 k fa fd ps sp ∧ mg n = some (.ref fa) ∧ PySem.W.keepIn K (.ref fa) = true ∧ Binds K fd ps []
theorem FnSem.mono {P : Program} {w : World} {K : PySem.W.Frag} {mg : Str → Option Value} {base : Heap} {j k : Nat} {n : Str} {sp : Sp} (h : FnSem P w K mg base j n sp) (hk : j ≤ k) : FnSem P w K mg base k n sp := by
  obtain ⟨fa, fd, ps, F, r⟩ := h.ex
  exact ⟨fa, fd, ps, F.mono hk, r⟩
theorem s_call {k : Nat} {n : Str} {f : Fn} {e : Expr} {es : List Expr} (G : FnSem X.prog X.w X.K X.mg X.base k n (spF X.K f)) (hr : Room k X.A) (hg : Gl X n) (hd : (n == ("__debug__" : Str)) = false) (hs : (e :: es).all noStar = true) (ha : PA X (e :: es) (tDA X.K pa fs)) :
    PE X (.Call (.Name n p) (e :: es) [] pos) (tD X.K pa fun ρ => bnd (fs ρ) fun ds => lift (f ds)) := by
  rw [List.all_cons, Bool.and_eq_true] at hs
  obtain ⟨fa, fd, ps, F, hm, hk, hb⟩ := G.ex
  refine PE.imp (pe_call F hr hg hm hk hb .nil pass0 ha hd (starEach_cons hs.1) (noStars_each hs.2)) fun σ H Q h => ?_
  obtain ⟨ρ, π, F, d, π', S, hf, q⟩ := h
  replace hf := bnd_some hf; obtain ⟨ds, π1, e1, hf⟩ := hf
  obtain ⟨e2, rfl⟩ := lift_eq hf
  refine ⟨ρ, π, F, ds, _, S, e1, fun F1 H1 vs g1 P1 r1 => ?_⟩
  show spF X.K f (vs ++ []) H1 Q E0
  rw [List.append_nil]
  exact ⟨F1, ds, d, g1.sub, r1, e2, fun F2 H2 z g2 r2 => q F2 H2 z (g1.trans g2.any) (P1.grow0 g2) r2⟩
theorem s_callP {k i : Nat} {n m : Str} {f : FnP} {es : List Expr} {q : Pos} (G : FnSem X.prog X.w X.K X.mg X.base k n (spP X.K f)) (hr : Room k X.A) (hg : Gl X n) (hd : (n == ("__debug__" : Str)) = false)
    (hN : X.N[i]? = some m) (hv : Vis X.env.scope m) (hmd : (m == ("__debug__" : Str)) = false) (hcd : (m == ("__classdict__" : Str)) = false) (hs : es.all noStar = true) (ha : PA X es (tDA X.K pa fs)) :
    PE X (.Call (.Name n p) (.Name m q :: es) [] pos) (tD X.K pa fun ρ => match ρ[i]? with
      | some .pool => bnd (fs ρ) fun ds => fun π => f π ds
      | _ => stuck) := by
  obtain ⟨fa, fd, ps, F, hm, hk, hb⟩ := G.ex
  refine PE.imp (pe_call F hr hg hm hk hb .nil pass0 (pa_cons (pe_var hN hv hmd hcd) ha (starEach_cons rfl)) hd (starEach_cons rfl) (noStars_each hs)) fun σ H Q h => ?_
  obtain ⟨ρ, π, F, d, π', S, hf, q⟩ := h
  dsimp only at hf
  cases e0 : ρ[i]? with
  | none => rw [e0] at hf; cases hf
  | some sl =>
    rw [e0] at hf
    cases sl with
    | pool =>
      dsimp only at hf
      replace hf := bnd_some hf; obtain ⟨ds, π1, e1, hf⟩ := hf
      obtain ⟨pa', rfl, hp⟩ := S.env.pool i e0
      refine ⟨.ref pa', hp, ρ, π, F, ds, π1, S, e1, fun F1 H1 vs g1 P1 r1 => ?_⟩
      show spP X.K f (.ref pa' :: vs ++ []) H1 Q E0
      rw [List.append_nil]
      exact ⟨pa', vs, F1, ds, π1, d, π', rfl, g1.sub, P1, r1, hf, fun F2 H2 z g2 P2 r2 => q F2 H2 z (g1.trans g2) P2 r2⟩
    | _ => cases hf
/-! ### own lists read -/
theorem s_oix {i : Nat} {m : Str} {q : Pos} (hs : noSlice b = true) (hN : X.N[i]? = some m) (hv : Vis X.env.scope m) (hmd : (m == ("__debug__" : Str)) = false) (hcd : (m == ("__classdict__" : Str)) = false) (hb : PE X b (tD X.K pa fb)) :
    PE X (.Subscript (.Name m q) b pos) (tD X.K pa fun ρ => match ρ[i]? with
      | some (.own (.lst ds)) => bnd (fb ρ) fun y => lift (ixD (.list ds) y)
      | _ => stuck) := by
  refine PE.imp (pe_ix ix_list (pe_var hN hv hmd hcd) hb (plainIx hs)) fun σ H Q h => ?_
  obtain ⟨ρ, π, F, d, π', S, hf, q⟩ := h
  dsimp only at hf
  cases e0 : ρ[i]? with
  | none => rw [e0] at hf; cases hf
  | some sl =>
    rw [e0] at hf
    match sl, hf with
    | .own (.lst ds), hf =>
      dsimp only at hf
      replace hf := bnd_some hf; obtain ⟨y, π1, e1, hf⟩ := hf
      obtain ⟨e2, rfl⟩ := lift_eq hf
      obtain ⟨oa, ho, O⟩ := S.env.own i _ e0
      refine ⟨.ref oa, ho, ρ, π, F, y, _, S, e1, fun F1 H1 w g1 P1 r1 => ?_⟩
      obtain ⟨vs, hvs, rvs, _⟩ := (O.grow g1).at_
      cases y with
      | int j =>
        obtain ⟨w', h1, h2⟩ := rp_at rvs e2
        exact ⟨oa, vs, j, w', rfl, rp_int r1, SqL.of hvs, h1, q F1 H1 w' g1 P1 h2⟩
      | _ => cases e2
theorem s_olen {i : Nat} {m : Str} {q : Pos} (hg : Gl X "len") (hm : X.mg "len" = none) (hN : X.N[i]? = some m) (hv : Vis X.env.scope m) (hmd : (m == ("__debug__" : Str)) = false) (hcd : (m == ("__classdict__" : Str)) = false) :
    PE X (.Call (.Name "len" p) [.Name m q] [] pos) (tD X.K pa fun ρ => match ρ[i]? with
      | some (.own (.lst ds)) => ret (.int ds.length)
      | _ => stuck) := by
  refine PE.imp (pe_callB call_len_seq hg hm (boot_bi .len) (pa_cons (pe_var hN hv hmd hcd) pa_nil (starEach_cons rfl)) (by decide +kernel) (by decide +kernel) (starEach_cons rfl) (noStars_each (by rfl))) fun σ H Q h => ?_
  obtain ⟨ρ, π, F, d, π', S, hf, q⟩ := h
  dsimp only at hf
  cases e0 : ρ[i]? with
  | none => rw [e0] at hf; cases hf
  | some sl =>
    rw [e0] at hf
    match sl, hf with
    | .own (.lst ds), hf =>
      cases hf
      obtain ⟨oa, ho, O⟩ := S.env.own i _ e0
      obtain ⟨vs, hvs, rvs, _⟩ := O.at_
      exact ⟨.ref oa, ho, oa, vs, rfl, .inl (SqL.of hvs), by rw [rvs.len]; exact q F H _ (Grow.refl S.ex) S.pool (.int _)⟩
theorem s_osl {i : Nat} {m : Str} {q p2 : Pos} {lo hi : Option Expr} {fl fh : Sl → M (Option Int)} (hN : X.N[i]? = some m) (hv : Vis X.env.scope m) (hmd : (m == ("__debug__" : Str)) = false) (hcd : (m == ("__classdict__" : Str)) = false) (hl : PO X lo (tDO X.K pa fl)) (hh : PO X hi (tDO X.K pa fh)) :
    PE X (.Subscript (.Name m q) (.Slice lo hi none p2) pos) (tD X.K pa fun ρ => match ρ[i]? with
      | some (.own (.lst ds)) => bnd (fl ρ) fun l => bnd (fh ρ) fun h => lift (slD (.list ds) l h)
      | _ => stuck) := by
  refine PE.imp (pe_slice sl_list (pe_var hN hv hmd hcd) hl hh) fun σ H Q h => ?_
  obtain ⟨ρ, π, F, d, π', S, hf, q⟩ := h
  dsimp only at hf
  cases e0 : ρ[i]? with
  | none => rw [e0] at hf; cases hf
  | some sl =>
    rw [e0] at hf
    match sl, hf with
    | .own (.lst ds), hf =>
      dsimp only at hf
      replace hf := bnd_some hf; obtain ⟨l, π1, e1, hf⟩ := hf
      replace hf := bnd_some hf; obtain ⟨u, π2, e2, hf⟩ := hf
      obtain ⟨e3, rfl⟩ := lift_eq hf
      cases e3
      obtain ⟨oa, ho, O⟩ := S.env.own i _ e0
      refine ⟨.ref oa, ho, ρ, π, F, l, π1, S, e1, fun F1 H1 g1 P1 => ⟨ρ, π1, F1, u, _, S.next g1 P1, e2, fun F2 H2 g2 P2 => ?_⟩⟩
      obtain ⟨vs, hvs, rvs, hz⟩ := (O.grow (g1.trans g2)).at_
      refine ⟨oa, vs, rfl, SqL.of hvs, fun p hp => ?_⟩
      obtain ⟨g, rz⟩ := new_lst (K := X.K) g2.sub hp (cutL_rp rvs l u) (Nat.le_trans (cutV_length _ _ _) hz)
      exact q _ _ _ ((g1.trans g2).trans g.any) (P2.grow0 g) rz
end
end SR
end
section
/-! SrComp: targets, list comprehensions. -/
namespace SR
open PySem PySem.Spec PyProof.Rows L2
variable [Wd]

/-! ### slots forgotten -/
theorem wipe_get (σ : L2.St) : ∀ (vs : List Nat) (j : Nat), (wipe σ vs)[j]? = if j ∈ vs then σ[j]?.map fun _ => none else σ[j]?
  | [], j => by simp [wipe]
  | v :: vs, j => by
    unfold wipe
    by_cases h : j = v
    · subst h
      rw [if_pos List.mem_cons_self]
      by_cases hl : j < σ.length
      · rw [List.getElem?_set_self (by rw [wipe_length]; exact hl)]
        simp [hl]
      · rw [List.getElem?_eq_none (by rw [List.length_set, wipe_length]; omega), List.getElem?_eq_none (by omega)]; rfl
    · rw [List.getElem?_set_ne (Ne.symm h), wipe_get σ vs j]
      have e : (j ∈ v :: vs) ↔ j ∈ vs := by simp [h]
      by_cases hm : j ∈ vs
      · rw [if_pos hm, if_pos (e.mpr hm)]
      · rw [if_neg hm, if_neg (fun z => hm (e.mp z))]
theorem wipeS_len (ρ : Sl) : ∀ vs : List Nat, (wipeS ρ vs).length = ρ.length
  | [] => rfl
  | v :: vs => by unfold wipeS; rw [List.length_set, wipeS_len ρ vs]
theorem wipeS_get (ρ : Sl) : ∀ (vs : List Nat) (j : Nat), (wipeS ρ vs)[j]? = if j ∈ vs then ρ[j]?.map fun _ => Slot.no else ρ[j]?
  | [], j => by simp [wipeS]
  | v :: vs, j => by
    unfold wipeS
    by_cases h : j = v
    · subst h
      rw [if_pos List.mem_cons_self]
      by_cases hl : j < ρ.length
      · rw [List.getElem?_set_self (by rw [wipeS_len]; exact hl)]
        simp [hl]
      · rw [List.getElem?_eq_none (by rw [List.length_set, wipeS_len]; omega), List.getElem?_eq_none (by omega)]; rfl
    · rw [List.getElem?_set_ne (Ne.symm h), wipeS_get ρ vs j]
      have e : (j ∈ v :: vs) ↔ j ∈ vs := by simp [h]
      by_cases hm : j ∈ vs
      · rw [if_pos hm, if_pos (e.mpr hm)]
      · rw [if_neg hm, if_neg (fun z => hm (e.mp z))]
theorem wipe_set {σ : L2.St} {own : List Nat} {i : Nat} {x : Option V} (h : i ∈ own) : wipe (σ.set i x) own = wipe σ own := by
  apply List.ext_getElem?
  intro j
  rw [wipe_get, wipe_get]
  by_cases hj : j ∈ own
  · rw [if_pos hj, if_pos hj]
    by_cases e : i = j
    · subst e
      by_cases hl : i < σ.length
      · rw [List.getElem?_set_self hl]; simp [hl]
      · rw [List.getElem?_eq_none (by rw [List.length_set]; omega), List.getElem?_eq_none (by omega)]
    · rw [List.getElem?_set_ne e]
  · rw [if_neg hj, if_neg hj, List.getElem?_set_ne (fun e : i = j => hj (by rw [← e]; exact h))]
theorem wipe_wipe {σ : L2.St} {own : List Nat} : wipe (wipe σ own) own = wipe σ own := by
  apply List.ext_getElem?
  intro j
  rw [wipe_get, wipe_get]
  by_cases hj : j ∈ own
  · simp only [if_pos hj]; cases σ[j]? <;> rfl
  · rw [if_neg hj]
theorem some_map_no {o : Option Slot} {s : Slot} (h : o.map (fun _ => Slot.no) = some s) : s = .no := by
  cases o with
  | none => cases h
  | some x => cases h; rfl
theorem Env.wiped {K : PySem.W.Frag} {pa : Option Addr} {σ : L2.St} {ρ : Sl} {F H : Hp} (e : Env K pa σ ρ F H) (own : List Nat) : Env K pa (wipe σ own) (wipeS ρ own) F H := by
  have key : ∀ (i : Nat) s, (wipeS ρ own)[i]? = some s → s ≠ .no → ρ[i]? = some s ∧ (wipe σ own)[i]? = σ[i]? := fun i s h hs => by
    rw [wipeS_get] at h
    rw [wipe_get]
    by_cases hj : i ∈ own
    · rw [if_pos hj] at h; exact absurd (some_map_no h) hs
    · rw [if_neg hj] at h ⊢; exact ⟨h, rfl⟩
  exact {
    len := by rw [wipeS_len, wipe_length]; exact e.len
    dat := fun i d h => by
      obtain ⟨h1, h2⟩ := key i _ h (fun z => by cases z)
      rw [h2]; exact e.dat i d h1
    own := fun i c h => by
      obtain ⟨h1, h2⟩ := key i _ h (fun z => by cases z)
      rw [h2]; exact e.own i c h1
    inj := fun i j c c' a h h' q q' => by
      obtain ⟨h1, h2⟩ := key i _ h (fun z => by cases z)
      obtain ⟨h3, h4⟩ := key j _ h' (fun z => by cases z)
      rw [h2] at q; rw [h4] at q'
      exact e.inj i j c c' a h1 h3 q q'
    pool := fun i h => by
      obtain ⟨h1, h2⟩ := key i _ h (fun z => by cases z)
      rw [h2]; exact e.pool i h1 }
theorem Env.set {K : PySem.W.Frag} {pa : Option Addr} {σ : L2.St} {ρ : Sl} {F H : Hp} (e : Env K pa σ ρ F H) {v : V} {d : D} (r : Rp K F v d) (i : Nat) : Env K pa (σ.set i (some v)) (ρ.set i (.dat d)) F H := by
  have key : ∀ (j : Nat) s, (ρ.set i (.dat d))[j]? = some s → (∀ d, s ≠ .dat d) → ρ[j]? = some s ∧ (σ.set i (some v))[j]? = σ[j]? := fun j s h hs => by
    by_cases hj : i = j
    · subst hj
      by_cases hl : i < ρ.length
      · rw [List.getElem?_set_self hl] at h; cases h; exact absurd rfl (hs d)
      · rw [List.getElem?_eq_none (by rw [List.length_set]; omega)] at h; cases h
    · rw [List.getElem?_set_ne hj] at h ⊢; exact ⟨h, rfl⟩
  exact {
    len := by rw [List.length_set, List.length_set]; exact e.len
    dat := fun j d' h => by
      by_cases hj : i = j
      · subst hj
        by_cases hl : i < ρ.length
        · rw [List.getElem?_set_self hl] at h; cases h
          exact ⟨v, List.getElem?_set_self (by rw [← e.len]; exact hl), r⟩
        · rw [List.getElem?_eq_none (by rw [List.length_set]; omega)] at h; cases h
      · rw [List.getElem?_set_ne hj] at h ⊢; exact e.dat j d' h
    own := fun j c h => by
      obtain ⟨h1, h2⟩ := key j _ h (fun d z => by cases z)
      rw [h2]; exact e.own j c h1
    inj := fun j l c c' a h h' q q' => by
      obtain ⟨h1, h2⟩ := key j _ h (fun d z => by cases z)
      obtain ⟨h3, h4⟩ := key l _ h' (fun d z => by cases z)
      rw [h2] at q; rw [h4] at q'
      exact e.inj j l c c' a h1 h3 q q'
    pool := fun j h => by
      obtain ⟨h1, h2⟩ := key j _ h (fun d z => by cases z)
      rw [h2]; exact e.pool j h1 }

/-! ### targets -/
/-- what a store of data leaves -/
def Sto (σ : L2.St) (ρ : Sl) (σ' : L2.St) (ρ' : Sl) : Prop := ∀ j : Nat, (σ'[j]? = σ[j]? ∧ ρ'[j]? = ρ[j]?) ∨ ∃ d, ρ'[j]? = some (.dat d)
theorem Sto.set {σ : L2.St} {ρ : Sl} (hz : ρ.length = σ.length) (i : Nat) (v : V) (d : D) : Sto σ ρ (σ.set i (some v)) (ρ.set i (.dat d)) := fun j => by
  by_cases hj : i = j
  · subst hj
    by_cases hl : i < ρ.length
    · exact .inr ⟨d, List.getElem?_set_self hl⟩
    · refine .inl ⟨?_, ?_⟩
      · rw [List.getElem?_eq_none (by rw [List.length_set]; omega), List.getElem?_eq_none (by omega)]
      · rw [List.getElem?_eq_none (by rw [List.length_set]; omega), List.getElem?_eq_none (by omega)]
  · rw [List.getElem?_set_ne hj, List.getElem?_set_ne hj]; exact .inl ⟨rfl, rfl⟩

theorem Sto.refl (σ : L2.St) (ρ : Sl) : Sto σ ρ σ ρ := fun _ => .inl ⟨rfl, rfl⟩
theorem Sto.trans {σ σ1 σ2 : L2.St} {ρ ρ1 ρ2 : Sl} (a : Sto σ ρ σ1 ρ1) (b : Sto σ1 ρ1 σ2 ρ2) : Sto σ ρ σ2 ρ2 := fun j => by
  rcases b j with ⟨h1, h2⟩ | h
  · rcases a j with ⟨h3, h4⟩ | h
    · exact .inl ⟨h1.trans h3, h2.trans h4⟩
    · obtain ⟨d, h⟩ := h; exact .inr ⟨d, h2.trans h⟩
  · exact .inr h
section
variable (K : PySem.W.Frag) (pa : Option Addr)
def tDG (tg : Tg) : TG := fun v σ H Q => ∃ ρ π F d ρ', Stt K pa σ ρ π F H ∧ Rp K F v d ∧ bindT tg d ρ = some ρ' ∧
  ∀ σ', Stt K pa σ' ρ' π F H → Sto σ ρ σ' ρ' → (∀ own, tgIn own tg = true → wipe σ' own = wipe σ own) → Q σ' H
end
theorem PG.imp {X : Cx} {e : Expr} {t t' : TG} (h : PG X e t) (w : ∀ v σ H Q, t' v σ H Q → t v σ H Q) : PG X e t' := ⟨fun pins s σ H v u Q I r q => h.run pins s σ H v u Q I r (w v σ H Q q)⟩
theorem chkTg_star {N : List Str} {sc : Scope} {fn : Str → Bool} {tg : Tg} {x : Expr} (h : chkTg N sc fn tg x = true) : noStar x = true := by
  cases tg <;> (simp only [chkTg] at h; split at h <;> first | rfl | cases h)
theorem assign_cons {e : Expr} {es : List Expr} {env : PySem.Env} (h : noStar e = true) : assignEach (e :: es) env = (false, assign e env) :: assignEach es env := by
  cases e <;> first | rfl | cases h
theorem sto_loc {N : List Str} {sc : Scope} {fn : Str → Bool} {i : Nat} {x : Str} (h : stoB N sc fn i x = true) : N[i]? = some x ∧ Loc sc x ∧ (fn x = true ∨ sc.names.lookup x = some .local) := by
  unfold stoB at h
  rw [Bool.and_eq_true, decide_eq_true_eq] at h
  obtain ⟨h1, h2⟩ := h
  refine ⟨h1, ?_⟩
  split at h2
  · rename_i e; exact ⟨.inl e, .inr e⟩
  · rename_i e; exact ⟨.inr e, .inl h2⟩
  · cases h2
theorem g_ok {K : PySem.W.Frag} {pa : Option Addr} : ∀ (tg : Tg) (X : Cx) (x : Expr), X.K = K → X.calm = true → X.N.Nodup → ∀ fn : Str → Bool, (∀ y, fn y = true → X.fn y = true) → chkTg X.N X.env.scope fn tg x = true → PG X x (tDG K pa tg)
  | .v i, X, x, hK, hc, hN, fn, hfn, h => by
    subst hK
    simp only [chkTg] at h
    split at h
    · obtain ⟨h1, h2, h3⟩ := sto_loc h
      refine PG.imp (pg_name hN h1 h2 (h3.elim (fun z => .inl (hfn _ z)) .inr)) fun v σ H Q q => ?_
      obtain ⟨ρ, π, F, d, ρ', S, r, hb, q⟩ := q
      cases hb
      exact q _ ⟨S.env.set r i, S.ex, S.pool⟩ (Sto.set S.env.len i v d) fun own ho => wipe_set (by simpa [tgIn] using ho)
    · cases h
  | .t2 a b, X, x, hK, hc, hN, fn, hfn, h => by
    simp only [chkTg] at h
    split at h
    · rename_i x y k p
      rw [Bool.and_eq_true] at h
      have ga := g_ok (pa := pa) a X x hK hc hN fn hfn h.1
      have gb := g_ok (pa := pa) b X y hK hc hN fn hfn h.2
      subst hK
      have sx := chkTg_star h.1
      have sy := chkTg_star h.2
      have e1 : assignEach [x, y] X.env = [(false, assign x X.env), (false, assign y X.env)] := by rw [assign_cons sx, assign_cons sy]; rfl
      refine PG.imp (pg_tup hc (pgs_cons ga (pgs_cons gb pgs_nil (by rw [assign_cons sy]; rfl)) (by rw [assign_cons sx]; rfl)) (n := 2) (by rw [e1]; rfl) (by rw [e1]; rfl)) fun v σ H Q q => ?_
      obtain ⟨ρ, π, F, d, ρ', S, r, hb, q⟩ := q
      match d, hb with
      | .tuple [d1, d2], hb =>
        simp only [bindT, Option.bind_eq_some_iff] at hb
        obtain ⟨ρ1, b1, b2⟩ := hb
        obtain ⟨t, vs, rfl, ht, rv⟩ := rp_tuple r
        cases rv with
        | cons r1 r2 =>
          cases r2 with
          | cons r2 r3 =>
            cases r3
            refine ⟨t, _, rfl, ex_sqT S.ex ht, rfl, _, _, rfl, ρ, π, F, d1, ρ1, S, r1, b1, fun σ1 S1 st1 w1 => ⟨_, _, rfl, ρ1, π, F, d2, ρ', S1, r2, b2, fun σ2 S2 st2 w2 => ⟨rfl, q σ2 S2 (st1.trans st2) fun own ho => ?_⟩⟩⟩
            simp only [tgIn, Bool.and_eq_true] at ho
            rw [w2 own ho.2, w1 own ho.1]
    · cases h
  | .t3 a b c, X, x, hK, hc, hN, fn, hfn, h => by
    simp only [chkTg] at h
    split at h
    · rename_i x y z k p
      simp only [Bool.and_eq_true] at h
      have ga := g_ok (pa := pa) a X x hK hc hN fn hfn h.1.1
      have gb := g_ok (pa := pa) b X y hK hc hN fn hfn h.1.2
      have gc := g_ok (pa := pa) c X z hK hc hN fn hfn h.2
      subst hK
      have sx := chkTg_star h.1.1
      have sy := chkTg_star h.1.2
      have sz := chkTg_star h.2
      have e1 : assignEach [x, y, z] X.env = [(false, assign x X.env), (false, assign y X.env), (false, assign z X.env)] := by rw [assign_cons sx, assign_cons sy, assign_cons sz]; rfl
      refine PG.imp (pg_tup hc (pgs_cons ga (pgs_cons gb (pgs_cons gc pgs_nil (by rw [assign_cons sz]; rfl)) (by rw [assign_cons sy]; rfl)) (by rw [assign_cons sx]; rfl)) (n := 3) (by rw [e1]; rfl) (by rw [e1]; rfl)) fun v σ H Q q => ?_
      obtain ⟨ρ, π, F, d, ρ', S, r, hb, q⟩ := q
      match d, hb with
      | .tuple [d1, d2, d3], hb =>
        simp only [bindT, Option.bind_eq_some_iff] at hb
        obtain ⟨ρ2, ⟨ρ1, b1, b2⟩, b3⟩ := hb
        obtain ⟨t, vs, rfl, ht, rv⟩ := rp_tuple r
        cases rv with
        | cons r1 r2 =>
          cases r2 with
          | cons r2 r3 =>
            cases r3 with
            | cons r3 r4 =>
              cases r4
              refine ⟨t, _, rfl, ex_sqT S.ex ht, rfl, _, _, rfl, ρ, π, F, d1, ρ1, S, r1, b1, fun σ1 S1 st1 w1 => ⟨_, _, rfl, ρ1, π, F, d2, ρ2, S1, r2, b2, fun σ2 S2 st2 w2 => ⟨_, _, rfl, ρ2, π, F, d3, ρ', S2, r3, b3, fun σ3 S3 st3 w3 => ⟨rfl, q σ3 S3 ((st1.trans st2).trans st3) fun own ho => ?_⟩⟩⟩⟩
              simp only [tgIn, Bool.and_eq_true] at ho
              rw [w3 own ho.2, w2 own ho.1.2, w1 own ho.1.1]
    · cases h
  | .t4 a b c d, X, x, hK, hc, hN, fn, hfn, h => by
    simp only [chkTg] at h
    split at h
    · rename_i x y z u k p
      simp only [Bool.and_eq_true] at h
      have ga := g_ok (pa := pa) a X x hK hc hN fn hfn h.1.1.1
      have gb := g_ok (pa := pa) b X y hK hc hN fn hfn h.1.1.2
      have gc := g_ok (pa := pa) c X z hK hc hN fn hfn h.1.2
      have gd := g_ok (pa := pa) d X u hK hc hN fn hfn h.2
      subst hK
      have sx := chkTg_star h.1.1.1
      have sy := chkTg_star h.1.1.2
      have sz := chkTg_star h.1.2
      have su := chkTg_star h.2
      have e1 : assignEach [x, y, z, u] X.env = [(false, assign x X.env), (false, assign y X.env), (false, assign z X.env), (false, assign u X.env)] := by rw [assign_cons sx, assign_cons sy, assign_cons sz, assign_cons su]; rfl
      refine PG.imp (pg_tup hc (pgs_cons ga (pgs_cons gb (pgs_cons gc (pgs_cons gd pgs_nil (by rw [assign_cons su]; rfl)) (by rw [assign_cons sz]; rfl)) (by rw [assign_cons sy]; rfl)) (by rw [assign_cons sx]; rfl)) (n := 4) (by rw [e1]; rfl) (by rw [e1]; rfl)) fun v σ H Q q => ?_
      obtain ⟨ρ, π, F, d, ρ', S, r, hb, q⟩ := q
      match d, hb with
      | .tuple [d1, d2, d3, d4], hb =>
        simp only [bindT, Option.bind_eq_some_iff] at hb
        obtain ⟨ρ3, ⟨ρ2, ⟨ρ1, b1, b2⟩, b3⟩, b4⟩ := hb
        obtain ⟨t, vs, rfl, ht, rv⟩ := rp_tuple r
        cases rv with
        | cons r1 r2 =>
          cases r2 with
          | cons r2 r3 =>
            cases r3 with
            | cons r3 r4 =>
              cases r4 with
              | cons r4 r5 =>
                cases r5
                refine ⟨t, _, rfl, ex_sqT S.ex ht, rfl, _, _, rfl, ρ, π, F, d1, ρ1, S, r1, b1, fun σ1 S1 st1 w1 => ⟨_, _, rfl, ρ1, π, F, d2, ρ2, S1, r2, b2, fun σ2 S2 st2 w2 => ⟨_, _, rfl, ρ2, π, F, d3, ρ3, S2, r3, b3, fun σ3 S3 st3 w3 => ⟨_, _, rfl, ρ3, π, F, d4, ρ', S3, r4, b4, fun σ4 S4 st4 w4 => ⟨rfl, q σ4 S4 (((st1.trans st2).trans st3).trans st4) fun own ho => ?_⟩⟩⟩⟩⟩
                simp only [tgIn, Bool.and_eq_true] at ho
                rw [w4 own ho.2, w3 own ho.1.2, w2 own ho.1.1.2, w1 own ho.1.1.1]
    · cases h
end SR
end
section
/-! SrComp2: list comprehensions. -/
namespace SR
open PySem PySem.Spec PyProof.Rows L2
variable [Wd]
theorem ownP_map {N : List Str} : ∀ {own : List Nat} {l : List (Str × Nat)}, ownP N own = some l → l.map (·.2) = own
  | [], l, h => by cases h; rfl
  | i :: r, l, h => by
    simp only [ownP] at h
    split at h
    · rename_i x l' _ e
      cases h
      rw [List.map_cons, ownP_map e]
    · cases h
theorem blk_ok {N : List Str} {sc scope : Scope} {own : List Nat} (h : blkB N sc scope own = true) : ∃ l, BlkOk N sc scope l ∧ l.map (·.2) = own := by
  unfold blkB at h
  split at h
  · rename_i l e; exact ⟨l, blkOk_by h, ownP_map e⟩
  · cases h
/-- a heap in which the new list at L stands beside what data speak of -/
structure Beside (K : PySem.W.Frag) (pa : Option Addr) (F1 H1 : Hp) (L : Addr) (π : Pool) (acc : List V) (ds : List D) (F H : Hp) : Prop where
  g : Grow pa F1 H1 F H
  P : PoolAt K pa F H π
  n : F L = none
  at_ : H L = some (.lst acc)
  r : RpAll K F acc ds
section
variable {K : PySem.W.Frag} {pa : Option Addr} {F1 H1 F H F' H' : Hp} {L : Addr} {π π' : Pool} {acc : List V} {ds : List D}
theorem Beside.next (b : Beside K pa F1 H1 L π acc ds F H) (np : pa ≠ some L) (g : Grow pa F H F' H') (P : PoolAt K pa F' H' π') : Beside K pa F1 H1 L π' acc ds F' H' :=
  ⟨b.g.trans g, P, g.n L _ b.at_ b.n, g.h L _ (fun e => np e.symm) b.at_, b.r.mono g.f⟩
theorem Beside.push {v : V} {d : D} (b : Beside K pa F1 H1 L π acc ds F H) (np : pa ≠ some L) (hL : H1 L = none) (r : Rp K F v d) :
    Beside K pa F1 H1 L π (acc ++ [v]) (ds ++ [d]) F (upd H L (.lst (acc ++ [v]))) where
  g := ⟨b.g.f, fun a o e => by rw [upd_ne (ne_of_none e b.n)]; exact b.g.sub a o e, fun a o ne e => by rw [upd_ne (ne_of_none e hL)]; exact b.g.h a o ne e, b.g.n, fun a e o q => by
    obtain ⟨o', q'⟩ := b.g.p a e o q
    exact ⟨o', by rw [upd_ne (ne_of_none q hL)]; exact q'⟩⟩
  P := fun a e => by
    obtain ⟨n1, sa, h1, h2⟩ := b.P a e
    exact ⟨n1, sa, by rw [upd_ne (fun z => np (by rw [e, z]))]; exact h1, h2⟩
  n := b.n
  at_ := upd_same
  r := b.r.append (.cons r .nil)
theorem Beside.start (ex : Ex F H) (P : PoolAt K pa F H π) (hL : H L = none) : Beside K pa F H L π [] [] F (upd H L (.lst [])) :=
  ⟨Grow.scrap ex hL, P.scrap hL, ex_back ex hL, upd_same, .nil⟩
end
theorem compL_len {g : D → M (Option D)} : ∀ {ds : List D} {π π' : Pool} {ys : List D}, compL g ds π = some (ys, π') → ys.length ≤ ds.length
  | [], π, π', ys, h => by cases h; exact Nat.le_refl _
  | d :: ds, π, π', ys, h => by
    simp only [compL] at h
    replace h := bnd_some h; obtain ⟨o, π1, e1, h⟩ := h
    replace h := bnd_some h; obtain ⟨r, π2, e2, h⟩ := h
    have ih := compL_len e2
    cases h
    cases o with
    | none => exact Nat.le_succ_of_le ih
    | some y => exact Nat.succ_le_succ ih
abbrev vComp (tg : Tg) (own : List Nat) (ft : Sl → M Bool) (fe : Sl → M D) (ρ : Sl) : D → M (Option D) := fun x => match bindT tg x (wipeS ρ own) with
  | some ρ' => bnd (ft ρ') fun k => if k then bnd (fe ρ') fun y => ret (some y) else ret none
  | none => stuck
/-- J walks ds while what F2 holds stands -/
structure GoesC (K : PySem.W.Frag) (F F2 : Hp) (J : It) (ds : List D) : Prop where
  len : ds.length ≤ sizeLine
  go : ∀ i H, Ex F2 H → i < ds.length → J.go i H
  stop : ∀ H, Ex F2 H → J.stop ds.length H
  yld : ∀ i G H x H' d, Ex F G → Ex G H → Ex F2 H → ds[i]? = some d → J.yld i H x H' → ∃ G', Grow none G H G' H' ∧ Rp K G' x d
theorem Goes.toC {K : PySem.W.Frag} {F : Hp} {J : It} {ds : List D} (h : Goes K F J ds) : GoesC K F F J ds := ⟨h.len, h.go, h.stop, fun i G H x H' d a b _ => h.yld i G H x H' d a b⟩
def Kp (pa : Option Addr) (H H' : Hp) : Prop := ∀ a o, some a ≠ pa → H a = some o → H' a = some o
/-- what is walked where nothing is written -/
def tDIC (K : PySem.W.Frag) (pa : Option Addr) (f : Sl → M (List D)) : TI := fun σ H R => ∃ ρ π F ds π', Stt K pa σ ρ π F H ∧ f ρ π = some (ds, π') ∧ ∀ F' H' J F2, Grow pa F H F' H' → PoolAt K pa F' H' π' → (∀ H'', Kp pa H' H'' → Ex F2 H'') → GoesC K F' F2 J ds → R J H'
theorem pi_weak {X : Cx} {pa : Option Addr} {t x : Expr} {f : Sl → M (List D)} (h : PI X t x (tDI X.K pa f)) : PI X t x (tDIC X.K pa f) :=
  PI.imp h fun σ H R q => by
    obtain ⟨ρ, π, F, ds, π', S, hf, q⟩ := q
    exact ⟨ρ, π, F, ds, π', S, hf, fun F' H' J g P gs => q F' H' J F' g P (fun H'' kp a o e => kp a o (fun z => by
      obtain ⟨n1, _⟩ := P a z.symm
      rw [n1] at e; cases e) (g.sub a o e)) gs.toC⟩
theorem lc_of {K : PySem.W.Frag} {pa : Option Addr} {tg : Tg} {own : List Nat} {fi : Sl → M (List D)} {ft : Sl → M Bool} {fe : Sl → M D} (hin : tgIn own tg = true) {σ : L2.St} {H : Hp} {Q : VK}
    (h : tDL K pa (fun ρ => bnd (fi ρ) fun ds => compL (vComp tg own ft fe ρ) ds) σ H Q) : tLc (tDIC K pa fi) (tDG K pa tg) (tDT K pa ft) (tD K pa fe) own σ H Q := by
  obtain ⟨ρ, π, F, ys, π', S, hf, q⟩ := h
  replace hf := bnd_some hf; obtain ⟨ds, π1, e1, hf⟩ := hf
  refine ⟨ρ, π, F, ds, π1, S, e1, fun F1 H1 J F2 g1 P1 kp gs L hL => ?_⟩
  have np : pa ≠ some L := Grow.np P1 hL
  have hHL : H L = none := by
    cases e : H L with
    | none => rfl
    | some o => rw [g1.h L o (fun z => np z.symm) e] at hL; cases hL
  refine ⟨fun i m H' => i ≤ ds.length ∧ m = ds.length - i ∧ ∃ F' π2 acc accD rest, Beside K pa F1 H1 L π2 acc accD F' H' ∧ acc.length ≤ i ∧ compL (vComp tg own ft fe ρ) (ds.drop i) π2 = some (rest, π') ∧ ys = accD ++ rest,
    ⟨ds.length, Nat.zero_le _, rfl, F1, π1, [], [], ys, Beside.start g1.sub P1 hL, Nat.le_refl _, hf, rfl⟩, ?_⟩
  rintro i m H' ⟨hi', rfl, F', π2, acc, accD, rest, B, hacc, hrest, hys⟩
  have exF : Ex F2 H' := kp H' B.g.h
  by_cases hlt : i < ds.length
  · refine .inr ⟨gs.go i H' exF hlt, fun H'' => ∃ F' π2 acc accD rest', Beside K pa F1 H1 L π2 acc accD F' H'' ∧ acc.length ≤ i + 1 ∧ compL (vComp tg own ft fe ρ) (ds.drop (i + 1)) π2 = some (rest', π') ∧ ys = accD ++ rest', ?_, ?_⟩
    · rintro H'' ⟨F', π2, acc, accD, rest', B, h1, h2, h3⟩
      exact ⟨ds.length - (i + 1), by omega, by omega, rfl, F', π2, acc, accD, rest', B, h1, h2, h3⟩
    · intro x H'' hy
      rw [List.drop_eq_getElem_cons hlt] at hrest
      simp only [compL] at hrest
      replace hrest := bnd_some hrest; obtain ⟨o, π3, e2, hrest⟩ := hrest
      replace hrest := bnd_some hrest; obtain ⟨r, π4, e3, hrest⟩ := hrest
      have e3' : π4 = π' ∧ rest = o.toList ++ r := by cases hrest; exact ⟨rfl, rfl⟩
      obtain ⟨rfl, hr⟩ := e3'
      obtain ⟨G', gG, rx⟩ := gs.yld i F' H' x H'' ds[i] B.g.f B.g.sub exF (List.getElem?_eq_getElem hlt) hy
      have B2 := B.next np gG.any (B.P.grow0 gG)
      unfold vComp at e2
      cases hbt : bindT tg ds[i] (wipeS ρ own) with
      | none => rw [hbt] at e2; cases e2
      | some ρ' =>
        rw [hbt] at e2
        dsimp only at e2
        replace e2 := bnd_some e2; obtain ⟨b, π5, e4, e2⟩ := e2
        refine ⟨wipeS ρ own, π2, G', ds[i], ρ', ⟨((S.env.grow g1).grow B2.g).wiped own, B2.g.sub, B2.P⟩, rx, hbt, fun σ' S' st w' => ⟨by rw [w' own hin, wipe_wipe], ρ', π2, G', b, π5, S', e4, fun F3 H3 g3 P3 => ?_⟩⟩
        have B3 := B2.next np g3 P3
        dsimp only
        cases b with
        | false =>
          rw [if_neg Bool.false_ne_true]
          rw [if_neg Bool.false_ne_true] at e2
          cases e2
          exact ⟨F3, _, acc, accD, r, B3, Nat.le_succ_of_le hacc, e3, by rw [hys, hr]; rfl⟩
        | true =>
          rw [if_pos rfl]
          rw [if_pos rfl] at e2
          replace e2 := bnd_some e2; obtain ⟨y, π6, e5, e2⟩ := e2
          cases e2
          refine ⟨ρ', π5, F3, y, _, S'.next g3 P3, e5, fun F4 H4 v g4 P4 r4 => ?_⟩
          have B4 := B3.next np g4 P4
          refine ⟨acc, B4.at_, Nat.lt_of_lt_of_le (Nat.lt_of_le_of_lt hacc hlt) gs.len, F4, _, acc ++ [v], accD ++ [y], r, B4.push np hL r4, by simp; omega, e3, by rw [hys, hr]; simp⟩
  · have hie : i = ds.length := by omega
    subst hie
    rw [List.drop_length] at hrest
    cases hrest
    refine .inl ⟨gs.stop H' exF, q F' H' L acc (g1.trans B.g) B.P hHL B.n np B.at_ (Nat.le_trans hacc gs.len) (by rw [hys, List.append_nil]; exact B.r)⟩
theorem s_compL {X : Cx} {pa : Option Addr} {y w t : Expr} {ifs : List Expr} {scope : Scope} {pos : Pos} {tg : Tg} {own : List Nat} {fi : Sl → M (List D)} {ft : Sl → M Bool} {fe : Sl → M D} (hc : X.calm = true) (hN : X.N.Nodup)
    (hb : blkB X.N X.env.scope scope own = true) (hin : tgIn own tg = true) (hset : ∀ v, foldedSetIterable w X.env v = pure v) (hi : PI X t w (tDIC X.K pa fi))
    (hg : ∀ (s : Shared) (H : Hp) (C : Addr) (cl : List (Str × Addr)) (fp : List Addr), PG (X.blk s H scope (compEnvC scope cl C X.env) fp) t (tDG X.K pa tg)) (ht : ∀ (s : Shared) (H : Hp) (C : Addr) (cl : List (Str × Addr)) (fp : List Addr), PTs (X.blk s H scope (compEnvC scope cl C X.env) fp) ifs (tDT X.K pa ft))
    (he : ∀ (s : Shared) (H : Hp) (C : Addr) (cl : List (Str × Addr)) (fp : List Addr), PE (X.blk s H scope (compEnvC scope cl C X.env) fp) y (tD X.K pa fe)) :
    PE X (.ListComp y [⟨t, w, ifs, 0⟩] scope pos) (tDL X.K pa fun ρ => bnd (fi ρ) fun ds => compL (vComp tg own ft fe ρ) ds) := by
  obtain ⟨l, ok, hl⟩ := blk_ok hb
  refine PE.imp (pe_lc hc hN hi ok hg ht he hset) fun σ H Q h => ?_
  rw [hl]
  exact lc_of hin h
end SR
end
section
/-! SrComp3: list comprehensions of two clauses; the last forms. -/
namespace SR
open PySem PySem.Spec PyProof.Rows L2
variable [Wd]
theorem ts_nil {X : Cx} {pa : Option Addr} : PTs X [] (tDT X.K pa fun _ => ret true) := by
  refine ⟨fun pins s σ H Q I h => pts_nil.run pins s σ H Q I ?_⟩
  obtain ⟨ρ, π, F, b, π', S, hf, q⟩ := h
  cases hf
  exact q F H (Grow.refl S.ex) S.pool
theorem ts_one {X : Cx} {pa : Option Addr} {c : Expr} {f : Sl → M Bool} (h : PT X c (tDT X.K pa f)) : PTs X [c] (tDT X.K pa f) := pts_one h
theorem yes_of {K : PySem.W.Frag} {pa : Option Addr} {σ : L2.St} {H : Hp} {Q : Bool → Hp → Prop} (h : tDT K pa (fun _ => ret true) σ H Q) : tYes σ H Q := by
  obtain ⟨ρ, π, F, b, π', S, hf, q⟩ := h
  cases hf
  exact q F H (Grow.refl S.ex) S.pool
abbrev vIn (tg : Tg) (own : List Nat) (fe : Sl → M D) (ρ : Sl) : D → M (Option D) := fun x => match bindT tg x (wipeS ρ own) with
  | some ρ2 => bnd (fe ρ2) fun y => ret (some y)
  | none => stuck
abbrev vComp2 (tg : Tg) (own : List Nat) (fi1 : Sl → M (List D)) (tg1 : Tg) (own1 : List Nat) (fe : Sl → M D) (ρ : Sl) : D → M (List D) := fun x => match bindT tg x (wipeS ρ own) with
  | some ρ' => bnd (fi1 ρ') fun ds => compL (vIn tg1 own1 fe ρ') ds
  | none => stuck
/-- no own object of these slots lies at L -/
def Far (L : Addr) (σ : L2.St) (ρ : Sl) : Prop := ∀ (i : Nat) c, ρ[i]? = some (.own c) → σ[i]? ≠ some (some (.ref L))
theorem Env.far {K : PySem.W.Frag} {pa : Option Addr} {σ : L2.St} {ρ : Sl} {F H : Hp} (e : Env K pa σ ρ F H) {L : Addr} (h : H L = none) : Far L σ ρ := fun i c hc hs => by
  obtain ⟨a, h1, h2⟩ := e.own i c hc
  rw [h1] at hs
  cases hs
  obtain ⟨o, ho⟩ := h2.at_.there
  rw [h] at ho; cases ho
theorem Far.wiped {L : Addr} {σ : L2.St} {ρ : Sl} (h : Far L σ ρ) (own : List Nat) : Far L (wipe σ own) (wipeS ρ own) := fun i c hc => by
  rw [wipeS_get] at hc
  rw [wipe_get]
  by_cases hj : i ∈ own
  · rw [if_pos hj] at hc; cases some_map_no hc
  · rw [if_neg hj] at hc ⊢; exact h i c hc
theorem Far.sto {L : Addr} {σ σ' : L2.St} {ρ ρ' : Sl} (h : Far L σ ρ) (s : Sto σ ρ σ' ρ') : Far L σ' ρ' := fun i c hc => by
  rcases s i with ⟨h1, h2⟩ | ⟨d, h1⟩
  · rw [h1]; rw [h2] at hc; exact h i c hc
  · rw [h1] at hc; cases hc
theorem Env.over {K : PySem.W.Frag} {pa : Option Addr} {σ : L2.St} {ρ : Sl} {F H : Hp} (e : Env K pa σ ρ F H) {L : Addr} {o : HO} (f : Far L σ ρ) : Env K pa σ ρ F (upd H L o) where
  len := e.len
  dat := e.dat
  own := fun i c hc => by
    obtain ⟨a, h1, h2⟩ := e.own i c hc
    have hne : a ≠ L := fun z => by subst z; exact f i c hc h1
    refine ⟨a, h1, h2.f, h2.np, ?_⟩
    cases c with
    | lst ds => obtain ⟨vs, k1, k2, k3⟩ := h2.at_; exact ⟨vs, by rw [upd_ne hne]; exact k1, k2, k3⟩
    | dic kvs => obtain ⟨es, ep, k1, k2⟩ := h2.at_; exact ⟨es, ep, by rw [upd_ne hne]; exact k1, k2⟩
  inj := e.inj
  pool := e.pool
theorem lc2_of {K : PySem.W.Frag} {pa : Option Addr} {tg tg1 : Tg} {own own1 : List Nat} {fi fi1 : Sl → M (List D)} {fe : Sl → M D} (hin : tgIn own tg = true) (hin1 : tgIn own1 tg1 = true) {σ : L2.St} {H : Hp} {Q : VK}
    (h : tDL K pa (fun ρ => bnd (fi ρ) fun ds => bnd (flatL (vComp2 tg own fi1 tg1 own1 fe ρ) ds) fun ys => if ys.length ≤ sizeLine then ret ys else stuck) σ H Q) :
    tLc2 (tDI K pa fi) (tDG K pa tg) (tDT K pa fun _ => ret true) (tDI K pa fi1) (tDG K pa tg1) (tDT K pa fun _ => ret true) (tD K pa fe) own own1 σ H Q := by
  obtain ⟨ρ, π, F, ys, π', S, hf, q⟩ := h
  replace hf := bnd_some hf; obtain ⟨ds, π1, e1, hf⟩ := hf
  replace hf := bnd_some hf; obtain ⟨ys', π', e2, hf⟩ := hf
  split at hf
  case isFalse => cases hf
  rename_i hsz
  cases hf
  refine ⟨ρ, π, F, ds, π1, S, e1, fun F1 H1 J g1 P1 gs L hL => ?_⟩
  have np : pa ≠ some L := Grow.np P1 hL
  have far0 : Far L (wipe σ own) (wipeS ρ own) := ((S.env.grow g1).far hL).wiped own
  have hHL : H L = none := by
    cases e : H L with
    | none => rfl
    | some o => rw [g1.h L o (fun z => np z.symm) e] at hL; cases hL
  refine ⟨fun i m H' => i ≤ ds.length ∧ m = ds.length - i ∧ ∃ F' π2 acc accD rest, Beside K pa F1 H1 L π2 acc accD F' H' ∧ flatL (vComp2 tg own fi1 tg1 own1 fe ρ) (ds.drop i) π2 = some (rest, π') ∧ ys = accD ++ rest,
    ⟨ds.length, Nat.zero_le _, rfl, F1, π1, [], [], ys, Beside.start g1.sub P1 hL, e2, rfl⟩, ?_⟩
  rintro i m H' ⟨hi', rfl, F', π2, acc, accD, rest, B, hrest, hys⟩
  have exF : Ex F1 H' := ex_trans B.g.f B.g.sub
  by_cases hlt : i < ds.length
  · refine .inr ⟨gs.go i H' exF hlt, fun H'' => ∃ F' π2 acc accD rest', Beside K pa F1 H1 L π2 acc accD F' H'' ∧ flatL (vComp2 tg own fi1 tg1 own1 fe ρ) (ds.drop (i + 1)) π2 = some (rest', π') ∧ ys = accD ++ rest', ?_, ?_⟩
    · rintro H'' ⟨F', π2, acc, accD, rest', B, h2, h3⟩
      exact ⟨ds.length - (i + 1), by omega, by omega, rfl, F', π2, acc, accD, rest', B, h2, h3⟩
    · intro x H'' hy
      rw [List.drop_eq_getElem_cons hlt] at hrest
      simp only [flatL] at hrest
      replace hrest := bnd_some hrest; obtain ⟨o, π3, f2, hrest⟩ := hrest
      replace hrest := bnd_some hrest; obtain ⟨r, π4, f3, hrest⟩ := hrest
      have f3' : π4 = π' ∧ rest = o ++ r := by cases hrest; exact ⟨rfl, rfl⟩
      obtain ⟨rfl, hr⟩ := f3'
      obtain ⟨G', gG, rx⟩ := gs.yld i F' H' x H'' ds[i] B.g.f B.g.sub (List.getElem?_eq_getElem hlt) hy
      have B2 := B.next np gG.any (B.P.grow0 gG)
      unfold vComp2 at f2
      cases hbt : bindT tg ds[i] (wipeS ρ own) with
      | none => rw [hbt] at f2; cases f2
      | some ρ' =>
        rw [hbt] at f2
        dsimp only at f2
        replace f2 := bnd_some f2; obtain ⟨es, π5, f4, f2⟩ := f2
        refine ⟨wipeS ρ own, π2, G', ds[i], ρ', ⟨((S.env.grow g1).grow B2.g).wiped own, B2.g.sub, B2.P⟩, rx, hbt, fun σ' S' st w' => ⟨by rw [w' own hin, wipe_wipe], ρ', π2, G', true, π2, S', rfl, fun F3 H3 g3 P3 => ?_⟩⟩
        dsimp only
        rw [if_pos rfl]
        have B3 := B2.next np g3 P3
        refine ⟨ρ', π2, F3, es, π5, S'.next g3 P3, f4, fun F4 H4 J1 g4 P4 gs1 => ?_⟩
        have B4 := B3.next np g4 P4
        have S4 := (S'.next g3 P3).next g4 P4
        refine ⟨fun j k Hj => j ≤ es.length ∧ k = es.length - j ∧ ∃ Fj πj accj accDj restj, Ex F4 Fj ∧ Env K pa σ' ρ' Fj Hj ∧ Beside K pa F1 H1 L πj accj accDj Fj Hj ∧ compL (vIn tg1 own1 fe ρ') (es.drop j) πj = some (restj, π3) ∧ ys = accDj ++ restj ++ r,
          ⟨es.length, Nat.zero_le _, rfl, F4, π5, acc, accD, o, ex_refl F4, S4.env, B4, f2, by rw [hys, hr, List.append_assoc]⟩, ?_⟩
        rintro j k Hj ⟨hj', rfl, Fj, πj, accj, accDj, restj, gj, Ej, Bj, hrestj, hysj⟩
        have exFj : Ex F4 Hj := ex_trans gj Bj.g.sub
        by_cases hltj : j < es.length
        · refine .inr ⟨gs1.go j Hj exFj hltj, fun Hj => ∃ Fj πj accj accDj restj, Ex F4 Fj ∧ Env K pa σ' ρ' Fj Hj ∧ Beside K pa F1 H1 L πj accj accDj Fj Hj ∧ compL (vIn tg1 own1 fe ρ') (es.drop (j + 1)) πj = some (restj, π3) ∧ ys = accDj ++ restj ++ r, ?_, ?_⟩
          · rintro Hk ⟨Fk, πk, acck, accDk, restk, gk, Ek, Bk, h2, h3⟩
            exact ⟨es.length - (j + 1), by omega, by omega, rfl, Fk, πk, acck, accDk, restk, gk, Ek, Bk, h2, h3⟩
          · intro x1 Hk hy1
            rw [List.drop_eq_getElem_cons hltj] at hrestj
            simp only [compL] at hrestj
            replace hrestj := bnd_some hrestj; obtain ⟨o1, π6, f6, hrestj⟩ := hrestj
            replace hrestj := bnd_some hrestj; obtain ⟨r1, π7, f7, hrestj⟩ := hrestj
            have f7' : π7 = π3 ∧ restj = o1.toList ++ r1 := by cases hrestj; exact ⟨rfl, rfl⟩
            obtain ⟨rfl, hr1⟩ := f7'
            obtain ⟨Gk, gK, rx1⟩ := gs1.yld j Fj Hj x1 Hk es[j] gj Bj.g.sub (List.getElem?_eq_getElem hltj) hy1
            have Bk := Bj.next np gK.any (Bj.P.grow0 gK)
            have Ek := Ej.grow gK.any
            unfold vIn at f6
            cases hbt1 : bindT tg1 es[j] (wipeS ρ' own1) with
            | none => rw [hbt1] at f6; cases f6
            | some ρ2 =>
              rw [hbt1] at f6
              dsimp only at f6
              replace f6 := bnd_some f6; obtain ⟨z, π8, f8, f6⟩ := f6
              cases f6
              refine ⟨wipeS ρ' own1, πj, Gk, es[j], ρ2, ⟨Ek.wiped own1, Bk.g.sub, Bk.P⟩, rx1, hbt1, fun σ2 S2 st2 w2 => ⟨by rw [w2 own1 hin1, wipe_wipe], ρ2, πj, Gk, true, πj, S2, rfl, fun F5 H5 g5 P5 => ?_⟩⟩
              dsimp only
              rw [if_pos rfl]
              refine ⟨ρ2, πj, F5, z, _, S2.next g5 P5, f8, fun F6 H6 v g6 P6 r6 => ?_⟩
              have B6 := (Bk.next np g5 P5).next np g6 P6
              have hlen : accj.length < sizeLine := by
                have e1 := B6.r.len
                have e2 := congrArg List.length hysj
                rw [hr1] at e2
                simp at e2
                omega
              exact ⟨accj, B6.at_, hlen, F6, _, accj ++ [v], accDj ++ [z], r1, ex_trans (ex_trans (ex_trans gj gK.f) g5.f) g6.f, ((Ek.grow g5).grow g6).over (far0.sto st), B6.push np hL r6, f7, by rw [hysj, hr1]; simp⟩
        · have hje : j = es.length := by omega
          subst hje
          rw [List.drop_length] at hrestj
          cases hrestj
          refine .inl ⟨gs1.stop Hj exFj, Fj, _, accj, accDj, r, Bj, f3, by rw [hysj, List.append_nil]⟩
  · have hie : i = ds.length := by omega
    subst hie
    rw [List.drop_length] at hrest
    cases hrest
    refine .inl ⟨gs.stop H' exF, q F' H' L acc (g1.trans B.g) B.P hHL B.n np B.at_ (by rw [B.r.len]; rw [List.append_nil] at hys; rw [← hys]; exact hsz) (by rw [hys, List.append_nil]; exact B.r)⟩
theorem s_compL2 {X : Cx} {pa : Option Addr} {y w t w1 t1 : Expr} {scope : Scope} {pos : Pos} {tg tg1 : Tg} {own own1 : List Nat} {fi fi1 : Sl → M (List D)} {fe : Sl → M D} (hc : X.calm = true) (hN : X.N.Nodup)
    (hb : blkB X.N X.env.scope scope own = true) (hin : tgIn own tg = true) (hin1 : tgIn own1 tg1 = true) (hsub : ∀ i ∈ own1, i ∈ own) (hset : ∀ v, foldedSetIterable w X.env v = pure v) (hset1 : ∀ env v, foldedSetIterable w1 env v = pure v) (hi : PI X t w (tDI X.K pa fi))
    (hg : ∀ (s : Shared) (H : Hp) (C : Addr) (cl : List (Str × Addr)) (fp : List Addr), PG (X.blk s H scope (compEnvC scope cl C X.env) fp) t (tDG X.K pa tg))
    (hi1 : ∀ (s : Shared) (H : Hp) (C : Addr) (cl : List (Str × Addr)) (fp : List Addr), PI (X.blk s H scope (compEnvC scope cl C X.env) fp) t1 w1 (tDI X.K pa fi1))
    (hg1 : ∀ (s : Shared) (H : Hp) (C : Addr) (cl : List (Str × Addr)) (fp : List Addr), PG (X.blk s H scope (compEnvC scope cl C X.env) fp) t1 (tDG X.K pa tg1))
    (he : ∀ (s : Shared) (H : Hp) (C : Addr) (cl : List (Str × Addr)) (fp : List Addr), PE (X.blk s H scope (compEnvC scope cl C X.env) fp) y (tD X.K pa fe)) :
    PE X (.ListComp y [⟨t, w, [], 0⟩, ⟨t1, w1, [], 0⟩] scope pos) (tDL X.K pa fun ρ => bnd (fi ρ) fun ds => bnd (flatL (vComp2 tg own fi1 tg1 own1 fe ρ) ds) fun ys => if ys.length ≤ sizeLine then ret ys else stuck) := by
  obtain ⟨l, ok, hl⟩ := blk_ok hb
  have hn : ∀ (s : Shared) (H : Hp) (C : Addr) (cl : List (Str × Addr)) (fp : List Addr), PTs (X.blk s H scope (compEnvC scope cl C X.env) fp) [] (tDT X.K pa fun _ => ret true) := fun s H C cl fp => ts_nil (X := X.blk s H scope (compEnvC scope cl C X.env) fp)
  refine PE.imp (pe_lc2 (vs1 := own1) hc hN hi ok (by rw [hl]; exact hsub) hg hn hi1 hg1 hn he hset hset1) fun σ H Q h => ?_
  rw [hl]
  exact lc2_of hin hin1 h
end SR
end
section
/-! SrRev: x[::-1] of lists, tuples, texts. -/
namespace SR
open PySem PySem.Spec PyProof.Rows L2
variable [Wd]
section
variable {prog : Program} {w : World} {A : Around} {E : Value → Shared → Prop} {s : Shared}
theorem sliceApplied_back {sl : Addr} {vs : Value} {n : Nat} {Q : Int × Int × Nat → Shared → Prop} (hs : s.heap.IsSliceOf sl .none .none vs) (ps : IsPart vs (some (-1)))
    (h : Q ((n : Int) - 1, -1, n) s) : wpAny (model prog w) A (Builtin.Slice.sliceApplied (.ref sl) (pure (n : Int))) Q E s := by
  obtain ⟨os, hos, hcs, hds⟩ := id hs
  unfold Builtin.Slice.sliceApplied Builtin.Slice.sliceFields
  refine wpAny_bind (wpAny_bind (wpAny_field hos hds (x := .none) rfl (wpAny_bind (wpAny_field hos hds (x := .none) rfl (wpAny_bind (wpAny_field hos hds (x := vs) rfl (wpAny_pure ?_)))))))
  refine wpAny_bind (HT.slicePart_ ps ?_)
  show wpAny _ _ (if ((-1 : Int) == 0) = true then _ else _) _ _ s
  rw [if_neg (by decide)]
  refine wpAny_bind (slicePart_none (wpAny_bind (slicePart_none (wpAny_bind (wpAny_pure ?_)))))
  have e : Builtin.Slice.slicePlaces ((n : Int) - 1) (-1) (-1) = n := by
    unfold Builtin.Slice.slicePlaces
    have h1 : ¬ ((-1 : Int) > 0) := by decide
    simp only [h1, if_false]
    by_cases h : (n : Int) - 1 > -1
    · simp only [h, if_true]
      rw [show (- -1 : Int) = 1 by decide, Int.ediv_one]
      omega
    · simp only [h, if_false]; omega
  show wpAny _ _ (pure ((n : Int) - 1, (-1 : Int), Builtin.Slice.slicePlaces ((n : Int) - 1) (-1) (-1))) _ _ s
  rw [e]
  exact wpAny_pure h
theorem pick_back (xs : Array Value) : ((List.range xs.size).filterMap fun (m : Nat) => xs[((xs.size : Int) - 1 + (m : Int) * (-1)).toNat]?).toArray = xs.toList.reverse.toArray := by
  have e : (fun (m : Nat) => xs[((xs.size : Int) - 1 + (m : Int) * (-1)).toNat]?) = fun m => xs[xs.size - 1 - m]? := by
    funext m
    have : ((xs.size : Int) - 1 + (m : Int) * (-1)).toNat = xs.size - 1 - m := by omega
    rw [this]
  rw [e]
  have h := PySem.W.krv_pick xs
  unfold slicePick at h
  rw [PySem.W.krv_bounds] at h
  rw [← h]
  show _ = ((sliceRange ((xs.size : Int) - 1) (-1) (-1)).filterMap (xs[·]?)).toArray
  rw [PySem.W.krv_sliceRange, List.filterMap_map]
  rfl
theorem getItem_tuple_back {t sl : Addr} {items : Array Value} {vs : Value} {Q : Value → Shared → Prop} (ht : IsTup s.heap t items) (hs : s.heap.IsSliceOf sl .none .none vs) (ps : IsPart vs (some (-1)))
    (h : Q (.ref s.heap.objs.size) { s with heap := s.heap.push { cls := .type "tuple", data := .seq items.toList.reverse.toArray } })
    (hsz : items.size ≤ sizeLine) : wpAny (model prog w) A (getItem (.ref t) (.ref sl)) Q E s := by
  have htake : sizeOk (.seq items.toList.reverse.toArray) := by
    show items.toList.reverse.toArray.size ≤ sizeLine
    simpa using hsz
  obtain ⟨os, hos, hcs, hds⟩ := id hs
  have hTs : s.TypeIs (.ref sl) "slice" := ⟨os, hos, hcs⟩
  unfold getItem
  try with_reducible refine wpAny_holding ?_
  first | refine wpAny_bind (wpAny_pure ?_) | skip
  refine wpAny_bind (wpAny_sequenceKey ht.typeIs (by decide) ?_)
  refine wpAny_bind (wpAny_callSpecial?_slot (name := Str.ofString "__getitem__") ht.typeIs PyProof.Rows.slot_tuple_getitem
    (wpAny_call_entry PyProof.Rows.slot_tuple_getitem ht.typeIs entry_tuple_getitem ?_ (args_tuple_getitem _ _)))
  show wpAny _ _ (Builtin.Tuple.tupleItemsOf (.ref t) >>= _) _ _ s
  refine wpAny_bind (tupleItemsOf_ ht ?_)
  refine wpAny_bind (wpAny_typeOf hTs ?_)
  rw [if_pos (by decide)]
  refine wpAny_bind (sliceApplied_back hs ps ?_)
  have hno : ¬ ((((items.size : Int) - 1) == 0 && (-1 : Int) == 1 && items.size == items.size) = true) := by simp
  show wpAny _ _ (if ((((items.size : Int) - 1) == 0 && (-1 : Int) == 1 && items.size == items.size) = true) then _ else _) _ _ s
  rw [if_neg hno, pick_back]
  first
    | exact wpAny_bind (m := Builtin.Tuple.tupleExact _) (wpAny_newObj_type (wpAny_pure ⟨_, rfl, wpAny_pure h⟩) htake)
    | exact wpAny_bind (m := Builtin.Tuple.tupleExact _) (wpAny_newObj_type (wpAny_bind (wpAny_pure (wpAny_pure ⟨_, rfl, wpAny_pure h⟩))) htake)
    | exact wpAny_bind (wpAny_bind (m := Builtin.Tuple.tupleExact _) (wpAny_newObj_type (wpAny_pure (wpAny_pure ⟨_, rfl, wpAny_pure h⟩)) htake))
    | exact wpAny_bind (wpAny_bind (m := Builtin.Tuple.tupleExact _) (wpAny_newObj_type (wpAny_pure ⟨_, rfl, wpAny_pure h⟩) htake))
end
section
variable {X : Cx} {pa : Option Addr} {a : Expr} {fa : Sl → M D} {pos p1 p2 p3 : Pos}
theorem s_rev {k : Nat} (ha : PE X a (tD X.K pa fa)) : PE X (.Subscript a (.Slice none none (some (.UnaryOp .USub (.Constant (.int 1) k p1) p2)) p3) pos) (tD X.K pa fun ρ => bnd (fa ρ) fun x => lift (revD x)) := by
  refine ⟨fun pins s σ H Q I h => ?_⟩
  obtain ⟨ρ, π, F, d, π', S, hf, q⟩ := h
  replace hf := bnd_some hf; obtain ⟨x, π1, e1, hf⟩ := hf
  obtain ⟨e2, rfl⟩ := lift_eq hf
  refine Subscript_ (thn (ha.run pins s σ H (fun v H1 => ∃ F1, Grow pa F H F1 H1 ∧ PoolAt X.K pa F1 H1 π' ∧ Rp X.K F1 v x) I ⟨ρ, π, F, x, _, S, e1, fun F1 H1 v g P r => ⟨F1, g, P, r⟩⟩) fun v s1 ⟨x0, H1, I1, r1, F1, g1, P1, rx⟩ => ?_)
  have hst : PO X (some (.UnaryOp .USub (.Constant (.int 1) k p1) p2)) (tPart (tUn (rU fun i => .int (-i)) (tC (.int 1)))) := po_some (pe_un un_neg pe_int)
  refine wpAny_Slice (thn (po_none.run pins s1 σ H1 (fun o H2 => o = none ∧ H2 = H1) I1 ⟨rfl, rfl⟩) fun vl s2 ⟨l, H2, I2, pl, el, e2'⟩ => ?_)
  subst el e2'
  refine thn (po_none.run pins s2 σ H2 (fun o H3 => o = none ∧ H3 = H2) I2 ⟨rfl, rfl⟩) fun vu s3 ⟨u, H3, I3, pu, eu, e3⟩ => ?_
  subst eu e3
  refine thn (hst.run pins s3 σ H3 (fun o H4 => o = some (-1) ∧ H4 = H3) I3 ⟨1, rfl, -1, rfl, rfl, rfl⟩) fun vs s4 ⟨o, H4, I4, ps, eo, e4⟩ => ?_
  subst eo e4
  have I5 : L2.Inv X pins σ H4 { s4 with heap := s4.heap.push { cls := .type "slice", data := .fields #[vl, vu, vs] } } := I4.kept (t' := s4.toks) fun b ob q => Heap.get?_push_of_some _ q
  cases pl; cases pu
  cases rx with
  | lst ha ra z =>
    cases e2
    cases r1
    obtain ⟨its, r, ht, hz⟩ := I5.list (SqL.of (g1.sub _ _ ha))
    rename_i adr vals ds _
    show wpAny (model X.prog X.w) X.A (subscriptTail _ (.Slice none none (some (.UnaryOp .USub (.Constant (.int 1) k p1) p2)) p3) (.ref adr) (.ref s4.heap.objs.size)) (EP X pins σ Q) X.xe { s4 with heap := s4.heap.push { cls := .type "slice", data := .fields #[.none, .none, vs] } }
    refine tail_any (ops := [.ref adr, .ref s4.heap.objs.size]) ht.isList.typeIs (PySem.slot_list_getitem.lookup) ?_ (by with_unfolding_all rfl)
    refine wpAny_getItem_list_slice ht.isList (Heap.IsSliceOf.new _ .none .none vs) .none .none ps (by decide) ?_ (by rw [List.size_toArray, ← r.length]; exact z)
    rw [PySem.W.krv_pick]
    have hp := I5.hok.fresh (Nat.le_refl _)
    obtain ⟨g, rz⟩ := new_lst (K := X.K) g1.sub hp ra.reverse (by rw [List.length_reverse]; exact z)
    refine ⟨.ref _, _, I5.laid (t' := s4.toks) (o := .lst vals.reverse) (fun b ob q => Heap.get?_push_of_some _ q) (Nat.le_refl _) ?_, rfl, q _ _ _ (g1.trans g.any) (P1.grow0 g) rz⟩
    exact ⟨by rw [List.length_reverse]; exact z, _, 0, r.reverse, Heap.get?_push_size _ rfl⟩
  | tup ha ra z hx =>
    cases e2
    cases r1
    obtain ⟨its, r, ht, hz⟩ := I5.tuple (ex_sqT g1.sub ha)
    rename_i adr vals ds _
    show wpAny (model X.prog X.w) X.A (subscriptTail _ (.Slice none none (some (.UnaryOp .USub (.Constant (.int 1) k p1) p2)) p3) (.ref adr) (.ref s4.heap.objs.size)) (EP X pins σ Q) X.xe { s4 with heap := s4.heap.push { cls := .type "slice", data := .fields #[.none, .none, vs] } }
    refine tail_any (ops := [.ref adr, .ref s4.heap.objs.size]) ht.typeIs (PyProof.Rows.slot_tuple_getitem.lookup) ?_ (by with_unfolding_all rfl)
    have hz' : its.toArray.size ≤ sizeLine := by rw [List.size_toArray, ← r.length]; exact z
    refine getItem_tuple_back ht (Heap.IsSliceOf.new _ .none .none vs) ps ?_ hz'
    have hp := I5.hok.fresh (Nat.le_refl _)
    obtain ⟨g, rz⟩ := new_tup (K := X.K) (o := tupO its.reverse) rfl g1.sub hp ra.reverse (by rw [List.length_reverse]; exact z)
    exact ⟨.ref _, _, laidT I5 r.reverse (by rw [List.length_reverse]; exact z) s4.toks, rfl, q _ _ _ (g1.trans g.any) (P1.grow0 g) rz⟩
  | str t =>
    simp only [revD] at e2
    split at e2
    · rename_i hz
      cases e2
      obtain ⟨tk, rfl⟩ := r1
      cases ps with
      | int _ ut =>
      show wpAny (model X.prog X.w) X.A (subscriptTail _ (.Slice none none (some (.UnaryOp .USub (.Constant (.int 1) k p1) p2)) p3) (.str t tk) (.ref s4.heap.objs.size)) (EP X pins σ Q) X.xe { s4 with heap := s4.heap.push { cls := .type "slice", data := .fields #[.none, .none, _] } }
      refine tail_any (ops := [.str t tk, .ref s4.heap.objs.size]) (typeIs_str _ _ _) (PySem.F.slot_str_getitem.lookup) ?_ (by with_unfolding_all rfl)
      refine wpAny_getItem_str_slice (l := none) (u := none) (st := some (-1, ut)) ⟨_, Heap.get?_push_size _ rfl, rfl, rfl⟩ rfl ?_
      have e : (Builtin.Str.strSliceIndices none none (-1) t.length).filterMap (t.cps[·]?) = t.cps.toList.reverse := by
        unfold Builtin.Str.strSliceIndices
        show (sliceRange ((t.length : Int) - 1) (-1) (-1)).filterMap (t.cps[·]?) = _
        show (sliceRange ((t.cps.size : Int) - 1) (-1) (-1)).filterMap (t.cps[·]?) = _
        rw [PySem.W.krv_sliceRange, PySem.W.krv_range, List.filterMap_reverse, PySem.W.krv_all]
      show Made.post (if ((-1 : Int) == 1 && (Builtin.Str.strSliceIndices none none (-1) t.length).length == t.length) = true then Made.val (.str t tk) else Made.str ⟨((Builtin.Str.strSliceIndices none none (-1) t.length).filterMap (t.cps[·]?)).toArray⟩) (EP X pins σ Q) _
      rw [if_neg (by simp), e]
      have hl : (⟨t.cps.toList.reverse.toArray⟩ : Str).length ≤ sizeLine := by
        show t.cps.toList.reverse.toArray.size ≤ sizeLine
        rw [List.size_toArray, List.length_reverse]; exact hz
      exact ⟨hl, .str _, H4, I5.tok _, ⟨_, rfl⟩, q _ _ _ g1 P1 (.str _)⟩
    · cases e2
  | _ => cases e2
end
end SR
end
section
/-! SrDic: dicts whose keys are tuples of ints and texts, nested. -/
namespace SR
open PySem PySem.Spec PyProof.Rows L2
theorem keyOf_some {d : D} {k : NestedKey} (h : keyOf d = some k) : ∃ ds, d = .tuple ds ∧ nk d = some k ∧ k.depth ≤ 8 := by
  cases d with
  | tuple ds =>
    simp only [keyOf] at h
    split at h
    · rename_i k' e
      split at h
      · rename_i hd
        cases h
        exact ⟨ds, rfl, e, hd⟩
      · cases h
    · cases h
  | _ => cases h
section
variable {X : Cx} {pins : List (Addr × Obj)} {σ : L2.St} {H F : Hp} {s : Shared}
mutual
theorem nested_of (I : L2.Inv X pins σ H s) (ex : Ex F H) : ∀ {d : D} {v : V} {u : Value} {k : NestedKey}, Rp X.K F v d → RelV v u → nk d = some k → NestedIs s.heap k u
  | .int i, _, _, _, .int _, r, e => by cases e; obtain ⟨t, rfl⟩ := r; exact .int _ _
  | .str x, _, _, _, .str _, r, e => by cases e; obtain ⟨t, rfl⟩ := r; exact .text _ _
  | .tuple ds, _, _, _, .tup h rs z _, r, e => by
    cases r
    simp only [nk, Option.map_eq_some_iff] at e
    obtain ⟨ks, e1, rfl⟩ := e
    obtain ⟨its, rv, p, _⟩ := I.tuple (ex_sqT ex h)
    obtain ⟨o, ho, hc, n, hd⟩ := p
    exact .tup ho hc hd (nested_all I ex rs rv e1)
  | .none, _, _, _, .non, _, e => by cases e
  | .bool _, _, _, _, .bl _, _, e => by cases e
  | .list _, _, _, _, .lst _ _ _, _, e => by cases e
theorem nested_all (I : L2.Inv X pins σ H s) (ex : Ex F H) : ∀ {ds : List D} {vs : List V} {us : List Value} {ks : List NestedKey}, RpAll X.K F vs ds → Vals vs us → nks ds = some ks → NestedAll s.heap ks us
  | [], _, _, _, .nil, .nil, e => by cases e; exact .nil
  | d :: ds, _, _, _, .cons r rs, .cons q qs, e => by
    simp only [nks] at e
    split at e
    · rename_i k ks e1 e2
      cases e
      exact .cons (nested_of I ex r q e1) (nested_all I ex rs qs e2)
    · cases e
end
end
section
variable {K : PySem.W.Frag} {F : Hp}
def entHas (ents : List Ent) (k : NestedKey) : Bool := ents.any fun e => decide (e.1 = k)
def entPut (ents : List Ent) (k : NestedKey) (b : Addr) (v : V) : List Ent := if entHas ents k then ents.map (fun e => if e.1 = k then (e.1, e.2.1, v) else e) else ents ++ [(k, b, v)]
theorem has_x {k : NestedKey} : ∀ {ents : List Ent} {xs : List (NestedKey × Addr × Value)}, Paired EntV ents xs → (atKey xs k).isSome = entHas ents k
  | _, _, .nil => rfl
  | e :: es, x :: xs, .cons h t => by
    have ih := has_x (k := k) t
    unfold atKey entHas at ih ⊢
    rw [List.find?_cons, List.any_cons, ← h.1]
    by_cases hk : e.1 = k
    · rw [decide_eq_true hk]; rfl
    · rw [decide_eq_false hk]; exact ih
theorem has_d {k : NestedKey} : ∀ {ents : List Ent} {kvs : List (D × D)}, Paired (EntD K F) ents kvs → (dicGet kvs k).isSome = entHas ents k
  | _, _, .nil => rfl
  | e :: es, x :: xs, .cons h t => by
    have ih := has_d (k := k) t
    unfold dicGet entHas at ih ⊢
    rw [List.find?_cons, List.any_cons, h.1]
    by_cases hk : e.1 = k
    · rw [decide_eq_true hk, decide_eq_true (by rw [hk])]; rfl
    · rw [decide_eq_false hk, decide_eq_false (fun z => hk (Option.some.inj z))]; exact ih
theorem get_rel {k : NestedKey} {d : D} : ∀ {ents : List Ent} {xs : List (NestedKey × Addr × Value)} {kvs : List (D × D)}, Paired EntV ents xs → Paired (EntD K F) ents kvs → dicGet kvs k = some d → ∃ p v, atKey xs k = some p ∧ RelV v p.2 ∧ Rp K F v d
  | [], _, _, .nil, .nil, h => by cases h
  | e :: es, x :: xs, q :: qs, .cons h1 t1, .cons h2 t2, h => by
    unfold dicGet at h
    rw [List.find?_cons, h2.1] at h
    unfold atKey
    rw [List.find?_cons, ← h1.1]
    by_cases hk : e.1 = k
    · rw [decide_eq_true (by rw [hk])] at h
      cases h
      rw [decide_eq_true hk]
      exact ⟨_, e.2.2, rfl, h1.2.2, h2.2.2.2⟩
    · rw [decide_eq_false (fun z => hk (Option.some.inj z))] at h
      rw [decide_eq_false hk]
      exact get_rel t1 t2 h
theorem map_x {k : NestedKey} {v : V} {u : Value} (r : RelV v u) : ∀ {ents : List Ent} {xs : List (NestedKey × Addr × Value)}, Paired EntV ents xs → Paired EntV (ents.map fun e => if e.1 = k then (e.1, e.2.1, v) else e) (xs.map (putAt k u))
  | _, _, .nil => .nil
  | e :: es, x :: xs, .cons h t => by
    refine .cons ?_ (map_x r t)
    unfold putAt
    dsimp only
    by_cases hk : e.1 = k
    · rw [if_pos hk, if_pos (by rw [← h.1]; exact hk)]; exact ⟨h.1, h.2.1, r⟩
    · rw [if_neg hk, if_neg (by rw [← h.1]; exact hk)]; exact h
theorem map_d {k : NestedKey} {v : V} {d : D} (r : Rp K F v d) : ∀ {ents : List Ent} {kvs : List (D × D)}, Paired (EntD K F) ents kvs → Paired (EntD K F) (ents.map fun e => if e.1 = k then (e.1, e.2.1, v) else e) (kvs.map fun p => if nk p.1 = some k then (p.1, d) else p)
  | _, _, .nil => .nil
  | e :: es, x :: xs, .cons h t => by
    refine .cons ?_ (map_d r t)
    dsimp only
    by_cases hk : e.1 = k
    · rw [if_pos hk, if_pos (by rw [h.1, hk])]; exact ⟨h.1, h.2.1, h.2.2.1, r⟩
    · rw [if_neg hk, if_neg (by rw [h.1]; exact fun z => hk (Option.some.inj z))]; exact h
theorem paired_app {α β : Type} {R : α → β → Prop} : ∀ {xs xs' : List α} {ys ys' : List β}, Paired R xs ys → Paired R xs' ys' → Paired R (xs ++ xs') (ys ++ ys')
  | _, _, _, _, .nil, t => t
  | _, _, _, _, .cons h t, t' => .cons h (paired_app t t')
theorem paired_len {α β : Type} {R : α → β → Prop} : ∀ {xs : List α} {ys : List β}, Paired R xs ys → xs.length = ys.length
  | _, _, .nil => rfl
  | _, _, .cons h t => congrArg (· + 1) (paired_len t)
theorem put_x {k : NestedKey} {b : Addr} {v : V} {u : Value} (r : RelV v u) {ents : List Ent} {xs : List (NestedKey × Addr × Value)} (h : Paired EntV ents xs) : Paired EntV (entPut ents k b v) (storedH xs k b u) := by
  unfold entPut storedH
  rw [has_x h]
  split
  · exact map_x r h
  · exact paired_app h (.cons ⟨rfl, rfl, r⟩ .nil)
theorem put_d {k : NestedKey} {b : Addr} {v : V} {dk d : D} (hk : nk dk = some k) (hd : k.depth ≤ 8) (rk : Rp K F (.ref b) dk) (r : Rp K F v d) {ents : List Ent} {kvs : List (D × D)} (h : Paired (EntD K F) ents kvs) : Paired (EntD K F) (entPut ents k b v) (dicPut kvs dk k d) := by
  unfold entPut dicPut
  rw [has_d h]
  split
  · exact map_d r h
  · exact paired_app h (.cons ⟨hk, hd, rk, r⟩ .nil)
theorem dicPut_len {kvs : List (D × D)} {dk d : D} {k : NestedKey} : (dicPut kvs dk k d).length ≤ kvs.length + 1 := by
  unfold dicPut
  split
  · rw [List.length_map]; exact Nat.le_succ _
  · rw [List.length_append]; exact Nat.le_refl _
end
variable [W : Wd]
section
variable {X : Cx} {pins : List (Addr × Obj)} {σ : L2.St} {H F : Hp} {s : Shared}
theorem ent_is (I : L2.Inv X pins σ H s) (ex : Ex F H) : ∀ {ents : List Ent} {xs : List (NestedKey × Addr × Value)} {kvs : List (D × D)}, Paired EntV ents xs → Paired (EntD X.K F) ents kvs → ∀ x ∈ xs, (nestedKind X.prog X.w).is s.heap x.1 x.2.1
  | [], _, _, .nil, .nil, x, hx => by cases hx
  | e :: es, y :: ys, q :: qs, .cons h1 t1, .cons h2 t2, x, hx => by
    rcases List.mem_cons.mp hx with rfl | hx
    · rw [← h1.1, ← h1.2.1]
      exact ⟨nested_of I ex h2.2.2.1 rfl h2.1, h2.2.1⟩
    · exact ent_is I ex t1 t2 x hx
theorem dic_of (hW : Wd.mk X.prog X.w = W) (I : L2.Inv X pins σ H s) {a : Addr} {ents : List Ent} {ep : Nat} {kvs : List (D × D)} (h : H a = some (DicO a ents ep)) (rp : Paired (EntD X.K F) ents kvs) (ex : Ex F H) :
    ∃ xs, s.heap.DictOfH (nestedKind X.prog X.w) a xs ∧ Paired EntV ents xs ∧ (a == sysModules) = false ∧ ents.length ≤ sizeLine := by
  subst hW
  letI : Wd := ⟨X.prog, X.w⟩
  obtain ⟨⟨n1, n2, xs, px, o, es, h1, h2, h3, h4, h5⟩, _⟩ := (show ObjOk X.prog X.w H s.heap a (DicO a ents ep) from I.hok a _ h)
  exact ⟨xs, ⟨o, es, ep, h1, h2, h3, h4, ent_is I ex px rp, h5⟩, px, n1, n2⟩
/-- the object that stands so -/
theorem dic_ok (hW : Wd.mk X.prog X.w = W) {H : Hp} {h : Heap} {a : Addr} {ents : List Ent} {xs : List (NestedKey × Addr × Value)} (hs : (a == sysModules) = false) (hl : ents.length ≤ sizeLine) (px : Paired EntV ents xs) (hd : h.DictOfH (nestedKind X.prog X.w) a xs) : ∃ ep, ObjOk X.prog X.w H h a (DicO a ents ep) := by
  subst hW
  letI : Wd := ⟨X.prog, X.w⟩
  obtain ⟨o, es, ep, h1, h2, h3, h4, h5, h6⟩ := hd
  refine ⟨ep, ⟨hs, hl, xs, px, o, es, h1, h2, h3, h4, h6⟩, ⟨o, h1⟩, fun g g' p e => ?_⟩
  obtain ⟨q1, q2, ys, py, o', es', k1, k2, k3, k4, k5⟩ := p
  exact ⟨q1, q2, ys, py, o', es', e _ k1, k2, k3, k4, k5⟩
end
end SR
end
section
/-! SrDic2: dicts asked and written. -/
namespace SR
open PySem PySem.Spec PyProof.Rows L2
theorem ownD_some {i : Nat} {ρ : Sl} {π π1 : Pool} {kvs : List (D × D)} (h : ownD ρ i π = some (kvs, π1)) : ρ[i]? = some (.own (.dic kvs)) ∧ π1 = π := by
  dsimp only [ownD] at h
  cases e0 : ρ[i]? with
  | none => rw [e0] at h; cases h
  | some sl =>
    rw [e0] at h
    match sl, h with
    | .own (.dic kvs), h => cases h; exact ⟨rfl, rfl⟩
variable [W : Wd]
section
variable {X : Cx} {pa : Option Addr} {a b c e x y z : Expr} {fa fb fc fd : Sl → M D} {fs : Sl → M (List D)} {pos p apos : Pos} {es : List Expr}
theorem room_of {A : Around} (hu : A.units + 65 < cLine) : A.in1.units + 8 < cLine := by show A.units + 1 + 8 < cLine; omega
/-! d[k] -/
def rDGet (K : PySem.W.Frag) : R2 := fun x y H Q => ∃ a b ents ep kvs F dk k d, x = .ref a ∧ y = .ref b ∧ H a = some (DicO a ents ep) ∧ Paired (EntD K F) ents kvs ∧ Ex F H ∧ Rp K F (.ref b) dk ∧ keyOf dk = some k ∧ dicGet kvs k = some d ∧ ∀ v, Rp K F v d → Q v H
theorem ix_dic (hW : Wd.mk X.prog X.w = W) (hu : X.A.units + 65 < cLine) : IxR X (rDGet X.K) := by
  intro value slice pins s σ H x y v u Q I rx ry h hop
  obtain ⟨a, b, ents, ep, kvs, F, dk, k, d, rfl, rfl, ha, rp, ex, rk, hk, hg, q⟩ := h
  cases rx; cases ry
  obtain ⟨xs, hm, px, hs, hl⟩ := dic_of hW I ha rp ex
  obtain ⟨p, w, h1, h2, h3⟩ := get_rel px rp hg
  obtain ⟨ds, rfl, hk2, hk3⟩ := keyOf_some hk
  have hkey : (nestedKind X.prog X.w).is s.heap k b := ⟨nested_of I ex rk rfl hk2, hk3⟩
  exact tail_any hm.typeIs PySem.slot_dict_getitem.lookup (wpAny_getItem_heap (knd := nestedKind X.prog X.w) (room_of hu) hkey hm h1 ⟨w, H, I.tok _, h2, q w h3⟩) hop
def dgetM (i : Nat) (fb : Sl → M D) : Sl → M D := fun ρ => bnd (ownD ρ i) fun _ => bnd (fb ρ) fun k => bnd (ownD ρ i) fun kvs => lift ((keyOf k).bind (dicGet kvs))
theorem s_dget {i : Nat} {m : Str} {q : Pos} (hW : Wd.mk X.prog X.w = W) (hu : X.A.units + 65 < cLine) (hs : noSlice b = true) (hN : X.N[i]? = some m) (hv : Vis X.env.scope m) (hmd : (m == ("__debug__" : Str)) = false) (hcd : (m == ("__classdict__" : Str)) = false) (hb : PE X b (tD X.K pa fb)) :
    PE X (.Subscript (.Name m q) b pos) (tD X.K pa (dgetM i fb)) := by
  refine PE.imp (pe_ix (ix_dic hW hu) (pe_var hN hv hmd hcd) hb (plainIx hs)) fun σ H Q h => ?_
  obtain ⟨ρ, π, F, d, π', S, hf, q⟩ := h
  replace hf := bnd_some hf; obtain ⟨kvs0, π1, e1, hf⟩ := hf
  obtain ⟨h1, rfl⟩ := ownD_some e1
  replace hf := bnd_some hf; obtain ⟨dk, π2, e2, hf⟩ := hf
  replace hf := bnd_some hf; obtain ⟨kvs, π3, e3, hf⟩ := hf
  obtain ⟨h3, rfl⟩ := ownD_some e3
  obtain ⟨e4, rfl⟩ := lift_eq hf
  rw [Option.bind_eq_some_iff] at e4
  obtain ⟨k, hk, hg⟩ := e4
  obtain ⟨a, ha, O⟩ := S.env.own i _ h3
  refine ⟨.ref a, ha, ρ, _, F, dk, _, S, e2, fun F1 H1 v g P r => ?_⟩
  obtain ⟨ents, ep, k1, k2, _⟩ := (O.grow g).at_
  obtain ⟨ds, rfl, _, _⟩ := keyOf_some hk
  obtain ⟨t, vs, rfl, _, _⟩ := rp_tuple r
  exact ⟨a, t, ents, ep, kvs, F1, _, k, d, rfl, rfl, k1, k2, g.sub, r, hk, hg, fun v rv => q F1 H1 v g P rv⟩
/-! k in d -/
def rDIn (K : PySem.W.Frag) : R2 := fun x y H Q => ∃ a b ents ep kvs F dk k, x = .ref b ∧ y = .ref a ∧ H a = some (DicO a ents ep) ∧ Paired (EntD K F) ents kvs ∧ Ex F H ∧ Rp K F (.ref b) dk ∧ keyOf dk = some k ∧ Q (.bl (dicGet kvs k).isSome) H
theorem op_dicIn (hW : Wd.mk X.prog X.w = W) (hu : X.A.units + 65 < cLine) : OpR X (compareOp .In) (rDIn X.K) := by
  intro pins s σ H x y v u Q I rx ry h
  obtain ⟨a, b, ents, ep, kvs, F, dk, k, rfl, rfl, ha, rp, ex, rk, hk, q⟩ := h
  cases rx; cases ry
  obtain ⟨xs, hm, px, hs, hl⟩ := dic_of hW I ha rp ex
  obtain ⟨ds, rfl, hk2, hk3⟩ := keyOf_some hk
  have hkey : (nestedKind X.prog X.w).is s.heap k b := ⟨nested_of I ex rk rfl hk2, hk3⟩
  refine wpAny_in_heap (knd := nestedKind X.prog X.w) (room_of hu) hkey hs hm ⟨.bl _, H, I.tok _, ?_, q⟩
  show Value.bool _ = Value.bool _
  rw [has_x px, ← has_d rp]
def dinM (i : Nat) (fa : Sl → M D) : Sl → M D := fun ρ => bnd (fa ρ) fun k => bnd (ownD ρ i) fun kvs => bnd (lift ((keyOf k).map fun k => (dicGet kvs k).isSome)) fun b => ret (.bool b)
theorem dinM_of {K : PySem.W.Frag} {i : Nat} {σ : L2.St} {H : Hp} {Q : VK} (h : tD K pa (dinM i fa) σ H Q) : tD K pa fa σ H fun v H1 => tVar i σ H1 fun w H2 => rDIn K v w H2 Q := by
  obtain ⟨ρ, π, F, d, π', S, hf, q⟩ := h
  replace hf := bnd_some hf; obtain ⟨dk, π1, e1, hf⟩ := hf
  replace hf := bnd_some hf; obtain ⟨kvs, π2, e2, hf⟩ := hf
  obtain ⟨h2, rfl⟩ := ownD_some e2
  replace hf := bnd_some hf; obtain ⟨bb, π3, e3, hf⟩ := hf
  obtain ⟨e4, rfl⟩ := lift_eq e3
  cases hf
  rw [Option.map_eq_some_iff] at e4
  obtain ⟨k, hk, rfl⟩ := e4
  obtain ⟨a, ha, O⟩ := S.env.own i _ h2
  refine ⟨ρ, π, F, dk, _, S, e1, fun F1 H1 v g P r => ⟨.ref a, ha, ?_⟩⟩
  obtain ⟨ents, ep, k1, k2, _⟩ := (O.grow g).at_
  obtain ⟨ds, rfl, _, _⟩ := keyOf_some hk
  obtain ⟨t, vs, rfl, _, _⟩ := rp_tuple r
  exact ⟨a, t, ents, ep, kvs, F1, _, k, rfl, rfl, k1, k2, g.sub, r, hk, q F1 H1 _ g P (.bl _)⟩
theorem s_din {i : Nat} {m : Str} {q : Pos} (hW : Wd.mk X.prog X.w = W) (hu : X.A.units + 65 < cLine) (hN : X.N[i]? = some m) (hv : Vis X.env.scope m) (hmd : (m == ("__debug__" : Str)) = false) (hcd : (m == ("__classdict__" : Str)) = false) (ha : PE X a (tD X.K pa fa)) :
    PE X (.Compare a [.In] [.Name m q] pos) (tD X.K pa (dinM i fa)) :=
  PE.imp (pe_cmpR (op_dicIn hW hu) ha (pe_var hN hv hmd hcd) rfl) fun σ H Q h => dinM_of h
theorem t_din {i : Nat} {m : Str} {q : Pos} (hW : Wd.mk X.prog X.w = W) (hu : X.A.units + 65 < cLine) (hN : X.N[i]? = some m) (hv : Vis X.env.scope m) (hmd : (m == ("__debug__" : Str)) = false) (hcd : (m == ("__classdict__" : Str)) = false) (ha : PE X a (tD X.K pa fa)) :
    PT X (.Compare a [.In] [.Name m q] pos) (tDT X.K pa (tru (dinM i fa))) :=
  PT.imp (pt_cmpR (op_dicIn hW hu) ha (pe_var hN hv hmd hcd) rfl) fun σ H Q h => dinM_of (tD_test (fun ρ π d π' e => bnd_bool (fun k π d π' e => bnd_bool (fun kvs π d π' e => bnd_bool (fun b π d π' e => by cases e; exact ⟨_, rfl⟩) e) e) e) h)
/-! d.get(k, x) -/
def dgetdM (i : Nat) (fs : Sl → M (List D)) : Sl → M D := fun ρ => bnd (ownD ρ i) fun _ => bnd (fs ρ) fun ds => bnd (ownD ρ i) fun kvs => lift (match ds with
  | [k, d] => (keyOf k).map fun k => (dicGet kvs k).getD d
  | _ => none)
theorem get_or {K : PySem.W.Frag} {F : Hp} {k : NestedKey} {d0 : D} {w0 : V} {u0 : Value} (r0 : RelV w0 u0) (q0 : Rp K F w0 d0) {ents : List Ent} {xs : List (NestedKey × Addr × Value)} {kvs : List (D × D)} (px : Paired EntV ents xs) (rp : Paired (EntD K F) ents kvs) :
    ∃ v, RelV v (((atKey xs k).map (·.2)).getD u0) ∧ Rp K F v ((dicGet kvs k).getD d0) := by
  cases hg : dicGet kvs k with
  | some d =>
    obtain ⟨p, w, h1, h2, h3⟩ := get_rel px rp hg
    exact ⟨w, by rw [h1]; exact h2, h3⟩
  | none =>
    have h1 : (atKey xs k).isSome = false := by rw [has_x px, ← has_d rp, hg]; rfl
    have h2 : atKey xs k = none := Option.not_isSome_iff_eq_none.mp (by rw [h1]; exact Bool.false_ne_true)
    exact ⟨w0, by rw [h2]; exact r0, q0⟩
theorem s_dgetd {i : Nat} {m : Str} {q apos cpos : Pos} {e f : Expr} (hW : Wd.mk X.prog X.w = W) (hu : X.A.units + 65 < cLine) (hN : X.N[i]? = some m) (hv : Vis X.env.scope m) (hmd : (m == ("__debug__" : Str)) = false) (hcd : (m == ("__classdict__" : Str)) = false) (he : noStar e = true) (hf : noStar f = true) (hline : (apos.endLine == cpos.line) = true)
    (ha : PA X [e, f] (tDA X.K pa fs)) : PE X (.Call (.Attribute (.Name m q) "get" apos) [e, f] [] cpos) (tD X.K pa (dgetdM i fs)) := by
  refine ⟨fun pins s σ H Q I h => ?_⟩
  have hst : starEach [e, f] X.env = (false, eval e X.env) :: starEach [f] X.env := starEach_cons he
  have hst2 : starEach [f] X.env = [(false, eval f X.env)] := starEach_cons hf
  refine wpAny_Call_method_late rfl (by rw [hst, hst2]; rfl) hline rfl (thn ((pe_var (X := X) hN hv hmd hcd).run pins s σ H (fun v H1 => H1 = H ∧ σ[i]? = some (some v)) I ?_) fun v s1 ⟨x, H1, I1, r1, q1⟩ => ?_)
  · obtain ⟨ρ, π, F, d, π', S, hf, q⟩ := h
    replace hf := bnd_some hf; obtain ⟨kvs0, π1, e1, hf⟩ := hf
    obtain ⟨h1, rfl⟩ := ownD_some e1
    obtain ⟨a, ha, O⟩ := S.env.own i _ h1
    exact ⟨.ref a, ha, rfl, ha⟩
  · obtain ⟨rfl, hx⟩ := q1
    obtain ⟨ρ, π, F, d, π', S, hf, q⟩ := h
    replace hf := bnd_some hf; obtain ⟨kvs0, π1, e1, hf⟩ := hf
    obtain ⟨h1, rfl⟩ := ownD_some e1
    replace hf := bnd_some hf; obtain ⟨ds, π2, e2, hf⟩ := hf
    replace hf := bnd_some hf; obtain ⟨kvs, π3, e3, hf⟩ := hf
    obtain ⟨h3, rfl⟩ := ownD_some e3
    obtain ⟨e4, rfl⟩ := lift_eq hf
    obtain ⟨a, ha', O⟩ := S.env.own i _ h3
    rw [hx] at ha'; cases ha'
    cases r1
    obtain ⟨ents0, ep0, k1, k2, _⟩ := O.at_
    obtain ⟨xs0, hm0, _, _, _⟩ := dic_of hW I1 k1 k2 S.ex
    obtain ⟨o0, es0, ep1, z1, z2, z3, _⟩ := id hm0
    refine ⟨"dict", _, PySem.F.plainAttrs_dict, PySem.F.slot_dict_get, PySem.F.type_dict_get, hm0.typeIs, fun b eb => ?_, ?_⟩
    · cases eb
      exact ⟨o0, z1, z2.2.1⟩
    have hA := ha.run cpos pins s1 σ H1 (fun vs H2 => ∃ F2, Grow pa F H1 F2 H2 ∧ PoolAt X.K pa F2 H2 π' ∧ RpAll X.K F2 vs ds) I1 ⟨ρ, _, F, ds, _, S, e2, fun F2 H2 vs g P r => ⟨F2, g, P, r⟩⟩
    rw [hst] at hA ⊢
    refine Calls.callWith_builtin (by show (false || (backTo cpos (starEach [f] X.env)).any (·.1)) = false; rw [hst2] <;> rfl) (Calls.evalArgs_plain ?_)
    refine thn hA fun us s2 ⟨vs, H2, I2, r2, F2, g, P, rp⟩ => ?_
    match ds, e4, rp with
    | [dk, d0], e4, rp =>
      simp only [Option.map_eq_some_iff] at e4
      obtain ⟨k, hk, rfl⟩ := e4
      cases rp with
      | cons p1 p2 =>
        cases p2 with
        | cons p2 p3 =>
          cases p3
          cases r2 with
          | cons q1 q2 =>
            cases q2 with
            | cons q2 q3 =>
              cases q3
              obtain ⟨ds', rfl, hk2, hk3⟩ := keyOf_some hk
              obtain ⟨t, ws, rfl, _, _⟩ := rp_tuple p1
              cases q1
              obtain ⟨ents, ep2, m1, m2, _⟩ := (O.grow g).at_
              obtain ⟨xs, hm, px, hs, hl⟩ := dic_of hW I2 m1 m2 g.sub
              obtain ⟨w, hw1, hw2⟩ := get_or (k := k) q2 p2 px m2
              have hkey : (nestedKind X.prog X.w).is s2.heap k t := ⟨nested_of I2 g.sub p1 rfl hk2, hk3⟩
              refine getOr_keyed (knd := nestedKind X.prog X.w) (room_of hu) hkey hs ⟨xs, hm, rfl⟩ ⟨w, H2, I2.tok _, ?_, q F2 H2 w g P hw2⟩
              rw [valueAt_pairsH]
              exact hw1
/-! {} ; d[k] = v -/
theorem dic_new (hW : Wd.mk X.prog X.w = W) {H : Hp} {h : Heap} (hb : sysModules < h.objs.size) : ∃ ep, ObjOk X.prog X.w H (h.push { cls := .type "dict", data := .dict #[] }) h.objs.size (DicO h.objs.size [] ep) :=
  dic_ok hW (beq_eq_false_iff_ne.mpr (Ne.symm (Nat.ne_of_lt hb))) (Nat.zero_le _) .nil (Heap.DictOfH.new h)
theorem pe_dic0 (hW : Wd.mk X.prog X.w = W) : PE X (.Dict [] [] pos) (fun _ H Q => ∀ p ep, H p = none → Q (.ref p) (upd H p (DicO p [] ep))) := ⟨fun pins s σ H Q I h =>
  have ⟨ep, ok⟩ := dic_new hW (H := upd H s.heap.objs.size (DicO s.heap.objs.size [] 0)) I.big
  wpAny_Dict_empty ⟨.ref s.heap.objs.size, _, I.laid (a := s.heap.objs.size) (o := DicO s.heap.objs.size [] ep) (t' := s.toks) (fun _ _ q => Heap.get?_push_of_some _ q) (Nat.le_refl _) ok, rfl, h _ ep (I.hok.fresh (Nat.le_refl _))⟩⟩
/-- d[k] = v -/
def rDSet (K : PySem.W.Frag) : TSet := fun o i v H Q => ∃ a b ents ep kvs F dk k dv, o = .ref a ∧ i = .ref b ∧ H a = some (DicO a ents ep) ∧ Paired (EntD K F) ents kvs ∧ Ex F H ∧ Rp K F (.ref b) dk ∧ keyOf dk = some k ∧ Rp K F v dv ∧ ents.length + 1 ≤ sizeLine ∧ ∀ ep', Q (upd H a (DicO a (entPut ents k b v) ep'))
theorem entPut_len {ents : List Ent} {k : NestedKey} {b : Addr} {v : V} : (entPut ents k b v).length ≤ ents.length + 1 := by
  unfold entPut
  split
  · rw [List.length_map]; exact Nat.le_succ _
  · rw [List.length_append]; exact Nat.le_refl _
theorem set_dic (hW : Wd.mk X.prog X.w = W) (hu : X.A.units + 65 < cLine) : PSet X (rDSet X.K) := by
  intro pins s σ H o i v ov iv u Q I ro ri rv h
  obtain ⟨a, b, ents, ep, kvs, F, dk, k, dv, rfl, rfl, ha, rp, ex, rk, hk, rdv, hz, q⟩ := h
  cases ro; cases ri
  obtain ⟨xs, hm, px, hs, hl⟩ := dic_of hW I ha rp ex
  obtain ⟨ds, rfl, hk2, hk3⟩ := keyOf_some hk
  have hkey : (nestedKind X.prog X.w).is s.heap k b := ⟨nested_of I ex rk rfl hk2, hk3⟩
  refine wpAny_setItem_heap (knd := nestedKind X.prog X.w) (hsz := by rw [← paired_len px]; exact hl) (room_of hu) hkey hm fun h' hm' hsb => ?_
  have hmut : Mut (H a) := by rw [ha]; trivial
  obtain ⟨ep', ok⟩ := dic_ok (H := H) hW hs (Nat.le_trans entPut_len hz) (put_x rv px) hm'
  refine ⟨_, I.write (x := a) (e := a) (o := DicO a (entPut ents k b v) ep') (t' := s.toks + (nestedKind X.prog X.w).draws k) hmut (.inl rfl) (fun c w hc e => (hsb.2 c hc).trans e) ?_ ok, q ep'⟩
  · obtain ⟨o, _, _, e, _⟩ := hm'; exact ⟨o, e⟩
end
end SR
end
section
/-! SrDic3: list(d), list(d.items()), dict(pairs). -/
namespace SR
open PySem PySem.Spec PyProof.Rows L2
theorem rpAll_ix {K : PySem.W.Frag} {F : Hp} : ∀ {vs : List V} {ds : List D}, vs.length = ds.length → (∀ (j : Nat) v d, vs[j]? = some v → ds[j]? = some d → Rp K F v d) → RpAll K F vs ds
  | [], [], _, _ => .nil
  | v :: vs, d :: ds, hl, h => .cons (h 0 v d rfl rfl) (rpAll_ix (by simpa using hl) fun j v d h1 h2 => h (j + 1) v d (by simpa using h1) (by simpa using h2))
theorem pair_ix {α β : Type} {R : α → β → Prop} : ∀ {xs : List α} {ys : List β} {j : Nat} {x : α} {y : β}, Paired R xs ys → xs[j]? = some x → ys[j]? = some y → R x y
  | _, _, _, _, _, .nil, h, _ => by simp at h
  | _, _, 0, _, _, .cons h t, h1, h2 => by simp at h1 h2; subst h1 h2; exact h
  | _, _, j + 1, _, _, .cons h t, h1, h2 => pair_ix (j := j) t (by simpa using h1) (by simpa using h2)
theorem vals_ix : ∀ {vs : List V} {us : List Value}, vs.length = us.length → (∀ (j : Nat) v u, vs[j]? = some v → us[j]? = some u → RelV v u) → Vals vs us
  | [], [], _, _ => .nil
  | v :: vs, u :: us, hl, h => .cons (h 0 v u rfl rfl) (vals_ix (by simpa using hl) fun j v u h1 h2 => h (j + 1) v u (by simpa using h1) (by simpa using h2))
variable [W : Wd]
section
variable {X : Cx} {pa : Option Addr} {a b c e x y z : Expr} {fa fb fc fd : Sl → M D} {fs : Sl → M (List D)} {pos p apos : Pos} {es : List Expr}
/-! list(d) -/
theorem call_keys (hW : Wd.mk X.prog X.w = W) (hc : X.calm = true) : CallR X (.type "list") (fun xs H Q => ∃ d ents ep kvs F, xs = [V.ref d] ∧ H d = some (DicO d ents ep) ∧ Paired (EntD X.K F) ents kvs ∧ Ex F H ∧ ∀ p, H p = none → Q (.ref p) (upd H p (.lst (ents.map fun e => V.ref e.2.1)))) := by
  intro pins s σ H xs us Q I r h
  obtain ⟨d, ents, ep, kvs, F, rfl, hd, rp, ex, q⟩ := h
  obtain ⟨u, rfl, rx⟩ := Vals.one r
  cases rx
  obtain ⟨xs, hm, px, hs, hl⟩ := dic_of hW I hd rp ex
  obtain ⟨o, es, ep, ho, hx, hdt, he, his, hn⟩ := id hm
  have l1 : es.size = xs.length := size_of_entries he
  have l2 : ents.length = xs.length := paired_len px
  refine PySem.W.kdl_call (kdl_raw hs hx hdt) (I.ok.hd hc) ho (by omega) fun h' tk acc' c' kp e it => ?_
  have hla : acc'.toList.length = xs.length := by rw [Array.length_toList, it.1]; exact l1
  have rv : Vals (ents.map fun e => V.ref e.2.1) acc'.toList := vals_ix (by rw [List.length_map]; omega) fun j v u h1 h2 => by
    rw [List.getElem?_map, Option.map_eq_some_iff] at h1
    obtain ⟨en, h1, rfl⟩ := h1
    obtain ⟨de, hde, rfl⟩ := it.2 j u (by rw [← Array.getElem?_toList]; exact h2)
    have qe := entry_at he j
    rw [hde] at qe
    obtain ⟨x, hx, e2⟩ := Option.map_eq_some_iff.mp qe.symm
    subst e2
    have := (pair_ix px h1 hx).2.1
    show Value.ref x.2.1 = Value.ref en.2.1
    rw [this]
  refine ⟨.ref s.heap.objs.size, _, I.laid (t' := tk) (o := .lst (ents.map fun e => V.ref e.2.1)) kp (Nat.le_refl _) ?_, rfl, q _ (I.hok.fresh (Nat.le_refl _))⟩
  exact ⟨by rw [List.length_map]; exact hl, acc'.toList, c', rv, by rw [Array.toArray_toList]; exact e⟩
def dkeysM (i : Nat) : Sl → M (List D) := fun ρ => bnd (ownD ρ i) fun kvs => ret (kvs.map (·.1))
theorem s_dkeys {i : Nat} {m : Str} {q : Pos} (hW : Wd.mk X.prog X.w = W) (hc : X.calm = true) (hg : Gl X "list") (hm : X.mg "list" = none) (hN : X.N[i]? = some m) (hv : Vis X.env.scope m) (hmd : (m == ("__debug__" : Str)) = false) (hcd : (m == ("__classdict__" : Str)) = false) :
    PE X (.Call (.Name "list" p) [.Name m q] [] pos) (tDL X.K pa (dkeysM i)) := by
  refine PE.imp (pe_callTy (call_keys hW hc) hg hm (boot_bi .list) (pa_cons (pe_var hN hv hmd hcd) pa_nil (starEach_cons rfl)) (by decide +kernel) (by decide +kernel) (starEach_cons rfl) (noStars_each (by rfl))) fun σ H Q h => ?_
  obtain ⟨ρ, π, F, ds, π', S, hf, q⟩ := h
  replace hf := bnd_some hf; obtain ⟨kvs, π1, e1, hf⟩ := hf
  obtain ⟨h1, rfl⟩ := ownD_some e1
  cases hf
  obtain ⟨d, hd, O⟩ := S.env.own i _ h1
  obtain ⟨ents, ep, k1, k2, k3⟩ := O.at_
  have hlen := paired_len k2
  refine ⟨.ref d, hd, d, ents, ep, kvs, F, rfl, k1, k2, S.ex, fun p hp => ?_⟩
  have hl : (ents.map fun e => V.ref e.2.1).length ≤ sizeLine := by rw [List.length_map]; exact k3
  exact q F _ p _ (Grow.scrap S.ex hp) (S.pool.scrap hp) hp (ex_back S.ex hp) (Grow.np S.pool hp) upd_same hl (rpAll_ix (by rw [List.length_map, List.length_map, hlen]) fun j v d h1 h2 => by
    rw [List.getElem?_map, Option.map_eq_some_iff] at h1 h2
    obtain ⟨en, h1, rfl⟩ := h1
    obtain ⟨kv, h2, rfl⟩ := h2
    exact (pair_ix k2 h1 h2).2.2.1)
/-! list(d.items()) -/
theorem takeF {pins : List (Addr × Obj)} {σ : L2.St} {H0 : Hp} {s : Shared} {h' : Heap} {tk : Nat} {P : Addr → HO → Prop} (I0 : L2.Inv X pins σ H0 s) : ∀ (L : List Addr) (H1 : Hp), L2.Inv X pins σ H1 { s with heap := h', toks := tk } → L.Nodup →
    (∀ a ∈ L, s.heap.objs.size ≤ a ∧ H1 a = none ∧ ∃ u, P a u ∧ ∀ H2, ObjOk X.prog X.w H2 h' a u) →
    ∃ H2, L2.Inv X pins σ H2 { s with heap := h', toks := tk } ∧ (∀ b, b ∉ L → H2 b = H1 b) ∧ ∀ a ∈ L, ∃ u, P a u ∧ H2 a = some u
  | [], H1, I1, _, _ => ⟨H1, I1, fun _ _ => rfl, fun _ h => nomatch h⟩
  | a :: L, H1, I1, hn, h => by
    obtain ⟨hb, hnone, u, hP, ok⟩ := h a (List.mem_cons_self ..)
    have I2 : L2.Inv X pins σ (upd H1 a u) { s with heap := h', toks := tk } := I1.take (h' := h') (t' := tk) (fun b ob _ e => e) (I0.fpOk hb hnone) (ok _)
    rw [List.nodup_cons] at hn
    obtain ⟨H2, I3, g, q⟩ := takeF I0 L (upd H1 a u) I2 hn.2 fun c hc => by
      obtain ⟨c1, c2, c3⟩ := h c (List.mem_cons_of_mem _ hc)
      exact ⟨c1, by rw [upd_ne (fun z => hn.1 (by rw [← z]; exact hc))]; exact c2, c3⟩
    refine ⟨H2, I3, fun b hb => ?_, fun c hc => ?_⟩
    · rw [g b (fun z => hb (List.mem_cons_of_mem _ z)), upd_ne (fun z => hb (by rw [z]; exact List.mem_cons_self ..))]
    · rcases List.mem_cons.mp hc with rfl | hc
      · exact ⟨u, hP, by rw [g _ hn.1, upd_same]⟩
      · exact q c hc
def ditemsM (i : Nat) : Sl → M D := fun ρ => bnd (ownD ρ i) fun kvs => ret (.list (kvs.map fun p => PyData.tuple [p.1, p.2]))
theorem s_ditems {i : Nat} {m : Str} {q apos cpos : Pos} (hW : Wd.mk X.prog X.w = W) (hc : X.calm = true) (hg : Gl X "list") (hm : X.mg "list" = none) (hN : X.N[i]? = some m) (hv : Vis X.env.scope m) (hmd : (m == ("__debug__" : Str)) = false) (hcd : (m == ("__classdict__" : Str)) = false) (hline : (apos.endLine == cpos.line) = true) :
    PE X (.Call (.Name "list" p) [.Call (.Attribute (.Name m q) "items" apos) [] [] cpos] [] pos) (tD X.K pa (ditemsM i)) := by
  refine ⟨fun pins s σ H Q I h => ?_⟩
  obtain ⟨ρ, π, F, ds, π', S, hf, q⟩ := h
  replace hf := bnd_some hf; obtain ⟨kvs, π1, e1, hf⟩ := hf
  obtain ⟨h1, rfl⟩ := ownD_some e1
  cases hf
  obtain ⟨d, hd, O⟩ := S.env.own i _ h1
  obtain ⟨ents, ep, k1, k2, k3⟩ := O.at_
  refine wpAny_Call_Name_kw (ld_blt I hg hm (boot_bi .list) ?_ (by decide +kernel) (by decide +kernel))
  refine PyProof.Rows.callWith_type1 ?_ (starEach_cons rfl) (noStars_each (by rfl))
  show wpAny _ _ (spliced [(false, eval (.Call (.Attribute (.Name m _) "items" apos) [] [] cpos) X.env)]) _ _ s
  refine Calls.spliced_cons ?_
  refine wpAny_Call_method0_late rfl hline (thn ((pe_var (X := X) hN hv hmd hcd).run pins s σ H (fun v H1 => H1 = H ∧ σ[i]? = some (some v) ∧ True) I ⟨.ref d, hd, rfl, hd, trivial⟩) fun v s1 ⟨x, H1, I1, r1, q1⟩ => ?_)
  obtain ⟨rfl, hx', _⟩ := q1
  rw [hd] at hx'; cases hx'
  cases r1
  obtain ⟨xs, hm', px, hs, _⟩ := dic_of hW I1 k1 k2 S.ex
  obtain ⟨o, es, ep, ho, hx, hdt, he, his, hn⟩ := id hm'
  have l1 : es.size = xs.length := size_of_entries he
  have l2 : ents.length = xs.length := paired_len px
  have l3 : ents.length = kvs.length := paired_len k2
  refine ⟨"dict", _, PySem.F.plainAttrs_dict, PySem.F.slot_dict_items, PySem.F.type_dict_items, hm'.typeIs, fun b eb => by cases eb; exact ⟨o, ho, hx.2.1⟩, Calls.callWith_builtin rfl (PySem.evalArgs_none (DT.callItems (es := es) (ep := ep) hs ⟨o, ho, hx, hdt⟩ (Calls.spliced_nil ?_)))⟩
  have I2 : L2.Inv X pins σ H1 { s1 with heap := s1.heap.push { cls := .type "dict_items", data := .fields #[.ref d] } } := I1.kept (t' := s1.toks) fun b ob e => Heap.get?_push_of_some _ e
  refine PySem.W.dil_call (es := es) (ep := ep) (d := d) (I1.ok.hd hc) ⟨_, Heap.get?_push_size _ rfl, rfl, rfl⟩ ⟨o, Heap.get?_push_of_some _ ho, hx, hdt⟩ (by omega) fun h' tk acc c as kp hS hla hG hacc => ?_
  have I3 : L2.Inv X pins σ H1 { s1 with heap := h', toks := tk } := I2.kept (t' := tk) kp
  have nd : as.Nodup := List.Pairwise.imp (fun h => Nat.ne_of_lt h) hG.rise
  generalize hS0 : (s1.heap.push { cls := .type "dict_items", data := .fields #[.ref d] }).objs.size = S0 at *
  have hnS : S0 ∉ as := fun z => Nat.lt_irrefl _ (hG.above _ z)
  have frs : ∀ a, S0 ≤ a → H1 a = none := fun a z => I2.hok.fresh (by show (s1.heap.push _).objs.size ≤ a; rw [hS0]; exact z)
  have hsz : s1.heap.objs.size ≤ S0 := by rw [← hS0, Heap.size_push]; exact Nat.le_succ _
  obtain ⟨H2, I4, g1, g2⟩ := takeF (P := fun a u => (a = S0 ∧ u = .lst (as.map V.ref)) ∨ ∃ (j : Nat) (en : Ent) (ob : Obj), as[j]? = some a ∧ ents[j]? = some en ∧ ob.dict = none ∧ u = .frz ob (.tup [.ref en.2.1, en.2.2])) I1 (S0 :: as) H1 I3 (List.nodup_cons.mpr ⟨hnS, nd⟩) fun a ha => by
    rcases List.mem_cons.mp ha with rfl | ha
    · refine ⟨hsz, frs _ (Nat.le_refl _), .lst (as.map V.ref), .inl ⟨rfl, rfl⟩, fun H2 => ⟨by rw [List.length_map]; omega, as.map Value.ref, c, vals_refs as, ?_⟩⟩
      rw [hS, ← hacc]
    · have hgt := hG.above a ha
      refine ⟨Nat.le_trans hsz (Nat.le_of_lt hgt), frs a (Nat.le_of_lt hgt), ?_⟩
      obtain ⟨j, hj⟩ := List.mem_iff_getElem?.mp ha
      obtain ⟨hjl, hob⟩ := hG.pairs j a hj
      have qe := entry_at he j
      rw [Array.getElem?_eq_getElem hjl] at qe
      obtain ⟨x, hx1, e2⟩ := Option.map_eq_some_iff.mp qe.symm
      have hje : j < ents.length := by omega
      have pe := pair_ix px (List.getElem?_eq_getElem hje) hx1
      have e3 : es[j].key = .ref x.2.1 := by rw [← e2]; rfl
      have e4 : es[j].val = x.2.2 := by rw [← e2]; rfl
      rw [e3, e4] at hob
      refine ⟨.frz (tupO [.ref x.2.1, x.2.2]) (.tup [.ref (ents[j]).2.1, (ents[j]).2.2]), .inr ⟨j, ents[j], _, hj, List.getElem?_eq_getElem hje, rfl, rfl⟩, fun H2 => ⟨hob, by show 2 ≤ sizeLine; decide, [.ref x.2.1, x.2.2], .cons ?_ (.cons pe.2.2 .nil), ⟨_, hob, rfl, _, rfl⟩⟩⟩
      show Value.ref x.2.1 = Value.ref _
      rw [pe.2.1]
  have hF1 : ∀ a, a ∈ S0 :: as → H1 a = none := fun a ha => frs a (by
    rcases List.mem_cons.mp ha with rfl | ha
    · exact Nat.le_refl _
    · exact Nat.le_of_lt (hG.above a ha))
  let F2 : Hp := fun x => if x ∈ S0 :: as then H2 x else F x
  have eF : Ex F F2 := fun x u e => by
    show (if x ∈ S0 :: as then H2 x else F x) = some u
    rw [if_neg (fun z => by have w := hF1 x z; rw [S.ex x u e] at w; cases w)]
    exact e
  have eF2 : Ex F2 H2 := fun x u e => by
    have e : (if x ∈ S0 :: as then H2 x else F x) = some u := e
    by_cases z : x ∈ S0 :: as
    · rw [if_pos z] at e; exact e
    · rw [if_neg z] at e; rw [g1 x z]; exact S.ex x u e
  have eH : ∀ x u, H1 x = some u → H2 x = some u := fun x u e => by
    rw [g1 x (fun z => by rw [hF1 x z] at e; cases e)]; exact e
  have gr : Grow none F H1 F2 H2 := ⟨eF, eF2, fun x u _ e => eH x u e, fun x u e n => by
    show (if x ∈ S0 :: as then H2 x else F x) = none
    rw [if_neg (fun z => by rw [hF1 x z] at e; cases e)]; exact n, fun x hx => by cases hx⟩
  have inF : ∀ x, x ∈ S0 :: as → F2 x = H2 x := fun x z => if_pos z
  refine ⟨.ref S0, H2, I4, rfl, q F2 H2 _ gr.any (S.pool.grow0 gr) ?_⟩
  obtain ⟨u, hu, hS2⟩ := g2 S0 List.mem_cons_self
  have hu' : u = .lst (as.map V.ref) := by
    rcases hu with ⟨_, h⟩ | ⟨j, en, ob, h, _⟩
    · exact h
    · exact absurd (List.mem_of_getElem? h) hnS
  subst hu'
  refine .lst (by rw [inF S0 List.mem_cons_self]; exact hS2) (rpAll_ix (by rw [List.length_map, List.length_map]; omega) fun j v dd h1 h2 => ?_) (by rw [List.length_map]; omega)
  rw [List.getElem?_map, Option.map_eq_some_iff] at h1 h2
  obtain ⟨aj, haj, rfl⟩ := h1
  obtain ⟨kv, hkv, rfl⟩ := h2
  have ham : aj ∈ S0 :: as := List.mem_cons_of_mem _ (List.mem_of_getElem? haj)
  obtain ⟨u, hu, hu2⟩ := g2 aj ham
  rcases hu with ⟨h, _⟩ | ⟨j', en, ob, h3, h4, h5, rfl⟩
  · subst h; exact absurd (List.mem_of_getElem? haj) hnS
  · have hjj : j' = j := by
      have hjl := (List.getElem?_eq_some_iff.mp haj).1
      have hjl' := (List.getElem?_eq_some_iff.mp h3).1
      exact (List.getElem?_inj hjl' nd).mp (h3.trans haj.symm)
    subst hjj
    have pd := pair_ix k2 h4 hkv
    have hF : F2 aj = some (.frz ob (.tup [.ref en.2.1, en.2.2])) := by rw [inF aj ham]; exact hu2
    exact .tup (.inl (.inr ⟨_, hF⟩)) (.cons (pd.2.2.1.mono eF) (.cons (pd.2.2.2.mono eF) .nil)) (by show 2 ≤ sizeLine; decide) (.inl ⟨_, _, hF, h5⟩)
end
end SR
end
section
/-! SrDic4: dict(pairs). -/
namespace SR
open PySem PySem.Spec PyProof.Rows L2
theorem two_of {K : PySem.W.Frag} {F : Hp} {ws : List V} {d1 d2 : D} (h : RpAll K F ws [d1, d2]) : ∃ w1 w2, ws = [w1, w2] ∧ Rp K F w1 d1 ∧ Rp K F w2 d2 := by
  cases h with
  | cons a b =>
    cases b with
    | cons c d => cases d; exact ⟨_, _, rfl, a, c⟩
theorem two_vals {w1 w2 : V} {us : List Value} (h : Vals [w1, w2] us) : ∃ u1 u2, us = [u1, u2] ∧ RelV w1 u1 ∧ RelV w2 u2 := by
  cases h with
  | cons a b =>
    cases b with
    | cons c d => cases d; exact ⟨_, _, rfl, a, c⟩
variable [W : Wd]
/-- an expression that makes a new dict -/
def tDDi (K : PySem.W.Frag) (pa : Option Addr) (f : Sl → M (List (D × D))) : TE := fun σ H Q => ∃ ρ π F kvs π', Stt K pa σ ρ π F H ∧ f ρ π = some (kvs, π') ∧ ∀ F' H' p ents ep, Grow pa F H F' H' → PoolAt K pa F' H' π' → H p = none → F' p = none → pa ≠ some p → H' p = some (DicO p ents ep) → Paired (EntD K F') ents kvs → ents.length ≤ sizeLine → Q (.ref p) H'
section
variable {X : Cx} {pa : Option Addr} {a b c e x y z : Expr} {fa fb fc fd : Sl → M D} {fs : Sl → M (List D)} {pos p apos : Pos} {es : List Expr}
theorem grow_none {K : PySem.W.Frag} {F H F1 H1 : Hp} {π1 : Pool} {p : Addr} (g : Grow pa F H F1 H1) (n1 : H1 p = none) : H p = none := by
  cases e : H p with
  | none => rfl
  | some o =>
    by_cases hpa : some p = pa
    · obtain ⟨o', e'⟩ := g.p p hpa.symm o e; rw [n1] at e'; cases e'
    · rw [g.h p o hpa e] at n1; cases n1
theorem s_dnew (hW : Wd.mk X.prog X.w = W) : PE X (.Dict [] [] pos) (tDDi X.K pa fun _ => ret []) := by
  refine PE.imp (pe_dic0 hW) fun σ H Q h => ?_
  obtain ⟨ρ, π, F, kvs, π', S, hf, q⟩ := h
  cases hf
  exact fun p ep hp => q F _ p [] ep (Grow.scrap S.ex hp) (S.pool.scrap hp) hp (ex_back S.ex hp) (Grow.np S.pool hp) upd_same .nil (Nat.zero_le _)
theorem dic_parts {pins : List (Addr × Obj)} {σ : L2.St} {H F : Hp} {s : Shared} (I : L2.Inv X pins σ H s) (ex : Ex F H) : ∀ {es : List D} {vs : List V} {us : List Value} {acc kvs : List (D × D)} {ents0 : List Ent} {xs0 : List (NestedKey × Addr × Value)}, RpAll X.K F vs es → Vals vs us → dicAll acc es = some kvs →
    Paired EntV ents0 xs0 → Paired (EntD X.K F) ents0 acc → ∃ (Ts : List Addr) (ps : List (NestedKey × Addr × Value)), us = Ts.map Value.ref ∧ ps.length = Ts.length ∧ (∀ (j : Nat) T x, Ts[j]? = some T → ps[j]? = some x → IsTup s.heap T #[.ref x.2.1, x.2.2]) ∧
      (∀ x ∈ ps, (nestedKind X.prog X.w).is s.heap x.1 x.2.1) ∧ ∃ ents, Paired EntV ents (storedAllH xs0 ps) ∧ Paired (EntD X.K F) ents kvs
  | [], _, _, acc, kvs, ents0, xs0, .nil, .nil, h, p1, p2 => by
    cases h
    exact ⟨[], [], rfl, rfl, (fun j T x h => by simp at h), (fun x h => by cases h), ents0, p1, p2⟩
  | d :: es, v :: vs, u :: us, acc, kvs, ents0, xs0, .cons r rs, .cons q qs, h, p1, p2 => by
    match d, h, r with
    | .tuple [dk, dv], h, r =>
      simp only [dicAll] at h
      cases hk : keyOf dk with
      | none => rw [hk] at h; cases h
      | some kk =>
        rw [hk] at h
        obtain ⟨ds', rfl, hk2, hk3⟩ := keyOf_some hk
        obtain ⟨T, ws, rfl, ht, rw2⟩ := rp_tuple r
        cases q
        obtain ⟨its, rv, pt, _⟩ := I.tuple (ex_sqT ex ht)
        obtain ⟨w1, w2, rfl, r1, r2⟩ := two_of rw2
        obtain ⟨u1, u2, rfl, v1, v2⟩ := two_vals rv
        obtain ⟨b, ks, rfl, _, _⟩ := rp_tuple r1
        cases v1
        obtain ⟨Ts, ps, rfl, hl, h1, h2, ents, e1, e2⟩ := dic_parts I ex rs qs h (put_x (k := kk) (b := b) v2 p1) (put_d hk2 hk3 r1 r2 p2)
        refine ⟨T :: Ts, (kk, b, u2) :: ps, rfl, congrArg (· + 1) hl, fun j T' x' hT hx => ?_, fun x hx => ?_, ents, e1, e2⟩
        · cases j with
          | zero => simp at hT hx; subst hT hx; exact pt
          | succ j => exact h1 j T' x' (by simpa using hT) (by simpa using hx)
        · rcases List.mem_cons.mp hx with rfl | hx
          · exact ⟨nested_of I ex r1 rfl hk2, hk3⟩
          · exact h2 x hx
theorem plain_seq {pins : List (Addr × Obj)} {σ : L2.St} {H F : Hp} {s : Shared} (I : L2.Inv X pins σ H s) (ex : Ex F H) {v : V} {d : D} {es : List D} (r : Rp X.K F v d) (h : items d = some es) :
    ∃ (T : String) (a : Addr) (vs : List V) (its : List Value), (T = "list" ∨ T = "tuple") ∧ v = .ref a ∧ RpAll X.K F vs es ∧ Vals vs its ∧ vs.length ≤ sizeLine ∧ PlainSeq T s.heap a its.toArray := by
  cases r with
  | lst ha ra z =>
    cases h
    obtain ⟨_, its, n, r, e⟩ := (show ObjOk X.prog X.w H s.heap _ (.lst _) from I.hok _ _ (ex _ _ ha))
    exact ⟨"list", _, _, its, .inl rfl, rfl, ra, r, z, _, n, e, rfl, rfl, rfl⟩
  | tup ha ra z x =>
    cases h
    obtain ⟨its, rv, ⟨o, ho, hc, n, hd⟩, _⟩ := I.tuple (ex_sqT ex ha)
    have hdn : o.dict = none := by
      rcases x with ⟨o', vs', h1, h2⟩ | ⟨o', h1, h2⟩
      · obtain ⟨e, _⟩ := (show ObjOk X.prog X.w H s.heap _ (.frz o' (.tup vs')) from I.hok _ _ (ex _ _ h1))
        rw [ho] at e; cases e; exact h2
      · have e := I.kIn _ o' h1
        rw [ho] at e; cases e; exact h2
    exact ⟨"tuple", _, _, its, .inr rfl, rfl, ra, rv, z, o, n, ho, hc, hdn, hd⟩
  | _ => cases h
theorem call_dict_of (hW : Wd.mk X.prog X.w = W) (hc : X.calm = true) (hu : X.A.units + 65 < cLine) : CallR X (.type "dict") (fun xs H Q => ∃ v F d es kvs, xs = [v] ∧ Ex F H ∧ Rp X.K F v d ∧ items d = some es ∧ dicAll [] es = some kvs ∧
    ∀ p ents ep, H p = none → Paired (EntD X.K F) ents kvs → ents.length ≤ sizeLine → Q (.ref p) (upd H p (DicO p ents ep))) := by
  intro pins s σ H xs us Q I r h
  obtain ⟨v, F, d, es, kvs, rfl, ex, rd, hi, hk, q⟩ := h
  obtain ⟨u, rfl, rx⟩ := Vals.one r
  obtain ⟨T, a, vs, its, hT, rfl, ra, rv, hz, pl⟩ := plain_seq I ex rd hi
  cases rx
  obtain ⟨Ts, ps, rfl, hl, h1, h2, ents, e1, e2⟩ := dic_parts I ex ra rv hk .nil .nil
  have hlen : vs.length = Ts.length := by rw [rv.length, List.length_map]
  have hents : ents.length ≤ sizeLine := by
    have l1 := paired_len e1
    have l2 := storedAllH_length ps ([] : List (NestedKey × Addr × Value))
    simp at l2
    omega
  have ok : PairItems s.heap (Ts.map Value.ref).toArray (fun j => Ts.getD j 0) (ps.map fun x => (Value.ref x.2.1, x.2.2)) := ⟨by simp [hl], fun j k w hj => by
    rw [List.getElem?_map, Option.map_eq_some_iff] at hj
    obtain ⟨x, hx, e⟩ := hj
    cases e
    have hjl : j < Ts.length := by rw [← hl]; exact (List.getElem?_eq_some_iff.mp hx).1
    have hT : Ts[j]? = some (Ts.getD j 0) := by rw [List.getD_eq_getElem?_getD, List.getElem?_eq_getElem hjl]; rfl
    exact ⟨by rw [List.getElem?_toArray, List.getElem?_map, hT]; rfl, .inl (h1 j _ x hT hx)⟩⟩
  have hPH : PairsHaveH (nestedKind X.prog X.w) (ps.map fun x => (Value.ref x.2.1, x.2.2)).length (PairRel (ps.map fun x => (Value.ref x.2.1, x.2.2))) ps := ⟨by simp, fun i key w hi => by
    unfold PairRel at hi
    rw [List.getElem?_map, Option.map_eq_some_iff] at hi
    obtain ⟨x, hx, e⟩ := hi
    cases e
    exact ⟨x.1, x.2.1, hx, rfl⟩⟩
  have hst : KeysStay (nestedKind X.prog X.w) s.heap s.heap.objs.size [] ps := fun h' hk x hx => nestedKind_stays.stays (fun b o vs n e _ => hk b o (Nat.ne_of_lt (Heap.lt_size e)) (fun q => nomatch q) e) (h2 x hx)
  have hroom : (nestedKind X.prog X.w).room X.A.in1.in1 := by show X.A.units + 1 + 1 + 8 < cLine; omega
  have fin : ∀ h' tk, h'.DictOfH (nestedKind X.prog X.w) s.heap.objs.size (storedAllH [] ps) → (∀ b o, b ∉ ([] : List Addr) → s.heap.get? b = some o → h'.get? b = some o) → EP X pins σ Q (.ref s.heap.objs.size) { s with heap := h', toks := tk } := fun h' tk hd hk => by
    obtain ⟨ep, ok⟩ := dic_ok (H := upd H s.heap.objs.size (DicO s.heap.objs.size ents 0)) hW (beq_eq_false_iff_ne.mpr (Ne.symm (Nat.ne_of_lt I.big))) hents e1 hd
    refine ⟨.ref s.heap.objs.size, _, I.laid (t' := tk) (o := DicO s.heap.objs.size ents ep) (fun b ob e => hk b ob (fun z => nomatch z) e) (Nat.le_refl _) ok, rfl, q _ ents ep (I.hok.fresh (Nat.le_refl _)) e2 hents⟩
  have hsz : (ps.map fun x => (Value.ref x.2.1, x.2.2)).length ≤ sizeLine := by rw [List.length_map]; omega
  rcases hT with rfl | rfl
  · exact call_dict_pairsH (PairArg.list a _ (fun j => Ts.getD j 0) (ps.map fun x => (Value.ref x.2.1, x.2.2))) (I.ok.hd hc) hroom ⟨pl, ok⟩ hPH hst hsz fin
  · exact call_dict_pairsH (PairArg.tuple a _ (fun j => Ts.getD j 0) (ps.map fun x => (Value.ref x.2.1, x.2.2))) (I.ok.hd hc) hroom ⟨pl, ok⟩ hPH hst hsz fin
def dictM (fa : Sl → M D) : Sl → M (List (D × D)) := fun ρ => bnd (fa ρ) fun d => lift ((items d).bind fun es => dicAll [] es)
theorem boot_dict : bootBuiltins ("dict" : Str) = some (.type "dict") := by decide +kernel
theorem s_dict (hW : Wd.mk X.prog X.w = W) (hc : X.calm = true) (hu : X.A.units + 65 < cLine) (hg : Gl X "dict") (hm : X.mg "dict" = none) (hs : noStar a = true) (ha : PE X a (tD X.K pa fa)) : PE X (.Call (.Name "dict" p) [a] [] pos) (tDDi X.K pa (dictM fa)) := by
  refine PE.imp (pe_callTy (call_dict_of hW hc hu) hg hm boot_dict (pa_cons ha pa_nil (starEach_cons hs)) (by decide +kernel) (by decide +kernel) (starEach_cons hs) (noStars_each (by rfl))) fun σ H Q h => ?_
  obtain ⟨ρ, π, F, kvs, π', S, hf, q⟩ := h
  replace hf := bnd_some hf; obtain ⟨d, π1, e1, hf⟩ := hf
  obtain ⟨e2, rfl⟩ := lift_eq hf
  rw [Option.bind_eq_some_iff] at e2
  obtain ⟨es, e3, e4⟩ := e2
  refine ⟨ρ, π, F, d, _, S, e1, fun F1 H1 v g P r => ⟨v, F1, d, es, kvs, rfl, g.sub, r, e3, e4, fun p ents ep hp hr hl => ?_⟩⟩
  exact q F1 _ p ents ep (g.trans (Grow.scrap g.sub hp)) (P.scrap hp) (grow_none (K := X.K) (π1 := π') g hp) (ex_back g.sub hp) (Grow.np P hp) upd_same hr hl
/-! sep.join(texts) -/
theorem asStrs_of : ∀ {ds : List D} {ys : List Str}, asStrs ds = some ys → ds = ys.map PyData.str
  | [], ys, h => by cases h; rfl
  | .str x :: r, ys, h => by
    simp only [asStrs, Option.map_eq_some_iff] at h
    obtain ⟨zs, h1, rfl⟩ := h
    rw [asStrs_of h1]; rfl
  | .none :: _, _, h => by cases h
  | .bool _ :: _, _, h => by cases h
  | .int _ :: _, _, h => by cases h
  | .list _ :: _, _, h => by cases h
  | .tuple _ :: _, _, h => by cases h
  | .dict _ :: _, _, h => by cases h
theorem base_of {o : Expr} {m : Str} {env : PySem.Env} {w : Sem Value} (h : noCall o = true) : attributeBase o m env w = w := by
  cases o <;> first | rfl | cases h
theorem s_join {q cpos : Pos} (ho : noCall a = true) (hs : noStar b = true) (hline : (apos.endLine == cpos.line) = true) (ha : PE X a (tD X.K pa fa)) (hb : PE X b (tD X.K pa fb)) :
    PE X (.Call (.Attribute a "join" apos) [b] [] cpos) (tD X.K pa fun ρ => bnd (fa ρ) fun x => bnd (fb ρ) fun y => lift (joinD x y)) := by
  refine PE.imp (pe_join ha hb (starEach_cons hs) (base_of ho) hline) fun σ H Q h => ?_
  obtain ⟨ρ, π, F, d, π', S, hf, q⟩ := h
  replace hf := bnd_some hf; obtain ⟨x, π1, e1, hf⟩ := hf
  replace hf := bnd_some hf; obtain ⟨y, π2, e2, hf⟩ := hf
  obtain ⟨e3, rfl⟩ := lift_eq hf
  refine ⟨ρ, π, F, x, π1, S, e1, fun F1 H1 v g1 P1 r1 => ?_⟩
  cases x with
  | str sep =>
    simp only [joinD, Option.bind_eq_some_iff] at e3
    obtain ⟨ys, ⟨es, h1, h2⟩, h3⟩ := e3
    split at h3
    · rename_i hz
      cases h3
      refine ⟨⟨sep, rp_str r1⟩, ρ, π1, F1, y, _, S.next g1 P1, e2, fun F2 H2 w g2 P2 r2 => ?_⟩
      obtain ⟨p, vs, rfl, sq, rv⟩ := rp_items r2 g2.sub h1
      rw [asStrs_of h2] at rv
      rw [rv.strs] at sq
      exact ⟨sep, p, ys, rp_str r1, rfl, sq, hz, q F2 H2 _ (g1.trans g2) P2 (.str _)⟩
    · cases h3
  | _ => cases e3
/-! the pool's items -/
theorem pool_at {K : PySem.W.Frag} {a : Addr} {F H : Hp} {π : Pool} (P : PoolAt K (some a) F H π) {k : Nat} {d : D} (h : π.at k = some d) : ∃ sa v, H a = some (.lst [.ref sa, .int π.pos, .int π.cur, .int π.cnt, .int π.salt]) ∧ atI [.ref sa, .int π.pos, .int π.cur, .int π.cnt, .int π.salt] (k : Int) = some v ∧ Rp K F v d := by
  obtain ⟨n, sa, h1, h2⟩ := P a rfl
  match k, h with
  | 0, h => cases h; exact ⟨sa, .ref sa, h1, rfl, .lst h2 (RpAll.of_ints _) (by rw [List.length_map]; exact π.len)⟩
  | 1, h => cases h; exact ⟨sa, _, h1, rfl, .int _⟩
  | 2, h => cases h; exact ⟨sa, _, h1, rfl, .int _⟩
  | 3, h => cases h; exact ⟨sa, _, h1, rfl, .int _⟩
  | 4, h => cases h; exact ⟨sa, _, h1, rfl, .int _⟩
  | _ + 5, h => cases h
theorem s_pg {i k : Nat} {m : Str} {q q2 : Pos} {j : Nat} (hN : X.N[i]? = some m) (hv : Vis X.env.scope m) (hmd : (m == ("__debug__" : Str)) = false) (hcd : (m == ("__classdict__" : Str)) = false) :
    PE X (.Subscript (.Name m q) (.Constant (.int (k : Int)) j q2) pos) (tD X.K pa (ev (.pg i k))) := by
  refine PE.imp (pe_ix ix_list (pe_var hN hv hmd hcd) pe_int (fun _ _ => rfl)) fun σ H Q h => ?_
  obtain ⟨ρ, π, F, d, π', S, hf, q⟩ := h
  simp only [ev] at hf
  cases e0 : ρ[i]? with
  | none => rw [e0] at hf; cases hf
  | some sl =>
    rw [e0] at hf
    match sl, hf with
    | .pool, hf =>
      dsimp only at hf
      rw [Option.map_eq_some_iff] at hf
      obtain ⟨d', h1, h2⟩ := hf
      cases h2
      obtain ⟨a, rfl, ha⟩ := S.env.pool i e0
      obtain ⟨sa, v, k1, k2, k3⟩ := pool_at S.pool h1
      exact ⟨.ref a, ha, a, _, _, v, rfl, rfl, SqL.of k1, k2, q F H v (Grow.refl S.ex) S.pool k3⟩
end
end SR
end
section
/-! SrDw: an own dict that is walked in a comprehension. -/
namespace SR
open PySem PySem.Spec PyProof.Rows L2
variable [W : Wd]
def Itq (d : Addr) (ents : List Ent) (ep : Nat) : It :=
  ⟨fun i H => H d = some (DicO d ents ep) ∧ i < ents.length, fun i H x H' => H' = H ∧ ∃ e : Ent, ents[i]? = some e ∧ x = V.ref e.2.1, fun i H => H d = some (DicO d ents ep) ∧ ents.length ≤ i⟩
theorem dic_raw {X : Cx} {pins : List (Addr × Obj)} {σ : L2.St} {H : Hp} {s : Shared} (hW : Wd.mk X.prog X.w = W) (I : L2.Inv X pins σ H s) {a : Addr} {ents : List Ent} {ep : Nat} (h : H a = some (DicO a ents ep)) :
    ∃ (xs : List (NestedKey × Addr × Value)) (o : Obj) (es : Array DictEntry), Paired EntV ents xs ∧ (a == sysModules) = false ∧ s.heap.get? a = some o ∧ o.ExactDict ∧ o.data = .dict es ep ∧ es.toList = xs.map (entryOfKey (nestedKind X.prog X.w)) := by
  subst hW
  letI : Wd := ⟨X.prog, X.w⟩
  obtain ⟨⟨n1, n2, xs, px, o, es, h1, h2, h3, h4, h5⟩, _⟩ := (show ObjOk X.prog X.w H s.heap a (DicO a ents ep) from I.hok a _ h)
  exact ⟨xs, o, es, px, n1, h1, h2, h3, h4⟩
theorem turn_dw {P : Program} {w : World} {K : PySem.W.Frag} {tg : Expr} {d it : Addr} {ents : List Ent} {ep : Nat} (hW : Wd.mk P w = W) : Turn P w K tg (Itq d ents ep) [it] it (fun i h => h.IsKeyIter it d i ents.length ep) where
  mem := by simp
  obj := fun i h st b hb => by
    have e : b = it := by simpa using hb
    subst e
    obtain ⟨oi, e, c, dd⟩ := st
    exact ⟨oi, e, fun v z => by rw [dd] at z; cases z⟩
  keep := fun i h h' st k => st.at fun oi e => k it (by simp) oi e
  item := by
    intro X hP hw hK hc i pins s σ H E I hf st hg
    subst hP hw hK
    obtain ⟨hd, hi⟩ := hg
    obtain ⟨f0, f1, f2, f3, f4, f5⟩ := hf it (by simp)
    obtain ⟨xs, o, es, px, hs, ho, hx, hdt, he⟩ := dic_raw hW I hd
    have l1 : es.size = xs.length := size_of_entries he
    have l2 : ents.length = xs.length := paired_len px
    obtain ⟨en, hen⟩ : ∃ e, ents[i]? = some e := ⟨ents[i], List.getElem?_eq_getElem hi⟩
    obtain ⟨x, hxx⟩ : ∃ x, xs[i]? = some x := ⟨xs[i]'(by omega), List.getElem?_eq_getElem (by omega)⟩
    have qe := entry_at he i
    rw [hxx] at qe
    have hk := (pair_ix px hen hxx).2.1
    refine next_key_item st ho hdt (by omega) qe fun h' st' sb => ?_
    have I1 : L2.Inv X pins σ H { s with heap := h' } := I.turned (t' := s.toks) (fun b ob hb e => (sb.2 b hb).trans e) f0 f1 f3 f4 f5
    obtain ⟨oi, e, c, dd⟩ := id st'
    refine ⟨_, rfl, go_of (s := { s with heap := h' }) e c dd (by decide) ⟨V.ref en.2.1, H, I1, ?_, ⟨rfl, en, hen, rfl⟩, st', fun b hb => (hf b hb).1⟩⟩
    show Value.ref x.2.1 = Value.ref en.2.1
    rw [hk]
  done := by
    intro X hP hw hK hc i pins s σ H E I hf st hg
    subst hP hw hK
    obtain ⟨hd, hi⟩ := hg
    obtain ⟨f0, f1, f2, f3, f4, f5⟩ := hf it (by simp)
    obtain ⟨xs, o, es, px, hs, ho, hx, hdt, he⟩ := dic_raw hW I hd
    have l1 : es.size = xs.length := size_of_entries he
    have l2 : ents.length = xs.length := paired_len px
    exact next_key_end (I.ok.hd hc) st ho hdt (by omega) hi fun h' eb => ⟨rfl, I.turned (t' := s.toks) (fun b ob hb e => eb b ob hb e) f0 f1 f3 f4 f5⟩
  self := fun A i s Q E st h => wpAny_pyIter_keyiter st h
theorem pi_dw {X : Cx} {pa : Option Addr} {tg : Expr} {i : Nat} {m : Str} {q : Pos} (hW : Wd.mk X.prog X.w = W) (hc : X.calm = true) (hN : X.N[i]? = some m) (hv : Vis X.env.scope m) (hmd : (m == ("__debug__" : Str)) = false) (hcd : (m == ("__classdict__" : Str)) = false) :
    PI X tg (.Name m q) (tDIC X.K pa (dkeysM i)) := by
  refine ⟨fun pins s σ H R I h => ?_⟩
  obtain ⟨ρ, π, F, ds, π', S, hf, qq⟩ := h
  replace hf := bnd_some hf; obtain ⟨kvs, π1, e1, hf⟩ := hf
  obtain ⟨h1, rfl⟩ := ownD_some e1
  cases hf
  obtain ⟨d, hd, O⟩ := S.env.own i _ h1
  obtain ⟨ents, ep, k1, k2, k3⟩ := O.at_
  have hlen := paired_len k2
  refine thn ((pe_var hN hv hmd hcd).run pins s σ H (fun x H1 => x = .ref d ∧ H1 = H) I ⟨.ref d, hd, rfl, rfl⟩) fun u s1 ⟨x, H1, I1, rx, hx, hH⟩ => ?_
  subst hx hH
  obtain rfl : u = Value.ref d := rx
  obtain ⟨xs, o, es, px, hs, ho, hxx, hdt, he⟩ := dic_raw hW I1 k1
  have l1 : es.size = xs.length := size_of_entries he
  have l2 : ents.length = xs.length := paired_len px
  refine iter_keys hs ho hxx hdt (pi_one (tk := s1.toks) I1 _ (turn_dw (ents := ents) (d := d) (ep := ep) hW) ⟨_, Heap.get?_push_size _ rfl, rfl, ?_⟩ ?_)
  · rw [l2, ← l1]; rfl
  · refine qq F H1 _ (fun a => if a = d then some (DicO d ents ep) else none) (Grow.refl S.ex) S.pool (fun H'' kp a o e => ?_) ⟨by rw [List.length_map]; omega, fun i H e hi => ⟨e d _ (if_pos rfl), by rw [List.length_map] at hi; omega⟩, fun H e => ⟨e d _ (if_pos rfl), by rw [List.length_map]; omega⟩, ?_⟩
    · dsimp only at e
      by_cases ha : a = d
      · subst ha
        rw [if_pos rfl] at e
        cases e
        exact kp _ _ (fun z => O.np z.symm) k1
      · rw [if_neg ha] at e; cases e
    · rintro j G H x H' dd eg gh _ hdd ⟨rfl, en, hen, rfl⟩
      rw [List.getElem?_map, Option.map_eq_some_iff] at hdd
      obtain ⟨kv, hkv, rfl⟩ := hdd
      exact ⟨G, Grow.refl gh, (pair_ix k2 hen hkv).2.2.1.mono eg⟩
end SR
end
section
/-! SrSnd: every expression that passes the look means its value. -/
namespace SR
open PySem PySem.Spec PyProof.Rows L2
variable [W : Wd]

/-- what calls of own defs lean on -/
structure Gn where
  prog : Program
  w : World
  K : PySem.W.Frag
  mg : Str → Option Value
  base : Heap
abbrev gnOf (X : Cx) : Gn := ⟨X.prog, X.w, X.K, X.mg, X.base⟩
def Gn.fn (G : Gn) (k : Nat) (n : Str) (f : Fn) : Prop := FnSem G.prog G.w G.K G.mg G.base k n (spF G.K f)
def Gn.fnP (G : Gn) (k : Nat) (n : Str) (f : FnP) : Prop := FnSem G.prog G.w G.K G.mg G.base k n (spP G.K f)
def Gn.gl (G : Gn) (n : Str) (d : D) : Prop := ∃ v u, G.mg n = some u ∧ RelV v u ∧ Rp G.K (fun _ => none) v d
mutual
def E.ok (G : Gn) (k : Nat) : E → Prop
  | .var _ => True
  | .k _ => True
  | .glob n d => G.gl n d
  | .tup es => EL.ok G k es
  | .lst es => EL.ok G k es
  | .op2 _ a b => E.ok G k a ∧ E.ok G k b
  | .neg a => E.ok G k a
  | .not a => E.ok G k a
  | .and a b => E.ok G k a ∧ E.ok G k b
  | .or a b => E.ok G k a ∧ E.ok G k b
  | .cmp _ a b => E.ok G k a ∧ E.ok G k b
  | .cmp2 _ _ a b e => E.ok G k a ∧ E.ok G k b ∧ E.ok G k e
  | .cmp3 _ _ _ a b e g => E.ok G k a ∧ E.ok G k b ∧ E.ok G k e ∧ E.ok G k g
  | .ite c a b => E.ok G k c ∧ E.ok G k a ∧ E.ok G k b
  | .ix a i => E.ok G k a ∧ E.ok G k i
  | .sl a lo hi => E.ok G k a ∧ EL.ok G k lo ∧ EL.ok G k hi
  | .rev a => E.ok G k a
  | .bi _ es => EL.ok G k es
  | .isa _ a => E.ok G k a
  | .call n f es => G.fn k n f ∧ EL.ok G k es
  | .callP _ n f es => G.fnP k n f ∧ EL.ok G k es
  | .comp _ it cs el _ => E.ok G k it ∧ EL.ok G k cs ∧ E.ok G k el
  | .comp2 _ it _ it1 el _ _ => E.ok G k it ∧ E.ok G k it1 ∧ E.ok G k el
  | .zip2 a b => E.ok G k a ∧ E.ok G k b
  | .zip3 a b c => E.ok G k a ∧ E.ok G k b ∧ E.ok G k c
  | .enum a => E.ok G k a
  | .rng1 a => E.ok G k a
  | .rng2 a b => E.ok G k a ∧ E.ok G k b
  | .oix _ a => E.ok G k a
  | .olen _ => True
  | .osl _ lo hi => EL.ok G k lo ∧ EL.ok G k hi
  | .dget _ a => E.ok G k a
  | .dgetd _ es => EL.ok G k es
  | .din _ a => E.ok G k a
  | .ditems _ => True
  | .dkeys _ => True
  | .dwalk _ => True
  | .join a b => E.ok G k a ∧ E.ok G k b
  | .pg _ _ => True
def EL.ok (G : Gn) (k : Nat) : EL → Prop
  | .nil => True
  | .cons e es => E.ok G k e ∧ EL.ok G k es
end
def frees : List Str := ["len", "sum", "max", "min", "any", "all", "tuple", "list", "str", "int", "bool", "sorted", "isinstance", "range", "enumerate", "zip", "dict", "set"]
structure Par (X : Cx) (k : Nat) : Prop where
  calm : X.calm = true
  nd : X.N.Nodup
  room : Room k X.A
  free : ∀ n ∈ frees, X.mg n = none
  wd : Wd.mk X.prog X.w = W
theorem Par.un {X : Cx} {k : Nat} (P : Par X k) : X.A.units + 65 < cLine := by have := P.room.un; omega
def isWalk : E → Bool
  | .zip2 .. => true
  | .zip3 .. => true
  | .enum .. => true
  | .rng1 .. => true
  | .rng2 .. => true
  | .dwalk .. => true
  | _ => false
theorem chk_none {N : List Str} {e : E} {sc : Scope} {x : Expr} (h : chk N e none sc x = true) : isWalk e = false := by
  cases e <;> first
    | rfl
    | (simp only [chk] at h; cases h)
def isBool : Expr → Bool
  | .BoolOp .. => true
  | _ => false
structure Good (X : Cx) (pa : Option Addr) (e : E) (p : Option Expr) (x : Expr) : Prop where
  pe : isWalk e = false → PE X x (tD X.K pa (ev e))
  pt : isWalk e = false → noIf x = true → PT X x (tDT X.K pa (tru (ev e)))
  pi : isDw e = false → ∀ t, p = some t → PI X t x (tDI X.K pa fun ρ => bnd (ev e ρ) fun d => lift (iterD d))
  pc : ∀ t, p = some t → PI X t x (tDIC X.K pa fun ρ => bnd (ev e ρ) fun d => lift (iterD d))
  pw : isBool x = true → PW X x (tDT X.K pa (tru (ev e)))
theorem Good.bool {X : Cx} {pa : Option Addr} {e : E} {p : Option Expr} {x : Expr} (h : PE X x (tD X.K pa (ev e))) (t : PW X x (tDT X.K pa (tru (ev e)))) : Good X pa e p x :=
  ⟨fun _ => h, fun _ _ => t.pt, fun _ _ _ => pi_any h, fun _ _ => pi_weak (pi_any h), fun _ => t⟩
theorem Good.of {X : Cx} {pa : Option Addr} {e : E} {p : Option Expr} {x : Expr} (h : PE X x (tD X.K pa (ev e))) (t : noIf x = true → PT X x (tDT X.K pa (tru (ev e)))) (nb : isBool x = false) : Good X pa e p x :=
  ⟨fun _ => h, fun _ => t, fun _ _ _ => pi_any h, fun _ _ => pi_weak (pi_any h), fun z => by rw [nb] at z; (cases z)⟩
theorem Good.plain {X : Cx} {pa : Option Addr} {e : E} {p : Option Expr} {x : Expr} (h : PE X x (tD X.K pa (ev e))) (t : plainT x = true) : Good X pa e p x := Good.of h (fun _ => t_plain h t) (by cases x <;> first | rfl | cases t)
theorem iter_list {f : Sl → M (List D)} : (fun ρ => bnd (bnd (f ρ) fun ds => ret (PyData.list ds)) fun d => lift (iterD d)) = f := by
  funext ρ π
  simp only [bnd_assoc, bnd_ret]
  unfold bnd
  cases f ρ π <;> rfl
theorem Good.walk {X : Cx} {pa : Option Addr} {e : E} {p : Option Expr} {x : Expr} {f : Sl → M (List D)} (hw : isWalk e = true) (he : ev e = fun ρ => bnd (f ρ) fun ds => ret (.list ds)) (h : ∀ t, p = some t → PI X t x (tDI X.K pa f)) (nb : isBool x = false) : Good X pa e p x :=
  ⟨fun z => by rw [hw] at z; (cases z), fun z => by rw [hw] at z; (cases z), fun _ t ht => by rw [he, iter_list]; exact h t ht, fun t ht => by rw [he, iter_list]; exact pi_weak (h t ht), fun z => by rw [nb] at z; (cases z)⟩
theorem Good.dw {X : Cx} {pa : Option Addr} {e : E} {p : Option Expr} {x : Expr} {f : Sl → M (List D)} (hw : isWalk e = true) (hd : isDw e = true) (he : ev e = fun ρ => bnd (f ρ) fun ds => ret (.list ds)) (h : ∀ t, p = some t → PI X t x (tDIC X.K pa f)) (nb : isBool x = false) : Good X pa e p x :=
  ⟨fun z => by rw [hw] at z; (cases z), fun z => by rw [hw] at z; (cases z), fun z => by rw [hd] at z; (cases z), fun t ht => by rw [he, iter_list]; exact h t ht, fun z => by rw [nb] at z; (cases z)⟩
theorem vis_of {sc : Scope} {x : Str} (h : visB sc x = true) : Vis sc x := by
  unfold visB at h
  split at h <;> first | (rename_i e; exact .inl e) | (rename_i e; exact .inr (.inl e)) | (rename_i e; exact .inr (.inr e)) | cases h
theorem var_of {N : List Str} {sc : Scope} {i : Nat} {x : Str} (h : varB N sc i x = true) : N[i]? = some x ∧ Vis sc x ∧ (x == ("__debug__" : Str)) = false ∧ (x == ("__classdict__" : Str)) = false := by
  unfold varB at h
  simp only [Bool.and_eq_true, decide_eq_true_eq, Bool.not_eq_true'] at h
  exact ⟨h.1.1.1, vis_of h.1.1.2, h.1.2, h.2⟩
theorem gl_of {X : Cx} {x : Str} (h : glB X.env.scope x = true) : Gl X x ∧ (x == ("__debug__" : Str)) = false := by
  unfold glB at h
  simp only [Bool.and_eq_true, decide_eq_true_eq, Bool.not_eq_true'] at h
  exact ⟨h.1.1, h.1.2⟩
theorem noSet_fold {e : Expr} (h : noSet e = true) (env : PySem.Env) (v : Value) : foldedSetIterable e env v = pure v := by
  cases e <;> first | rfl | cases h
theorem bi_free (b : Bi) : b.name ∈ frees := by cases b <;> decide +kernel
theorem ty_free (t : Ty) : t.name ∈ frees := by cases t <;> decide +kernel
theorem isTup_ex {t : Expr} (h : isTupE t = true) : ∃ xs k p, t = .Tuple xs k p := by
  cases t <;> first | exact ⟨_, _, _, rfl⟩ | cases h
theorem evs_len {es : EL} {ρ : Sl} {π π' : Pool} {ds : List D} {N : List Str} {sc : Scope} {xs : List Expr} (h : chks N es sc xs = true) (e : evs es ρ π = some (ds, π')) : ds.length = xs.length := by
  induction xs generalizing es π ds with
  | nil =>
    cases es with
    | nil => simp only [evs] at e; cases e; rfl
    | cons a as => simp only [chks] at h; cases h
  | cons x xs ih =>
    cases es with
    | nil => simp only [chks] at h; cases h
    | cons a as =>
      simp only [chks, Bool.and_eq_true] at h
      simp only [evs] at e
      replace e := bnd_some e; obtain ⟨d, π1, e1, e⟩ := e
      replace e := bnd_some e; obtain ⟨ds', π2, e2, e⟩ := e
      cases e
      rw [List.length_cons, List.length_cons, ih h.2 e2]
theorem chks_star {N : List Str} : ∀ {es : EL} {sc : Scope} {xs : List Expr}, chks N es sc xs = true → xs.all noStar = true
  | .nil, _, [], _ => rfl
  | .nil, _, _ :: _, h => by simp only [chks] at h; cases h
  | .cons _ _, _, [], h => by simp only [chks] at h; cases h
  | .cons _ es, sc, x :: xs, h => by
    simp only [chks, Bool.and_eq_true] at h
    rw [List.all_cons, h.1.1, chks_star h.2]; rfl

/-- the value of a form that makes a new list -/
def evL : E → Sl → M (List D)
  | .lst es, ρ => bnd (evs es ρ) fun ds => if ds.length ≤ 1000 then ret ds else stuck
  | .comp tg it cs el own, ρ => bnd (bnd (ev it ρ) fun d => lift (iterD d)) fun ds => compL (vComp tg own (evC cs) (ev el) ρ) ds
  | .comp2 tg it tg1 it1 el own own1, ρ => bnd (bnd (ev it ρ) fun d => lift (iterD d)) fun ds => bnd (flatL (vComp2 tg own (fun ρ' => bnd (ev it1 ρ') fun d => lift (iterD d)) tg1 own1 (ev el) ρ) ds) fun ys => if ys.length ≤ sizeLine then ret ys else stuck
  | .dkeys i, ρ => bnd (ownD ρ i) fun kvs => ret (kvs.map (·.1))
  | .bi .list es, ρ => bnd (evs es ρ) fun ds => lift (match ds with
    | [d] => items d
    | _ => none)
  | .bi .sorted es, ρ => bnd (evs es ρ) fun ds => lift (match ds with
    | [d] => sortedOf d
    | _ => none)
  | _, _ => stuck
def isNew : E → Bool
  | .lst _ => true
  | .comp .. => true
  | .comp2 .. => true
  | .dkeys _ => true
  | .bi .list _ => true
  | .bi .sorted _ => true
  | _ => false
theorem evL_comp {tg : Tg} {it el : E} {cs : EL} {own : List Nat} : (fun ρ => bnd (evL (.comp tg it cs el own) ρ) fun ds => ret (.list ds)) = ev (.comp tg it cs el own) := by
  funext ρ
  simp only [ev, evL, bnd_assoc]
  all_goals rfl
theorem evL_comp2 {tg tg1 : Tg} {it it1 el : E} {own own1 : List Nat} : (fun ρ => bnd (evL (.comp2 tg it tg1 it1 el own own1) ρ) fun ds => ret (.list ds)) = ev (.comp2 tg it tg1 it1 el own own1) := by
  funext ρ
  simp only [ev, evL]
  rw [bnd_assoc, bnd_assoc]
  refine congrArg (bnd _) (funext fun d => congrArg (bnd _) (funext fun ds => ?_))
  rw [bnd_assoc]
  refine congrArg (bnd _) (funext fun ys => ?_)
  split <;> rfl
theorem blk_par {X : Cx} {k : Nat} (P : Par X k) (s : Shared) (H : Hp) (scope : Scope) (env : PySem.Env) (fp : List Addr) : Par (X.blk s H scope env fp) k := ⟨P.calm, P.nd, P.room, P.free, P.wd⟩
theorem compL_of {X : Cx} {pa : Option Addr} {k : Nat} {tg : Tg} {it el : E} {cs : EL} {own : List Nat} {y t w : Expr} {ifs : List Expr} {scope : Scope} {pos : Pos} (P : Par X k)
    (h2 : blkB X.N X.env.scope scope own = true) (h3 : tgIn own tg = true) (h5 : noSet w = true) (h6 : chkTg X.N (relS scope X.env.scope) (fnB scope) tg t = true) (gi : Good X pa it (some t) w)
    (gc : ∀ (s : Shared) (H : Hp) (C : Addr) (cl : List (Str × Addr)) (fp : List Addr), PTs (X.blk s H scope (compEnvC scope cl C X.env) fp) ifs (tDT X.K pa (evC cs)))
    (ge : ∀ (s : Shared) (H : Hp) (C : Addr) (cl : List (Str × Addr)) (fp : List Addr), PE (X.blk s H scope (compEnvC scope cl C X.env) fp) y (tD X.K pa (ev el))) :
    PE X (.ListComp y [⟨t, w, ifs, 0⟩] scope pos) (tDL X.K pa (evL (.comp tg it cs el own))) :=
  s_compL P.calm P.nd h2 h3 (noSet_fold h5 X.env) (gi.pc t rfl) (fun s H C cl fp => g_ok tg (X.blk s H scope (compEnvC scope cl C X.env) fp) t rfl P.calm P.nd (fnB scope) (fun _ z => z) h6) gc ge
theorem compL2_of {X : Cx} {pa : Option Addr} {k : Nat} {tg tg1 : Tg} {it it1 el : E} {own own1 : List Nat} {y t w t1 w1 : Expr} {scope : Scope} {pos : Pos} (P : Par X k)
    (h2 : blkB X.N X.env.scope scope own = true) (h3 : tgIn own tg = true) (h3' : tgIn own1 tg1 = true) (hs : (own1.all fun i => decide (i ∈ own)) = true) (h5 : noSet w = true) (h6 : chkTg X.N (relS scope X.env.scope) (fnB scope) tg t = true) (gi : Good X pa it (some t) w) (nd : isDw it = false) (nd1 : isDw it1 = false)
    (gi1 : ∀ (s : Shared) (H : Hp) (C : Addr) (cl : List (Str × Addr)) (fp : List Addr), Good (X.blk s H scope (compEnvC scope cl C X.env) fp) pa it1 (some t1) w1) (h5' : noSet w1 = true) (h6' : chkTg X.N (relS scope X.env.scope) (fnB scope) tg1 t1 = true)
    (ge : ∀ (s : Shared) (H : Hp) (C : Addr) (cl : List (Str × Addr)) (fp : List Addr), PE (X.blk s H scope (compEnvC scope cl C X.env) fp) y (tD X.K pa (ev el))) :
    PE X (.ListComp y [⟨t, w, [], 0⟩, ⟨t1, w1, [], 0⟩] scope pos) (tDL X.K pa (evL (.comp2 tg it tg1 it1 el own own1))) :=
  s_compL2 P.calm P.nd h2 h3 h3' (fun i hi => by simpa using List.all_eq_true.mp hs i hi) (noSet_fold h5 X.env) (fun env => noSet_fold h5' env) (gi.pi nd t rfl) (fun s H C cl fp => g_ok tg (X.blk s H scope (compEnvC scope cl C X.env) fp) t rfl P.calm P.nd (fnB scope) (fun _ z => z) h6)
    (fun s H C cl fp => (gi1 s H C cl fp).pi nd1 t1 rfl) (fun s H C cl fp => g_ok tg1 (X.blk s H scope (compEnvC scope cl C X.env) fp) t1 rfl P.calm P.nd (fnB scope) (fun _ z => z) h6') ge

def pos0 : Pos := ⟨0, 0, 0, 0⟩
mutual
theorem snd_e (pa : Option Addr) (k : Nat) : ∀ (e : E) (X : Cx) (p : Option Expr) (x : Expr), Par X k → e.ok (gnOf X) k → chk X.N e p X.env.scope x = true → Good X pa e p x
  | .var i, X, p, x, P, O, h => by
    simp only [chk] at h
    split at h
    · obtain ⟨h1, h2, h3, h4⟩ := var_of h
      exact .plain (s_var h1 h2 h3 h4) rfl
    · cases h
  | .k d, X, p, x, P, O, h => by
    simp only [chk] at h
    split at h
    · exact .plain (s_k h) rfl
    · cases h
  | .glob n d, X, p, x, P, O, h => by
    simp only [chk] at h
    split at h
    · simp only [Bool.and_eq_true, beq_iff_eq] at h
      obtain ⟨rfl, h2⟩ := h
      obtain ⟨h3, h4⟩ := gl_of h2
      obtain ⟨v, u, o1, o2, o3⟩ := O
      exact .plain (s_glob h3 o1 o2 o3 h4) rfl
    · cases h
  | .tup es, X, p, x, P, O, h => by
    simp only [chk] at h
    split at h
    · exact .plain (s_tup (snd_es pa k es X _ P O h)) rfl
    · cases h
  | .lst es, X, p, x, P, O, h => by
    simp only [chk] at h
    split at h
    · have z := s_ofL (s_lstL (pos := ‹_›) (snd_es pa k es X _ P O h))
      refine .plain (PE.imp z fun σ H Q q => ?_) rfl
      obtain ⟨ρ, π, F, d, π', S, hf, q⟩ := q
      refine ⟨ρ, π, F, d, π', S, ?_, q⟩
      rw [← hf]
      simp only [ev, bnd_assoc]
      congr 1; funext ds
      split <;> rfl
    · cases h
  | .op2 o a b, X, p, x, P, O, h => by
    simp only [chk] at h
    split at h
    · simp only [Bool.and_eq_true, decide_eq_true_eq] at h
      obtain ⟨⟨rfl, h1⟩, h2⟩ := h
      exact .plain (s_op2 o ((snd_e pa k a X none _ P O.1 h1).pe (chk_none h1)) ((snd_e pa k b X none _ P O.2 h2).pe (chk_none h2))) rfl
    · cases h
  | .neg a, X, p, x, P, O, h => by
    simp only [chk] at h
    split at h
    · exact .plain (s_neg ((snd_e pa k a X none _ P O h).pe (chk_none h))) rfl
    · cases h
  | .not a, X, p, x, P, O, h => by
    simp only [chk] at h
    split at h
    · rw [Bool.and_eq_true] at h
      have g := snd_e pa k a X none _ P O h.1
      exact .of (s_not (g.pe (chk_none h.1))) (fun _ => t_not (g.pt (chk_none h.1) h.2)) rfl
    · cases h
  | .and a b, X, p, x, P, O, h => by
    simp only [chk] at h
    split at h
    · rename_i y z r pos
      simp only [Bool.and_eq_true] at h
      obtain ⟨⟨h1, h2⟩, h3⟩ := h
      have g := snd_e pa k a X none _ P O.1 h1
      cases r with
      | nil =>
        simp only [Bool.and_eq_true] at h3
        have g2 := snd_e pa k b X none _ P O.2 h3.1
        exact .bool (s_and (g.pe (chk_none h1)) (pe_one (g2.pe (chk_none h3.1)))) (w_and (g.pt (chk_none h1) h2) (w_and1 (g2.pt (chk_none h3.1) h3.2)))
      | cons u r =>
        have g2 := snd_e pa k b X none _ P O.2 h3
        exact .bool (s_and (g.pe (chk_none h1)) (g2.pe (chk_none h3))) (w_and (g.pt (chk_none h1) h2) (g2.pw rfl))
    · cases h
  | .or a b, X, p, x, P, O, h => by
    simp only [chk] at h
    split at h
    · rename_i y z r pos
      simp only [Bool.and_eq_true] at h
      obtain ⟨⟨h1, h2⟩, h3⟩ := h
      have g := snd_e pa k a X none _ P O.1 h1
      cases r with
      | nil =>
        simp only [Bool.and_eq_true] at h3
        have g2 := snd_e pa k b X none _ P O.2 h3.1
        exact .bool (s_or (g.pe (chk_none h1)) (pe_one (g2.pe (chk_none h3.1)))) (w_or (g.pt (chk_none h1) h2) (w_or1 (g2.pt (chk_none h3.1) h3.2)))
      | cons u r =>
        have g2 := snd_e pa k b X none _ P O.2 h3
        exact .bool (s_or (g.pe (chk_none h1)) (g2.pe (chk_none h3))) (w_or (g.pt (chk_none h1) h2) (g2.pw rfl))
    · cases h
  | .cmp c a b, X, p, x, P, O, h => by
    simp only [chk] at h
    split at h
    · simp only [Bool.and_eq_true, decide_eq_true_eq, Bool.not_eq_true'] at h
      obtain ⟨⟨⟨rfl, h1⟩, h2⟩, h3⟩ := h
      have g1 := (snd_e pa k a X none _ P O.1 h1).pe (chk_none h1)
      have g2 := (snd_e pa k b X none _ P O.2 h2).pe (chk_none h2)
      exact .of (s_cmp P.un c g1 g2 h3) (fun _ => t_cmp P.un c g1 g2 h3) rfl
    · cases h
  | .cmp2 c d a b e, X, p, x, P, O, h => by
    simp only [chk] at h
    split at h
    · simp only [Bool.and_eq_true, decide_eq_true_eq, Bool.not_eq_true'] at h
      obtain ⟨⟨⟨⟨⟨rfl, rfl⟩, h1⟩, h2⟩, h3⟩, h4⟩ := h
      have g1 := (snd_e pa k a X none _ P O.1 h1).pe (chk_none h1)
      have g2 := (snd_e pa k b X none _ P O.2.1 h2).pe (chk_none h2)
      have g3 := (snd_e pa k e X none _ P O.2.2 h3).pe (chk_none h3)
      exact .of (s_cmp2 P.un c d g1 g2 g3 h4) (fun _ => t_cmp2 P.un c d g1 g2 g3 h4) rfl
    · cases h
  | .cmp3 c d f a b e g, X, p, x, P, O, h => by
    simp only [chk] at h
    split at h
    · simp only [Bool.and_eq_true, decide_eq_true_eq, Bool.not_eq_true'] at h
      obtain ⟨⟨⟨⟨⟨⟨⟨rfl, rfl⟩, rfl⟩, h1⟩, h2⟩, h3⟩, h4⟩, h5⟩ := h
      have g1 := (snd_e pa k a X none _ P O.1 h1).pe (chk_none h1)
      have g2 := (snd_e pa k b X none _ P O.2.1 h2).pe (chk_none h2)
      have g3 := (snd_e pa k e X none _ P O.2.2.1 h3).pe (chk_none h3)
      have g4 := (snd_e pa k g X none _ P O.2.2.2 h4).pe (chk_none h4)
      exact .of (s_cmp3 P.un c d f g1 g2 g3 g4 h5) (fun _ => t_cmp3 P.un c d f g1 g2 g3 g4 h5) rfl
    · cases h
  | .ite c a b, X, p, x, P, O, h => by
    simp only [chk] at h
    split at h
    · simp only [Bool.and_eq_true] at h
      obtain ⟨⟨⟨h1, h2⟩, h3⟩, h4⟩ := h
      exact .of (s_ite ((snd_e pa k c X none _ P O.1 h1).pt (chk_none h1) h2) ((snd_e pa k a X none _ P O.2.1 h3).pe (chk_none h3)) ((snd_e pa k b X none _ P O.2.2 h4).pe (chk_none h4))) (fun z => by cases z) rfl
    · cases h
  | .ix a i, X, p, x, P, O, h => by
    simp only [chk] at h
    split at h
    · simp only [Bool.and_eq_true] at h
      exact .plain (s_ix h.2 ((snd_e pa k a X none _ P O.1 h.1.1).pe (chk_none h.1.1)) ((snd_e pa k i X none _ P O.2 h.1.2).pe (chk_none h.1.2))) rfl
    · cases h
  | .sl a lo hi, X, p, x, P, O, h => by
    simp only [chk] at h
    split at h
    · simp only [Bool.and_eq_true] at h
      exact .plain (s_sl ((snd_e pa k a X none _ P O.1 h.1.1).pe (chk_none h.1.1)) (snd_o pa k lo X _ P O.2.1 h.1.2) (snd_o pa k hi X _ P O.2.2 h.2)) rfl
    · cases h
  | .rev a, X, p, x, P, O, h => by
    simp only [chk] at h
    split at h
    · simp only [Bool.and_eq_true, beq_iff_eq] at h
      obtain ⟨rfl, h1⟩ := h
      exact .plain (s_rev ((snd_e pa k a X none _ P O h1).pe (chk_none h1))) rfl
    · cases h
  | .bi b es, X, p, x, P, O, h => by
    simp only [chk] at h
    split at h
    · simp only [Bool.and_eq_true, beq_iff_eq] at h
      obtain ⟨⟨rfl, h1⟩, h2⟩ := h
      exact .plain (s_bi P.calm P.un b (gl_of h1).1 (P.free _ (bi_free b)) (chks_star h2) (snd_es pa k es X _ P O h2)) rfl
    · cases h
  | .isa t a, X, p, x, P, O, h => by
    simp only [chk] at h
    split at h
    · simp only [Bool.and_eq_true, beq_iff_eq] at h
      obtain ⟨⟨⟨⟨⟨rfl, h1⟩, rfl⟩, h2⟩, h3⟩, h4⟩ := h
      exact .plain (s_isa t (gl_of h1).1 (P.free _ (by decide +kernel)) (gl_of h2).1 (P.free _ (ty_free t)) h4 ((snd_e pa k a X none _ P O h3).pe (chk_none h3))) rfl
    · cases h
  | .call n f es, X, p, x, P, O, h => by
    simp only [chk] at h
    split at h
    · simp only [Bool.and_eq_true, beq_iff_eq] at h
      obtain ⟨⟨rfl, h1⟩, h2⟩ := h
      exact .plain (s_call O.1 P.room (gl_of h1).1 (gl_of h1).2 (chks_star h2) (snd_es pa k es X _ P O.2 h2)) rfl
    · cases h
  | .callP i n f es, X, p, x, P, O, h => by
    simp only [chk] at h
    split at h
    · simp only [Bool.and_eq_true, beq_iff_eq] at h
      obtain ⟨⟨⟨rfl, h1⟩, h3⟩, h2⟩ := h
      obtain ⟨v1, v2, v3, v4⟩ := var_of h3
      exact .plain (s_callP O.1 P.room (gl_of h1).1 (gl_of h1).2 v1 v2 v3 v4 (chks_star h2) (snd_es pa k es X _ P O.2 h2)) rfl
    · cases h
  | .comp tg it cs el own, X, p, x, P, O, h => by
    simp only [chk] at h
    split at h
    · simp only [Bool.and_eq_true, beq_iff_eq] at h
      obtain ⟨⟨⟨⟨⟨⟨⟨rfl, h2⟩, h3⟩, h4⟩, h5⟩, h6⟩, h7⟩, h8⟩ := h
      refine .plain ?_ rfl
      rw [← evL_comp]
      refine s_ofL (compL_of P h2 h3 h5 h6 (snd_e pa k it X _ _ P O.1 h4) (fun s H C cl fp => ?_) fun s H C cl fp => ?_)
      · exact snd_cs pa k cs (X.blk s H _ (compEnvC _ cl C X.env) fp) _ (blk_par P _ _ _ _ _) O.2.1 h7
      · exact (snd_e pa k el (X.blk s H _ (compEnvC _ cl C X.env) fp) none _ (blk_par P _ _ _ _ _) O.2.2 h8).pe (chk_none h8)
    · cases h
  | .comp2 tg it tg1 it1 el own own1, X, p, x, P, O, h => by
    simp only [chk] at h
    split at h
    · simp only [Bool.and_eq_true, beq_iff_eq] at h
      obtain ⟨⟨⟨⟨⟨⟨⟨⟨⟨⟨⟨⟨⟨⟨nd, nd1⟩, rfl⟩, rfl⟩, h2⟩, h3⟩, h3'⟩, hs⟩, h4⟩, h5⟩, h6⟩, h4'⟩, h5'⟩, h6'⟩, h8⟩ := h
      have nd : isDw it = false := by simpa using nd
      have nd1 : isDw it1 = false := by simpa using nd1
      refine .plain ?_ rfl
      rw [← evL_comp2]
      refine s_ofL (compL2_of P h2 h3 h3' hs h5 h6 (snd_e pa k it X _ _ P O.1 h4) nd nd1 (fun s H C cl fp => ?_) h5' h6' fun s H C cl fp => ?_)
      · exact snd_e pa k it1 (X.blk s H _ (compEnvC _ cl C X.env) fp) _ _ (blk_par P _ _ _ _ _) O.2.1 h4'
      · exact (snd_e pa k el (X.blk s H _ (compEnvC _ cl C X.env) fp) none _ (blk_par P _ _ _ _ _) O.2.2 h8).pe (chk_none h8)
    · cases h
  | .zip2 a b, X, p, x, P, O, h => by
    simp only [chk] at h
    split at h
    · simp only [Bool.and_eq_true, beq_iff_eq] at h
      obtain ⟨⟨⟨⟨⟨⟨h1, rfl⟩, h2⟩, h3⟩, h4⟩, h5⟩, h6⟩ := h
      refine .walk (f := fun ρ => bnd (ev a ρ) fun x => bnd (ev b ρ) fun y => lift (zip2D [x, y])) rfl (by funext ρ; simp only [ev, bnd_assoc]) (fun t ht => ?_) rfl
      cases ht
      obtain ⟨xs, kk, pp, rfl⟩ := isTup_ex h1
      refine PI.imp (pi_zip2 (gl_of h2).1 (P.free _ (by decide +kernel)) (a_cons h4 ((snd_e pa k a X none _ P O.1 h3).pe (chk_none h3)) (a_cons h6 ((snd_e pa k b X none _ P O.2 h5).pe (chk_none h5)) a_nil)) (starEach_cons h4) (noStars_each (by rw [List.all_cons, h6]; rfl))) fun σ H R q => ?_
      simp only [bnd_assoc, bnd_ret]
      exact q
    · cases h
  | .zip3 a b c, X, p, x, P, O, h => by
    simp only [chk] at h
    split at h
    · simp only [Bool.and_eq_true, beq_iff_eq] at h
      obtain ⟨⟨⟨⟨⟨⟨⟨⟨h1, rfl⟩, h2⟩, h3⟩, h4⟩, h5⟩, h6⟩, h7⟩, h8⟩ := h
      refine .walk (f := fun ρ => bnd (ev a ρ) fun x => bnd (ev b ρ) fun y => bnd (ev c ρ) fun z => lift (zip3D [x, y, z])) rfl (by funext ρ; simp only [ev, bnd_assoc]) (fun t ht => ?_) rfl
      cases ht
      obtain ⟨xs, kk, pp, rfl⟩ := isTup_ex h1
      refine PI.imp (pi_zip3 (gl_of h2).1 (P.free _ (by decide +kernel)) (a_cons h4 ((snd_e pa k a X none _ P O.1 h3).pe (chk_none h3)) (a_cons h6 ((snd_e pa k b X none _ P O.2.1 h5).pe (chk_none h5)) (a_cons h8 ((snd_e pa k c X none _ P O.2.2 h7).pe (chk_none h7)) a_nil))) (starEach_cons h4) (noStars_each (by rw [List.all_cons, List.all_cons, h6, h8]; rfl))) fun σ H R q => ?_
      simp only [bnd_assoc, bnd_ret]
      exact q
    · cases h
  | .enum a, X, p, x, P, O, h => by
    simp only [chk] at h
    split at h
    · simp only [Bool.and_eq_true, beq_iff_eq] at h
      obtain ⟨⟨⟨⟨h1, rfl⟩, h2⟩, h3⟩, h4⟩ := h
      refine .walk (f := fun ρ => bnd (ev a ρ) fun x => lift ((items x).map enumD)) rfl (by funext ρ; simp only [ev, bnd_assoc]) (fun t ht => ?_) rfl
      cases ht
      obtain ⟨xs, kk, pp, rfl⟩ := isTup_ex h1
      refine PI.imp (pi_enumK (gl_of h2).1 (P.free _ (by decide +kernel)) (a_cons h4 ((snd_e pa k a X none _ P O h3).pe (chk_none h3)) a_nil) (starEach_cons h4)) fun σ H R q => ?_
      simp only [bnd_assoc, bnd_ret]
      exact q
    · cases h
  | .rng1 a, X, p, x, P, O, h => by
    simp only [chk] at h
    split at h
    · simp only [Bool.and_eq_true, beq_iff_eq] at h
      obtain ⟨⟨⟨rfl, h2⟩, h3⟩, h4⟩ := h
      refine .walk (f := fun ρ => bnd (ev a ρ) fun x => lift (rngD [x])) rfl (by funext ρ; simp only [ev, bnd_assoc]) (fun t ht => ?_) rfl
      refine PI.imp (pi_rng1 (gl_of h2).1 (P.free _ (by decide +kernel)) (a_cons h4 ((snd_e pa k a X none _ P O h3).pe (chk_none h3)) a_nil) (starEach_cons h4) fun ρ π ds π' e => ?_) fun σ H R q => ?_
      · obtain ⟨d, π1, _, e⟩ := bnd_some e
        cases e; rfl
      · simp only [bnd_assoc, bnd_ret]
        exact q
    · cases h
  | .rng2 a b, X, p, x, P, O, h => by
    simp only [chk] at h
    split at h
    · simp only [Bool.and_eq_true, beq_iff_eq] at h
      obtain ⟨⟨⟨⟨⟨rfl, h2⟩, h3⟩, h4⟩, h5⟩, h6⟩ := h
      refine .walk (f := fun ρ => bnd (ev a ρ) fun x => bnd (ev b ρ) fun y => lift (rngD [x, y])) rfl (by funext ρ; simp only [ev, bnd_assoc]) (fun t ht => ?_) rfl
      refine PI.imp (pi_rng2 (gl_of h2).1 (P.free _ (by decide +kernel)) (a_cons h4 ((snd_e pa k a X none _ P O.1 h3).pe (chk_none h3)) (a_cons h6 ((snd_e pa k b X none _ P O.2 h5).pe (chk_none h5)) a_nil)) (by rw [starEach_cons h4, starEach_cons h6]; rfl) (starEach_cons h6) fun ρ π ds π' e => ?_) fun σ H R q => ?_
      · obtain ⟨d, π1, _, e⟩ := bnd_some e
        obtain ⟨d2, π2, e1, e2⟩ := bnd_some e
        cases e2
        obtain ⟨d3, π3, _, e3⟩ := bnd_some e1
        cases e3; rfl
      · simp only [bnd_assoc, bnd_ret]
        exact q
    · cases h
  | .oix i a, X, p, x, P, O, h => by
    simp only [chk] at h
    split at h
    · simp only [Bool.and_eq_true] at h
      obtain ⟨v1, v2, v3, v4⟩ := var_of h.1.1
      exact .plain (s_oix h.2 v1 v2 v3 v4 ((snd_e pa k a X none _ P O h.1.2).pe (chk_none h.1.2))) rfl
    · cases h
  | .olen i, X, p, x, P, O, h => by
    simp only [chk] at h
    split at h
    · simp only [Bool.and_eq_true, beq_iff_eq] at h
      obtain ⟨⟨rfl, h1⟩, h3⟩ := h
      obtain ⟨v1, v2, v3, v4⟩ := var_of h3
      exact .plain (s_olen (gl_of h1).1 (P.free _ (by decide +kernel)) v1 v2 v3 v4) rfl
    · cases h
  | .osl i lo hi, X, p, x, P, O, h => by
    simp only [chk] at h
    split at h
    · simp only [Bool.and_eq_true] at h
      obtain ⟨v1, v2, v3, v4⟩ := var_of h.1.1
      exact .plain (s_osl v1 v2 v3 v4 (snd_o pa k lo X _ P O.1 h.1.2) (snd_o pa k hi X _ P O.2 h.2)) rfl
    · cases h
  | .dget i a, X, p, x, P, O, h => by
    simp only [chk] at h
    split at h
    · simp only [Bool.and_eq_true] at h
      obtain ⟨v1, v2, v3, v4⟩ := var_of h.1.1
      exact .plain (s_dget P.wd P.un h.2 v1 v2 v3 v4 ((snd_e pa k a X none _ P O h.1.2).pe (chk_none h.1.2))) rfl
    · cases h
  | .dgetd i es, X, p, x, P, O, h => by
    simp only [chk] at h
    split at h
    · simp only [Bool.and_eq_true, beq_iff_eq] at h
      obtain ⟨⟨⟨rfl, h1⟩, h2⟩, h3⟩ := h
      obtain ⟨v1, v2, v3, v4⟩ := var_of h1
      have hst := chks_star h3
      rw [List.all_cons, List.all_cons, Bool.and_eq_true, Bool.and_eq_true] at hst
      exact .plain (s_dgetd P.wd P.un v1 v2 v3 v4 hst.1 hst.2.1 (by rw [h2]; exact beq_self_eq_true _) (snd_es pa k es X _ P O h3)) rfl
    · cases h
  | .din i a, X, p, x, P, O, h => by
    simp only [chk] at h
    split at h
    · simp only [Bool.and_eq_true] at h
      obtain ⟨v1, v2, v3, v4⟩ := var_of h.1
      have g := (snd_e pa k a X none _ P O h.2).pe (chk_none h.2)
      exact .of (s_din P.wd P.un v1 v2 v3 v4 g) (fun _ => t_din P.wd P.un v1 v2 v3 v4 g) rfl
    · cases h
  | .ditems i, X, p, x, P, O, h => by
    simp only [chk] at h
    split at h
    · simp only [Bool.and_eq_true, beq_iff_eq] at h
      obtain ⟨⟨⟨⟨rfl, h1⟩, rfl⟩, h2⟩, h3⟩ := h
      obtain ⟨v1, v2, v3, v4⟩ := var_of h2
      exact .plain (s_ditems P.wd P.calm (gl_of h1).1 (P.free _ (by decide +kernel)) v1 v2 v3 v4 (by rw [h3]; exact beq_self_eq_true _)) rfl
    · cases h
  | .dwalk i, X, p, x, P, O, h => by
    simp only [chk] at h
    split at h
    · obtain ⟨v1, v2, v3, v4⟩ := var_of h
      exact .dw (f := dkeysM i) rfl rfl (by funext ρ; simp only [ev, dkeysM, bnd_assoc, bnd_ret]) (fun t _ => pi_dw P.wd P.calm v1 v2 v3 v4) rfl
    · cases h
  | .dkeys i, X, p, x, P, O, h => by
    simp only [chk] at h
    split at h
    · simp only [Bool.and_eq_true, beq_iff_eq] at h
      obtain ⟨⟨rfl, h1⟩, h2⟩ := h
      obtain ⟨v1, v2, v3, v4⟩ := var_of h2
      refine .plain (PE.imp (s_ofL (s_dkeys (pa := pa) P.wd P.calm (gl_of h1).1 (P.free _ (by decide +kernel)) v1 v2 v3 v4)) fun σ H Q q => ?_) rfl
      obtain ⟨ρ, π, F, d, π', S, hf, q⟩ := q
      refine ⟨ρ, π, F, d, π', S, ?_, q⟩
      rw [← hf]
      simp only [ev, dkeysM, bnd_assoc, bnd_ret]
    · cases h
  | .join a b, X, p, x, P, O, h => by
    simp only [chk] at h
    split at h
    · simp only [Bool.and_eq_true, beq_iff_eq] at h
      obtain ⟨⟨⟨⟨⟨rfl, h1⟩, h2⟩, h3⟩, h4⟩, h5⟩ := h
      exact .plain (s_join (q := pos0) h1 h3 (by rw [h2]; exact beq_self_eq_true _) ((snd_e pa k a X none _ P O.1 h4).pe (chk_none h4)) ((snd_e pa k b X none _ P O.2 h5).pe (chk_none h5))) rfl
    · cases h
  | .pg i j, X, p, x, P, O, h => by
    simp only [chk] at h
    split at h
    · simp only [Bool.and_eq_true, beq_iff_eq] at h
      obtain ⟨rfl, h2⟩ := h
      obtain ⟨v1, v2, v3, v4⟩ := var_of h2
      exact .plain (s_pg v1 v2 v3 v4) rfl
    · cases h
theorem snd_es (pa : Option Addr) (k : Nat) : ∀ (es : EL) (X : Cx) (xs : List Expr), Par X k → es.ok (gnOf X) k → chks X.N es X.env.scope xs = true → PA X xs (tDA X.K pa (evs es))
  | .nil, X, [], P, O, h => a_nil
  | .nil, X, _ :: _, P, O, h => by simp only [chks] at h; cases h
  | .cons e es, X, [], P, O, h => by simp only [chks] at h; cases h
  | .cons e es, X, x :: xs, P, O, h => by
    simp only [chks, Bool.and_eq_true] at h
    exact a_cons h.1.1 ((snd_e pa k e X none _ P O.1 h.1.2).pe (chk_none h.1.2)) (snd_es pa k es X xs P O.2 h.2)
theorem snd_cs (pa : Option Addr) (k : Nat) : ∀ (es : EL) (X : Cx) (xs : List Expr), Par X k → es.ok (gnOf X) k → chkCs X.N es X.env.scope xs = true → PTs X xs (tDT X.K pa (evC es))
  | .nil, X, [], P, O, h => ts_nil
  | .nil, X, _ :: _, P, O, h => by simp only [chkCs] at h; cases h
  | .cons e es, X, xs, P, O, h => by
    simp only [chkCs] at h
    split at h
    · rw [Bool.and_eq_true] at h
      exact ts_one ((snd_e pa k e X none _ P O.1 h.1).pt (chk_none h.1) h.2)
    · cases h
theorem snd_o (pa : Option Addr) (k : Nat) : ∀ (es : EL) (X : Cx) (x : Option Expr), Par X k → es.ok (gnOf X) k → chks X.N es X.env.scope x.toList = true → PO X x (tDO X.K pa fun ρ => bnd (evs es ρ) fun l => lift (partD l))
  | .nil, X, none, P, O, h => o_none
  | .nil, X, some _, P, O, h => by simp only [chks, Option.toList_some] at h; cases h
  | .cons e es, X, none, P, O, h => by simp only [chks, Option.toList_none] at h; cases h
  | .cons e .nil, X, some x, P, O, h => by
    simp only [chks, Option.toList_some, Bool.and_eq_true] at h
    exact o_some ((snd_e pa k e X none _ P O.1 h.1.2).pe (chk_none h.1.2))
  | .cons e (.cons _ _), X, some x, P, O, h => by simp only [chks, Option.toList_some, Bool.and_eq_true] at h; cases h.2
end
end SR
end
section
/-! SrStm: statements: their values, what each form means. -/
namespace SR
open PySem PySem.Spec PyProof.Rows L2
variable [Wd]

inductive Out where
  | nx (ρ : Sl)
  | rt (d : D)
def thenM (x y : Sl → M Out) : Sl → M Out := fun ρ => bnd (x ρ) fun o => match o with
  | .nx ρ' => y ρ'
  | .rt d => ret (.rt d)
/-- what stands between a body's begin (F0, H0) and now -/
structure Bd (K : PySem.W.Frag) (pa : Option Addr) (F0 H0 : Hp) (σ : L2.St) (ρ : Sl) (π : Pool) (F H : Hp) : Prop where
  s : Stt K pa σ ρ π F H
  g : Grow pa F0 H0 F H
  fresh : ∀ (i : Nat) c a, ρ[i]? = some (.own c) → σ[i]? = some (some (.ref a)) → H0 a = none
section
variable (K : PySem.W.Frag) (pa : Option Addr)
def OutOk (F0 H0 F : Hp) (out : Out) (π' : Pool) (D : Ends) : Prop := match out with
  | .nx ρ' => ∀ σ' F' H', Ex F F' → Bd K pa F0 H0 σ' ρ' π' F' H' → D.nx σ' H'
  | .rt d => ∀ F' H' v, Grow pa F0 H0 F' H' → PoolAt K pa F' H' π' → Rp K F' v d → D.rt v H'
def tSS (x : Sl → M Out) : TS := fun D σ H => ∃ F0 H0 ρ π F out π', Bd K pa F0 H0 σ ρ π F H ∧ x ρ π = some (out, π') ∧ OutOk K pa F0 H0 F out π' D
end
section
variable {K : PySem.W.Frag} {pa : Option Addr} {F0 H0 F H F' H' : Hp} {σ : L2.St} {ρ : Sl} {π π' : Pool}
theorem Bd.next (b : Bd K pa F0 H0 σ ρ π F H) (g : Grow pa F H F' H') (P : PoolAt K pa F' H' π') : Bd K pa F0 H0 σ ρ π' F' H' := ⟨b.s.next g P, b.g.trans g, b.fresh⟩
theorem Bd.sto {σ' : L2.St} {ρ' : Sl} (b : Bd K pa F0 H0 σ ρ π F H) (S : Stt K pa σ' ρ' π F H) (st : Sto σ ρ σ' ρ') : Bd K pa F0 H0 σ' ρ' π F H := ⟨S, b.g, fun i c a hc ha => by
  rcases st i with ⟨h1, h2⟩ | ⟨d, h1⟩
  · rw [h2] at hc; rw [h1] at ha; exact b.fresh i c a hc ha
  · rw [h1] at hc; cases hc⟩
theorem bd_set {v : V} {d : D} (b : Bd K pa F0 H0 σ ρ π F H) (r : Rp K F v d) (i : Nat) : Bd K pa F0 H0 (σ.set i (some v)) (ρ.set i (.dat d)) π F H :=
  b.sto ⟨b.s.env.set r i, b.s.ex, b.s.pool⟩ (Sto.set b.s.env.len i v d)
end
/-! ### a new own object in a slot; an own object changed -/
section
variable {K : PySem.W.Frag} {pa : Option Addr} {F0 H0 F H : Hp} {σ : L2.St} {ρ : Sl} {π : Pool}
theorem set_get {α : Type} {xs : List α} {i j : Nat} {x y : α} (h : (xs.set i x)[j]? = some y) : (i = j ∧ y = x ∧ i < xs.length) ∨ (i ≠ j ∧ xs[j]? = some y) := by
  by_cases e : i = j
  · subst e
    by_cases hl : i < xs.length
    · rw [List.getElem?_set_self hl] at h; cases h; exact .inl ⟨rfl, rfl, hl⟩
    · rw [List.getElem?_eq_none (by rw [List.length_set]; omega)] at h; cases h
  · rw [List.getElem?_set_ne e] at h; exact .inr ⟨e, h⟩
/-- p is far from all own objects of the slots -/
theorem Env.own_new {p : Addr} {c : Cell} (e : Env K pa σ ρ F H) (far : Far p σ ρ) (o : Own K pa F H p c) (i : Nat) : Env K pa (σ.set i (some (.ref p))) (ρ.set i (.own c)) F H where
  len := by rw [List.length_set, List.length_set]; exact e.len
  dat := fun j d h => by
    rcases set_get h with ⟨_, h, _⟩ | ⟨ne, h⟩
    · cases h
    · rw [List.getElem?_set_ne ne]; exact e.dat j d h
  own := fun j c' h => by
    rcases set_get h with ⟨rfl, h, hl⟩ | ⟨ne, h⟩
    · cases h; exact ⟨p, List.getElem?_set_self (by rw [← e.len]; exact hl), o⟩
    · rw [List.getElem?_set_ne ne]; exact e.own j c' h
  inj := fun j l c1 c2 a h h' q q' => by
    rcases set_get h with ⟨rfl, h, hl⟩ | ⟨ne, h⟩
    · rw [List.getElem?_set_self (by rw [← e.len]; exact hl)] at q; cases q
      rcases set_get h' with ⟨rfl, h', hl'⟩ | ⟨ne', h'⟩
      · rfl
      · rw [List.getElem?_set_ne ne'] at q'; exact absurd q' (far l c2 h')
    · rw [List.getElem?_set_ne ne] at q
      rcases set_get h' with ⟨rfl, h', hl'⟩ | ⟨ne', h'⟩
      · rw [List.getElem?_set_self (by rw [← e.len]; exact hl')] at q'; cases q'
        exact absurd q (far j c1 h)
      · rw [List.getElem?_set_ne ne'] at q'; exact e.inj j l c1 c2 a h h' q q'
  pool := fun j h => by
    rcases set_get h with ⟨_, h, _⟩ | ⟨ne, h⟩
    · cases h
    · rw [List.getElem?_set_ne ne]; exact e.pool j h
theorem Env.far_of {p : Addr} (e : Env K pa σ ρ F H) (h : H p = none) : Far p σ ρ := e.far h
/-- the own object of slot i, at a, becomes u -/
theorem Env.own_put {a : Addr} {i : Nat} {c c' : Cell} {u : HO} (e : Env K pa σ ρ F H) (h : ρ[i]? = some (.own c)) (ha : σ[i]? = some (some (.ref a))) (at_ : CellAt' K F (upd H a u) a c') : Env K pa σ (ρ.set i (.own c')) F (upd H a u) where
  len := by rw [List.length_set]; exact e.len
  dat := fun j d hj => by
    rcases set_get hj with ⟨_, hj, _⟩ | ⟨ne, hj⟩
    · cases hj
    · exact e.dat j d hj
  own := fun j c1 hj => by
    rcases set_get hj with ⟨rfl, hj, hl⟩ | ⟨ne, hj⟩
    · cases hj
      obtain ⟨a', h1, h2⟩ := e.own i c h
      rw [ha] at h1; cases h1
      exact ⟨a, ha, h2.f, h2.np, at_⟩
    · obtain ⟨b, h1, h2⟩ := e.own j c1 hj
      have hb : b ≠ a := fun z => by subst z; exact ne (e.inj i j c c1 b h hj ha h1)
      refine ⟨b, h1, h2.f, h2.np, ?_⟩
      cases c1 with
      | lst ds => obtain ⟨vs, k1, k2, k3⟩ := h2.at_; exact ⟨vs, by rw [upd_ne hb]; exact k1, k2, k3⟩
      | dic kvs => obtain ⟨es, ep, k1, k2⟩ := h2.at_; exact ⟨es, ep, by rw [upd_ne hb]; exact k1, k2⟩
  inj := fun j l c1 c2 b hj hl q q' => by
    have key : ∀ {j : Nat} {c1 : Cell}, (ρ.set i (.own c'))[j]? = some (.own c1) → ∃ c2, ρ[j]? = some (.own c2) := fun {j c1} hj => by
      rcases set_get hj with ⟨rfl, _, _⟩ | ⟨_, hj⟩
      · exact ⟨c, h⟩
      · exact ⟨c1, hj⟩
    obtain ⟨d1, k1⟩ := key hj
    obtain ⟨d2, k2⟩ := key hl
    exact e.inj j l d1 d2 b k1 k2 q q'
  pool := fun j hj => by
    rcases set_get hj with ⟨_, hj, _⟩ | ⟨ne, hj⟩
    · cases hj
    · exact e.pool j hj
theorem Bd.put {a : Addr} {i : Nat} {c c' : Cell} {u : HO} (b : Bd K pa F0 H0 σ ρ π F H) (h : ρ[i]? = some (.own c)) (ha : σ[i]? = some (some (.ref a))) (at_ : CellAt' K F (upd H a u) a c') : Bd K pa F0 H0 σ (ρ.set i (.own c')) π F (upd H a u) := by
  obtain ⟨a', h1, O⟩ := b.s.env.own i c h
  rw [ha] at h1; cases h1
  have h0 := b.fresh i c a h ha
  have hF : Ex F (upd H a u) := fun x o e => by
    rw [upd_ne (ne_of_none e O.f)]
    exact b.s.ex x o e
  refine ⟨⟨b.s.env.own_put h ha at_, hF, fun x hx => ?_⟩, ⟨b.g.f, hF, fun x o ne e => ?_, b.g.n, fun x hx o e => ?_⟩, fun j c1 x hj hx => ?_⟩
  · obtain ⟨n1, sa, k1, k2⟩ := b.s.pool x hx
    exact ⟨n1, sa, by rw [upd_ne (fun z => O.np (by rw [hx, z]))]; exact k1, k2⟩
  · rw [upd_ne (ne_of_none e h0)]; exact b.g.h x o ne e
  · rw [upd_ne (ne_of_none e h0)]; exact b.g.p x hx o e
  · rcases set_get hj with ⟨rfl, _, _⟩ | ⟨_, hj⟩
    · exact b.fresh i c x h hx
    · exact b.fresh j c1 x hj hx
end
/-! ### the forms -/
section
variable {X : Cx} {pa : Option Addr} {x y : Sl → M Out} {st : Stmt} {rest : List Stmt} {fe fa fb fc : Sl → M D} {pos : Pos}
theorem ss_nil : PSs X [] (tSS X.K pa fun ρ => ret (.nx ρ)) := by
  refine PSs.imp pss_nil fun D σ H h => ?_
  obtain ⟨F0, H0, ρ, π, F, out, π', B, e, q⟩ := h
  cases e
  exact q σ F H (ex_refl F) B
theorem ss_cons (hs : PS X st (tSS X.K pa x)) (hr : PSs X rest (tSS X.K pa y)) : PSs X (st :: rest) (tSS X.K pa (thenM x y)) := by
  refine PSs.imp (pss_cons hs hr) fun D σ H h => ?_
  obtain ⟨F0, H0, ρ, π, F, out, π', B, e, q⟩ := h
  replace e := bnd_some e; obtain ⟨o, π1, e1, e⟩ := e
  refine ⟨F0, H0, ρ, π, F, o, π1, B, e1, ?_⟩
  cases o with
  | nx ρ1 =>
    refine fun σ1 F1 H1 x1 B1 => ⟨F0, H0, ρ1, π1, F1, out, π', B1, e, ?_⟩
    cases out with
    | nx ρ2 => exact fun σ2 F2 H2 x2 B2 => q σ2 F2 H2 (ex_trans x1 x2) B2
    | rt d => exact q
  | rt d => cases e; exact q
/-- the end of a statement, from a later F -/
theorem out_ex {K : PySem.W.Frag} {pa : Option Addr} {F0 H0 F F1 : Hp} {out : Out} {π' : Pool} {D : Ends} (x1 : Ex F F1) (q : OutOk K pa F0 H0 F out π' D) : OutOk K pa F0 H0 F1 out π' D := by
  cases out with
  | nx ρ2 => exact fun σ2 F2 H2 x2 B2 => q σ2 F2 H2 (ex_trans x1 x2) B2
  | rt d => exact q
/-- the own list of slot i becomes a datum -/
def frzM (i : Nat) : Sl → M Out := fun ρ => match ρ[i]? with
  | some (.own (.lst ds)) => ret (.nx (ρ.set i (.dat (.list ds))))
  | _ => stuck
theorem Bd.frz {K : PySem.W.Frag} {F0 H0 F H : Hp} {σ : L2.St} {ρ : Sl} {π : Pool} {i : Nat} {ds : List D} (b : Bd K pa F0 H0 σ ρ π F H) (h : ρ[i]? = some (.own (.lst ds))) : ∃ F', Ex F F' ∧ Bd K pa F0 H0 σ (ρ.set i (.dat (.list ds))) π F' H := by
  obtain ⟨a, ha, O⟩ := b.s.env.own i _ h
  obtain ⟨vs, k1, k2, k3⟩ := O.at_
  have ef : Ex F (upd F a (.lst vs)) := ex_new O.f
  have hsub : Ex (upd F a (.lst vs)) H := fun x o e => by
    by_cases hx : x = a
    · subst hx; rw [upd_same] at e; cases e; exact k1
    · rw [upd_ne hx] at e; exact b.s.ex x o e
  have h0 := b.fresh i _ a h ha
  refine ⟨upd F a (.lst vs), ef, ⟨⟨by rw [List.length_set]; exact b.s.env.len, fun j d hj => ?_, fun j c hj => ?_, fun j l c1 c2 p hj hl q q' => ?_, fun j hj => ?_⟩, hsub, fun x hx => ?_⟩, ⟨ex_trans b.g.f ef, hsub, b.g.h, fun x o e n => ?_, b.g.p⟩, fun j c x hj hx => ?_⟩
  · rcases set_get hj with ⟨rfl, hj, hl⟩ | ⟨ne, hj⟩
    · cases hj; exact ⟨.ref a, ha, .lst upd_same (k2.mono ef) k3⟩
    · obtain ⟨v, h1, h2⟩ := b.s.env.dat j d hj
      exact ⟨v, h1, h2.mono ef⟩
  · rcases set_get hj with ⟨rfl, hj, hl⟩ | ⟨ne, hj⟩
    · cases hj
    · obtain ⟨p, h1, h2⟩ := b.s.env.own j c hj
      have hp : p ≠ a := fun z => by subst z; exact ne (b.s.env.inj i j _ c p h hj ha h1)
      refine ⟨p, h1, by rw [upd_ne hp]; exact h2.f, h2.np, ?_⟩
      cases c with
      | lst es => obtain ⟨ws, z1, z2, z3⟩ := h2.at_; exact ⟨ws, z1, z2.mono ef, z3⟩
      | dic kvs => obtain ⟨qs, ep, z1, z2⟩ := h2.at_; exact ⟨qs, ep, z1, Paired.mapP z2.1 fun _ _ z => z.mono ef, z2.2⟩
  · rcases set_get hj with ⟨_, hj, _⟩ | ⟨_, hj⟩
    · cases hj
    · rcases set_get hl with ⟨_, hl, _⟩ | ⟨_, hl⟩
      · cases hl
      · exact b.s.env.inj j l c1 c2 p hj hl q q'
  · rcases set_get hj with ⟨_, hj, _⟩ | ⟨_, hj⟩
    · cases hj
    · exact b.s.env.pool j hj
  · obtain ⟨n1, sa, z1, z2⟩ := b.s.pool x hx
    exact ⟨by rw [upd_ne (fun z => O.np (by rw [hx, z]))]; exact n1, sa, z1, ef _ _ z2⟩
  · rw [upd_ne (ne_of_none e h0)]; exact b.g.n x o e n
  · rcases set_get hj with ⟨_, hj, _⟩ | ⟨_, hj⟩
    · cases hj
    · exact b.fresh j c x hj hx
theorem frz_some {i : Nat} {ρ : Sl} {π π1 : Pool} {o : Out} (h : frzM i ρ π = some (o, π1)) : ∃ ds, ρ[i]? = some (.own (.lst ds)) ∧ o = .nx (ρ.set i (.dat (.list ds))) ∧ π1 = π := by
  dsimp only [frzM] at h
  cases e0 : ρ[i]? with
  | none => rw [e0] at h; cases h
  | some sl =>
    rw [e0] at h
    match sl, h with
    | .own (.lst ds), h => cases h; exact ⟨ds, rfl, rfl, rfl⟩
theorem ss_frz {i : Nat} (hr : PSs X rest (tSS X.K pa y)) : PSs X rest (tSS X.K pa (thenM (frzM i) y)) := by
  refine PSs.imp hr fun D σ H h => ?_
  obtain ⟨F0, H0, ρ, π, F, out, π', B, e, q⟩ := h
  replace e := bnd_some e; obtain ⟨o, π1, e1, e⟩ := e
  obtain ⟨ds, hd, rfl, rfl⟩ := frz_some e1
  obtain ⟨F', x1, B'⟩ := B.frz hd
  exact ⟨F0, H0, _, _, F', out, π', B', e, out_ex x1 q⟩
theorem ss_never : PS X st (tSS X.K pa fun _ => stuck) := PS.imp ps_never fun D σ H h => by
  obtain ⟨F0, H0, ρ, π, F, out, π', B, e, q⟩ := h
  cases e
theorem ss_ret {e : Expr} (he : PE X e (tD X.K pa fe)) : PS X (.Return (some e) pos) (tSS X.K pa fun ρ => bnd (fe ρ) fun d => ret (.rt d)) := by
  refine PS.imp (ps_ret he) fun D σ H h => ?_
  obtain ⟨F0, H0, ρ, π, F, out, π', B, e, q⟩ := h
  replace e := bnd_some e; obtain ⟨d, π1, e1, e⟩ := e
  cases e
  exact ⟨ρ, π, F, d, _, B.s, e1, fun F1 H1 v g P r => q F1 H1 v (B.g.trans g) P r⟩
theorem ss_drop {e : Expr} (he : PE X e (tD X.K pa fe)) (hs : swapsWith e none pos.line X.env = pure false) : PS X (.Expr e pos) (tSS X.K pa fun ρ => bnd (fe ρ) fun _ => ret (.nx ρ)) := by
  refine PS.imp (ps_expr he hs) fun D σ H h => ?_
  obtain ⟨F0, H0, ρ, π, F, out, π', B, e, q⟩ := h
  replace e := bnd_some e; obtain ⟨d, π1, e1, e⟩ := e
  cases e
  exact ⟨ρ, π, F, d, _, B.s, e1, fun F1 H1 v g P r => q σ F1 H1 g.f (B.next g P)⟩
theorem ss_doc {z : Str} {j : Nat} {pos' : Pos} : PS X (.Expr (.Constant (.str z) j pos) pos') (tSS X.K pa fun ρ => ret (.nx ρ)) := by
  refine PS.imp ps_doc fun D σ H h => ?_
  obtain ⟨F0, H0, ρ, π, F, out, π', B, e, q⟩ := h
  cases e
  exact q σ F H (ex_refl F) B
theorem ss_if {c : Expr} {a b : List Stmt} (hc : PT X c (tDT X.K pa (tru fc))) (ha : PSs X a (tSS X.K pa x)) (hb : PSs X b (tSS X.K pa y)) :
    PS X (.If c a b pos) (tSS X.K pa fun ρ => bnd (fc ρ) fun d => bnd (truthM d) fun k => if k then x ρ else y ρ) := by
  refine PS.imp (ps_if hc ha hb) fun D σ H h => ?_
  obtain ⟨F0, H0, ρ, π, F, out, π', B, e, q⟩ := h
  replace e := bnd_some e; obtain ⟨d, π1, e1, e⟩ := e
  replace e := bnd_some e; obtain ⟨k, π2, e2, e⟩ := e
  refine ⟨ρ, π, F, k, π2, B.s, by unfold tru; rw [bnd_ap e1]; exact e2, fun F1 H1 g1 P1 => ?_⟩
  dsimp only
  cases k with
  | true =>
    rw [if_pos rfl] at e ⊢
    exact ⟨F0, H0, ρ, π2, F1, out, π', B.next g1 P1, e, out_ex g1.f q⟩
  | false =>
    rw [if_neg Bool.false_ne_true] at e ⊢
    exact ⟨F0, H0, ρ, π2, F1, out, π', B.next g1 P1, e, out_ex g1.f q⟩
/-! ### loops -/
def forL (tg : Tg) (b : Sl → M Out) : List D → Sl → M Out
  | [], ρ => ret (.nx ρ)
  | d :: ds, ρ => match bindT tg d ρ with
    | some ρ1 => bnd (b ρ1) fun o => match o with
      | .nx ρ2 => forL tg b ds ρ2
      | .rt d => ret (.rt d)
    | none => stuck
theorem ss_for {t w : Expr} {body : List Stmt} {tg : Tg} {fi : Sl → M (List D)} (hp : PassesOwn (model X.prog X.w) X.A X.env X.xe) (hc : X.calm = true) (hi : PI X t w (tDI X.K pa fi)) (hg : PG X t (tDG X.K pa tg)) (hb : PSs X body (tSS X.K pa x))
    (hs : ∀ v, foldedSetIterable w X.env v = pure v) : PS X (.For t w body [] pos) (tSS X.K pa fun ρ => bnd (fi ρ) fun ds => forL tg x ds ρ) := by
  refine PS.imp (ps_for hp hc hi hg hb hs) fun D σ H h => ?_
  obtain ⟨F0, H0, ρ, π, F, out, π', B, e, q⟩ := h
  replace e := bnd_some e; obtain ⟨ds, π1, e1, e⟩ := e
  refine ⟨ρ, π, F, ds, π1, B.s, e1, fun F1 H1 J g1 P1 gs => ?_⟩
  refine ⟨fun i m σ' H' => i ≤ ds.length ∧ m = ds.length - i ∧ ∃ ρ2 π2 F2, Bd X.K pa F0 H0 σ' ρ2 π2 F2 H' ∧ Ex F1 F2 ∧ forL tg x (ds.drop i) ρ2 π2 = some (out, π'),
    ⟨ds.length, Nat.zero_le _, rfl, ρ, π1, F1, B.next g1 P1, ex_refl F1, e⟩, ?_⟩
  rintro i m σ' H' ⟨hi', rfl, ρ2, π2, F2, B2, ex2, e2⟩
  have exF : Ex F1 H' := ex_trans ex2 B2.s.ex
  by_cases hlt : i < ds.length
  · refine .inr ⟨gs.go i H' exF hlt, fun σ'' H'' => ∃ ρ2 π2 F2, Bd X.K pa F0 H0 σ'' ρ2 π2 F2 H'' ∧ Ex F1 F2 ∧ forL tg x (ds.drop (i + 1)) ρ2 π2 = some (out, π'), ?_, ?_⟩
    · rintro σ'' H'' ⟨ρ3, π3, F3, B3, ex3, e3⟩
      exact ⟨ds.length - (i + 1), by omega, by omega, rfl, ρ3, π3, F3, B3, ex3, e3⟩
    · intro v H'' hy
      rw [List.drop_eq_getElem_cons hlt] at e2
      simp only [forL] at e2
      cases hbt : bindT tg ds[i] ρ2 with
      | none => rw [hbt] at e2; cases e2
      | some ρ3 =>
        rw [hbt] at e2
        dsimp only at e2
        replace e2 := bnd_some e2; obtain ⟨o, π3, e3, e2⟩ := e2
        obtain ⟨G', gG, rx⟩ := gs.yld i F2 H' v H'' ds[i] ex2 B2.s.ex (List.getElem?_eq_getElem hlt) hy
        have B3 := B2.next gG.any (B2.s.pool.grow0 gG)
        refine ⟨ρ2, π2, G', ds[i], ρ3, B3.s, rx, hbt, fun σ3 S3 st3 w3 => ⟨F0, H0, ρ3, π2, G', o, π3, B3.sto S3 st3, e3, ?_⟩⟩
        cases o with
        | nx ρ4 => exact fun σ4 F4 H4 x4 B4 => ⟨ρ4, π3, F4, B4, ex_trans (ex_trans ex2 gG.f) x4, e2⟩
        | rt d => cases e2; exact q
  · have hie : i = ds.length := by omega
    subst hie
    rw [List.drop_length] at e2
    cases e2
    exact .inl ⟨gs.stop H' exF, q σ' F2 H' (ex_trans g1.f ex2) B2⟩
end
end SR
end
section
/-! SrStm2: stores. -/
namespace SR
open PySem PySem.Spec PyProof.Rows L2
variable [Wd]
section
variable {X : Cx} {pa : Option Addr} {x y : Sl → M Out} {st : Stmt} {rest : List Stmt} {fe fa fb fc : Sl → M D} {fs : Sl → M (List D)} {pos : Pos}
/-- target = value -/
def asgM (tg : Tg) (fe : Sl → M D) : Sl → M Out := fun ρ => bnd (fe ρ) fun d => match bindT tg d ρ with
  | some ρ' => ret (.nx ρ')
  | none => stuck
theorem asg_of {K : PySem.W.Frag} {tg : Tg} {D : Ends} {σ : L2.St} {H : Hp} (h : tSS K pa (asgM tg fe) D σ H) : tAsg (tD K pa fe) (tDG K pa tg) D σ H := by
  obtain ⟨F0, H0, ρ, π, F, out, π', B, e, q⟩ := h
  replace e := bnd_some e; obtain ⟨d, π1, e1, e⟩ := e
  refine ⟨ρ, π, F, d, π1, B.s, e1, fun F1 H1 v g P r => ?_⟩
  cases hb : bindT tg d ρ with
  | none => rw [hb] at e; cases e
  | some ρ' =>
    rw [hb] at e
    cases e
    exact ⟨ρ, _, F1, d, ρ', (B.next g P).s, r, hb, fun σ' S' st w => q σ' F1 H1 g.f ((B.next g P).sto S' st)⟩
theorem ss_asg {t e : Expr} {tg : Tg} (he : PE X e (tD X.K pa fe)) (hg : PG X t (tDG X.K pa tg)) (hs : swapsWithSole [t] e pos.line X.env = pure false) (hw : swappedStores [t] e X.env = pure none)
    (h1 : (assignEach [t] X.env).map (·.2) = [assign t X.env]) : PS X (.Assign [t] e pos) (tSS X.K pa (asgM tg fe)) :=
  PS.imp (ps_asg he hg hs hw h1) fun D σ H h => asg_of h
theorem tAsg_imp {te te' : TE} {g : TG} (w : ∀ σ H Q, te' σ H Q → te σ H Q) {D : Ends} {σ : L2.St} {H : Hp} (h : tAsg te' g D σ H) : tAsg te g D σ H := w σ H _ h
theorem ofL_of {K : PySem.W.Frag} {f : Sl → M (List D)} {σ : L2.St} {H : Hp} {Q : VK} (h : tD K pa (fun ρ => bnd (f ρ) fun ds => ret (.list ds)) σ H Q) : tDL K pa f σ H Q := tDL_tD h
theorem asgN_of {K : PySem.W.Frag} {i : Nat} {D : Ends} {σ : L2.St} {H : Hp} (h : tSS K pa (asgM (.v i) fe) D σ H) : tAsg (tD K pa fe) (gName i) D σ H := by
  obtain ⟨F0, H0, ρ, π, F, out, π', B, e, q⟩ := h
  replace e := bnd_some e; obtain ⟨d, π1, e1, e⟩ := e
  cases e
  exact ⟨ρ, π, F, d, _, B.s, e1, fun F1 H1 v g P r => q _ F1 H1 g.f (bd_set (B.next g P) r i)⟩
/-! ### a new list in a slot -/
def newM (i : Nat) (f : Sl → M (List D)) : Sl → M Out := fun ρ => bnd (f ρ) fun ds => ret (.nx (ρ.set i (.own (.lst ds))))
theorem new_of {K : PySem.W.Frag} {i : Nat} {f : Sl → M (List D)} {D : Ends} {σ : L2.St} {H : Hp} (h : tSS K pa (newM i f) D σ H) : tAsg (tDL K pa f) (gName i) D σ H := by
  obtain ⟨F0, H0, ρ, π, F, out, π', B, e, q⟩ := h
  replace e := bnd_some e; obtain ⟨ds, π1, e1, e⟩ := e
  cases e
  refine ⟨ρ, π, F, ds, _, B.s, e1, fun F1 H1 p vs g P n1 n2 np hp z r => ?_⟩
  have B1 := B.next g P
  have far : Far p σ ρ := B.s.env.far n1
  refine q _ F1 H1 g.f ⟨⟨B1.s.env.own_new (c := .lst ds) far ⟨n2, np, vs, hp, r, z⟩ i, B1.s.ex, B1.s.pool⟩, B1.g, fun j c a hj ha => ?_⟩
  rcases set_get hj with ⟨rfl, _, hl⟩ | ⟨ne, hj⟩
  · rw [List.getElem?_set_self (by rw [← B.s.env.len]; exact hl)] at ha
    cases ha
    cases e : H0 p with
    | none => rfl
    | some o =>
      by_cases hpa : some p = pa
      · exact absurd hpa.symm np
      · rw [B.g.h p o hpa e] at n1; cases n1
  · rw [List.getElem?_set_ne ne] at ha
    exact B.fresh j c a hj ha
theorem ss_new {i : Nat} {n : Str} {e : Expr} {pos' : Pos} {f : Sl → M (List D)} (hN : X.N.Nodup) (hi : X.N[i]? = some n) (hx : Loc X.env.scope n) (he : PE X e (tDL X.K pa f)) (hs : swapsWith e (some (.Name n pos')) pos.line X.env = pure false) (hf : X.fn n = true ∨ X.env.scope.names.lookup n = some .local) :
    PS X (.Assign [.Name n pos'] e pos) (tSS X.K pa (newM i f)) := PS.imp (ps_set hN hi hx he hs hf) fun D σ H h => new_of h
/-! ### own lists changed -/
def ownL (ρ : Sl) (i : Nat) : M (List D) := match ρ[i]? with
  | some (.own (.lst ds)) => ret ds
  | _ => stuck
theorem ownL_some {i : Nat} {ρ : Sl} {π π1 : Pool} {ds : List D} (h : ownL ρ i π = some (ds, π1)) : ρ[i]? = some (.own (.lst ds)) ∧ π1 = π := by
  dsimp only [ownL] at h
  cases e0 : ρ[i]? with
  | none => rw [e0] at h; cases h
  | some sl =>
    rw [e0] at h
    match sl, h with
    | .own (.lst ds), h => cases h; exact ⟨rfl, rfl⟩
def appM (i : Nat) (fe : Sl → M D) : Sl → M Out := fun ρ => bnd (ownL ρ i) fun _ => bnd (fe ρ) fun d => bnd (ownL ρ i) fun ds => if ds.length < sizeLine then ret (.nx (ρ.set i (.own (.lst (ds ++ [d]))))) else stuck
theorem ss_app {i : Nat} {n : Str} {e : Expr} {q1 apos cpos : Pos} (hN : X.N[i]? = some n) (hv : Vis X.env.scope n) (hmd : (n == ("__debug__" : Str)) = false) (hcd : (n == ("__classdict__" : Str)) = false) (hst : noStar e = true) (hline : (apos.endLine == cpos.line) = true) (he : PE X e (tD X.K pa fe)) :
    PS X (.Expr (.Call (.Attribute (.Name n q1) "append" apos) [e] [] cpos) pos) (tSS X.K pa (appM i fe)) := by
  have hfew : ((backTo cpos (starEach [e] X.env)).all (fun x => !x.1) && (backToKw cpos (keywordEach [] X.env)).all (fun x => x.1.isSome)
      && decide ([e].length + ([] : List Keyword).length + (if ([] : List Keyword).isEmpty then 0 else 1) < 30)) = true := by rw [starEach_cons hst]; rfl
  refine PS.imp (ps_expr (pe_bm PySem.F.plainAttrs_list PySem.F.slot_list_append PySem.F.type_list_append mt_append (pe_var hN hv hmd hcd) (pa_cons he pa_nil (starEach_cons hst)) rfl hfew hline (starEach_cons hst) rfl) rfl) fun D σ H h => ?_
  obtain ⟨F0, H0, ρ, π, F, out, π', B, e, q⟩ := h
  replace e := bnd_some e; obtain ⟨es, π1, e1, e⟩ := e
  obtain ⟨h1, rfl⟩ := ownL_some e1
  replace e := bnd_some e; obtain ⟨d, π2, e2, e⟩ := e
  replace e := bnd_some e; obtain ⟨ds, π3, e3, e⟩ := e
  obtain ⟨h3, rfl⟩ := ownL_some e3
  split at e
  case isFalse => cases e
  rename_i hz
  cases e
  obtain ⟨a, ha, O⟩ := B.s.env.own i _ h3
  obtain ⟨vs0, k0, _⟩ := O.at_
  refine ⟨.ref a, ha, .inl ⟨rfl, vs0, SqL.of k0⟩, ρ, _, F, d, _, B.s, e2, fun F1 H1 v g P r => ?_⟩
  have B1 := B.next g P
  obtain ⟨a', ha', O1⟩ := B1.s.env.own i _ h3
  rw [ha] at ha'; cases ha'
  obtain ⟨vs, k1, k2, k3⟩ := O1.at_
  refine ⟨a, vs, v, rfl, rfl, k1, by rw [k2.len]; exact hz, ?_⟩
  exact q σ F1 _ g.f (B1.put h3 ha ⟨_, upd_same, k2.append (.cons r .nil), by rw [List.length_append, k2.len]; exact hz⟩)
def extM (i : Nat) (fe : Sl → M D) : Sl → M Out := fun ρ => bnd (ownL ρ i) fun _ => bnd (fe ρ) fun d => bnd (asList d) fun es => bnd (ownL ρ i) fun ds => if ds.length + es.length ≤ sizeLine then ret (.nx (ρ.set i (.own (.lst (ds ++ es))))) else stuck
theorem asList_some {d : D} {π π1 : Pool} {es : List D} (h : asList d π = some (es, π1)) : d = .list es ∧ π1 = π := by
  cases d <;> first | (cases h; exact ⟨rfl, rfl⟩) | cases h
theorem ss_ext {i : Nat} {n : Str} {e : Expr} {q1 apos cpos : Pos} (hN : X.N[i]? = some n) (hv : Vis X.env.scope n) (hmd : (n == ("__debug__" : Str)) = false) (hcd : (n == ("__classdict__" : Str)) = false) (hst : noStar e = true) (hline : (apos.endLine == cpos.line) = true) (he : PE X e (tD X.K pa fe)) :
    PS X (.Expr (.Call (.Attribute (.Name n q1) "extend" apos) [e] [] cpos) pos) (tSS X.K pa (extM i fe)) := by
  have hfew : ((backTo cpos (starEach [e] X.env)).all (fun x => !x.1) && (backToKw cpos (keywordEach [] X.env)).all (fun x => x.1.isSome)
      && decide ([e].length + ([] : List Keyword).length + (if ([] : List Keyword).isEmpty then 0 else 1) < 30)) = true := by rw [starEach_cons hst]; rfl
  refine PS.imp (ps_expr (pe_bm PySem.F.plainAttrs_list PySem.F.slot_list_extend PySem.F.type_list_extend mt_extend (pe_var hN hv hmd hcd) (pa_cons he pa_nil (starEach_cons hst)) rfl hfew hline (starEach_cons hst) rfl) rfl) fun D σ H h => ?_
  obtain ⟨F0, H0, ρ, π, F, out, π', B, e, q⟩ := h
  replace e := bnd_some e; obtain ⟨es0, π1, e1, e⟩ := e
  obtain ⟨h1, rfl⟩ := ownL_some e1
  replace e := bnd_some e; obtain ⟨d, π2, e2, e⟩ := e
  replace e := bnd_some e; obtain ⟨es, π4, e4, e⟩ := e
  obtain ⟨rfl, rfl⟩ := asList_some e4
  replace e := bnd_some e; obtain ⟨ds, π3, e3, e⟩ := e
  obtain ⟨h3, rfl⟩ := ownL_some e3
  split at e
  case isFalse => cases e
  rename_i hz
  cases e
  obtain ⟨a, ha, O⟩ := B.s.env.own i _ h3
  obtain ⟨vs0, k0, _⟩ := O.at_
  refine ⟨.ref a, ha, .inl ⟨rfl, vs0, SqL.of k0⟩, ρ, _, F, _, _, B.s, e2, fun F1 H1 v g P r => ?_⟩
  have B1 := B.next g P
  obtain ⟨a', ha', O1⟩ := B1.s.env.own i _ h3
  rw [ha] at ha'; cases ha'
  obtain ⟨vs, k1, k2, k3⟩ := O1.at_
  obtain ⟨b, ws, rfl, hb, rb⟩ := rp_list r
  refine ⟨a, b, vs, ws, rfl, rfl, k1, g.sub _ _ hb, by rw [k2.len, rb.len]; exact hz, ?_⟩
  exact q σ F1 _ g.f (B1.put h3 ha ⟨_, upd_same, k2.append rb, by rw [List.length_append, k2.len, rb.len]; exact hz⟩)
/-- xs[a] = e -/
def setAt (ds : List D) (i d : D) : Option (List D) := match i with
  | .int k => (ixN ds.length k).map fun j => ds.set j d
  | _ => none
def setM (i : Nat) (fa fe : Sl → M D) : Sl → M Out := fun ρ => bnd (fe ρ) fun d => bnd (ownL ρ i) fun _ => bnd (fa ρ) fun k => bnd (ownL ρ i) fun ds => bnd (lift (setAt ds k d)) fun es => ret (.nx (ρ.set i (.own (.lst es))))
/-- the store of a value of which d tells, at xs[a] -/
theorem put_of {K : PySem.W.Frag} {F0 H0 : Hp} {i : Nat} {ρ : Sl} {σ : L2.St} {H F : Hp} {π : Pool} {d : D} {v : V} {Q : L2.St → Hp → Prop} {out : Sl} {π' : Pool} (B : Bd K pa F0 H0 σ ρ π F H) (r : Rp K F v d)
    (e : (bnd (ownL ρ i) fun _ => bnd (fa ρ) fun k => bnd (ownL ρ i) fun ds => bnd (lift (setAt ds k d)) fun es => ret (ρ.set i (.own (.lst es)))) π = some (out, π'))
    (q : ∀ F' H', Ex F F' → Bd K pa F0 H0 σ out π' F' H' → Q σ H') : gSub (tVar i) (tD K pa fa) rSetL v σ H Q := by
  replace e := bnd_some e; obtain ⟨es0, π1, e1, e⟩ := e
  obtain ⟨h1, rfl⟩ := ownL_some e1
  replace e := bnd_some e; obtain ⟨k, π2, e2, e⟩ := e
  replace e := bnd_some e; obtain ⟨ds, π3, e3, e⟩ := e
  obtain ⟨h3, rfl⟩ := ownL_some e3
  replace e := bnd_some e; obtain ⟨es, π4, e4, e⟩ := e
  obtain ⟨e5, rfl⟩ := lift_eq e4
  cases e
  obtain ⟨a, ha, O⟩ := B.s.env.own i _ h3
  refine ⟨.ref a, ha, ρ, _, F, k, _, B.s, e2, fun F1 H1 w g P rk => ?_⟩
  have B1 := B.next g P
  obtain ⟨a', ha', O1⟩ := B1.s.env.own i _ h3
  rw [ha] at ha'; cases ha'
  obtain ⟨vs, k1, k2, k3⟩ := O1.at_
  cases k with
  | int j =>
    simp only [setAt, Option.map_eq_some_iff] at e5
    obtain ⟨j', hj, rfl⟩ := e5
    refine ⟨a, vs, j, j', rfl, rp_int rk, k1, by rw [k2.len]; exact hj, ?_⟩
    exact q F1 _ g.f (B1.put h3 ha ⟨_, upd_same, k2.set (r.mono g.f) j', by rw [List.length_set]; exact k3⟩)
  | _ => cases e5
theorem ss_set {i : Nat} {n : Str} {b e : Expr} {q1 q2 : Pos} (hN : X.N[i]? = some n) (hv : Vis X.env.scope n) (hmd : (n == ("__debug__" : Str)) = false) (hcd : (n == ("__classdict__" : Str)) = false)
    (ha : ∀ v, assign (.Subscript (.Name n q1) b q2) X.env v = (do
      let ov ← holding [v] (eval (.Name n q1) X.env)
      let iv ← holding [v, ov] (eval b X.env)
      standAt q2
      holding [v, ov, iv] (setItem ov iv v)
      release [v, ov, iv] [])) (hs : swapsWithSole [.Subscript (.Name n q1) b q2] e pos.line X.env = pure false) (he : PE X e (tD X.K pa fe)) (hb : PE X b (tD X.K pa fa)) :
    PS X (.Assign [.Subscript (.Name n q1) b q2] e pos) (tSS X.K pa (setM i fa fe)) := by
  refine PS.imp (ps_asg he (pg_sub (pe_var hN hv hmd hcd) hb set_list ha) hs rfl rfl) fun D σ H h => ?_
  obtain ⟨F0, H0, ρ, π, F, out, π', B, e, q⟩ := h
  replace e := bnd_some e; obtain ⟨d, π1, e1, e⟩ := e
  refine ⟨ρ, π, F, d, π1, B.s, e1, fun F1 H1 v g P r => ?_⟩
  have hx : ∃ ρ', out = .nx ρ' ∧ (bnd (ownL ρ i) fun _ => bnd (fa ρ) fun k => bnd (ownL ρ i) fun ds => bnd (lift (setAt ds k d)) fun es => ret (ρ.set i (.own (.lst es)))) π1 = some (ρ', π') := by
    replace e := bnd_some e; obtain ⟨a1, π2, z1, e⟩ := e
    replace e := bnd_some e; obtain ⟨a2, π3, z2, e⟩ := e
    replace e := bnd_some e; obtain ⟨a3, π4, z3, e⟩ := e
    replace e := bnd_some e; obtain ⟨a4, π5, z4, e⟩ := e
    cases e
    exact ⟨_, rfl, by rw [bnd_ap z1, bnd_ap z2, bnd_ap z3, bnd_ap z4]; rfl⟩
  obtain ⟨ρ', rfl, e'⟩ := hx
  exact put_of (B.next g P) r e' fun F2 H2 x2 B2 => q σ F2 H2 (ex_trans g.f x2) B2
/-- xs[a], xs[b] = a pair -/
def swpM (i : Nat) (fa fb fe : Sl → M D) : Sl → M Out := fun ρ => bnd (fe ρ) fun d => match d with
  | .tuple [u, w] => bnd (bnd (ownL ρ i) fun _ => bnd (fa ρ) fun k => bnd (ownL ρ i) fun ds => bnd (lift (setAt ds k u)) fun es => ret (ρ.set i (.own (.lst es)))) fun ρ1 =>
      bnd (bnd (ownL ρ1 i) fun _ => bnd (fb ρ1) fun k => bnd (ownL ρ1 i) fun ds => bnd (lift (setAt ds k w)) fun es => ret (ρ1.set i (.own (.lst es)))) fun ρ2 => ret (.nx ρ2)
  | _ => stuck
theorem assignEach_sub {o b : Expr} {p : Pos} {es : List Expr} {env : PySem.Env} : assignEach (.Subscript o b p :: es) env = (false, assign (.Subscript o b p) env) :: assignEach es env := rfl
theorem ss_swap {i : Nat} {n : Str} {b c e : Expr} {q1 q2 q3 q4 q5 : Pos} {kk : Nat} (hc : X.calm = true) (hN : X.N[i]? = some n) (hv : Vis X.env.scope n) (hmd : (n == ("__debug__" : Str)) = false) (hcd : (n == ("__classdict__" : Str)) = false)
    (ha : ∀ v, assign (.Subscript (.Name n q1) b q2) X.env v = (do
      let ov ← holding [v] (eval (.Name n q1) X.env)
      let iv ← holding [v, ov] (eval b X.env)
      standAt q2
      holding [v, ov, iv] (setItem ov iv v)
      release [v, ov, iv] []))
    (hb : ∀ v, assign (.Subscript (.Name n q3) c q4) X.env v = (do
      let ov ← holding [v] (eval (.Name n q3) X.env)
      let iv ← holding [v, ov] (eval c X.env)
      standAt q4
      holding [v, ov, iv] (setItem ov iv v)
      release [v, ov, iv] []))
    (hs : swapsWithSole [.Tuple [.Subscript (.Name n q1) b q2, .Subscript (.Name n q3) c q4] kk q5] e pos.line X.env = pure false) (hw : swappedStores [.Tuple [.Subscript (.Name n q1) b q2, .Subscript (.Name n q3) c q4] kk q5] e X.env = pure none)
    (he : PE X e (tD X.K pa fe)) (h2 : PE X b (tD X.K pa fa)) (h3 : PE X c (tD X.K pa fb)) :
    PS X (.Assign [.Tuple [.Subscript (.Name n q1) b q2, .Subscript (.Name n q3) c q4] kk q5] e pos) (tSS X.K pa (swpM i fa fb fe)) := by
  refine PS.imp (ps_asg he (pg_tup hc (pgs_cons (pg_sub (pe_var hN hv hmd hcd) h2 set_list ha) (pgs_cons (pg_sub (pe_var hN hv hmd hcd) h3 set_list hb) pgs_nil rfl) rfl) rfl rfl) hs hw rfl) fun D σ H h => ?_
  obtain ⟨F0, H0, ρ, π, F, out, π', B, e, q⟩ := h
  replace e := bnd_some e; obtain ⟨d, π1, e1, e⟩ := e
  refine ⟨ρ, π, F, d, π1, B.s, e1, fun F1 H1 v g P r => ?_⟩
  match d, e with
  | .tuple [u, w], e =>
    dsimp only at e
    replace e := bnd_some e; obtain ⟨ρ1, π2, e2, e⟩ := e
    replace e := bnd_some e; obtain ⟨ρ2, π3, e3, e⟩ := e
    cases e
    obtain ⟨t, vs, rfl, ht, rv⟩ := rp_tuple r
    cases rv with
    | cons r1 r2 =>
      cases r2 with
      | cons r2 r3 =>
        cases r3
        have B1 := B.next g P
        refine ⟨t, _, rfl, ex_sqT B1.s.ex ht, rfl, _, _, rfl, ?_⟩
        refine put_of B1 r1 e2 fun F2 H2 x2 B2 => ⟨_, _, rfl, ?_⟩
        refine put_of B2 (r2.mono x2) e3 fun F3 H3 x3 B3 => ⟨rfl, ?_⟩
        exact q σ F3 H3 (ex_trans g.f (ex_trans x2 x3)) B3
/-! ### name op= e -/
def augD : Op2 → D → D → Option D
  | .add, .int a, .int b => some (.int (a + b))
  | .sub, .int a, .int b => some (.int (a - b))
  | .mul, .int a, .int b => if mulOk a b then some (.int (a * b)) else none
  | .add, .str a, .str b => if a.length + b.length ≤ sizeLine then some (.str ⟨a.cps ++ b.cps⟩) else none
  | _, _, _ => none
def rAugD (K : PySem.W.Frag) (o : Op2) : TIp := fun x y H Q => ∃ F d e r, Ex F H ∧ Rp K F x d ∧ Rp K F y e ∧ augD o d e = some r ∧ ∀ z, Rp K F z r → Q z H
theorem str_cat {a b : Str} : a ++ b = ⟨a.cps ++ b.cps⟩ := rfl
theorem aug_ok (o : Op2) : PIp X o.op (rAugD X.K o) := by
  intro pins s σ H x y v u Q I r1 r2 h
  obtain ⟨F, d, e, r, ex, hd, he, hf, q⟩ := h
  cases hd with
  | int a =>
    obtain ⟨t, rfl⟩ := r1
    cases he with
    | int b =>
      obtain ⟨t', rfl⟩ := r2
      cases o with
      | add => cases hf; exact PyProof.Rows.iadd_int ⟨.int _, H, I.tok _, ⟨_, rfl⟩, q _ (.int _)⟩
      | sub => cases hf; exact PyProof.Rows.isub_int ⟨.int _, H, I.tok _, ⟨_, rfl⟩, q _ (.int _)⟩
      | mul =>
        simp only [augD] at hf
        split at hf
        · rename_i hm
          cases hf
          exact PyProof.Rows.imul_int ⟨.int _, H, I.tok _, ⟨_, rfl⟩, q _ (.int _)⟩ (mulOk_c hm).ok
        · cases hf
      | _ => cases hf
    | _ => cases o <;> cases hf
  | str a =>
    obtain ⟨t, rfl⟩ := r1
    cases he with
    | str b =>
      obtain ⟨t', rfl⟩ := r2
      cases o with
      | add =>
        simp only [augD] at hf
        split at hf
        · rename_i hm
          cases hf
          exact PyProof.Rows.iadd_str (fun t' tk => ⟨.str _, H, I.tok _, ⟨_, rfl⟩, q _ (by rw [str_cat]; exact .str _)⟩) hm
        · cases hf
      | _ => cases hf
    | _ => cases o <;> cases hf
  | _ => cases o <;> cases hf
def augM (i : Nat) (o : Op2) (fe : Sl → M D) : Sl → M Out := fun ρ => bnd (ev (.var i) ρ) fun x => bnd (fe ρ) fun y => bnd (lift (augD o x y)) fun z => ret (.nx (ρ.set i (.dat z)))
theorem var_some {i : Nat} {ρ : Sl} {π π1 : Pool} {d : D} (h : ev (.var i) ρ π = some (d, π1)) : ρ[i]? = some (.dat d) ∧ π1 = π := by
  simp only [ev] at h
  cases e0 : ρ[i]? with
  | none => rw [e0] at h; cases h
  | some sl =>
    rw [e0] at h
    match sl, h with
    | .dat d, h => cases h; exact ⟨rfl, rfl⟩
theorem ss_aug {i : Nat} {n : Str} {o : Op2} {e : Expr} {pos' : Pos} (hN : X.N.Nodup) (hi : X.N[i]? = some n) (hx : Loc X.env.scope n) (he : PE X e (tD X.K pa fe)) (hf : X.fn n = true ∨ X.env.scope.names.lookup n = some .local) :
    PS X (.AugAssign (.Name n pos') o.op e pos) (tSS X.K pa (augM i o fe)) := by
  refine PS.imp (ps_aug hN hi hx he (aug_ok o) hf) fun D σ H h => ?_
  obtain ⟨F0, H0, ρ, π, F, out, π', B, e, q⟩ := h
  replace e := bnd_some e; obtain ⟨d, π1, e1, e⟩ := e
  obtain ⟨h1, rfl⟩ := var_some e1
  replace e := bnd_some e; obtain ⟨y, π2, e2, e⟩ := e
  replace e := bnd_some e; obtain ⟨z, π3, e3, e⟩ := e
  obtain ⟨e4, rfl⟩ := lift_eq e3
  cases e
  obtain ⟨v, hv, rv⟩ := B.s.env.dat i _ h1
  refine ⟨v, hv, ρ, _, F, y, _, B.s, e2, fun F1 H1 w g P r => ⟨F1, d, y, z, g.sub, rv.mono g.f, r, e4, fun u ru => q _ F1 H1 g.f (bd_set (B.next g P) ru i)⟩⟩
/-! ### while -/
def whlN (fc : Sl → M D) (b : Sl → M Out) : Nat → Sl → M Out
  | 0, _ => stuck
  | n + 1, ρ => bnd (fc ρ) fun d => bnd (truthM d) fun k => if k then bnd (b ρ) fun o => match o with
      | .nx ρ2 => whlN fc b n ρ2
      | .rt d => ret (.rt d)
    else ret (.nx ρ)
theorem ss_while {c : Expr} {body : List Stmt} {n : Nat} (hp : PassesOwn (model X.prog X.w) X.A X.env X.xe) (hc : PT X c (tDT X.K pa (tru fc))) (hb : PSs X body (tSS X.K pa x)) : PS X (.While c body [] pos) (tSS X.K pa (whlN fc x n)) := by
  refine PS.imp (ps_while hp hc hb) fun D σ H h => ?_
  obtain ⟨F0, H0, ρ, π, F, out, π', B, e, q⟩ := h
  refine ⟨fun m σ' H' => ∃ ρ2 π2 F2, Bd X.K pa F0 H0 σ' ρ2 π2 F2 H' ∧ Ex F F2 ∧ whlN fc x m ρ2 π2 = some (out, π'), ⟨n, ρ, π, F, B, ex_refl F, e⟩, ?_⟩
  rintro m σ' H' ⟨ρ2, π2, F2, B2, x2, e2⟩
  cases m with
  | zero => cases e2
  | succ m =>
    simp only [whlN] at e2
    replace e2 := bnd_some e2; obtain ⟨d, π3, e3, e2⟩ := e2
    replace e2 := bnd_some e2; obtain ⟨k, π4, e4, e2⟩ := e2
    refine ⟨ρ2, π2, F2, k, π4, B2.s, by unfold tru; rw [bnd_ap e3]; exact e4, fun F3 H3 g3 P3 => ?_⟩
    dsimp only
    cases k with
    | false =>
      rw [if_neg Bool.false_ne_true] at e2 ⊢
      cases e2
      exact q σ' F3 H3 (ex_trans x2 g3.f) (B2.next g3 P3)
    | true =>
      rw [if_pos rfl] at e2 ⊢
      replace e2 := bnd_some e2; obtain ⟨o, π5, e5, e2⟩ := e2
      refine ⟨fun σ'' H'' => ∃ ρ2 π2 F2, Bd X.K pa F0 H0 σ'' ρ2 π2 F2 H'' ∧ Ex F F2 ∧ whlN fc x m ρ2 π2 = some (out, π'), fun σ'' H'' z => ⟨m, Nat.lt_succ_self m, z⟩, ?_⟩
      refine ⟨F0, H0, ρ2, π4, F3, o, π5, B2.next g3 P3, e5, ?_⟩
      cases o with
      | nx ρ4 => exact fun σ4 F4 H4 x4 B4 => ⟨ρ4, π5, F4, B4, ex_trans (ex_trans x2 g3.f) x4, e2⟩
      | rt d => cases e2; exact q
/-! ### dicts -/
def newDM (i : Nat) (f : Sl → M (List (D × D))) : Sl → M Out := fun ρ => bnd (f ρ) fun kvs => ret (.nx (ρ.set i (.own (.dic kvs))))
theorem newD_of {K : PySem.W.Frag} {i : Nat} {f : Sl → M (List (D × D))} {D : Ends} {σ : L2.St} {H : Hp} (h : tSS K pa (newDM i f) D σ H) : tAsg (tDDi K pa f) (gName i) D σ H := by
  obtain ⟨F0, H0, ρ, π, F, out, π', B, e, q⟩ := h
  replace e := bnd_some e; obtain ⟨kvs, π1, e1, e⟩ := e
  cases e
  refine ⟨ρ, π, F, kvs, _, B.s, e1, fun F1 H1 p ents ep g P n1 n2 np hp r z => ?_⟩
  have B1 := B.next g P
  have far : Far p σ ρ := B.s.env.far n1
  refine q _ F1 H1 g.f ⟨⟨B1.s.env.own_new (c := .dic kvs) far ⟨n2, np, ents, ep, hp, r, z⟩ i, B1.s.ex, B1.s.pool⟩, B1.g, fun j c a hj ha => ?_⟩
  rcases set_get hj with ⟨rfl, _, hl⟩ | ⟨ne, hj⟩
  · rw [List.getElem?_set_self (by rw [← B.s.env.len]; exact hl)] at ha
    cases ha
    cases e : H0 p with
    | none => rfl
    | some o =>
      by_cases hpa : some p = pa
      · exact absurd hpa.symm np
      · rw [B.g.h p o hpa e] at n1; cases n1
  · rw [List.getElem?_set_ne ne] at ha
    exact B.fresh j c a hj ha
theorem ss_newD {i : Nat} {n : Str} {e : Expr} {pos' : Pos} {f : Sl → M (List (D × D))} (hN : X.N.Nodup) (hi : X.N[i]? = some n) (hx : Loc X.env.scope n) (he : PE X e (tDDi X.K pa f)) (hs : swapsWith e (some (.Name n pos')) pos.line X.env = pure false) (hf : X.fn n = true ∨ X.env.scope.names.lookup n = some .local) :
    PS X (.Assign [.Name n pos'] e pos) (tSS X.K pa (newDM i f)) := PS.imp (ps_set hN hi hx he hs hf) fun D σ H h => newD_of h
def setdM (i : Nat) (fa fe : Sl → M D) : Sl → M Out := fun ρ => bnd (fe ρ) fun d => bnd (ownD ρ i) fun _ => bnd (fa ρ) fun k => bnd (ownD ρ i) fun kvs => match keyOf k with
  | some kk => if kvs.length < sizeLine then ret (.nx (ρ.set i (.own (.dic (dicPut kvs k kk d))))) else stuck
  | none => stuck
theorem ss_setd {i : Nat} {n : Str} {b e : Expr} {q1 q2 : Pos} (hW : Wd.mk X.prog X.w = ‹Wd›) (hu : X.A.units + 65 < cLine) (hN : X.N[i]? = some n) (hv : Vis X.env.scope n) (hmd : (n == ("__debug__" : Str)) = false) (hcd : (n == ("__classdict__" : Str)) = false)
    (ha : ∀ v, assign (.Subscript (.Name n q1) b q2) X.env v = (do
      let ov ← holding [v] (eval (.Name n q1) X.env)
      let iv ← holding [v, ov] (eval b X.env)
      standAt q2
      holding [v, ov, iv] (setItem ov iv v)
      release [v, ov, iv] [])) (hs : swapsWithSole [.Subscript (.Name n q1) b q2] e pos.line X.env = pure false) (he : PE X e (tD X.K pa fe)) (hb : PE X b (tD X.K pa fa)) :
    PS X (.Assign [.Subscript (.Name n q1) b q2] e pos) (tSS X.K pa (setdM i fa fe)) := by
  refine PS.imp (ps_asg he (pg_sub (pe_var hN hv hmd hcd) hb (set_dic hW hu) ha) hs rfl rfl) fun D σ H h => ?_
  obtain ⟨F0, H0, ρ, π, F, out, π', B, e, q⟩ := h
  replace e := bnd_some e; obtain ⟨d, π1, e1, e⟩ := e
  refine ⟨ρ, π, F, d, π1, B.s, e1, fun F1 H1 v g P r => ?_⟩
  have B1 := B.next g P
  replace e := bnd_some e; obtain ⟨kvs0, π2, e2, e⟩ := e
  obtain ⟨h2, rfl⟩ := ownD_some e2
  replace e := bnd_some e; obtain ⟨k, π3, e3, e⟩ := e
  replace e := bnd_some e; obtain ⟨kvs, π4, e4, e⟩ := e
  obtain ⟨h4, rfl⟩ := ownD_some e4
  obtain ⟨a, ha', O⟩ := B1.s.env.own i _ h4
  refine ⟨.ref a, ha', ρ, _, F1, k, _, B1.s, e3, fun F2 H2 w g2 P2 rk => ?_⟩
  have B2 := B1.next g2 P2
  cases hk : keyOf k with
  | none => rw [hk] at e; cases e
  | some kk =>
    rw [hk] at e
    dsimp only at e
    split at e
    case isFalse => cases e
    rename_i hz
    cases e
    obtain ⟨a', ha2, O2⟩ := B2.s.env.own i _ h4
    rw [ha'] at ha2; cases ha2
    obtain ⟨ents, ep, k1, k2, k3⟩ := O2.at_
    have hl := paired_len k2
    obtain ⟨ds, rfl, hk2, hk3⟩ := keyOf_some hk
    obtain ⟨t, ws, rfl, _, _⟩ := rp_tuple rk
    refine ⟨a, t, ents, ep, kvs, F2, _, kk, d, rfl, rfl, k1, k2, B2.s.ex, rk, hk, r.mono g2.f, by omega, fun ep' => ?_⟩
    have hl2 := paired_len (put_d (b := t) (v := v) hk2 hk3 rk (r.mono g2.f) k2)
    exact q σ F2 _ (ex_trans g.f g2.f) (B2.put (c' := .dic (dicPut kvs (.tuple ds) kk d)) h4 ha' ⟨_, _, upd_same, put_d hk2 hk3 rk (r.mono g2.f) k2, Nat.le_trans entPut_len (by omega)⟩)
/-! ### the pool written -/
def ppM (i k : Nat) (fe : Sl → M D) : Sl → M Out := fun ρ => bnd (fe ρ) fun d => match ρ[i]? with
  | some .pool => fun π => (π.put k d).map fun π' => (.nx ρ, π')
  | _ => stuck
theorem pool_put {K : PySem.W.Frag} {a : Addr} {F H : Hp} {π π' : Pool} {k : Nat} {d : D} {v : V} (P : PoolAt K (some a) F H π) (ex : Ex F H) (r : Rp K F v d) (h : π.put k d = some π') :
    ∃ xs j, H a = some (.lst xs) ∧ ixN xs.length (k : Int) = some j ∧ PoolAt K (some a) F (upd H a (.lst (xs.set j v))) π' := by
  obtain ⟨n, sa, h1, h2⟩ := P a rfl
  have fin : ∀ (j : Nat) (π2 : Pool), π2.script = π.script → [V.ref sa, .int π.pos, .int π.cur, .int π.cnt, .int π.salt].set j v = [V.ref sa, .int π2.pos, .int π2.cur, .int π2.cnt, .int π2.salt] →
      PoolAt K (some a) F (upd H a (.lst ([V.ref sa, .int π.pos, .int π.cur, .int π.cnt, .int π.salt].set j v))) π2 := fun j π2 e1 e2 b hb => by
    cases hb
    exact ⟨n, sa, by rw [upd_same, e2], by rw [e1]; exact h2⟩
  match k, d, h, r with
  | 1, .int i, h, r => cases h; cases r; exact ⟨_, 1, h1, rfl, fin 1 _ rfl rfl⟩
  | 2, .int i, h, r => cases h; cases r; exact ⟨_, 2, h1, rfl, fin 2 _ rfl rfl⟩
  | 3, .int i, h, r => cases h; cases r; exact ⟨_, 3, h1, rfl, fin 3 _ rfl rfl⟩
  | 4, .int i, h, r => cases h; cases r; exact ⟨_, 4, h1, rfl, fin 4 _ rfl rfl⟩
theorem ss_pp {i k : Nat} {n : Str} {e : Expr} {q1 q2 q3 : Pos} {j : Nat} (hN : X.N[i]? = some n) (hv : Vis X.env.scope n) (hmd : (n == ("__debug__" : Str)) = false) (hcd : (n == ("__classdict__" : Str)) = false)
    (hs : swapsWithSole [.Subscript (.Name n q1) (.Constant (.int (k : Int)) j q3) q2] e pos.line X.env = pure false) (he : PE X e (tD X.K pa fe)) :
    PS X (.Assign [.Subscript (.Name n q1) (.Constant (.int (k : Int)) j q3) q2] e pos) (tSS X.K pa (ppM i k fe)) := by
  refine PS.imp (ps_asg he (pg_sub (pe_var hN hv hmd hcd) pe_int set_list (fun _ => rfl)) hs rfl rfl) fun D σ H h => ?_
  obtain ⟨F0, H0, ρ, π, F, out, π', B, e, q⟩ := h
  replace e := bnd_some e; obtain ⟨d, π1, e1, e⟩ := e
  refine ⟨ρ, π, F, d, π1, B.s, e1, fun F1 H1 v g P r => ?_⟩
  have B1 := B.next g P
  cases e0 : ρ[i]? with
  | none => rw [e0] at e; cases e
  | some sl =>
    rw [e0] at e
    match sl, e with
    | .pool, e =>
      dsimp only at e
      rw [Option.map_eq_some_iff] at e
      obtain ⟨π2, h1, h2⟩ := e
      cases h2
      obtain ⟨a, rfl, ha⟩ := B1.s.env.pool i e0
      obtain ⟨xs, j', k1, k2, k3⟩ := pool_put B1.s.pool B1.s.ex r h1
      have hFa : F1 a = none := (B1.s.pool a rfl).1
      have hF : Ex F1 (upd H1 a (.lst (xs.set j' v))) := fun x o e => by rw [upd_ne (ne_of_none e hFa)]; exact B1.s.ex x o e
      refine ⟨.ref a, ha, a, xs, (k : Int), j', rfl, rfl, k1, k2, ?_⟩
      refine q σ F1 _ g.f ⟨⟨⟨B1.s.env.len, B1.s.env.dat, fun l c hl => ?_, B1.s.env.inj, B1.s.env.pool⟩, hF, k3⟩, ⟨B1.g.f, hF, fun x o ne e => ?_, B1.g.n, fun x hx o e => ?_⟩, B1.fresh⟩
      · obtain ⟨b, z1, z2⟩ := B1.s.env.own l c hl
        have hb : b ≠ a := fun z => z2.np (by rw [z])
        refine ⟨b, z1, z2.f, z2.np, ?_⟩
        cases c with
        | lst ds => obtain ⟨vs, w1, w2⟩ := z2.at_; exact ⟨vs, by rw [upd_ne hb]; exact w1, w2⟩
        | dic kvs => obtain ⟨es, ep, w1, w2⟩ := z2.at_; exact ⟨es, ep, by rw [upd_ne hb]; exact w1, w2⟩
      · rw [upd_ne (fun z => ne (by rw [z]))]; exact B1.g.h x o ne e
      · cases hx; exact ⟨_, upd_same⟩
end
end SR
end
section
/-! SrStm3: the IR of statements, its value, the look, soundness; defs. -/
namespace SR
open PySem PySem.Spec PyProof.Rows L2
variable [Wd]
mutual
inductive S where
  | doc
  | asg (tg : Tg) (e : E)
  | newL (i : Nat) (e : E)
  | app (i : Nat) (e : E)
  | ext (i : Nat) (e : E)
  | seti (i : Nat) (a e : E)
  | swap (i : Nat) (a b e : E)
  | aug (i : Nat) (o : Op2) (e : E)
  | ife (c : E) (a b : SL)
  | for_ (tg : Tg) (it : E) (b : SL)
  | whl (n : Nat) (c : E) (b : SL)
  | ret (e : E)
  | drop (e : E)
  | stk
  | newD (i : Nat)
  | dictOf (i : Nat) (e : E)
  | setd (i : Nat) (a e : E)
  | pp (i k : Nat) (e : E)
inductive SL where
  | nil
  | cons (s : S) (r : SL)
  | frz (i : Nat) (r : SL)
end
mutual
def ex : S → Sl → M Out
  | .doc, ρ => SR.ret (.nx ρ)
  | .asg tg e, ρ => asgM tg (ev e) ρ
  | .newL i e, ρ => newM i (evL e) ρ
  | .app i e, ρ => appM i (ev e) ρ
  | .ext i e, ρ => extM i (ev e) ρ
  | .seti i a e, ρ => setM i (ev a) (ev e) ρ
  | .swap i a b e, ρ => swpM i (ev a) (ev b) (ev e) ρ
  | .aug i o e, ρ => augM i o (ev e) ρ
  | .ife c a b, ρ => bnd (ev c ρ) fun d => bnd (truthM d) fun k => if k then exs a ρ else exs b ρ
  | .for_ tg it b, ρ => bnd (bnd (ev it ρ) fun d => lift (iterD d)) fun ds => forL tg (fun ρ => exs b ρ) ds ρ
  | .whl n c b, ρ => whlN (ev c) (fun ρ => exs b ρ) n ρ
  | .ret e, ρ => bnd (ev e ρ) fun d => SR.ret (.rt d)
  | .drop e, ρ => bnd (ev e ρ) fun _ => SR.ret (.nx ρ)
  | .stk, _ => stuck
  | .newD i, ρ => newDM i (fun _ => SR.ret []) ρ
  | .dictOf i e, ρ => newDM i (dictM (ev e)) ρ
  | .setd i a e, ρ => setdM i (ev a) (ev e) ρ
  | .pp i k e, ρ => ppM i k (ev e) ρ
def exs : SL → Sl → M Out
  | .nil, ρ => SR.ret (.nx ρ)
  | .cons s r, ρ => bnd (ex s ρ) fun o => match o with
    | .nx ρ' => exs r ρ'
    | .rt d => SR.ret (.rt d)
  | .frz i r, ρ => bnd (frzM i ρ) fun o => match o with
    | .nx ρ' => exs r ρ'
    | .rt d => SR.ret (.rt d)
end
mutual
def S.ok (G : Gn) (k : Nat) : S → Prop
  | .doc => True
  | .asg _ e => E.ok G k e
  | .newL _ e => E.ok G k e
  | .app _ e => E.ok G k e
  | .ext _ e => E.ok G k e
  | .seti _ a e => E.ok G k a ∧ E.ok G k e
  | .swap _ a b e => E.ok G k a ∧ E.ok G k b ∧ E.ok G k e
  | .aug _ _ e => E.ok G k e
  | .ife c a b => E.ok G k c ∧ SL.ok G k a ∧ SL.ok G k b
  | .for_ _ it b => E.ok G k it ∧ SL.ok G k b
  | .whl _ c b => E.ok G k c ∧ SL.ok G k b
  | .ret e => E.ok G k e
  | .drop e => E.ok G k e
  | .stk => True
  | .newD _ => True
  | .dictOf _ e => E.ok G k e
  | .setd _ a e => E.ok G k a ∧ E.ok G k e
  | .pp _ _ e => E.ok G k e
def SL.ok (G : Gn) (k : Nat) : SL → Prop
  | .nil => True
  | .cons s r => S.ok G k s ∧ SL.ok G k r
  | .frz _ r => SL.ok G k r
end
/-! ### the look -/
def isLC : Expr → Bool
  | .ListComp .. => true
  | _ => false
/-- no comprehension whose value is bound by way of a swap -/
def noSw : Expr → Bool
  | .ListComp .. => false
  | .SetComp .. => false
  | .DictComp .. => false
  | _ => true
def locB (sc : Scope) (n : Str) : Bool := decide (sc.names.lookup n = some .local)
/-- the value is bound by way of a swap: it is a comprehension, the name a plain local on its line, and not its own -/
def swB (sc : Scope) (n : Str) (py : Pos) : Expr → Bool
  | .ListComp _ _ scope pos => locB sc n && py.line == pos.line && !(scope.names.any fun (m, k) => m == n && (k == .local || k == .cell))
  | _ => false
def isNameE : Expr → Bool
  | .Name .. => true
  | _ => false
def noSub : Expr → Bool
  | .Name .. => true
  | _ => false
/-- a, b = x, y with plain locals -/
def parB (sc : Scope) : List Expr → Bool
  | [.Name a pa, .Name b pb] => locB sc a && locB sc b && pb.line == pa.line && !(a == b)
  | [.Name a pa, .Name b pb, .Name c pc] => locB sc a && locB sc b && locB sc c && pb.line == pa.line && pc.line == pa.line && !(a == b) && !(a == c) && !(b == c)
  | _ => false
/-- some name is no plain local -/
def offB (sc : Scope) (ts : List Expr) : Bool := ts.any fun
  | .Name a _ => !locB sc a
  | _ => true
def tupOf : Expr → Option (List Expr)
  | .Tuple xs _ _ => some xs
  | _ => none
def anyT : Str → Bool := fun _ => true
def chkAsg (N : List Str) (sc : Scope) (tg : Tg) (e : E) (t x : Expr) : Bool := chkTg N sc anyT tg t && chk N e none sc x && (match t with
  | .Name n py => noSw x || swB sc n py x || (isLC x && !locB sc n)
  | .Tuple ts _ _ => (match x with
    | .Tuple vs _ _ => offB sc ts || (parB sc ts && ts.length == vs.length && !(vs.all (foldedForSure 8)) && !(vs.all (constantsAlone 8)))
    | _ => true)
  | _ => false)
mutual
def chkS (N : List Str) (sc : Scope) : S → Stmt → Bool
  | .doc, st => match st with
    | .Expr (.Constant (.str _) _ _) _ => true
    | _ => false
  | .asg tg e, st => match st with
    | .Assign [t] x _ => chkAsg N sc tg e t x
    | _ => false
  | .newL i e, st => match st with
    | .Assign [.Name n py] x _ => isNew e && stoB N sc anyT i n && chk N e none sc x && (noSw x || swB sc n py x || (isLC x && !locB sc n))
    | _ => false
  | .app i e, st => match st with
    | .Expr (.Call (.Attribute (.Name n _) m ap) [x] [] cp) _ => m == ("append" : Str) && varB N sc i n && noStar x && ap.endLine == cp.line && chk N e none sc x
    | _ => false
  | .ext i e, st => match st with
    | .Expr (.Call (.Attribute (.Name n _) m ap) [x] [] cp) _ => m == ("extend" : Str) && varB N sc i n && noStar x && ap.endLine == cp.line && chk N e none sc x
    | _ => false
  | .seti i a e, st => match st with
    | .Assign [.Subscript (.Name n _) y _] x _ => varB N sc i n && noSlice y && noSw x && chk N a none sc y && chk N e none sc x
    | _ => false
  | .swap i a b e, st => match st with
    | .Assign [.Tuple [.Subscript (.Name n _) y _, .Subscript (.Name m _) z _] _ _] x _ => m == n && varB N sc i n && noSlice y && noSlice z && noSw x && chk N a none sc y && chk N b none sc z && chk N e none sc x
    | _ => false
  | .aug i o e, st => match st with
    | .AugAssign (.Name n _) op x _ => decide (op = o.op) && stoB N sc anyT i n && chk N e none sc x
    | _ => false
  | .ife c a b, st => match st with
    | .If x p q _ => chk N c none sc x && noIf x && chkSL N sc a p && chkSL N sc b q
    | _ => false
  | .for_ tg it b, st => match st with
    | .For t w p [] _ => !isDw it && chkTg N sc anyT tg t && chk N it (some t) sc w && noSet w && chkSL N sc b p
    | _ => false
  | .whl _ c b, st => match st with
    | .While x p [] _ => chk N c none sc x && noIf x && chkSL N sc b p
    | _ => false
  | .ret e, st => match st with
    | .Return (some x) _ => chk N e none sc x
    | _ => false
  | .drop e, st => match st with
    | .Expr x _ => noSw x && chk N e none sc x
    | _ => false
  | .stk, _ => true
  | .newD i, st => match st with
    | .Assign [.Name n _] (.Dict [] [] _) _ => stoB N sc anyT i n
    | _ => false
  | .dictOf i e, st => match st with
    | .Assign [.Name n _] (.Call (.Name m _) [x] [] _) _ => m == ("dict" : Str) && glB sc m && noStar x && stoB N sc anyT i n && chk N e none sc x
    | _ => false
  | .setd i a e, st => match st with
    | .Assign [.Subscript (.Name n _) y _] x _ => varB N sc i n && noSlice y && noSw x && chk N a none sc y && chk N e none sc x
    | _ => false
  | .pp i k e, st => match st with
    | .Assign [.Subscript (.Name n _) (.Constant (.int j) _ _) _] x _ => j == (k : Int) && varB N sc i n && noSw x && chk N e none sc x
    | _ => false
def chkSL (N : List Str) (sc : Scope) : SL → List Stmt → Bool
  | .nil, xs => match xs with
    | [] => true
    | _ => false
  | .cons s r, xs => match xs with
    | x :: xs => chkS N sc s x && chkSL N sc r xs
    | [] => false
  | .frz _ r, xs => chkSL N sc r xs
end
/-! ### soundness -/
structure ParS (X : Cx) (k : Nat) : Prop extends Par X k where
  own : PassesOwn (model X.prog X.w) X.A X.env X.xe
  kind : X.env.scope.kind = .function
  fn : ∀ x, X.fn x = true
theorem noSw_some {x : Expr} (h : noSw x = true) (t : Option Expr) (l : Nat) (env : PySem.Env) : swapsWith x t l env = pure false := by
  cases x <;> first | rfl | cases h
theorem sw_off {x : Expr} {n : Str} {py : Pos} {l : Nat} {env : PySem.Env} (hx : isLC x = true) (h : locB env.scope n = false) : swapsWith x (some (.Name n py)) l env = pure false := by
  cases x with
  | ListComp a b scope pos =>
    have hk : (env.kindOf n == some NameKind.local) = false := by
      unfold locB at h
      have h' := of_decide_eq_false h
      exact beq_eq_false_iff_ne.mpr h'
    unfold swapsWith
    simp only [hk, Bool.and_false, Bool.false_and]
  | _ => cases hx
theorem fm_lt {α β : Type} {f : α → Option β} : ∀ {xs : List α}, (∃ x ∈ xs, f x = none) → (xs.filterMap f).length < xs.length
  | [], h => by obtain ⟨x, hx, _⟩ := h; cases hx
  | x :: xs, h => by
    rw [List.filterMap_cons]
    have hle := List.length_filterMap_le f xs
    cases e : f x with
    | none => simp only [List.length_cons]; omega
    | some y =>
      have : ∃ x ∈ xs, f x = none := by
        obtain ⟨z, hz, ez⟩ := h
        rcases List.mem_cons.mp hz with rfl | hz
        · rw [e] at ez; cases ez
        · exact ⟨z, hz, ez⟩
      have := fm_lt this
      simp only [List.length_cons]
      omega
theorem swapped_off {ts : List Expr} {k : Nat} {p : Pos} {x : Expr} {env : PySem.Env} (h : offB env.scope ts = true) : swappedStores [.Tuple ts k p] x env = pure none := by
  cases x with
  | Tuple vs k' p' =>
    have key : ∀ l : Nat, (ts.filterMap fun
        | .Name id pos => if (env.kindOf id == some NameKind.local && pos.line == l) = true then some id else none
        | _ => none).length < ts.length := fun l => fm_lt (by
      unfold offB at h
      rw [List.any_eq_true] at h
      obtain ⟨t, ht, e⟩ := h
      refine ⟨t, ht, ?_⟩
      cases t with
      | Name a pa =>
        have e' : (env.kindOf a == some NameKind.local) = false := by
          have e1 : locB env.scope a = false := by simpa using e
          unfold locB at e1
          exact beq_eq_false_iff_ne.mpr (of_decide_eq_false e1)
        simp only [e', Bool.false_and, Bool.false_eq_true, if_false]
      | _ => rfl)
    unfold swappedStores
    dsimp only
    split
    · rfl
    · split
      · rfl
      · have := key ((Option.map (fun x => x.pos.line) ts.head?).getD 0)
        split
        · rfl
        · rename_i hc
          exfalso
          apply hc
          rw [Bool.or_eq_true]
          left
          rw [bne_iff_ne]
          exact Nat.ne_of_lt this
  | _ => rfl
theorem swapped_one {x t : Expr} {env : PySem.Env} (h : ∀ vs k p, x ≠ .Tuple vs k p) : swappedStores [t] x env = pure none := by
  cases x with
  | Tuple vs k p => exact absurd rfl (h vs k p)
  | _ => cases t <;> rfl
theorem any_off {vs : List Expr} (h : vs.all noStar = true) (f : Expr → Bool) (hf : ∀ v, noStar v = true → f v = false) : vs.any f = false := by
  rw [List.any_eq_false]
  intro v hv
  rw [hf v (List.all_eq_true.mp h v hv)]
  exact Bool.false_ne_true
theorem kind_loc {sc : Scope} {n : Str} (h : locB sc n = true) : sc.names.lookup n = some .local := of_decide_eq_true h
theorem swapped_two {a b : Str} {pa pb p p' : Pos} {k k' : Nat} {vs : List Expr} {env : PySem.Env} (hk : env.scope.kind = .function) (h : parB env.scope [.Name a pa, .Name b pb] = true) (hl : vs.length = 2) (hst : vs.all noStar = true)
    (hf : vs.all (foldedForSure 8) = false) (hc : vs.all (constantsAlone 8) = false) : swappedStores [.Tuple [.Name a pa, .Name b pb] k p] (.Tuple vs k' p') env = pure (some [a, b]) := by
  simp only [parB, Bool.and_eq_true, Bool.not_eq_true'] at h
  obtain ⟨⟨⟨h1, h2⟩, h3⟩, h4⟩ := h
  have k1 : env.kindOf a = some .local := kind_loc h1
  have k2 : env.kindOf b = some .local := kind_loc h2
  have hb : env.blockKind = .function := by unfold Env.blockKind; rw [hk]; rfl
  unfold swappedStores
  dsimp only
  have c1 : ((!([Expr.Name a pa, Expr.Name b pb].length == 2 || [Expr.Name a pa, Expr.Name b pb].length == 3) || vs.length != [Expr.Name a pa, Expr.Name b pb].length || env.blockKind != ScopeKind.function) = true) = False := by
    rw [hl, hb]; simp
  rw [if_neg (by rw [c1]; exact fun z => z)]
  rw [any_off hst, if_neg Bool.false_ne_true]
  · simp only [List.filterMap_cons, List.filterMap_nil, k1, k2, List.head?_cons, Option.map_some, Option.getD_some, Expr.pos, h3, beq_self_eq_true, Bool.and_self, Bool.and_true, if_true]
    have n1 : (b == a) = false := by
      rw [beq_eq_false_iff_ne]; exact fun z => by rw [z, beq_self_eq_true] at h4; cases h4
    simp [List.eraseDups_cons, n1, hf, hc]
  · intro v hv
    cases v <;> first | rfl | cases hv
theorem swapped_three {a b c : Str} {pa pb pc p p' : Pos} {k k' : Nat} {vs : List Expr} {env : PySem.Env} (hk : env.scope.kind = .function) (h : parB env.scope [.Name a pa, .Name b pb, .Name c pc] = true) (hl : vs.length = 3) (hst : vs.all noStar = true)
    (hf : vs.all (foldedForSure 8) = false) (hc : vs.all (constantsAlone 8) = false) : swappedStores [.Tuple [.Name a pa, .Name b pb, .Name c pc] k p] (.Tuple vs k' p') env = pure (some [a, b, c]) := by
  simp only [parB, Bool.and_eq_true, Bool.not_eq_true'] at h
  obtain ⟨⟨⟨⟨⟨⟨⟨h1, h2⟩, h3⟩, h4⟩, h5⟩, h6⟩, h7⟩, h8⟩ := h
  have k1 : env.kindOf a = some .local := kind_loc h1
  have k2 : env.kindOf b = some .local := kind_loc h2
  have k3 : env.kindOf c = some .local := kind_loc h3
  have hb : env.blockKind = .function := by unfold Env.blockKind; rw [hk]; rfl
  unfold swappedStores
  dsimp only
  have c1 : ((!([Expr.Name a pa, Expr.Name b pb, Expr.Name c pc].length == 2 || [Expr.Name a pa, Expr.Name b pb, Expr.Name c pc].length == 3) || vs.length != [Expr.Name a pa, Expr.Name b pb, Expr.Name c pc].length || env.blockKind != ScopeKind.function) = true) = False := by
    rw [hl, hb]; simp
  rw [if_neg (by rw [c1]; exact fun z => z)]
  rw [any_off hst, if_neg Bool.false_ne_true]
  · simp only [List.filterMap_cons, List.filterMap_nil, k1, k2, k3, List.head?_cons, Option.map_some, Option.getD_some, Expr.pos, h4, h5, beq_self_eq_true, Bool.and_self, Bool.and_true, if_true]
    have n1 : (b == a) = false := by
      rw [beq_eq_false_iff_ne]; exact fun z => by rw [z, beq_self_eq_true] at h6; cases h6
    have n2 : (c == a) = false := by
      rw [beq_eq_false_iff_ne]; exact fun z => by rw [z, beq_self_eq_true] at h7; cases h7
    have n3 : (c == b) = false := by
      rw [beq_eq_false_iff_ne]; exact fun z => by rw [z, beq_self_eq_true] at h8; cases h8
    simp [List.eraseDups_cons, n1, n2, n3, hf, hc]
  · intro v hv
    cases v <;> first | rfl | cases hv
end SR
end
section
/-! SrStm4: soundness of statements; defs. -/
namespace SR
open PySem PySem.Spec PyProof.Rows L2
variable [Wd]
/-- a comprehension of one clause, read off the look -/
theorem comp_parts {pa : Option Addr} {k : Nat} {X : Cx} {tg : Tg} {it el : E} {cs : EL} {own : List Nat} {x : Expr} (P : Par X k) (O : (E.comp tg it cs el own).ok (gnOf X) k) (h : chk X.N (.comp tg it cs el own) none X.env.scope x = true) :
    PE X x (tDL X.K pa (evL (.comp tg it cs el own))) ∧ ∀ (n : Str) (i : Nat) (py spos : Pos), X.N[i]? = some n → X.env.scope.names.lookup n = some .local → swapsWith x (some (.Name n py)) spos.line X.env = pure true →
      PS X (.Assign [.Name n py] x spos) (tAsg (tDL X.K pa (evL (.comp tg it cs el own))) (gName i)) := by
  simp only [chk] at h
  split at h
  · rename_i y t w ifs a scope pos
    simp only [Bool.and_eq_true, beq_iff_eq] at h
    obtain ⟨⟨⟨⟨⟨⟨⟨rfl, h2⟩, h3⟩, h4⟩, h5⟩, h6⟩, h7⟩, h8⟩ := h
    have gi := snd_e pa k it X (some t) w P O.1 h4
    have gc : ∀ (s : Shared) (H : Hp) (C : Addr) (cl : List (Str × Addr)) (fp : List Addr), PTs (X.blk s H scope (compEnvC scope cl C X.env) fp) ifs (tDT X.K pa (evC cs)) := fun s H C cl fp =>
      snd_cs pa k cs (X.blk s H _ (compEnvC _ cl C X.env) fp) _ (blk_par P _ _ _ _ _) O.2.1 h7
    have ge : ∀ (s : Shared) (H : Hp) (C : Addr) (cl : List (Str × Addr)) (fp : List Addr), PE (X.blk s H scope (compEnvC scope cl C X.env) fp) y (tD X.K pa (ev el)) := fun s H C cl fp =>
      (snd_e pa k el (X.blk s H _ (compEnvC _ cl C X.env) fp) none _ (blk_par P _ _ _ _ _) O.2.2 h8).pe (chk_none h8)
    refine ⟨compL_of P h2 h3 h5 h6 gi gc ge, fun n i py spos hi hl hsw => ?_⟩
    obtain ⟨l, ok, hl2⟩ := blk_ok h2
    refine PS.imp (ps_setLc P.calm P.nd hi hl hsw (gi.pc t rfl) ok (fun s H C cl fp => g_ok (pa := pa) tg (X.blk s H scope (compEnvC scope cl C X.env) fp) t rfl P.calm P.nd (fnB scope) (fun _ z => z) h6) gc ge (noSet_fold h5 X.env)) fun D σ H q => ?_
    rw [hl2]
    exact lc_of h3 q
  · cases h
theorem comp2_parts {pa : Option Addr} {k : Nat} {X : Cx} {tg tg1 : Tg} {it it1 el : E} {own own1 : List Nat} {x : Expr} (P : Par X k) (O : (E.comp2 tg it tg1 it1 el own own1).ok (gnOf X) k) (h : chk X.N (.comp2 tg it tg1 it1 el own own1) none X.env.scope x = true) :
    PE X x (tDL X.K pa (evL (.comp2 tg it tg1 it1 el own own1))) ∧ ∀ (n : Str) (i : Nat) (py spos : Pos), X.N[i]? = some n → X.env.scope.names.lookup n = some .local → swapsWith x (some (.Name n py)) spos.line X.env = pure true →
      PS X (.Assign [.Name n py] x spos) (tAsg (tDL X.K pa (evL (.comp2 tg it tg1 it1 el own own1))) (gName i)) := by
  simp only [chk] at h
  split at h
  · rename_i y t w a t1 w1 a1 scope pos
    simp only [Bool.and_eq_true, beq_iff_eq] at h
    obtain ⟨⟨⟨⟨⟨⟨⟨⟨⟨⟨⟨⟨⟨⟨nd, nd1⟩, rfl⟩, rfl⟩, h2⟩, h3⟩, h3'⟩, hs⟩, h4⟩, h5⟩, h6⟩, h4'⟩, h5'⟩, h6'⟩, h8⟩ := h
    have nd : isDw it = false := by simpa using nd
    have nd1 : isDw it1 = false := by simpa using nd1
    have gi := snd_e pa k it X (some t) w P O.1 h4
    have gi1 : ∀ (s : Shared) (H : Hp) (C : Addr) (cl : List (Str × Addr)) (fp : List Addr), Good (X.blk s H scope (compEnvC scope cl C X.env) fp) pa it1 (some t1) w1 := fun s H C cl fp =>
      snd_e pa k it1 (X.blk s H _ (compEnvC _ cl C X.env) fp) _ _ (blk_par P _ _ _ _ _) O.2.1 h4'
    have ge : ∀ (s : Shared) (H : Hp) (C : Addr) (cl : List (Str × Addr)) (fp : List Addr), PE (X.blk s H scope (compEnvC scope cl C X.env) fp) y (tD X.K pa (ev el)) := fun s H C cl fp =>
      (snd_e pa k el (X.blk s H _ (compEnvC _ cl C X.env) fp) none _ (blk_par P _ _ _ _ _) O.2.2 h8).pe (chk_none h8)
    refine ⟨compL2_of P h2 h3 h3' hs h5 h6 gi nd nd1 gi1 h5' h6' ge, fun n i py spos hi hl hsw => ?_⟩
    obtain ⟨l, ok, hl2⟩ := blk_ok h2
    have hn : ∀ (s : Shared) (H : Hp) (C : Addr) (cl : List (Str × Addr)) (fp : List Addr), PTs (X.blk s H scope (compEnvC scope cl C X.env) fp) [] (tDT X.K pa fun _ => ret true) := fun s H C cl fp => ts_nil (X := X.blk s H scope (compEnvC scope cl C X.env) fp)
    have hp1 : ∀ (s : Shared) (H : Hp) (C : Addr) (cl : List (Str × Addr)) (fp : List Addr), PI (X.blk s H scope (compEnvC scope cl C X.env) fp) t1 w1 (tDI X.K pa fun ρ => bnd (ev it1 ρ) fun d => lift (iterD d)) := fun s H C cl fp => (gi1 s H C cl fp).pi nd1 t1 rfl
    have hg1 : ∀ (s : Shared) (H : Hp) (C : Addr) (cl : List (Str × Addr)) (fp : List Addr), PG (X.blk s H scope (compEnvC scope cl C X.env) fp) t1 (tDG X.K pa tg1) := fun s H C cl fp => g_ok (pa := pa) tg1 (X.blk s H scope (compEnvC scope cl C X.env) fp) t1 rfl P.calm P.nd (fnB scope) (fun _ z => z) h6'
    refine PS.imp (ps_setLc2 (vs1 := own1) P.calm P.nd hi hl hsw (gi.pi nd t rfl) ok (by rw [hl2]; exact fun i hi => by simpa using List.all_eq_true.mp hs i hi) (fun s H C cl fp => g_ok (pa := pa) tg (X.blk s H scope (compEnvC scope cl C X.env) fp) t rfl P.calm P.nd (fnB scope) (fun _ z => z) h6) hn
      hp1 hg1 hn ge (noSet_fold h5 X.env) (fun env => noSet_fold h5' env)) fun D σ H q => ?_
    rw [hl2]
    exact lc2_of h3 h3' q
  · cases h
theorem snd_l (pa : Option Addr) (k : Nat) (e : E) (X : Cx) (x : Expr) (P : Par X k) (O : e.ok (gnOf X) k) (hn : isNew e = true) (h : chk X.N e none X.env.scope x = true) : PE X x (tDL X.K pa (evL e)) := by
  cases e with
  | lst es =>
    simp only [chk] at h
    split at h
    · exact s_lstL (snd_es pa k es X _ P O h)
    · cases h
  | comp tg it cs el own => exact (comp_parts P O h).1
  | comp2 tg it tg1 it1 el own own1 => exact (comp2_parts P O h).1
  | dkeys i =>
    simp only [chk] at h
    split at h
    · simp only [Bool.and_eq_true, beq_iff_eq] at h
      obtain ⟨⟨rfl, h1⟩, h2⟩ := h
      obtain ⟨v1, v2, v3, v4⟩ := var_of h2
      exact s_dkeys P.wd P.calm (gl_of h1).1 (P.free _ (by decide +kernel)) v1 v2 v3 v4
    · cases h
  | bi b es =>
    simp only [chk] at h
    split at h
    · simp only [Bool.and_eq_true, beq_iff_eq] at h
      obtain ⟨⟨rfl, h1⟩, h2⟩ := h
      cases b with
      | list => exact s_listL P.calm (gl_of h1).1 (P.free _ (by decide +kernel)) (chks_star h2) (snd_es pa k es X _ P O h2)
      | sorted => exact s_sortedL P.calm P.un (gl_of h1).1 (P.free _ (by decide +kernel)) (chks_star h2) (snd_es pa k es X _ P O h2)
      | _ => cases hn
    · cases h
  | _ => cases hn
/-- a value that comes by way of a swap, bound -/
theorem snd_sw (pa : Option Addr) (k : Nat) (e : E) (X : Cx) (x : Expr) (P : ParS X k) (O : e.ok (gnOf X) k) (h : chk X.N e none X.env.scope x = true) {n : Str} {i : Nat} {py spos : Pos} (hs : swB X.env.scope n py x = true) (hi : X.N[i]? = some n) :
    PS X (.Assign [.Name n py] x spos) (tAsg (tDL X.K pa (evL e)) (gName i)) ∧ ev e = fun ρ => bnd (evL e ρ) fun ds => ret (.list ds) := by
  cases x with
  | ListComp y gs scope pos =>
    simp only [swB, Bool.and_eq_true, Bool.not_eq_true'] at hs
    have hl := kind_loc hs.1.1
    have hsw : swapsWith (.ListComp y gs scope pos) (some (.Name n py)) spos.line X.env = pure true := sw_true P.kind hl hs.1.2 hs.2
    cases e with
    | comp tg it cs el own => exact ⟨(comp_parts P.toPar O h).2 n i py spos hi hl hsw, evL_comp.symm⟩
    | comp2 tg it tg1 it1 el own own1 => exact ⟨(comp2_parts P.toPar O h).2 n i py spos hi hl hsw, evL_comp2.symm⟩
    | _ => simp only [chk] at h; first | cases h | (split at h <;> first | cases h | skip)
  | _ => simp only [swB] at hs; cases hs
theorem asg_L {K : PySem.W.Frag} {pa : Option Addr} {i : Nat} {f : Sl → M (List D)} {D : Ends} {σ : L2.St} {H : Hp} (h : tSS K pa (asgM (.v i) fun ρ => bnd (f ρ) fun ds => ret (.list ds)) D σ H) : tAsg (tDL K pa f) (gName i) D σ H := by
  have h2 := asgN_of h
  exact tAsg_imp (fun σ H Q q => tDL_tD q) h2
theorem sto_ok {N : List Str} {sc : Scope} {i : Nat} {x : Str} (h : stoB N sc anyT i x = true) : N[i]? = some x ∧ Loc sc x := ⟨(sto_loc h).1, (sto_loc h).2.1⟩
theorem asn_one {t : Expr} {env : PySem.Env} (h : noStar t = true) : (assignEach [t] env).map (·.2) = [assign t env] := by rw [assign_cons h]; rfl
theorem snd_asg {pa : Option Addr} {k : Nat} {X : Cx} {tg : Tg} {e : E} {t x : Expr} {pos : Pos} (P : ParS X k) (O : e.ok (gnOf X) k) (h : chkAsg X.N X.env.scope tg e t x = true) : PS X (.Assign [t] x pos) (tSS X.K pa (asgM tg (ev e))) := by
  simp only [chkAsg, Bool.and_eq_true] at h
  obtain ⟨⟨h1, h2⟩, h3⟩ := h
  have he := (snd_e pa k e X none x P.toPar O h2).pe (chk_none h2)
  have hg := g_ok (pa := pa) tg X t rfl P.calm P.nd anyT (fun y _ => P.fn y) h1
  have hst := chkTg_star h1
  split at h3
  · rename_i n py
    have hw : swappedStores [.Name n py] x X.env = pure none := by cases x <;> rfl
    rw [Bool.or_eq_true, Bool.or_eq_true] at h3
    rcases h3 with (h3 | h3) | h3
    · exact ss_asg he hg (noSw_some h3 (some (.Name n py)) pos.line X.env) hw rfl
    · cases tg with
      | v i =>
        simp only [chkTg] at h1
        obtain ⟨a, b⟩ := snd_sw pa k e X x P O h2 (spos := pos) h3 (sto_ok h1).1
        rw [b]
        exact PS.imp a fun D σ H q => asg_L q
      | t2 a b => simp only [chkTg] at h1; cases h1
      | t3 a b c => simp only [chkTg] at h1; cases h1
      | t4 a b c d => simp only [chkTg] at h1; cases h1
    · rw [Bool.and_eq_true, Bool.not_eq_true'] at h3
      exact ss_asg he hg (sw_off (l := pos.line) (py := py) h3.1 h3.2) hw rfl
  · rename_i ts kk pp
    have hsw : swapsWithSole [.Tuple ts kk pp] x pos.line X.env = pure false := by cases x <;> rfl
    split at h3
    · rename_i vs k' p'
      rw [Bool.or_eq_true] at h3
      rcases h3 with h3 | h3
      · exact ss_asg he hg hsw (swapped_off h3) rfl
      · simp only [Bool.and_eq_true, beq_iff_eq, Bool.not_eq_true'] at h3
        obtain ⟨⟨⟨h4, h5⟩, h6⟩, h7⟩ := h3
        cases e with
        | tup es =>
          simp only [chk] at h2
          have hpa := snd_es pa k es X vs P.toPar O h2
          have hstar := chks_star h2
          match ts, h4, h1, h5 with
          | [.Name a qa, .Name b qb], h4, h1, h5 =>
            cases tg with
            | t2 ta tb =>
              simp only [chkTg, Bool.and_eq_true] at h1
              cases ta with
              | v i =>
                cases tb with
                | v j =>
                  simp only [chkTg] at h1
                  have hw := swapped_two (p := pp) (k := kk) (p' := p') (k' := k') P.kind h4 h5.symm hstar h6 h7
                  have h4' := h4
                  simp only [parB, Bool.and_eq_true, Bool.not_eq_true', beq_eq_false_iff_ne] at h4'
                  match vs, h5, hpa, hw with
                  | [va, vb], h5, hpa, hw =>
                    have hij : i ≠ j := fun z => by
                      subst z
                      have z1 := (sto_ok h1.1).1
                      rw [(sto_ok h1.2).1] at z1
                      exact h4'.2 (by simpa using z1.symm)
                    refine PS.imp (ps_par P.calm P.nd (sto_ok h1.1).1 (sto_ok h1.2).1 hij (kind_loc h4'.1.1.1) (kind_loc h4'.1.1.2) hpa hw hsw) fun D σ H q => ?_
                    obtain ⟨F0, H0, ρ, π, F, out, π', B, e, q⟩ := q
                    replace e := bnd_some e; obtain ⟨d, π1, e1, e⟩ := e
                    simp only [ev] at e1
                    replace e1 := bnd_some e1; obtain ⟨ds, π2, e2, e1⟩ := e1
                    split at e1
                    case isFalse => cases e1
                    cases e1
                    refine ⟨ρ, π, F, ds, _, B.s, e2, fun F1 H1 ws g P1 r => ?_⟩
                    have hlen := evs_len h2 e2
                    match ds, hlen, e, r with
                    | [d1, d2], _, e, r =>
                      cases e
                      cases r with
                      | cons r1 r2 =>
                        cases r2 with
                        | cons r2 r3 =>
                          cases r3
                          exact ⟨_, _, rfl, q _ F1 H1 g.f (bd_set (bd_set (B.next g P1) r1 i) r2 j)⟩
                | _ => simp only [chkTg] at h1; cases h1.2
              | _ => simp only [chkTg] at h1; cases h1.1
            | _ => simp only [chkTg] at h1; cases h1
          | [.Name a qa, .Name b qb, .Name c qc], h4, h1, h5 =>
            cases tg with
            | t3 ta tb tc =>
              simp only [chkTg, Bool.and_eq_true] at h1
              cases ta with
              | v i =>
                cases tb with
                | v j =>
                  cases tc with
                  | v l =>
                    simp only [chkTg] at h1
                    have hw := swapped_three (p := pp) (k := kk) (p' := p') (k' := k') P.kind h4 h5.symm hstar h6 h7
                    have h4' := h4
                    simp only [parB, Bool.and_eq_true, Bool.not_eq_true', beq_eq_false_iff_ne] at h4'
                    match vs, h5, hpa, hw with
                    | [va, vb, vc], h5, hpa, hw =>
                      have ne : ∀ {i j : Nat} {a b : Str}, X.N[i]? = some a → X.N[j]? = some b → a ≠ b → i ≠ j := fun {i j a b} z1 z2 z3 z => by
                        subst z
                        rw [z1] at z2
                        exact z3 (by simpa using z2)
                      refine PS.imp (ps_par3 P.calm P.nd (sto_ok h1.1.1).1 (sto_ok h1.1.2).1 (sto_ok h1.2).1 (ne (sto_ok h1.1.1).1 (sto_ok h1.1.2).1 h4'.1.1.2) (ne (sto_ok h1.1.1).1 (sto_ok h1.2).1 h4'.1.2) (ne (sto_ok h1.1.2).1 (sto_ok h1.2).1 h4'.2)
                        (kind_loc h4'.1.1.1.1.1.1.1) (kind_loc h4'.1.1.1.1.1.1.2) (kind_loc h4'.1.1.1.1.1.2) hpa hw hsw) fun D σ H q => ?_
                      obtain ⟨F0, H0, ρ, π, F, out, π', B, e, q⟩ := q
                      replace e := bnd_some e; obtain ⟨d, π1, e1, e⟩ := e
                      simp only [ev] at e1
                      replace e1 := bnd_some e1; obtain ⟨ds, π2, e2, e1⟩ := e1
                      split at e1
                      case isFalse => cases e1
                      cases e1
                      refine ⟨ρ, π, F, ds, _, B.s, e2, fun F1 H1 ws g P1 r => ?_⟩
                      have hlen := evs_len h2 e2
                      match ds, hlen, e, r with
                      | [d1, d2, d3], _, e, r =>
                        cases e
                        cases r with
                        | cons r1 r2 =>
                          cases r2 with
                          | cons r2 r3 =>
                            cases r3 with
                            | cons r3 r4 =>
                              cases r4
                              exact ⟨_, _, _, rfl, q _ F1 H1 g.f (bd_set (bd_set (bd_set (B.next g P1) r1 i) r2 j) r3 l)⟩
                  | _ => simp only [chkTg] at h1; cases h1.2
                | _ => simp only [chkTg] at h1; cases h1.1.2
              | _ => simp only [chkTg] at h1; cases h1.1.1
            | _ => simp only [chkTg] at h1; cases h1
        | _ => simp only [chk] at h2; first | cases h2 | (split at h2 <;> first | cases h2 | skip)
    · rename_i hx
      refine ss_asg he hg hsw (swapped_one ?_) rfl
      exact fun vs k p z => hx vs k p z
  · cases h3
end SR
end
section
/-! SrDef: soundness of statements; the promise of a def. -/
namespace SR
open PySem PySem.Spec PyProof.Rows L2
variable [Wd]
theorem sub_asg {n : Str} {y : Expr} {q1 q2 : Pos} {env : PySem.Env} (h : noSlice y = true) : ∀ v, assign (.Subscript (.Name n q1) y q2) env v = (do
      let ov ← holding [v] (eval (.Name n q1) env)
      let iv ← holding [v, ov] (eval y env)
      standAt q2
      holding [v, ov, iv] (setItem ov iv v)
      release [v, ov, iv] []) := fun v => by
  cases y <;> first | rfl | cases h
mutual
theorem snd_s (pa : Option Addr) (k : Nat) : ∀ (s : S) (X : Cx) (st : Stmt), ParS X k → s.ok (gnOf X) k → chkS X.N X.env.scope s st = true → PS X st (tSS X.K pa (ex s))
  | .doc, X, st, P, O, h => by
    simp only [chkS] at h
    split at h
    · exact PS.imp ss_doc fun D σ H q => q
    · cases h
  | .asg tg e, X, st, P, O, h => by
    simp only [chkS] at h
    split at h
    · exact PS.imp (snd_asg (pa := pa) P O h) fun D σ H q => q
    · cases h
  | .newL i e, X, st, P, O, h => by
    simp only [chkS] at h
    split at h
    · rename_i n py x pos
      simp only [Bool.and_eq_true] at h
      obtain ⟨⟨⟨h1, h2⟩, h3⟩, h4⟩ := h
      have hl := snd_l pa k e X x P.toPar O h1 h3
      obtain ⟨hi, hx⟩ := sto_ok h2
      rw [Bool.or_eq_true, Bool.or_eq_true] at h4
      rcases h4 with (h4 | h4) | h4
      · exact PS.imp (ss_new P.nd hi hx hl (noSw_some h4 (some (.Name n py)) pos.line X.env) (.inl (P.fn n))) fun D σ H q => q
      · exact PS.imp (snd_sw pa k e X x P O h3 (spos := pos) h4 hi).1 fun D σ H q => new_of q
      · rw [Bool.and_eq_true, Bool.not_eq_true'] at h4
        exact PS.imp (ss_new P.nd hi hx hl (sw_off (l := pos.line) (py := py) h4.1 h4.2) (.inl (P.fn n))) fun D σ H q => q
    · cases h
  | .app i e, X, st, P, O, h => by
    simp only [chkS] at h
    split at h
    · simp only [Bool.and_eq_true, beq_iff_eq] at h
      obtain ⟨⟨⟨⟨rfl, h1⟩, h2⟩, h3⟩, h4⟩ := h
      obtain ⟨v1, v2, v3, v4⟩ := var_of h1
      exact PS.imp (ss_app v1 v2 v3 v4 h2 (by rw [h3]; exact beq_self_eq_true _) ((snd_e pa k e X none _ P.toPar O h4).pe (chk_none h4))) fun D σ H q => q
    · cases h
  | .ext i e, X, st, P, O, h => by
    simp only [chkS] at h
    split at h
    · simp only [Bool.and_eq_true, beq_iff_eq] at h
      obtain ⟨⟨⟨⟨rfl, h1⟩, h2⟩, h3⟩, h4⟩ := h
      obtain ⟨v1, v2, v3, v4⟩ := var_of h1
      exact PS.imp (ss_ext v1 v2 v3 v4 h2 (by rw [h3]; exact beq_self_eq_true _) ((snd_e pa k e X none _ P.toPar O h4).pe (chk_none h4))) fun D σ H q => q
    · cases h
  | .seti i a e, X, st, P, O, h => by
    simp only [chkS] at h
    split at h
    · rename_i n q1 y q2 x pos
      simp only [Bool.and_eq_true] at h
      obtain ⟨⟨⟨⟨h1, h2⟩, h3⟩, h4⟩, h5⟩ := h
      obtain ⟨v1, v2, v3, v4⟩ := var_of h1
      exact PS.imp (ss_set v1 v2 v3 v4 (sub_asg h2) (noSw_some h3 (some (.Subscript (.Name n q1) y q2)) pos.line X.env) ((snd_e pa k e X none _ P.toPar O.2 h5).pe (chk_none h5)) ((snd_e pa k a X none _ P.toPar O.1 h4).pe (chk_none h4))) fun D σ H q => q
    · cases h
  | .swap i a b e, X, st, P, O, h => by
    simp only [chkS] at h
    split at h
    · rename_i n q1 y q2 m q3 z q4 kk q5 x pos
      simp only [Bool.and_eq_true, beq_iff_eq] at h
      obtain ⟨⟨⟨⟨⟨⟨⟨rfl, h1⟩, h2⟩, h3⟩, h4⟩, h5⟩, h6⟩, h7⟩ := h
      obtain ⟨v1, v2, v3, v4⟩ := var_of h1
      exact PS.imp (ss_swap P.calm v1 v2 v3 v4 (sub_asg h2) (sub_asg h3) (noSw_some h4 (some (.Tuple [.Subscript (.Name m q1) y q2, .Subscript (.Name m q3) z q4] kk q5)) pos.line X.env) (swapped_off rfl)
        ((snd_e pa k e X none _ P.toPar O.2.2 h7).pe (chk_none h7)) ((snd_e pa k a X none _ P.toPar O.1 h5).pe (chk_none h5)) ((snd_e pa k b X none _ P.toPar O.2.1 h6).pe (chk_none h6))) fun D σ H q => q
    · cases h
  | .aug i o e, X, st, P, O, h => by
    simp only [chkS] at h
    split at h
    · simp only [Bool.and_eq_true, decide_eq_true_eq] at h
      obtain ⟨⟨rfl, h1⟩, h2⟩ := h
      obtain ⟨hi, hx⟩ := sto_ok h1
      exact PS.imp (ss_aug P.nd hi hx ((snd_e pa k e X none _ P.toPar O h2).pe (chk_none h2)) (.inl (P.fn _))) fun D σ H q => q
    · cases h
  | .ife c a b, X, st, P, O, h => by
    simp only [chkS] at h
    split at h
    · simp only [Bool.and_eq_true] at h
      obtain ⟨⟨⟨h1, h2⟩, h3⟩, h4⟩ := h
      exact PS.imp (ss_if ((snd_e pa k c X none _ P.toPar O.1 h1).pt (chk_none h1) h2) (snd_sl pa k a X _ P O.2.1 h3) (snd_sl pa k b X _ P O.2.2 h4)) fun D σ H q => q
    · cases h
  | .for_ tg it b, X, st, P, O, h => by
    simp only [chkS] at h
    split at h
    · simp only [Bool.and_eq_true] at h
      obtain ⟨⟨⟨⟨h0, h1⟩, h2⟩, h3⟩, h4⟩ := h
      exact PS.imp (ss_for P.own P.calm ((snd_e pa k it X _ _ P.toPar O.1 h2).pi (by simpa using h0) _ rfl) (g_ok (pa := pa) tg X _ rfl P.calm P.nd anyT (fun y _ => P.fn y) h1) (snd_sl pa k b X _ P O.2 h4) (noSet_fold h3 X.env)) fun D σ H q => q
    · cases h
  | .whl n c b, X, st, P, O, h => by
    simp only [chkS] at h
    split at h
    · simp only [Bool.and_eq_true] at h
      obtain ⟨⟨h1, h2⟩, h3⟩ := h
      exact PS.imp (ss_while (n := n) P.own ((snd_e pa k c X none _ P.toPar O.1 h1).pt (chk_none h1) h2) (snd_sl pa k b X _ P O.2 h3)) fun D σ H q => q
    · cases h
  | .ret e, X, st, P, O, h => by
    simp only [chkS] at h
    split at h
    · exact PS.imp (ss_ret ((snd_e pa k e X none _ P.toPar O h).pe (chk_none h))) fun D σ H q => q
    · cases h
  | .drop e, X, st, P, O, h => by
    simp only [chkS] at h
    split at h
    · rw [Bool.and_eq_true] at h
      exact PS.imp (ss_drop ((snd_e pa k e X none _ P.toPar O h.2).pe (chk_none h.2)) (noSw_some h.1 none _ X.env)) fun D σ H q => q
    · cases h
  | .stk, X, st, P, O, h => PS.imp ss_never fun D σ H q => q
  | .newD i, X, st, P, O, h => by
    simp only [chkS] at h
    split at h
    · obtain ⟨hi, hx⟩ := sto_ok h
      exact PS.imp (ss_newD (f := fun _ => ret []) P.nd hi hx (s_dnew P.wd) rfl (.inl (P.fn _))) fun D σ H q => q
    · cases h
  | .dictOf i e, X, st, P, O, h => by
    simp only [chkS] at h
    split at h
    · simp only [Bool.and_eq_true, beq_iff_eq] at h
      obtain ⟨⟨⟨⟨rfl, h1⟩, h2⟩, h3⟩, h4⟩ := h
      obtain ⟨hi, hx⟩ := sto_ok h3
      exact PS.imp (ss_newD P.nd hi hx (s_dict P.wd P.calm P.un (gl_of h1).1 (P.free _ (by decide +kernel)) h2 ((snd_e pa k e X none _ P.toPar O h4).pe (chk_none h4))) rfl (.inl (P.fn _))) fun D σ H q => q
    · cases h
  | .setd i a e, X, st, P, O, h => by
    simp only [chkS] at h
    split at h
    · rename_i n q1 y q2 x pos
      simp only [Bool.and_eq_true] at h
      obtain ⟨⟨⟨⟨h1, h2⟩, h3⟩, h4⟩, h5⟩ := h
      obtain ⟨v1, v2, v3, v4⟩ := var_of h1
      exact PS.imp (ss_setd P.wd P.un v1 v2 v3 v4 (sub_asg h2) (noSw_some h3 (some (.Subscript (.Name n q1) y q2)) pos.line X.env) ((snd_e pa k e X none _ P.toPar O.2 h5).pe (chk_none h5)) ((snd_e pa k a X none _ P.toPar O.1 h4).pe (chk_none h4))) fun D σ H q => q
    · cases h
  | .pp i j e, X, st, P, O, h => by
    simp only [chkS] at h
    split at h
    · rename_i n q1 j' jj q3 q2 x pos
      simp only [Bool.and_eq_true, beq_iff_eq] at h
      obtain ⟨⟨⟨rfl, h1⟩, h2⟩, h3⟩ := h
      obtain ⟨v1, v2, v3, v4⟩ := var_of h1
      exact PS.imp (ss_pp v1 v2 v3 v4 (noSw_some h2 (some (.Subscript (.Name n q1) (.Constant (.int (j : Int)) jj q3) q2)) pos.line X.env) ((snd_e pa k e X none _ P.toPar O h3).pe (chk_none h3))) fun D σ H q => q
    · cases h
theorem snd_sl (pa : Option Addr) (k : Nat) : ∀ (s : SL) (X : Cx) (st : List Stmt), ParS X k → s.ok (gnOf X) k → chkSL X.N X.env.scope s st = true → PSs X st (tSS X.K pa fun ρ => exs s ρ)
  | .nil, X, st, P, O, h => by
    simp only [chkSL] at h
    split at h
    · exact PSs.imp ss_nil fun D σ H q => q
    · cases h
  | .cons s r, X, st, P, O, h => by
    simp only [chkSL] at h
    split at h
    · rw [Bool.and_eq_true] at h
      exact PSs.imp (ss_cons (snd_s pa k s X _ P O.1 h.1) (snd_sl pa k r X _ P O.2 h.2)) fun D σ H q => q
    · cases h
  | .frz i r, X, st, P, O, h => by
    simp only [chkSL] at h
    exact PSs.imp (ss_frz (i := i) (snd_sl pa k r X _ P O h)) fun D σ H q => q
end
/-! ### defs -/
def π0 : Pool := ⟨[], 0, 0, 0, 0, Nat.zero_le _⟩
def outD : Out → D
  | .rt d => d
  | .nx _ => .none
def nos (n : Nat) : Sl := List.replicate n .no
/-- what a def of n parameters and m names computes -/
def den (n m : Nat) (s : SL) : Fn := fun ds => if ds.length = n then (exs s (ds.map .dat ++ nos (m - n)) π0).map fun p => outD p.1 else none
/-- the same, the first parameter the pool -/
def denP (n m : Nat) (s : SL) : FnP := fun π ds => if ds.length + 1 = n then (exs s (.pool :: ds.map .dat ++ nos (m - n)) π).map fun p => (outD p.1, p.2) else none
theorem start_env {K : PySem.W.Frag} {F H : Hp} {N : List Str} {vs : List V} {ds : List D} (r : RpAll K F vs ds) : Env K none (start N vs) (ds.map .dat ++ nos (N.length - vs.length)) F H where
  len := by simp [L2.start, nos, r.len]
  dat := fun i d h => by
    by_cases hi : i < ds.length
    · rw [List.getElem?_append_left (by simpa using hi), List.getElem?_map] at h
      obtain ⟨d', h1, h2⟩ := Option.map_eq_some_iff.mp h
      cases h2
      obtain ⟨v, k1, k2⟩ := r.get h1
      refine ⟨v, ?_, k2⟩
      unfold L2.start
      rw [List.getElem?_append_left (by simpa [r.len] using hi), List.getElem?_map, k1]; rfl
    · rw [List.getElem?_append_right (by simpa using hi)] at h
      have := List.mem_of_getElem? h
      rw [nos, List.mem_replicate] at this
      cases this.2
  own := fun i c h => by
    have := List.mem_of_getElem? h
    rw [List.mem_append] at this
    rcases this with h | h
    · obtain ⟨d, _, e⟩ := List.mem_map.mp h; cases e
    · rw [nos, List.mem_replicate] at h; cases h.2
  inj := fun i j c c' a h => by
    have := List.mem_of_getElem? h
    rw [List.mem_append] at this
    rcases this with h | h
    · obtain ⟨d, _, e⟩ := List.mem_map.mp h; cases e
    · rw [nos, List.mem_replicate] at h; cases h.2
  pool := fun i h => by
    have := List.mem_of_getElem? h
    rw [List.mem_append] at this
    rcases this with h | h
    · obtain ⟨d, _, e⟩ := List.mem_map.mp h; cases e
    · rw [nos, List.mem_replicate] at h; cases h.2
theorem no_own {ds : List D} {n i : Nat} {c : Cell} {b : Sl} (hb : ∀ s ∈ b, s = .pool) (h : (b ++ ds.map Slot.dat ++ nos n)[i]? = some (.own c)) : False := by
  have := List.mem_of_getElem? h
  rw [List.mem_append, List.mem_append] at this
  rcases this with (h | h) | h
  · cases hb _ h
  · obtain ⟨d, _, e⟩ := List.mem_map.mp h; cases e
  · rw [nos, List.mem_replicate] at h; cases h.2
theorem start_envP {K : PySem.W.Frag} {F H : Hp} {N : List Str} {vs : List V} {ds : List D} {a : Addr} (r : RpAll K F vs ds) : Env K (some a) (start N (.ref a :: vs)) (.pool :: ds.map .dat ++ nos (N.length - (vs.length + 1))) F H where
  len := by simp [L2.start, nos, r.len]
  dat := fun i d h => by
    cases i with
    | zero => cases h
    | succ i =>
      have h : (ds.map Slot.dat ++ nos (N.length - (vs.length + 1)))[i]? = some (.dat d) := h
      have h2 : ∃ v, ((vs.map some ++ List.replicate (N.length - (vs.length + 1)) none : L2.St)[i]? = some (some v)) ∧ Rp K F v d := by
        by_cases hi : i < ds.length
        · rw [List.getElem?_append_left (by simpa using hi), List.getElem?_map] at h
          obtain ⟨d', h1, h2⟩ := Option.map_eq_some_iff.mp h
          cases h2
          obtain ⟨v, k1, k2⟩ := r.get h1
          refine ⟨v, ?_, k2⟩
          rw [List.getElem?_append_left (by simpa [r.len] using hi), List.getElem?_map, k1]; rfl
        · rw [List.getElem?_append_right (by simpa using hi)] at h
          have := List.mem_of_getElem? h
          rw [nos, List.mem_replicate] at this
          cases this.2
      exact h2
  own := fun i c h => (no_own (b := [.pool]) (by simp) h).elim
  inj := fun i j c c' b h => (no_own (b := [.pool]) (by simp) h).elim
  pool := fun i h => by
    cases i with
    | zero => exact ⟨a, rfl, rfl⟩
    | succ i =>
      have h : (ds.map Slot.dat ++ nos (N.length - (vs.length + 1)))[i]? = some .pool := h
      have := List.mem_of_getElem? h
      rw [List.mem_append] at this
      rcases this with h | h
      · obtain ⟨d, _, e⟩ := List.mem_map.mp h; cases e
      · rw [nos, List.mem_replicate] at h; cases h.2
theorem env_scope {qual : Str} {scope : Scope} {n : Addr} {f : Addr} {cd : Value} : (envOfC qual scope n f cd).scope = scope := rfl
section
variable {P : Program} {w : World} {K : PySem.W.Frag} {mg : Str → Option Value} {base : Heap} {x qual : Str} {params : Arguments} {body : List Stmt} {scope : Scope} {f : Addr} {fd : FuncData} {N ps : List Str} {k : Nat}
theorem par_of (hW : Wd.mk P w = ‹Wd›) {cdv : Value} {A : Around} {outer : List PySem.Env} {s : Shared} {H : Hp} {E : XK} (S : FnScope N ps scope) (free : ∀ n ∈ frees, mg n = none) (hr : Room k (A.deeper (envOfC qual scope s.heap.objs.size f cdv))) :
    ParS (cxOf CX0 P w K mg base N qual scope f cdv A outer s H E).nox k := ⟨⟨rfl, S.nd, hr, free, hW⟩, PassesOwn.never, S.kind, fun _ => rfl⟩
omit [Wd] in
theorem ok_def (F : FunD K x qual params body scope [] [] f fd) (S : FnScope N ps scope) (free : ∀ n ∈ frees, mg n = none) (sl : SL) (hc : chkSL N scope sl body = true) (ho : sl.ok ⟨P, w, K, mg, base⟩ k) :
    FnOk P w K mg base CX0 (k + 1) f fd ps (spF K (den ps.length N.length sl)) := by
  letI : Wd := ⟨P, w⟩
  refine F.ok S (fun vs H Q E h => ?_) (fun cdv A outer s H vs Q E hr h => ?_)
  · obtain ⟨F, ds, d, _, r, hf, _⟩ := h
    unfold den at hf
    split at hf
    · rename_i hl; rw [r.len]; exact hl
    · cases hf
  · obtain ⟨F, ds, d, ex0, r, hf, q⟩ := h
    refine ⟨_, PSs.nox (snd_sl none k sl _ body (par_of rfl S free hr) ho hc), ?_⟩
    unfold den at hf
    split at hf
    case isFalse => cases hf
    rename_i hl
    rw [Option.map_eq_some_iff] at hf
    obtain ⟨⟨out, π'⟩, he, rfl⟩ := hf
    have he' := he
    rw [show ps.length = vs.length by rw [← hl, r.len]] at he'
    refine ⟨F, H, _, π0, F, out, π', ⟨⟨start_env r, ex0, PoolAt.no⟩, Grow.refl ex0, fun i c a hc => (no_own (b := []) (by simp) hc).elim⟩, he', ?_⟩
    cases out with
    | nx ρ' => exact fun σ' F' H' _ B => q F' H' .non B.g .non
    | rt d => exact fun F' H' v g _ r => q F' H' v g r
omit [Wd] in
theorem ok_defP (F : FunD K x qual params body scope [] [] f fd) (S : FnScope N ps scope) (free : ∀ n ∈ frees, mg n = none) (sl : SL) (hc : chkSL N scope sl body = true) (ho : sl.ok ⟨P, w, K, mg, base⟩ k) :
    FnOk P w K mg base CX0 (k + 1) f fd ps (spP K (denP ps.length N.length sl)) := by
  letI : Wd := ⟨P, w⟩
  refine F.ok S (fun vs H Q E h => ?_) (fun cdv A outer s H vs Q E hr h => ?_)
  · obtain ⟨a, ws, F, ds, π, d, π', rfl, _, _, r, hf, _⟩ := h
    unfold denP at hf
    split at hf
    · rename_i hl; rw [List.length_cons, r.len]; exact hl
    · cases hf
  · obtain ⟨a, ws, F, ds, π, d, π', rfl, ex0, P0, r, hf, q⟩ := h
    refine ⟨_, PSs.nox (snd_sl (some a) k sl _ body (par_of rfl S free hr) ho hc), ?_⟩
    unfold denP at hf
    split at hf
    case isFalse => cases hf
    rename_i hl
    rw [Option.map_eq_some_iff] at hf
    obtain ⟨⟨out, π2⟩, he, he2⟩ := hf
    cases he2
    have he' := he
    rw [show ps.length = ws.length + 1 by rw [← hl, r.len]] at he'
    refine ⟨F, H, _, π, F, out, _, ⟨⟨start_envP r, ex0, P0⟩, Grow.refl ex0, fun i c a hc => (no_own (b := [.pool]) (by simp) hc).elim⟩, he', ?_⟩
    cases out with
    | nx ρ' => exact fun σ' F' H' _ B => q F' H' .non B.g B.s.pool .non
    | rt d => exact fun F' H' v g P r => q F' H' v g P r
end
end SR
end
section
/-! SrDraw: equations of the values; the draws. -/
namespace SR
open PySem
theorem mulOk_r (i : Int) {j : Int} (h1 : -(2 ^ 64) < j) (h2 : j < 2 ^ 64) : mulOk i j = true := by
  unfold mulOk; rw [decide_eq_true h1, decide_eq_true h2]; simp
theorem q_mul {i j : Int} (h : mulOk i j = true) : op2 .mul (.int i) (.int j) = some (.int (i * j)) := by
  simp only [op2, h, if_true]
theorem q_add {i j : Int} : op2 .add (.int i) (.int j) = some (.int (i + j)) := rfl
theorem q_sub {i j : Int} : op2 .sub (.int i) (.int j) = some (.int (i - j)) := rfl
theorem q_mod {i j : Int} (h : 0 < j) : op2 .mod (.int i) (.int j) = some (.int (i % j)) := by simp only [op2, h, if_true]
theorem q_div {i j : Int} (h : 0 < j) (h2 : j < 1073741824) : op2 .fdiv (.int i) (.int j) = some (.int (i / j)) := by simp only [op2, h, h2, and_self, if_true]
theorem q_int {i : Int} : bi .int [.int i] = some (.int i) := rfl
theorem q_intb {b : Bool} : bi .int [.bool b] = some (.int (if b then 1 else 0)) := rfl
theorem q_lenl {ds : List D} : bi .len [.list ds] = some (.int ds.length) := rfl
theorem q_lent {ds : List D} : bi .len [.tuple ds] = some (.int ds.length) := rfl
theorem q_lt {i j : Int} : cmpD .lt (.int i) (.int j) = some (decide (i < j)) := rfl
theorem q_le {i j : Int} : cmpD .le (.int i) (.int j) = some (decide (i ≤ j)) := rfl
theorem q_gt {i j : Int} : cmpD .gt (.int i) (.int j) = some (decide (j < i)) := rfl
theorem q_ge {i j : Int} : cmpD .ge (.int i) (.int j) = some (decide (j ≤ i)) := rfl
theorem q_tb {b : Bool} : truthM (.bool b) = ret b := rfl
theorem bnd_def {α β : Type} (m : M α) (f : α → M β) (π : Pool) : bnd m f π = match m π with
  | some (a, π1) => f a π1
  | none => none := rfl
def i_spread : SL := (.cons (.asg (.v 1) (.op2 .mod (.bi .int (.cons (.var 0) .nil)) (.k (.int 2147483647)))) (.cons (.asg (.v 2) (.k (.int 1))) (.cons (.for_ (.v 3) (.rng1 (.k (.int 4))) (.cons (.asg (.v 1) (.op2 .mod (.bi .int (.cons (.op2 .add (.op2 .add (.op2 .mul (.var 1) (.k (.int 48271))) (.k (.int 12345))) (.var 3)) .nil)) (.k (.int 2147483647)))) (.cons (.asg (.v 2) (.op2 .add (.op2 .mul (.var 2) (.k (.int 2147483647))) (.var 1))) .nil))) (.cons (.ret (.var 2)) .nil))))
def f_spread : Fn := den 1 4 i_spread
theorem rng4 : rngD [.int 4] = some [.int 0, .int 1, .int 2, .int 3] := rfl
/-- one turn of its loop -/
def spT (p : Int × Int) (k : Int) : Int × Int := ((p.1 * 48271 + 12345 + k) % 2147483647, p.2 * 2147483647 + (p.1 * 48271 + 12345 + k) % 2147483647)
def b_spread : SL := (.cons (.asg (.v 1) (.op2 .mod (.bi .int (.cons (.op2 .add (.op2 .add (.op2 .mul (.var 1) (.k (.int 48271))) (.k (.int 12345))) (.var 3)) .nil)) (.k (.int 2147483647)))) (.cons (.asg (.v 2) (.op2 .add (.op2 .mul (.var 2) (.k (.int 2147483647))) (.var 1))) .nil))
theorem spread_turn (c m t k : Int) : exs b_spread [.dat (.int c), .dat (.int m), .dat (.int t), .dat (.int k)] = ret (.nx [.dat (.int c), .dat (.int (spT (m, t) k).1), .dat (.int (spT (m, t) k).2), .dat (.int k)]) := by
  have m1 := fun i => q_mul (mulOk_r i (show -(2 ^ 64) < (48271 : Int) by decide) (by decide))
  have m2 := fun i => q_mul (mulOk_r i (show -(2 ^ 64) < (2147483647 : Int) by decide) (by decide))
  have m3 := fun i => q_mod (i := i) (show (0 : Int) < 2147483647 by decide)
  simp only [b_spread, exs, ex, asgM, ev, evs, List.getElem?_cons_succ, List.getElem?_cons_zero, bnd_ret, m1, m2, m3, q_add, q_int, lift_some, bindT, List.set_cons_succ, List.set_cons_zero, spT]
theorem i_spread_eq : i_spread = .cons (.asg (.v 1) (.op2 .mod (.bi .int (.cons (.var 0) .nil)) (.k (.int 2147483647)))) (.cons (.asg (.v 2) (.k (.int 1))) (.cons (.for_ (.v 3) (.rng1 (.k (.int 4))) b_spread) (.cons (.ret (.var 2)) .nil))) := rfl
theorem spread_ok (c : Int) : ∃ r, f_spread [.int c] = some (.int r) := by
  have m3 := fun i => q_mod (i := i) (show (0 : Int) < 2147483647 by decide)
  have h : ∃ r : Int, exs i_spread [.dat (.int c), .no, .no, .no] = ret (.rt (.int r)) := by
    refine ⟨(spT (spT (spT (spT (c % 2147483647, 1) 0) 1) 2) 3).2, ?_⟩
    rw [i_spread_eq]
    generalize hb : b_spread = bs
    simp only [exs, ex, asgM, ev, evs, List.getElem?_cons_succ, List.getElem?_cons_zero, bnd_ret, m3, q_int, lift_some, bindT, List.set_cons_succ, List.set_cons_zero, rng4, iterD, forL]
    subst hb
    simp only [spread_turn, bnd_ret, List.set_cons_succ, List.set_cons_zero]
    simp only [List.getElem?_cons_succ, List.getElem?_cons_zero, bnd_ret]
  obtain ⟨r, h⟩ := h
  refine ⟨r, ?_⟩
  show ((exs i_spread [.dat (.int c), .no, .no, .no] π0).map fun p => outD p.1) = _
  rw [h]; rfl
def i_draw : SL := (.cons (.ife (.and (.cmp .le (.pg 0 2) (.k (.int 0))) (.cmp .lt (.pg 0 1) (.bi .len (.cons (.pg 0 0) .nil)))) (.cons (.asg (.v 2) (.ix (.pg 0 0) (.pg 0 1))) (.cons (.pp 0 1 (.op2 .add (.pg 0 1) (.k (.int 1)))) (.cons (.pp 0 2 (.var 2)) (.cons (.ife (.cmp .lt (.var 2) (.k (.int 1000000000000000000))) (.cons (.pp 0 2 (.call "_law_spread" f_spread (.cons (.var 2) .nil))) .nil) .nil) .nil)))) .nil) (.cons (.pp 0 3 (.op2 .add (.pg 0 3) (.k (.int 1)))) (.cons (.ife (.cmp .le (.pg 0 2) (.k (.int 0))) (.cons (.asg (.v 3) (.op2 .mod (.bi .int (.cons (.op2 .add (.op2 .add (.op2 .mul (.pg 0 4) (.k (.int 48271))) (.op2 .mul (.pg 0 3) (.k (.int 69621)))) (.k (.int 1))) .nil)) (.k (.int 2147483647)))) (.cons (.asg (.v 3) (.op2 .mod (.bi .int (.cons (.op2 .add (.op2 .mul (.var 3) (.k (.int 16807))) (.pg 0 3)) .nil)) (.k (.int 2147483629)))) (.cons (.ret (.op2 .mod (.op2 .fdiv (.var 3) (.k (.int 5))) (.var 1))) .nil))) .nil) (.cons (.asg (.v 4) (.op2 .mod (.bi .int (.cons (.pg 0 2) .nil)) (.var 1))) (.cons (.pp 0 2 (.op2 .fdiv (.pg 0 2) (.var 1))) (.cons (.ret (.var 4)) .nil))))))
def f_draw : FnP := denP 2 5 i_draw
theorem pg_eq {i k : Nat} {ρ : Sl} {π : Pool} {d : D} (h : ρ[i]? = some .pool) (hd : π.at k = some d) : ev (.pg i k) ρ π = some (d, π) := by
  simp only [ev, h, hd, Option.map_some]
theorem bnd_of {α β : Type} {m : M α} {f : α → M β} {π π1 : Pool} {a : α} {r : Option (β × Pool)} (h : m π = some (a, π1)) (h2 : f a π1 = r) : bnd m f π = r := by rw [bnd_ap h]; exact h2
theorem pp_eq {i k : Nat} {e : E} {ρ : Sl} {π π1 π2 : Pool} {d : D} (h : ρ[i]? = some .pool) (he : ev e ρ π = some (d, π1)) (hp : π1.put k d = some π2) : ex (.pp i k e) ρ π = some (.nx ρ, π2) := by
  simp only [ex, ppM]
  rw [bnd_ap he]
  simp only [h, hp, Option.map_some]
/-- the end: the value of a pool that is spent -/
def dEnd1 : SL := (.cons (.asg (.v 3) (.op2 .mod (.bi .int (.cons (.op2 .add (.op2 .add (.op2 .mul (.pg 0 4) (.k (.int 48271))) (.op2 .mul (.pg 0 3) (.k (.int 69621)))) (.k (.int 1))) .nil)) (.k (.int 2147483647)))) (.cons (.asg (.v 3) (.op2 .mod (.bi .int (.cons (.op2 .add (.op2 .mul (.var 3) (.k (.int 16807))) (.pg 0 3)) .nil)) (.k (.int 2147483629)))) (.cons (.ret (.op2 .mod (.op2 .fdiv (.var 3) (.k (.int 5))) (.var 1))) .nil)))
theorem dEnd1_ok (π : Pool) (m : Int) (hm : 0 < m) (s2 s3 s4 : Slot) : ∃ v, exs dEnd1 [.pool, .dat (.int m), s2, s3, s4] π = some (.rt (.int v), π) ∧ 0 ≤ v ∧ v < m := by
  have m1 := fun i => q_mul (mulOk_r i (show -(2 ^ 64) < (48271 : Int) by decide) (by decide))
  have m2 := fun i => q_mul (mulOk_r i (show -(2 ^ 64) < (69621 : Int) by decide) (by decide))
  have m3 := fun i => q_mul (mulOk_r i (show -(2 ^ 64) < (16807 : Int) by decide) (by decide))
  have m4 := fun i => q_mod (i := i) (show (0 : Int) < 2147483647 by decide)
  have m5 := fun i => q_mod (i := i) (show (0 : Int) < 2147483629 by decide)
  have m6 := fun i => q_div (i := i) (show (0 : Int) < 5 by decide) (by decide)
  have m7 := fun i => q_mod (i := i) hm
  refine ⟨_, ?_, Int.emod_nonneg (((π.salt * 48271 + π.cnt * 69621 + 1) % 2147483647 * 16807 + π.cnt) % 2147483629 / 5) (Int.ne_of_gt hm), Int.emod_lt_of_pos _ hm⟩
  simp only [dEnd1, exs, ex, asgM, ev, evs, bnd_def, List.getElem?_cons_succ, List.getElem?_cons_zero, Pool.at, Option.map_some, ret_ap, m1, m2, m3, m4, m5, m6, m7, q_add, q_int, lift_some, bindT, List.set_cons_succ, List.set_cons_zero]
def dIn : SL := (.cons (.asg (.v 2) (.ix (.pg 0 0) (.pg 0 1))) (.cons (.pp 0 1 (.op2 .add (.pg 0 1) (.k (.int 1)))) (.cons (.pp 0 2 (.var 2)) (.cons (.ife (.cmp .lt (.var 2) (.k (.int 1000000000000000000))) (.cons (.pp 0 2 (.call "_law_spread" f_spread (.cons (.var 2) .nil))) .nil) .nil) .nil))))
def dTest : E := (.and (.cmp .le (.pg 0 2) (.k (.int 0))) (.cmp .lt (.pg 0 1) (.bi .len (.cons (.pg 0 0) .nil))))
def dEnd2 : SL := (.cons (.asg (.v 4) (.op2 .mod (.bi .int (.cons (.pg 0 2) .nil)) (.var 1))) (.cons (.pp 0 2 (.op2 .fdiv (.pg 0 2) (.var 1))) (.cons (.ret (.var 4)) .nil)))
theorem i_draw_eq : i_draw = .cons (.ife dTest dIn .nil) (.cons (.pp 0 3 (.op2 .add (.pg 0 3) (.k (.int 1)))) (.cons (.ife (.cmp .le (.pg 0 2) (.k (.int 0))) dEnd1 .nil) dEnd2)) := rfl
theorem dTest_ok (π : Pool) (s1 s2 s3 s4 : Slot) : ev dTest [.pool, s1, s2, s3, s4] π = some (.bool (decide (π.cur ≤ 0) && decide (π.pos < π.script.length)), π) := by
  by_cases h : π.cur ≤ 0
  · simp only [dTest, ev, evs, bnd_def, List.getElem?_cons_zero, Pool.at, Option.map_some, ret_ap, q_le, q_lt, q_tb, q_lenl, lift_some, h, decide_true, Bool.true_and, if_true, List.length_map]
  · simp only [dTest, ev, evs, bnd_def, List.getElem?_cons_zero, Pool.at, Option.map_some, ret_ap, q_le, q_lt, q_tb, q_lenl, lift_some, h, decide_false, Bool.false_and, Bool.false_eq_true, if_false]
theorem dIn_ok (π : Pool) (h0 : 0 ≤ π.pos) (h1 : π.pos < π.script.length) (s1 s2 s3 s4 : Slot) : ∃ c π1, exs dIn [.pool, s1, s2, s3, s4] π = some (.nx [.pool, s1, .dat (.int c), s3, s4], π1) ∧ 0 ≤ π1.pos := by
  obtain ⟨c, hc⟩ : ∃ c : Int, ixD (.list (π.script.map PyData.int)) (.int π.pos) = some (.int c) := by
    have hlt : π.pos.toNat < π.script.length := by omega
    have e : π.pos = ((π.pos.toNat : Nat) : Int) := by omega
    have g : (π.script.map PyData.int)[π.pos.toNat]? = some (.int π.script[π.pos.toNat]) := by rw [List.getElem?_map, List.getElem?_eq_getElem hlt]; rfl
    refine ⟨π.script[π.pos.toNat], ?_⟩
    generalize hz : π.script[π.pos.toNat] = z at g ⊢
    simp only [ixD]
    rw [e]
    exact L2.atI_nat g
  obtain ⟨r, hr⟩ := spread_ok c
  by_cases hl : c < 1000000000000000000
  · refine ⟨c, { { { π with pos := π.pos + 1 } with cur := c } with cur := r }, ?_, by show 0 ≤ π.pos + 1; omega⟩
    simp only [dIn, exs, ex, asgM, ppM, ev, evs, bnd_def, List.getElem?_cons_succ, List.getElem?_cons_zero, Pool.at, Pool.put, Option.map_some, ret_ap, hc, q_add, q_lt, q_tb, lift_some, bindT, List.set_cons_succ, List.set_cons_zero, hl, decide_true, if_true, hr]
  · refine ⟨c, { { π with pos := π.pos + 1 } with cur := c }, ?_, by show 0 ≤ π.pos + 1; omega⟩
    simp only [dIn, exs, ex, asgM, ppM, ev, evs, bnd_def, List.getElem?_cons_succ, List.getElem?_cons_zero, Pool.at, Pool.put, Option.map_some, ret_ap, hc, q_add, q_lt, q_tb, lift_some, bindT, List.set_cons_succ, List.set_cons_zero, hl, decide_false, Bool.false_eq_true, if_false]
theorem dEnd2_ok (π : Pool) (m : Int) (hm : 0 < m) (hs : m < 1073741824) (s2 s3 s4 : Slot) : ∃ v π1, exs dEnd2 [.pool, .dat (.int m), s2, s3, s4] π = some (.rt (.int v), π1) ∧ 0 ≤ v ∧ v < m ∧ π1.pos = π.pos := by
  have m6 := fun i => q_div (i := i) hm hs
  have m7 := fun i => q_mod (i := i) hm
  refine ⟨_, { π with cur := π.cur / m }, ?_, Int.emod_nonneg π.cur (Int.ne_of_gt hm), Int.emod_lt_of_pos _ hm, rfl⟩
  simp only [dEnd2, exs, ex, asgM, ppM, ev, evs, bnd_def, List.getElem?_cons_succ, List.getElem?_cons_zero, Pool.at, Pool.put, Option.map_some, ret_ap, m6, m7, q_int, lift_some, bindT, List.set_cons_succ, List.set_cons_zero]
/-- a draw: a number below many -/
theorem draw_ok (π : Pool) (m : Int) (h0 : 0 ≤ π.pos) (hm : 0 < m) (hs : m < 1073741824) : ∃ v π1, f_draw π [.int m] = some (.int v, π1) ∧ 0 ≤ v ∧ v < m ∧ 0 ≤ π1.pos := by
  have key : ∃ v π1, exs i_draw [.pool, .dat (.int m), .no, .no, .no] π = some (.rt (.int v), π1) ∧ 0 ≤ v ∧ v < m ∧ 0 ≤ π1.pos := by
    rw [i_draw_eq]
    have fin : ∀ (π : Pool) (s2 : Slot), 0 ≤ π.pos → ∃ v π1, exs (.cons (.pp 0 3 (.op2 .add (.pg 0 3) (.k (.int 1)))) (.cons (.ife (.cmp .le (.pg 0 2) (.k (.int 0))) dEnd1 .nil) dEnd2)) [.pool, .dat (.int m), s2, .no, .no] π = some (.rt (.int v), π1) ∧ 0 ≤ v ∧ v < m ∧ 0 ≤ π1.pos := fun π s2 hp => by
      by_cases hc : π.cur ≤ 0
      · obtain ⟨v, hv, h1, h2⟩ := dEnd1_ok { π with cnt := π.cnt + 1 } m hm s2 .no .no
        refine ⟨v, { π with cnt := π.cnt + 1 }, ?_, h1, h2, hp⟩
        simp only [exs, ex, ppM, ev, bnd_def, List.getElem?_cons_zero, Pool.at, Pool.put, Option.map_some, ret_ap, q_add, q_le, q_tb, lift_some, hc, decide_true, if_true, hv]
      · obtain ⟨v, π1, hv, h1, h2, h3⟩ := dEnd2_ok { π with cnt := π.cnt + 1 } m hm hs s2 .no .no
        refine ⟨v, π1, ?_, h1, h2, by rw [h3]; exact hp⟩
        simp only [exs, ex, ppM, ev, bnd_def, List.getElem?_cons_zero, Pool.at, Pool.put, Option.map_some, ret_ap, q_add, q_le, q_tb, lift_some, hc, decide_false, Bool.false_eq_true, if_false, hv]
    have ht := dTest_ok π (.dat (.int m)) .no .no .no
    by_cases hc : (decide (π.cur ≤ 0) && decide (π.pos < π.script.length)) = true
    · have h1 : π.pos < π.script.length := by simp only [Bool.and_eq_true, decide_eq_true_eq] at hc; exact hc.2
      obtain ⟨c, π1, hi, hp⟩ := dIn_ok π h0 h1 (.dat (.int m)) .no .no .no
      obtain ⟨v, π2, hv, r⟩ := fin π1 (.dat (.int c)) hp
      refine ⟨v, π2, ?_, r⟩
      rw [hc] at ht
      generalize hR : SL.cons (.pp 0 3 (.op2 .add (.pg 0 3) (.k (.int 1)))) (.cons (.ife (.cmp .le (.pg 0 2) (.k (.int 0))) dEnd1 .nil) dEnd2) = R at hv ⊢
      simp only [exs, ex, bnd_def, ht, q_tb, ret_ap, if_true, hi]
      exact hv
    · obtain ⟨v, π2, hv, r⟩ := fin π .no h0
      refine ⟨v, π2, ?_, r⟩
      rw [Bool.eq_false_iff.mpr hc] at ht
      generalize hR : SL.cons (.pp 0 3 (.op2 .add (.pg 0 3) (.k (.int 1)))) (.cons (.ife (.cmp .le (.pg 0 2) (.k (.int 0))) dEnd1 .nil) dEnd2) = R at hv ⊢
      simp only [exs, ex, bnd_def, ht, q_tb, ret_ap, Bool.false_eq_true, if_false]
      exact hv
  obtain ⟨v, π1, h, r⟩ := key
  refine ⟨v, π1, ?_, r⟩
  show ((exs i_draw [.pool, .dat (.int m), .no, .no, .no] π).map fun p => (outD p.1, p.2)) = _
  rw [h]; rfl
end SR
end
section
/-! SrShape: drawn shapes; drawn lists. -/
namespace SR
open PySem
theorem compL_all {g : D → M (Option D)} {P : D → Prop} : ∀ {ds : List D}, (∀ d ∈ ds, ∀ π : Pool, 0 ≤ π.pos → ∃ y π', g d π = some (some y, π') ∧ P y ∧ 0 ≤ π'.pos) → ∀ π : Pool, 0 ≤ π.pos → ∃ ys π', compL g ds π = some (ys, π') ∧ ys.length = ds.length ∧ (∀ y ∈ ys, P y) ∧ 0 ≤ π'.pos
  | [], _, π, h0 => ⟨[], π, rfl, rfl, (fun y h => by cases h), h0⟩
  | d :: ds, h, π, h0 => by
    obtain ⟨y, π1, e1, p1, z1⟩ := h d List.mem_cons_self π h0
    obtain ⟨ys, π2, e2, l2, p2, z2⟩ := compL_all (g := g) (P := P) (ds := ds) (fun d hd => h d (List.mem_cons_of_mem _ hd)) π1 z1
    refine ⟨y :: ys, π2, ?_, congrArg (· + 1) l2, fun z hz => ?_, z2⟩
    · simp only [compL]
      rw [bnd_ap e1, bnd_ap e2]; rfl
    · rcases List.mem_cons.mp hz with rfl | hz
      · exact p1
      · exact p2 z hz
/-- a word of arrows -/
def cd (b : Bool) : Nat := if b then 108 else 114
def wd (ws : List Bool) : Str := ⟨(ws.map cd).toArray⟩
theorem joinL_one : ∀ cs : List Nat, TL.joinL [] (cs.map fun c => [c]) = cs
  | [] => rfl
  | [c] => rfl
  | c :: d :: r => by
    have ih := joinL_one (d :: r)
    show [c] ++ ([] ++ TL.joinL [] ((d :: r).map fun c => [c])) = c :: d :: r
    rw [ih]; rfl
theorem strs_of_bits : ∀ {ys : List D}, (∀ y ∈ ys, ∃ b : Bool, y = .str ⟨#[cd b]⟩) → ∃ ws : List Bool, ys = ws.map fun b => PyData.str ⟨#[cd b]⟩
  | [], _ => ⟨[], rfl⟩
  | y :: ys, h => by
    obtain ⟨b, rfl⟩ := h y List.mem_cons_self
    obtain ⟨ws, rfl⟩ := strs_of_bits (ys := ys) fun z hz => h z (List.mem_cons_of_mem _ hz)
    exact ⟨b :: ws, rfl⟩
theorem asStrs_map {α : Type} (g : α → Str) : ∀ l : List α, asStrs (l.map fun a => PyData.str (g a)) = some (l.map g)
  | [] => rfl
  | a :: l => by simp only [List.map_cons, asStrs, asStrs_map g l, Option.map_some]
theorem join_bits (ws : List Bool) (h : ws.length ≤ 1000) : joinD (.str "") (.list (ws.map fun b => PyData.str ⟨#[cd b]⟩)) = some (.str (wd ws)) := by
  have e1 : (ws.map fun b => (⟨#[cd b]⟩ : Str)) = ((ws.map cd).map fun c => [c]).map SX.S := by
    rw [List.map_map, List.map_map]; rfl
  have e2 : PySem.Txt.join ("" : Str) (ws.map fun b => (⟨#[cd b]⟩ : Str)) = wd ws := by
    rw [e1]
    show PySem.Txt.join (SX.S []) _ = _
    rw [SX.join_S, joinL_one]; rfl
  have e3 : ((ws.map fun b => (⟨#[cd b]⟩ : Str)).map (·.length)).sum + (ws.map fun b => (⟨#[cd b]⟩ : Str)).length * ("" : Str).length ≤ 16777216 := by
    have z : ("" : Str).length = 0 := by decide
    have y : ((ws.map fun b => (⟨#[cd b]⟩ : Str)).map (·.length)).sum = ws.length := by
      rw [List.map_map]
      clear e1 e2 h
      induction ws with
      | nil => rfl
      | cons b ws ih => rw [List.map_cons, List.sum_cons, ih]; simp [Str.length, Nat.add_comm]
    rw [y, z]; omega
  simp only [joinD, items, Option.bind_some, asStrs_map, e3, if_true, e2]
def i_shape : SL := (.cons (.ret (.join (.k (.str "")) (.comp (.v 2) (.rng1 (.callP 0 "_law_draw" f_draw (.cons (.op2 .add (.var 1) (.k (.int 1))) .nil))) .nil (.ix (.tup (.cons (.k (.str "r")) (.cons (.k (.str "l")) .nil))) (.callP 0 "_law_draw" f_draw (.cons (.k (.int 2)) .nil))) [2]))) .nil)
def f_shape : FnP := denP 2 3 i_shape
theorem bit_ok (s1 s2 : Slot) (π : Pool) (h0 : 0 ≤ π.pos) : ∃ y π', ev (.ix (.tup (.cons (.k (.str "r")) (.cons (.k (.str "l")) .nil))) (.callP 0 "_law_draw" f_draw (.cons (.k (.int 2)) .nil))) [.pool, s1, s2] π = some (y, π') ∧ (∃ b : Bool, y = .str ⟨#[cd b]⟩) ∧ 0 ≤ π'.pos := by
  obtain ⟨v, π1, e1, h1, h2, h3⟩ := draw_ok π 2 h0 (by decide) (by decide)
  have hv : v = 0 ∨ v = 1 := by omega
  rcases hv with rfl | rfl
  · refine ⟨.str ⟨#[cd false]⟩, π1, ?_, ⟨false, rfl⟩, h3⟩
    simp only [ev, evs, bnd_ret, List.getElem?_cons_zero, List.length_cons, List.length_nil]
    rw [if_pos (by decide)]
    rw [bnd_ret, bnd_ap e1]; rfl
  · refine ⟨.str ⟨#[cd true]⟩, π1, ?_, ⟨true, rfl⟩, h3⟩
    simp only [ev, evs, bnd_ret, List.getElem?_cons_zero, List.length_cons, List.length_nil]
    rw [if_pos (by decide)]
    rw [bnd_ret, bnd_ap e1]; rfl
theorem rng_of {n : Int} (h0 : 0 ≤ n) (h1 : n ≤ 1000) : rngD [.int n] = some (rangeD 0 n) := by
  simp only [rngD]
  rw [if_pos (by unfold rangeOk; simp; omega)]
theorem rangeD_len (n : Int) : (rangeD 0 n).length = n.toNat := by unfold rangeD; simp
/-- a drawn shape -/
theorem shape_ok (π : Pool) (m : Int) (h0 : 0 ≤ π.pos) (hm : 0 ≤ m) (hs : m ≤ 999) : ∃ ws π1, f_shape π [.int m] = some (.str (wd ws), π1) ∧ (ws.length : Int) ≤ m ∧ 0 ≤ π1.pos := by
  obtain ⟨n, π1, e1, n1, n2, p1⟩ := draw_ok π (m + 1) h0 (by omega) (by omega)
  have hn := rng_of n1 (by omega)
  let g : D → M (Option D) := fun x => match bindT (.v 2) x (wipeS [.pool, .dat (.int m), .no] [2]) with
    | some ρ' => bnd (evC .nil ρ') fun k => if k then bnd (ev (.ix (.tup (.cons (.k (.str "r")) (.cons (.k (.str "l")) .nil))) (.callP 0 "_law_draw" f_draw (.cons (.k (.int 2)) .nil))) ρ') fun y => ret (some y) else ret none
    | none => stuck
  have hg : ∀ d ∈ rangeD 0 n, ∀ π : Pool, 0 ≤ π.pos → ∃ y π', g d π = some (some y, π') ∧ (∃ b : Bool, y = .str ⟨#[cd b]⟩) ∧ 0 ≤ π'.pos := fun d _ π hp => by
    obtain ⟨y, π', e, r⟩ := bit_ok (.dat (.int m)) (.dat d) π hp
    refine ⟨y, π', ?_, r⟩
    show bnd (ret true) (fun k => if k then bnd (ev (.ix (.tup (.cons (.k (.str "r")) (.cons (.k (.str "l")) .nil))) (.callP 0 "_law_draw" f_draw (.cons (.k (.int 2)) .nil))) [.pool, .dat (.int m), .dat d]) fun y => ret (some y) else ret none) π = _
    rw [bnd_ret, if_pos rfl, bnd_ap e]; rfl
  obtain ⟨ys, π2, e2, l2, b2, p2⟩ := compL_all hg π1 p1
  obtain ⟨ws, rfl⟩ := strs_of_bits b2
  rw [List.length_map, rangeD_len] at l2
  refine ⟨ws, π2, ?_, by omega, p2⟩
  have key : exs i_shape [.pool, .dat (.int m), .no] π = some (.rt (.str (wd ws)), π2) := by
    have e3 : ev (.comp (.v 2) (.rng1 (.callP 0 "_law_draw" f_draw (.cons (.op2 .add (.var 1) (.k (.int 1))) .nil))) .nil (.ix (.tup (.cons (.k (.str "r")) (.cons (.k (.str "l")) .nil))) (.callP 0 "_law_draw" f_draw (.cons (.k (.int 2)) .nil))) [2]) [.pool, .dat (.int m), .no] π = some (.list (ws.map fun b => PyData.str ⟨#[cd b]⟩), π2) := by
      have e4 : ev (.rng1 (.callP 0 "_law_draw" f_draw (.cons (.op2 .add (.var 1) (.k (.int 1))) .nil))) [.pool, .dat (.int m), .no] π = some (.list (rangeD 0 n), π1) := by
        simp only [ev, evs, bnd_ret, List.getElem?_cons_zero, List.getElem?_cons_succ, q_add, lift_some]
        rw [bnd_ap e1, hn]; rfl
      show bnd (ev (.rng1 (.callP 0 "_law_draw" f_draw (.cons (.op2 .add (.var 1) (.k (.int 1))) .nil))) [.pool, .dat (.int m), .no]) (fun d => bnd (lift (iterD d)) fun ds => bnd (compL g ds) fun ys => ret (PyData.list ys)) π = _
      rw [bnd_ap e4]
      show bnd (ret (rangeD 0 n)) (fun ds => bnd (compL g ds) fun ys => ret (PyData.list ys)) π1 = _
      rw [bnd_ret, bnd_ap e2]; rfl
    show bnd (bnd (bnd (ret (.str "")) fun x => bnd (ev (.comp (.v 2) (.rng1 (.callP 0 "_law_draw" f_draw (.cons (.op2 .add (.var 1) (.k (.int 1))) .nil))) .nil (.ix (.tup (.cons (.k (.str "r")) (.cons (.k (.str "l")) .nil))) (.callP 0 "_law_draw" f_draw (.cons (.k (.int 2)) .nil))) [2]) [.pool, .dat (.int m), .no]) fun y => lift (joinD x y)) fun d => ret (Out.rt d)) (fun o => match o with
      | .nx ρ' => exs .nil ρ'
      | .rt d => ret (.rt d)) π = _
    rw [bnd_ret, bnd_assoc, bnd_assoc, bnd_ap e3, join_bits ws (by omega)]; rfl
  show ((exs i_shape [.pool, .dat (.int m), .no] π).map fun p => (outD p.1, p.2)) = _
  rw [key]; rfl
end SR
end
section
/-! SrOrd: sorting of data that are alike: the order is one order, so a sorted list is told by its items. -/
namespace SR
open PySem PySem.Spec PyProof.Rows L2
open PySem.W (keyToks keyToksAll alike alikeAll dataLe)
mutual
theorem toks_inj : ∀ (x y : D), alike x y = true → ∀ l m, keyToks x ++ l = keyToks y ++ m → x = y ∧ l = m
  | .none, .none, _, l, m, h => ⟨rfl, by simpa [keyToks] using h⟩
  | .bool a, .bool b, _, l, m, h => by
    simp only [keyToks, List.cons_append, List.nil_append, List.cons.injEq, Sum.inl.injEq] at h
    refine ⟨?_, h.2⟩
    cases a <;> cases b <;> first | rfl | (exfalso; simp at h)
  | .int a, .int b, _, l, m, h => by
    simp only [keyToks, List.cons_append, List.nil_append, List.cons.injEq, Sum.inl.injEq] at h
    exact ⟨by rw [h.1], h.2⟩
  | .str a, .str b, _, l, m, h => by
    simp only [keyToks, List.cons_append, List.nil_append, List.cons.injEq, Sum.inr.injEq] at h
    exact ⟨by rw [PySem.W.str_of_cps h.1], h.2⟩
  | .list xs, .list ys, e, l, m, h => by
    simp only [alike] at e
    simp only [keyToks] at h
    obtain ⟨r, s⟩ := toksAll_inj xs ys e l m h
    exact ⟨by rw [r], s⟩
  | .tuple xs, .tuple ys, e, l, m, h => by
    simp only [alike] at e
    simp only [keyToks] at h
    obtain ⟨r, s⟩ := toksAll_inj xs ys e l m h
    exact ⟨by rw [r], s⟩
  | .none, .bool _, e, _, _, _ => by simp [alike] at e
  | .none, .int _, e, _, _, _ => by simp [alike] at e
  | .none, .str _, e, _, _, _ => by simp [alike] at e
  | .none, .list _, e, _, _, _ => by simp [alike] at e
  | .none, .tuple _, e, _, _, _ => by simp [alike] at e
  | .none, .dict _, e, _, _, _ => by simp [alike] at e
  | .bool _, .none, e, _, _, _ => by simp [alike] at e
  | .bool _, .int _, e, _, _, _ => by simp [alike] at e
  | .bool _, .str _, e, _, _, _ => by simp [alike] at e
  | .bool _, .list _, e, _, _, _ => by simp [alike] at e
  | .bool _, .tuple _, e, _, _, _ => by simp [alike] at e
  | .bool _, .dict _, e, _, _, _ => by simp [alike] at e
  | .int _, .none, e, _, _, _ => by simp [alike] at e
  | .int _, .bool _, e, _, _, _ => by simp [alike] at e
  | .int _, .str _, e, _, _, _ => by simp [alike] at e
  | .int _, .list _, e, _, _, _ => by simp [alike] at e
  | .int _, .tuple _, e, _, _, _ => by simp [alike] at e
  | .int _, .dict _, e, _, _, _ => by simp [alike] at e
  | .str _, .none, e, _, _, _ => by simp [alike] at e
  | .str _, .bool _, e, _, _, _ => by simp [alike] at e
  | .str _, .int _, e, _, _, _ => by simp [alike] at e
  | .str _, .list _, e, _, _, _ => by simp [alike] at e
  | .str _, .tuple _, e, _, _, _ => by simp [alike] at e
  | .str _, .dict _, e, _, _, _ => by simp [alike] at e
  | .list _, .none, e, _, _, _ => by simp [alike] at e
  | .list _, .bool _, e, _, _, _ => by simp [alike] at e
  | .list _, .int _, e, _, _, _ => by simp [alike] at e
  | .list _, .str _, e, _, _, _ => by simp [alike] at e
  | .list _, .tuple _, e, _, _, _ => by simp [alike] at e
  | .list _, .dict _, e, _, _, _ => by simp [alike] at e
  | .tuple _, .none, e, _, _, _ => by simp [alike] at e
  | .tuple _, .bool _, e, _, _, _ => by simp [alike] at e
  | .tuple _, .int _, e, _, _, _ => by simp [alike] at e
  | .tuple _, .str _, e, _, _, _ => by simp [alike] at e
  | .tuple _, .list _, e, _, _, _ => by simp [alike] at e
  | .tuple _, .dict _, e, _, _, _ => by simp [alike] at e
  | .dict _, _, e, _, _, _ => by simp [alike] at e
theorem toksAll_inj : ∀ (xs ys : List D), alikeAll xs ys = true → ∀ l m, keyToksAll xs ++ l = keyToksAll ys ++ m → xs = ys ∧ l = m
  | [], [], _, l, m, h => ⟨rfl, by simpa [keyToksAll] using h⟩
  | [], y :: ys, _, l, m, h => by simp [keyToksAll] at h
  | x :: xs, [], _, l, m, h => by simp [keyToksAll] at h
  | x :: xs, y :: ys, e, l, m, h => by
    obtain ⟨e1, e2⟩ := PySem.W.alike_all_cons e
    simp only [keyToksAll, List.cons_append, List.cons.injEq, true_and, List.append_assoc] at h
    obtain ⟨r, h⟩ := toks_inj x y e1 _ _ h
    obtain ⟨s, h⟩ := toksAll_inj xs ys e2 _ _ h
    exact ⟨by rw [r, s], h⟩
end
theorem toks_one {x y : D} (a : alike x y = true) (h : keyToks x = keyToks y) : x = y := (toks_inj x y a [] [] (by rw [h])).1
abbrev le : D → D → Bool := dataLe false id
theorem le_total : PySem.W.TotalLe le := PySem.W.sortLe_total _ _ _
theorem le_anti {x y : D} (a : alike x y = true) (h1 : le x y = true) (h2 : le y x = true) : x = y := by
  have g1 : PySem.W.dataLt y x = false := by simpa [le, dataLe, PySem.W.sortLe, PySem.W.dataLt] using h1
  have g2 : PySem.W.dataLt x y = false := by simpa [le, dataLe, PySem.W.sortLe, PySem.W.dataLt] using h2
  exact toks_one a (PyProof.Rows.KeyOrd.total (listOrd itemOrd) _ _ g2 g1)
theorem sortD_perm (ds : List D) : (sortD ds).Perm ds := List.mergeSort_perm ..
theorem sortD_pair (ds : List D) : (sortD ds).Pairwise (fun a b => le a b = true) := PySem.W.sort_pairwise le_total ds
theorem alikes_mem {ds : List D} (h : alikes ds = true) {d e : D} (hd : d ∈ ds) (he : e ∈ ds) : alike d e = true := by
  unfold alikes at h
  simp only [List.all_eq_true] at h
  exact h d hd e he
/-- a sorted list with the same items is the sorted list -/
theorem sortD_eq {ds es : List D} (h : alikes ds = true) (p : es.Perm ds) (hs : es.Pairwise (fun a b => le a b = true)) : es = sortD ds :=
  List.Perm.eq_of_pairwise (le := fun a b => le a b = true) (fun a b ha hb h1 h2 => le_anti (alikes_mem h (p.subset ha) ((sortD_perm ds).subset hb)) h1 h2) hs (sortD_pair ds) (p.trans (sortD_perm ds).symm)
theorem sortD_congr {ds es : List D} (h : alikes es = true) (p : ds.Perm es) : sortD ds = sortD es := sortD_eq h ((sortD_perm ds).trans p) (sortD_pair ds)
theorem sortD_id {ds : List D} (hs : ds.Pairwise (fun a b => le a b = true)) : sortD ds = ds := List.mergeSort_of_pairwise hs
end SR
end
section
/-! SrEv: rules for the values of comprehensions and loops. -/
namespace SR
open PySem PySem.Spec PyProof.Rows L2
variable [Wd]
theorem compL_map {α : Type} {g : D → M (Option D)} {en : α → D} {f : α → Option D} : ∀ {xs : List α}, (∀ x ∈ xs, g (en x) = ret (f x)) → compL g (xs.map en) = ret (xs.filterMap f)
  | [], _ => rfl
  | x :: xs, h => by
    rw [List.map_cons, compL, h x (.head _), bnd_ret, compL_map (xs := xs) (f := f) fun y hy => h y (.tail _ hy), bnd_ret, List.filterMap_cons]
    cases f x <;> rfl
theorem filterMap_if {α β : Type} (p : α → Bool) (g : α → β) (xs : List α) : xs.filterMap (fun x => if p x then some (g x) else none) = (xs.filter p).map g := by
  induction xs with
  | nil => rfl
  | cons x xs ih =>
    rw [List.filterMap_cons, List.filter_cons]
    by_cases h : p x = true
    · simp [h, ih]
    · simp [h, ih]
/-- a comprehension over data that xs tells -/
theorem comp_map {α : Type} {tg : Tg} {it : E} {cs : EL} {el : E} {own : List Nat} {ρ : Sl} {d : D} {xs : List α} {en : α → D} (p : α → Bool) (g : α → D) (h : ev it ρ = ret d) (hi : iterD d = some (xs.map en))
    (hg : ∀ x ∈ xs, ∃ ρ', bindT tg (en x) (wipeS ρ own) = some ρ' ∧ evC cs ρ' = ret (p x) ∧ (p x = true → ev el ρ' = ret (g x))) : ev (.comp tg it cs el own) ρ = ret (.list ((xs.filter p).map g)) := by
  simp only [ev, h, bnd_ret, hi, lift_some]
  rw [compL_map (f := fun x => if p x then some (g x) else none), filterMap_if]
  · rfl
  · intro x hx
    obtain ⟨ρ', h1, h2, h3⟩ := hg x hx
    simp only [h1, h2, bnd_ret]
    by_cases hp : p x = true
    · rw [if_pos hp, if_pos hp, h3 hp]; rfl
    · rw [if_neg hp, if_neg hp]
/-- a comprehension without a test -/
theorem comp_all {α : Type} {tg : Tg} {it : E} {el : E} {own : List Nat} {ρ : Sl} {d : D} {xs : List α} {en : α → D} (g : α → D) (h : ev it ρ = ret d) (hi : iterD d = some (xs.map en))
    (hg : ∀ x ∈ xs, ∃ ρ', bindT tg (en x) (wipeS ρ own) = some ρ' ∧ ev el ρ' = ret (g x)) : ev (.comp tg it .nil el own) ρ = ret (.list (xs.map g)) := by
  have := comp_map (cs := .nil) (fun _ => true) g h hi fun x hx => by
    obtain ⟨ρ', h1, h2⟩ := hg x hx
    exact ⟨ρ', h1, rfl, fun _ => h2⟩
  rw [this]
  congr 3
  exact List.filter_eq_self.mpr fun _ _ => rfl
/-- a loop over data that xs tells; I: what holds when the items done are behind -/
theorem for_inv {α : Type} {tg : Tg} {b : Sl → M Out} {en : α → D} (I : List α → Sl → Prop) : ∀ (xs done : List α) (ρ : Sl), I done ρ →
    (∀ d x r ρ, done ++ xs = d ++ x :: r → I d ρ → ∃ ρ1 ρ2, bindT tg (en x) ρ = some ρ1 ∧ b ρ1 = ret (.nx ρ2) ∧ I (d ++ [x]) ρ2) → ∃ ρ', forL tg b (xs.map en) ρ = ret (.nx ρ') ∧ I (done ++ xs) ρ'
  | [], done, ρ, h, _ => ⟨ρ, rfl, by rw [List.append_nil]; exact h⟩
  | x :: xs, done, ρ, h, hs => by
    obtain ⟨ρ1, ρ2, h1, h2, h3⟩ := hs done x xs ρ rfl h
    obtain ⟨ρ', h4, h5⟩ := for_inv I xs (done ++ [x]) ρ2 h3 fun d y r ρ e => hs d y r ρ (by rw [← e, List.append_assoc]; rfl)
    refine ⟨ρ', ?_, by rw [List.append_assoc] at h5; exact h5⟩
    rw [List.map_cons, forL]
    simp only [h1, h2, bnd_ret, h4]
/-- a while loop; I k: at most k turns are left -/
theorem whl_inv {fc : Sl → M D} {b : Sl → M Out} (I : Nat → Sl → Prop) (Q : Sl → Prop)
    (hs : ∀ k ρ, I k ρ → ∃ d, fc ρ = ret d ∧ ((truth d = some true ∧ 0 < k ∧ ∃ ρ', b ρ = ret (.nx ρ') ∧ I (k - 1) ρ') ∨ (truth d = some false ∧ Q ρ))) : ∀ (n k : Nat) (ρ : Sl), k < n → I k ρ → ∃ ρ', whlN fc b n ρ = ret (.nx ρ') ∧ Q ρ'
  | 0, k, ρ, h, _ => by omega
  | n + 1, k, ρ, h, i => by
    obtain ⟨d, h1, h2⟩ := hs k ρ i
    rcases h2 with ⟨t, k0, ρ', e, i'⟩ | ⟨t, q⟩
    · obtain ⟨ρ2, e2, q⟩ := whl_inv I Q hs n (k - 1) ρ' (by omega) i'
      refine ⟨ρ2, ?_, q⟩
      rw [whlN]
      simp only [h1, bnd_ret, truthM, t, lift_some, if_true, e, e2]
    · refine ⟨ρ, ?_, q⟩
      rw [whlN]
      simp only [h1, bnd_ret, truthM, t, lift_some]
      rfl
abbrev intD (n : Nat) : D := .int (n : Int)
theorem sum_nat (ns : List Nat) : (ns.map fun (n : Nat) => (n : Int)).sum = ((ns.sum : Nat) : Int) := by
  induction ns with
  | nil => rfl
  | cons n ns ih => simp [ih]
theorem asInts_nat (ns : List Nat) : asInts (ns.map intD) = some (ns.map fun (n : Nat) => (n : Int)) := by
  have := asInts_map (ns.map fun (n : Nat) => (n : Int))
  rw [List.map_map] at this
  exact this
theorem q_sumN {d : D} {ns : List Nat} (h : items d = some (ns.map intD)) : bi .sum [d] = some (intD ns.sum) := by
  simp only [bi, h, Option.bind_some, asInts_nat, Option.map_some, sum_nat]
theorem truths_nat (ns : List Nat) : truths (ns.map intD) = some (ns.map (· != 0)) := by
  induction ns with
  | nil => rfl
  | cons n ns ih =>
    rw [List.map_cons, intD, truths, ih]
    cases n with
    | zero => rfl
    | succ n => simp; omega
theorem q_anyN {d : D} {ns : List Nat} (h : items d = some (ns.map intD)) : bi .any [d] = some (.bool (ns.any (· != 0))) := by
  simp only [bi, h, Option.bind_some, truths_nat, Option.map_some, List.any_map]
  rfl
theorem rangeD_nat (n : Nat) : rangeD 0 (n : Int) = (List.range n).map intD := by
  unfold rangeD
  rw [show ((n : Int) - 0).toNat = n by omega]
  exact List.map_congr_left fun i _ => by simp
theorem rngN {n : Nat} (h : n ≤ 16777216) : rngD [.int (n : Int)] = some ((List.range n).map intD) := by
  simp only [rngD]
  rw [if_pos (by unfold rangeOk; simp; omega), rangeD_nat]
end SR
end
section
/-! SrTab: tables of bars as plain lists. -/
namespace SR
open PySem PySem.Spec PyProof.Rows L2
open PySem.W (alike alikeAll)
abbrev Bar := Nat × Nat
abbrev En := Bar × Nat
def barD (b : Bar) : D := .tuple [intD b.1, intD b.2]
def entD (e : En) : D := .tuple [barD e.1, intD e.2]
def tabD (t : List En) : D := .tuple (t.map entD)
theorem intD_inj {a b : Nat} (h : intD a = intD b) : a = b := by injection h with h; omega
theorem barD_inj {a b : Bar} (h : barD a = barD b) : a = b := by
  simp only [barD, PyData.tuple.injEq, List.cons.injEq, and_true] at h
  exact Prod.ext (intD_inj h.1) (intD_inj h.2)
theorem entD_inj {a b : En} (h : entD a = entD b) : a = b := by
  simp only [entD, PyData.tuple.injEq, List.cons.injEq, and_true] at h
  exact Prod.ext (barD_inj h.1) (intD_inj h.2)
theorem map_inj {α β : Type} {f : α → β} (h : ∀ a b, f a = f b → a = b) : ∀ {xs ys : List α}, xs.map f = ys.map f → xs = ys
  | [], [], _ => rfl
  | [], _ :: _, e => by simp at e
  | _ :: _, [], e => by simp at e
  | x :: xs, y :: ys, e => by
    rw [List.map_cons, List.map_cons, List.cons.injEq] at e
    rw [h _ _ e.1, map_inj h e.2]
theorem tabD_inj {a b : List En} (h : tabD a = tabD b) : a = b := by
  simp only [tabD, PyData.tuple.injEq] at h
  exact map_inj (fun _ _ => entD_inj) h
theorem nodup_map {α β : Type} {f : α → β} (h : ∀ a b, f a = f b → a = b) {xs : List α} (n : xs.Nodup) : (xs.map f).Nodup :=
  List.pairwise_map.mpr (n.imp fun hn e => hn (h _ _ e))
theorem nodup_of_map {α β : Type} {f : α → β} {xs : List α} (n : (xs.map f).Nodup) : xs.Nodup := (List.pairwise_map.mp n).imp fun hn e => hn (by rw [e])
theorem alike_bar (a b : Bar) : alike (barD a) (barD b) = true := rfl
theorem alike_ent (a b : En) : alike (entD a) (entD b) = true := rfl
theorem alikeAll_map {α : Type} {f : α → D} (h : ∀ a b, alike (f a) (f b) = true) : ∀ (xs ys : List α), alikeAll (xs.map f) (ys.map f) = true
  | [], _ => by simp [alikeAll]
  | _ :: _, [] => by simp [alikeAll]
  | x :: xs, y :: ys => by
    rw [List.map_cons, List.map_cons, alikeAll, h, alikeAll_map h xs ys]; rfl
theorem alike_tab (a b : List En) : alike (tabD a) (tabD b) = true := by
  simp only [tabD, alike]
  exact alikeAll_map alike_ent a b
theorem alikes_map {α : Type} {f : α → D} (h : ∀ a b, alike (f a) (f b) = true) (xs : List α) : alikes (xs.map f) = true := by
  unfold alikes
  simp only [List.all_eq_true, List.mem_map]
  rintro d ⟨x, _, rfl⟩ e ⟨y, _, rfl⟩
  exact h x y
def entLe (a b : En) : Bool := le (entD a) (entD b)
def tabLe (a b : List En) : Bool := le (tabD a) (tabD b)
def sortT (t : List En) : List En := t.mergeSort entLe
def sortTs (ts : List (List En)) : List (List En) := ts.mergeSort tabLe
theorem sortT_D (t : List En) : (sortT t).map entD = sortD (t.map entD) := List.map_mergeSort (r := entLe) (s := le) (f := entD) (l := t) fun a _ b _ => rfl
theorem sortTs_D (t : List (List En)) : (sortTs t).map tabD = sortD (t.map tabD) := List.map_mergeSort (r := tabLe) (s := le) (f := tabD) (l := t) fun a _ b _ => rfl
theorem sortT_perm (t : List En) : (sortT t).Perm t := List.mergeSort_perm ..
theorem sortTs_perm (t : List (List En)) : (sortTs t).Perm t := List.mergeSort_perm ..
theorem sortT_congr {s t : List En} (p : s.Perm t) : sortT s = sortT t := by
  refine map_inj (f := entD) (fun _ _ => entD_inj) ?_
  rw [sortT_D, sortT_D]
  exact sortD_congr (alikes_map alike_ent t) (p.map _)
theorem sortTs_congr {s t : List (List En)} (p : s.Perm t) : sortTs s = sortTs t := by
  refine map_inj (f := tabD) (fun _ _ => tabD_inj) ?_
  rw [sortTs_D, sortTs_D]
  exact sortD_congr (alikes_map alike_tab t) (p.map _)
theorem perm_of {α : Type} {s t : List α} (hs : s.Nodup) (ht : t.Nodup) (h : ∀ a, a ∈ s ↔ a ∈ t) : s.Perm t := (List.perm_ext_iff_of_nodup hs ht).mpr h
/-! bars -/
def bars (n : Nat) : List Bar := (List.range n).flatMap fun i => ((List.range n).filter (i ≤ ·)).map (i, ·)
theorem mem_bars {n : Nat} {b : Bar} : b ∈ bars n ↔ b.1 ≤ b.2 ∧ b.2 < n := by
  simp only [bars, List.mem_flatMap, List.mem_map, List.mem_filter, List.mem_range, decide_eq_true_eq]
  constructor
  · rintro ⟨i, hi, j, ⟨hj, hij⟩, rfl⟩; exact ⟨hij, hj⟩
  · rintro ⟨h1, h2⟩; exact ⟨b.1, by omega, b.2, ⟨h2, h1⟩, rfl⟩
theorem nodup_flatMap' {α β : Type} {xs : List α} {f : α → List β} (h1 : xs.Nodup) (h2 : ∀ x ∈ xs, (f x).Nodup) (h3 : ∀ x ∈ xs, ∀ y ∈ xs, ∀ a, a ∈ f x → a ∈ f y → x = y) : (xs.flatMap f).Nodup := by
  induction xs with
  | nil => exact List.nodup_nil
  | cons x xs ih =>
    rw [List.flatMap_cons, List.nodup_append]
    rw [List.nodup_cons] at h1
    refine ⟨h2 x (.head _), ih h1.2 (fun y hy => h2 y (.tail _ hy)) (fun y hy z hz => h3 y (.tail _ hy) z (.tail _ hz)), ?_⟩
    intro a ha b hb e
    subst e
    obtain ⟨y, hy, hb⟩ := List.mem_flatMap.mp hb
    have := h3 x (.head _) y (.tail _ hy) a ha hb
    subst this
    exact h1.1 hy
theorem bars_nodup (n : Nat) : (bars n).Nodup := by
  refine nodup_flatMap' List.nodup_range (fun i _ => nodup_map (fun a b e => by simpa using e) (List.nodup_range.sublist (List.filter_sublist ..))) ?_
  intro x _ y _ a ha hb
  simp only [List.mem_map] at ha hb
  obtain ⟨_, _, rfl⟩ := ha
  obtain ⟨_, _, e⟩ := hb
  exact (congrArg Prod.fst e).symm
abbrev Mu := Bar → Nat
def raw (bs : List Bar) (μ : Mu) : List En := (bs.filter fun b => μ b != 0).map fun b => (b, μ b)
def cov (b : Bar) (k : Nat) : Bool := decide (b.1 ≤ k) && decide (k ≤ b.2)
def sums (bs : List Bar) (μ : Mu) (k : Nat) : Nat := (bs.map fun b => if cov b k then μ b else 0).sum
def tab (n : Nat) (μ : Mu) : List En := sortT (raw (bars n) μ)
theorem mem_raw {bs : List Bar} {μ : Mu} {e : En} : e ∈ raw bs μ ↔ e.1 ∈ bs ∧ e.2 = μ e.1 ∧ e.2 ≠ 0 := by
  simp only [raw, List.mem_map, List.mem_filter, bne_iff_ne]
  constructor
  · rintro ⟨b, ⟨h1, h2⟩, rfl⟩; exact ⟨h1, rfl, h2⟩
  · rintro ⟨h1, h2, h3⟩; exact ⟨e.1, ⟨h1, by rw [← h2]; exact h3⟩, Prod.ext rfl h2.symm⟩
theorem raw_nodup {bs : List Bar} (h : bs.Nodup) (μ : Mu) : (raw bs μ).Nodup := nodup_map (fun a b e => (Prod.mk.inj e).1) (h.sublist (List.filter_sublist ..))
theorem raw_keys {bs : List Bar} (h : bs.Nodup) (μ : Mu) : ((raw bs μ).map (·.1)).Nodup := by
  simp only [raw, List.map_map]
  exact nodup_map (f := (fun x : En => x.1) ∘ fun b => (b, μ b)) (fun a b e => e) (h.sublist (List.filter_sublist ..))
theorem mem_tab {n : Nat} {μ : Mu} {e : En} : e ∈ tab n μ ↔ e.1 ∈ bars n ∧ e.2 = μ e.1 ∧ e.2 ≠ 0 := ((sortT_perm _).mem_iff).trans mem_raw
theorem tab_ext {n : Nat} {μ ν : Mu} : tab n μ = tab n ν ↔ ∀ b ∈ bars n, μ b = ν b := by
  constructor
  · intro h b hb
    have h1 : ∀ e : En, e ∈ tab n μ ↔ e ∈ tab n ν := fun e => by rw [h]
    by_cases e0 : μ b = 0
    · by_cases e1 : ν b = 0
      · rw [e0, e1]
      · exact absurd e0 (by have := (mem_tab.mp ((h1 (b, ν b)).mpr (mem_tab.mpr ⟨hb, rfl, e1⟩))).2; simp at this; omega)
    · exact (mem_tab.mp ((h1 (b, μ b)).mp (mem_tab.mpr ⟨hb, rfl, e0⟩))).2.1
  · intro h
    refine sortT_congr (perm_of (raw_nodup (bars_nodup n) _) (raw_nodup (bars_nodup n) _) fun e => ?_)
    rw [mem_raw, mem_raw]
    constructor
    · rintro ⟨h1, h2, h3⟩; exact ⟨h1, by rw [h2, h _ h1], h3⟩
    · rintro ⟨h1, h2, h3⟩; exact ⟨h1, by rw [h2, h _ h1], h3⟩
end SR
end
section
/-! SrTab2: the sizes of tables; one bar more, one bar less; the list of all tables. -/
namespace SR
open PySem PySem.Spec PyProof.Rows L2
def upM (μ : Mu) (b : Bar) (v : Nat) : Mu := fun c => if c = b then v else μ c
theorem sums_cons (b : Bar) (bs : List Bar) (μ : Mu) (k : Nat) : sums (b :: bs) μ k = (if cov b k then μ b else 0) + sums bs μ k := by simp [sums]
theorem sums_congr {bs : List Bar} {μ ν : Mu} (h : ∀ b ∈ bs, μ b = ν b) (k : Nat) : sums bs μ k = sums bs ν k := by
  unfold sums
  congr 1
  exact List.map_congr_left fun b hb => by rw [h b hb]
theorem sums_up {bs : List Bar} (hn : bs.Nodup) {b : Bar} (hb : b ∈ bs) (μ : Mu) (v k : Nat) : sums bs (upM μ b v) k + (if cov b k then μ b else 0) = sums bs μ k + (if cov b k then v else 0) := by
  induction bs with
  | nil => cases hb
  | cons c bs ih =>
    rw [List.nodup_cons] at hn
    rw [sums_cons, sums_cons]
    by_cases e : b = c
    · subst e
      rw [sums_congr (ν := μ) (fun x hx => by unfold upM; rw [if_neg]; intro e; subst e; exact hn.1 hx)]
      have : upM μ b v b = v := by simp [upM]
      rw [this]; omega
    · have hb : b ∈ bs := by simpa [e] using hb
      have h1 := ih hn.2 hb
      have : upM μ b v c = μ c := by unfold upM; rw [if_neg (Ne.symm e)]
      rw [this]; omega
theorem le_sums {bs : List Bar} {b : Bar} (hb : b ∈ bs) (μ : Mu) {k : Nat} (h : cov b k = true) : μ b ≤ sums bs μ k := by
  induction bs with
  | nil => cases hb
  | cons c bs ih =>
    rw [sums_cons]
    rcases List.mem_cons.mp hb with rfl | hb
    · rw [if_pos h]; omega
    · have := ih hb; omega
theorem sums_pos {bs : List Bar} {μ : Mu} {k : Nat} (h : 0 < sums bs μ k) : ∃ b ∈ bs, cov b k = true ∧ 0 < μ b := by
  induction bs with
  | nil => simp [sums] at h
  | cons c bs ih =>
    rw [sums_cons] at h
    by_cases h0 : 0 < sums bs μ k
    · obtain ⟨b, h1, h2⟩ := ih h0; exact ⟨b, .tail _ h1, h2⟩
    · by_cases hc : cov c k = true
      · rw [if_pos hc] at h; exact ⟨c, .head _, hc, by omega⟩
      · rw [if_neg hc] at h; omega
theorem cov_iff {b : Bar} {k : Nat} : cov b k = true ↔ b.1 ≤ k ∧ k ≤ b.2 := by simp [cov]
def Hits (n : Nat) (μ : Mu) (s : List Nat) : Prop := ∀ k < n, sums (bars n) μ k = s.getD k 0
/-- one less within the bar -/
def less (s : List Nat) (a l : Nat) : List Nat := s.mapIdx fun k x => x - (if a ≤ k ∧ k ≤ l then 1 else 0)
theorem less_len (s : List Nat) (a l : Nat) : (less s a l).length = s.length := by simp [less]
theorem less_get (s : List Nat) (a l k : Nat) : (less s a l).getD k 0 = s.getD k 0 - (if a ≤ k ∧ k ≤ l then 1 else 0) := by
  simp only [less, List.getD_eq_getElem?_getD, List.getElem?_mapIdx]
  cases s[k]? with
  | none => simp
  | some x => simp
theorem inc_hits {n a l : Nat} {s : List Nat} {μ : Mu} (h : Hits n μ (less s a l)) (h1 : ∀ k, a ≤ k → k ≤ l → 1 ≤ s.getD k 0) (hal : a ≤ l) (hl : l < n) : Hits n (upM μ (a, l) (μ (a, l) + 1)) s := by
  intro k hk
  have e := sums_up (bars_nodup n) (mem_bars (b := (a, l)).mpr ⟨hal, hl⟩) μ (μ (a, l) + 1) k
  have e2 := h k hk
  rw [less_get] at e2
  by_cases c : a ≤ k ∧ k ≤ l
  · have cv : cov (a, l) k = true := cov_iff.mpr c
    rw [if_pos cv, if_pos cv] at e
    rw [if_pos c] at e2
    have := h1 k c.1 c.2
    omega
  · have cv : ¬ cov (a, l) k = true := fun q => c (cov_iff.mp q)
    rw [if_neg cv, if_neg cv] at e
    rw [if_neg c] at e2
    omega
theorem dec_hits {n a l : Nat} {s : List Nat} {μ : Mu} (h : Hits n μ s) (h1 : 1 ≤ μ (a, l)) (hal : a ≤ l) (hl : l < n) : Hits n (upM μ (a, l) (μ (a, l) - 1)) (less s a l) := by
  intro k hk
  have e := sums_up (bars_nodup n) (mem_bars (b := (a, l)).mpr ⟨hal, hl⟩) μ (μ (a, l) - 1) k
  have e2 := h k hk
  rw [less_get]
  by_cases c : a ≤ k ∧ k ≤ l
  · have cv : cov (a, l) k = true := cov_iff.mpr c
    rw [if_pos cv, if_pos cv] at e
    rw [if_pos c]
    omega
  · have cv : ¬ cov (a, l) k = true := fun q => c (cov_iff.mp q)
    rw [if_neg cv, if_neg cv] at e
    rw [if_neg c]
    omega
theorem has_bar {n a : Nat} {s : List Nat} {μ : Mu} (h : Hits n μ s) (ha : a < n) (h1 : 0 < s.getD a 0) (h0 : ∀ k < a, s.getD k 0 = 0) : ∃ l, a ≤ l ∧ l < n ∧ 1 ≤ μ (a, l) := by
  obtain ⟨b, hb, hc, hm⟩ := sums_pos (bs := bars n) (μ := μ) (k := a) (by rw [h a ha]; exact h1)
  obtain ⟨c1, c2⟩ := cov_iff.mp hc
  have hb' := mem_bars.mp hb
  have : b.1 = a := by
    rcases Nat.lt_or_eq_of_le c1 with lt | e
    · have := le_sums hb μ (k := b.1) (cov_iff.mpr ⟨Nat.le_refl _, hb'.1⟩)
      rw [h _ (by omega), h0 _ lt] at this
      omega
    · exact e
  exact ⟨b.2, c2, hb'.2, by rw [← this]; exact hm⟩
theorem hits_ge {n : Nat} {s : List Nat} {μ : Mu} (h : Hits n μ s) {a l k : Nat} (hal : a ≤ l) (hl : l < n) (h1 : 1 ≤ μ (a, l)) (h2 : a ≤ k) (h3 : k ≤ l) : 1 ≤ s.getD k 0 := by
  have := le_sums (mem_bars (b := (a, l)).mpr ⟨hal, hl⟩) μ (k := k) (cov_iff.mpr ⟨h2, h3⟩)
  rw [h k (by omega)] at this
  omega
/-! all tables -/
def subS (b : Bar) (m : Nat) (s : List Nat) : List Nat := s.mapIdx fun k x => if cov b k then x - m else x
def fits (b : Bar) (m : Nat) (s : List Nat) : Bool := (List.range s.length).all fun k => !cov b k || decide (m ≤ s.getD k 0)
theorem subS_len (b : Bar) (m : Nat) (s : List Nat) : (subS b m s).length = s.length := by simp [subS]
theorem subS_get (b : Bar) (m : Nat) (s : List Nat) (k : Nat) : (subS b m s).getD k 0 = if cov b k then s.getD k 0 - m else s.getD k 0 := by
  simp only [subS, List.getD_eq_getElem?_getD, List.getElem?_mapIdx]
  cases s[k]? with
  | none => simp
  | some x => simp
theorem fits_iff {b : Bar} {m : Nat} {s : List Nat} : fits b m s = true ↔ ∀ k < s.length, cov b k = true → m ≤ s.getD k 0 := by
  simp only [fits, List.all_eq_true, List.mem_range, Bool.or_eq_true, Bool.not_eq_true', decide_eq_true_eq]
  constructor
  · intro h k hk hc
    rcases h k hk with h | h
    · rw [hc] at h; cases h
    · exact h
  · intro h k hk
    by_cases hc : cov b k = true
    · exact .inr (h k hk hc)
    · exact .inl (by simpa using hc)
def putE (b : Bar) (m : Nat) (t : List En) : List En := if m = 0 then t else (b, m) :: t
def enumB : List Bar → List Nat → List (List En)
  | [], s => if s.all (· == 0) then [[]] else []
  | b :: bs, s => (List.range (s.getD b.1 0 + 1)).flatMap fun m => if fits b m s then (enumB bs (subS b m s)).map (putE b m) else []
theorem raw_cons (b : Bar) (bs : List Bar) (μ : Mu) : raw (b :: bs) μ = putE b (μ b) (raw bs μ) := by
  unfold raw putE
  rw [List.filter_cons]
  by_cases h : μ b = 0
  · simp [h]
  · simp [h]
theorem raw_congr {bs : List Bar} {μ ν : Mu} (h : ∀ b ∈ bs, μ b = ν b) : raw bs μ = raw bs ν := by
  induction bs with
  | nil => rfl
  | cons b bs ih => rw [raw_cons, raw_cons, h b (.head _), ih fun c hc => h c (.tail _ hc)]
theorem raw_inj {bs : List Bar} {μ ν : Mu} (h : raw bs μ = raw bs ν) : ∀ b ∈ bs, μ b = ν b := by
  intro b hb
  have h1 : ∀ e : En, e ∈ raw bs μ ↔ e ∈ raw bs ν := fun e => by rw [h]
  by_cases e0 : μ b = 0
  · by_cases e1 : ν b = 0
    · rw [e0, e1]
    · exact absurd e0 (by have := (mem_raw.mp ((h1 (b, ν b)).mpr (mem_raw.mpr ⟨hb, rfl, e1⟩))).2; simp at this; omega)
  · exact (mem_raw.mp ((h1 (b, μ b)).mp (mem_raw.mpr ⟨hb, rfl, e0⟩))).2.1
theorem mem_enum {bs : List Bar} : ∀ {s : List Nat} {t : List En}, bs.Nodup → (∀ b ∈ bs, b.1 ≤ b.2 ∧ b.2 < s.length) → (t ∈ enumB bs s ↔ ∃ μ : Mu, t = raw bs μ ∧ ∀ k < s.length, sums bs μ k = s.getD k 0) := by
  induction bs with
  | nil =>
    intro s t _ _
    simp only [enumB]
    constructor
    · intro h
      split at h
      · rename_i h0
        simp only [List.mem_singleton] at h
        refine ⟨fun _ => 0, h, fun k hk => ?_⟩
        simp only [List.all_eq_true, beq_iff_eq] at h0
        rw [List.getD_eq_getElem?_getD, List.getElem?_eq_getElem hk]
        simp [sums, h0 _ (List.getElem_mem hk)]
      · cases h
    · rintro ⟨μ, rfl, h⟩
      rw [if_pos]
      · exact .head _
      · simp only [List.all_eq_true, beq_iff_eq]
        intro x hx
        obtain ⟨k, hk, rfl⟩ := List.getElem_of_mem hx
        have := h k hk
        rw [List.getD_eq_getElem?_getD, List.getElem?_eq_getElem hk] at this
        simpa [sums] using this.symm
  | cons b bs ih =>
    intro s t hn hb
    rw [List.nodup_cons] at hn
    have ih' := fun m t => ih (s := subS b m s) (t := t) hn.2 (fun c hc => by rw [subS_len]; exact hb c (.tail _ hc))
    simp only [enumB, List.mem_flatMap, List.mem_range]
    constructor
    · rintro ⟨m, hm, ht⟩
      split at ht
      · rename_i hf
        rw [fits_iff] at hf
        obtain ⟨t', ht', rfl⟩ := List.mem_map.mp ht
        obtain ⟨μ, rfl, h⟩ := (ih' m t').mp ht'
        have hx : ∀ x ∈ bs, upM μ b m x = μ x := fun x hx => by unfold upM; rw [if_neg]; intro e; subst e; exact hn.1 hx
        have hbm : upM μ b m b = m := by simp [upM]
        refine ⟨upM μ b m, ?_, fun k hk => ?_⟩
        · rw [raw_cons, raw_congr hx, hbm]
        · have := h k (by rw [subS_len]; exact hk)
          rw [sums_cons, sums_congr hx, hbm, this, subS_get]
          by_cases hc : cov b k = true
          · rw [if_pos hc, if_pos hc]
            have := hf k hk hc
            omega
          · rw [if_neg hc, if_neg hc]; omega
      · cases ht
    · rintro ⟨μ, rfl, h⟩
      have hb0 := hb b (.head _)
      have le : ∀ k < s.length, cov b k = true → μ b ≤ s.getD k 0 := fun k hk hc => by rw [← h k hk]; exact le_sums (.head _) μ hc
      refine ⟨μ b, ?_, ?_⟩
      · have := le b.1 (by omega) (cov_iff.mpr ⟨Nat.le_refl _, hb0.1⟩)
        omega
      · rw [if_pos (fits_iff.mpr le), raw_cons]
        refine List.mem_map_of_mem ((ih' _ _).mpr ⟨μ, rfl, fun k hk => ?_⟩)
        rw [subS_len] at hk
        have := h k hk
        rw [sums_cons] at this
        rw [subS_get]
        by_cases hc : cov b k = true
        · rw [if_pos hc] at this ⊢; omega
        · rw [if_neg hc] at this ⊢; omega
theorem putE_inj {b : Bar} {m : Nat} {s t : List En} (h : putE b m s = putE b m t) : s = t := by
  unfold putE at h
  split at h
  · exact h
  · exact (List.cons.inj h).2
theorem enum_nodup {bs : List Bar} : ∀ {s : List Nat}, bs.Nodup → (∀ b ∈ bs, b.1 ≤ b.2 ∧ b.2 < s.length) → (enumB bs s).Nodup := by
  induction bs with
  | nil => intro s _ _; simp only [enumB]; split <;> simp
  | cons b bs ih =>
    intro s hn hb
    have hn' := hn
    rw [List.nodup_cons] at hn
    have hb' : ∀ m, ∀ c ∈ bs, c.1 ≤ c.2 ∧ c.2 < (subS b m s).length := fun m c hc => by rw [subS_len]; exact hb c (.tail _ hc)
    simp only [enumB]
    refine nodup_flatMap' List.nodup_range (fun m _ => ?_) ?_
    · split
      · exact nodup_map (fun _ _ => putE_inj) (ih hn.2 (hb' m))
      · exact List.nodup_nil
    · intro x _ y _ a ha hb2
      have key : ∀ m, a ∈ (if fits b m s = true then (enumB bs (subS b m s)).map (putE b m) else []) → ∃ μ : Mu, a = raw (b :: bs) μ ∧ μ b = m := fun m h => by
        split at h
        · obtain ⟨t', ht', rfl⟩ := List.mem_map.mp h
          obtain ⟨μ, rfl, _⟩ := (mem_enum hn.2 (hb' m)).mp ht'
          have hx : ∀ x ∈ bs, upM μ b m x = μ x := fun x hx => by unfold upM; rw [if_neg]; intro e; subst e; exact hn.1 hx
          have hbm : upM μ b m b = m := by simp [upM]
          exact ⟨upM μ b m, by rw [raw_cons, raw_congr hx, hbm], hbm⟩
        · cases h
      obtain ⟨μ, e1, rfl⟩ := key x ha
      obtain ⟨ν, e2, rfl⟩ := key y hb2
      exact raw_inj (e1.symm.trans e2) b (.head _)
/-- all tables of these sizes -/
def allT (s : List Nat) : List (List En) := sortTs ((enumB (bars s.length) s).map sortT)
theorem mem_allT {s : List Nat} {t : List En} : t ∈ allT s ↔ ∃ μ : Mu, t = tab s.length μ ∧ Hits s.length μ s := by
  unfold allT
  rw [(sortTs_perm _).mem_iff, List.mem_map]
  have hb := fun b hb => mem_bars (n := s.length) (b := b).mp hb
  constructor
  · rintro ⟨r, hr, rfl⟩
    obtain ⟨μ, rfl, h⟩ := (mem_enum (bars_nodup _) hb).mp hr
    exact ⟨μ, rfl, h⟩
  · rintro ⟨μ, rfl, h⟩
    exact ⟨_, (mem_enum (bars_nodup _) hb).mpr ⟨μ, rfl, h⟩, rfl⟩
theorem allT_nodup (s : List Nat) : (allT s).Nodup := by
  unfold allT
  rw [(sortTs_perm _).nodup_iff]
  have hb := fun b hb => mem_bars (n := s.length) (b := b).mp hb
  refine List.pairwise_map.mpr (List.Pairwise.imp_of_mem ?_ (enum_nodup (bars_nodup _) hb))
  intro x y hx hy ne e
  obtain ⟨μ, rfl, _⟩ := (mem_enum (bars_nodup _) hb).mp hx
  obtain ⟨ν, rfl, _⟩ := (mem_enum (bars_nodup _) hb).mp hy
  exact ne (raw_congr (tab_ext.mp e))
theorem allT_len (s : List Nat) : (allT s).length = (enumB (bars s.length) s).length := by
  unfold allT
  rw [(sortTs_perm _).length_eq, List.length_map]
/-- a list of the same tables, sorted, is this list -/
theorem allT_eq {s : List Nat} {ts : List (List En)} (h1 : ts.Nodup) (h2 : ∀ t, t ∈ ts ↔ ∃ μ : Mu, t = tab s.length μ ∧ Hits s.length μ s) : sortTs ts = allT s := by
  have : ts.Perm (allT s) := perm_of h1 (allT_nodup s) fun t => (h2 t).trans mem_allT.symm
  rw [sortTs_congr this]
  unfold allT
  exact sortTs_congr (sortTs_perm _)
end SR
end
section
/-! SrTab3: dicts whose keys stand for plain keys. -/
namespace SR
open PySem PySem.Spec PyProof.Rows L2
mutual
theorem nk_inj : ∀ {d e : D} {k : NestedKey}, nk d = some k → nk e = some k → d = e
  | .int i, e, k, h1, h2 => by
    simp only [nk, Option.some.injEq] at h1; subst h1
    cases e <;> simp [nk] at h2
    · rw [h2]
  | .str i, e, k, h1, h2 => by
    simp only [nk, Option.some.injEq] at h1; subst h1
    cases e <;> simp [nk] at h2
    · rw [h2]
  | .tuple ds, e, k, h1, h2 => by
    simp only [nk, Option.map_eq_some_iff] at h1
    obtain ⟨ks, h1, rfl⟩ := h1
    cases e with
    | tuple es =>
      simp only [nk, Option.map_eq_some_iff] at h2
      obtain ⟨ks', h2, e⟩ := h2
      cases e
      rw [nks_inj h1 h2]
    | _ => simp [nk] at h2
  | .none, _, _, h, _ => by simp [nk] at h
  | .bool _, _, _, h, _ => by simp [nk] at h
  | .list _, _, _, h, _ => by simp [nk] at h
  | .dict _, _, _, h, _ => by simp [nk] at h
theorem nks_inj : ∀ {ds es : List D} {ks : List NestedKey}, nks ds = some ks → nks es = some ks → ds = es
  | [], es, ks, h1, h2 => by
    simp only [nks, Option.some.injEq] at h1; subst h1
    cases es with
    | nil => rfl
    | cons e es => simp only [nks] at h2; split at h2 <;> simp at h2
  | d :: ds, es, ks, h1, h2 => by
    simp only [nks] at h1
    split at h1
    · rename_i k ks' e1 e2
      simp only [Option.some.injEq] at h1; subst h1
      cases es with
      | nil => simp [nks] at h2
      | cons e es =>
        simp only [nks] at h2
        split at h2
        · rename_i k2 ks2 e3 e4
          simp only [Option.some.injEq, List.cons.injEq] at h2
          obtain ⟨rfl, rfl⟩ := h2
          rw [nk_inj e1 e3, nks_inj e2 e4]
        · cases h2
    · cases h1
end
theorem keyOf_nk {d : D} {k : NestedKey} (h : keyOf d = some k) : nk d = some k := by
  unfold keyOf at h
  split at h
  · split at h
    · split at h
      · rename_i e _; rw [e]; exact h
      · cases h
    · cases h
  · cases h
/-- data that stand for plain keys -/
structure Keys {α : Type} (kd : α → D) (kk : α → NestedKey) : Prop where
  key : ∀ a, keyOf (kd a) = some (kk a)
  inj : ∀ a b, kd a = kd b → a = b
section
variable {α : Type} [DecidableEq α] {kd : α → D} {kk : α → NestedKey}
def getP (xs : List (α × D)) (a : α) : Option D := (xs.find? fun p => decide (p.1 = a)).map (·.2)
def putP (xs : List (α × D)) (a : α) (v : D) : List (α × D) := if a ∈ xs.map (·.1) then xs.map (fun p => if p.1 = a then (a, v) else p) else xs ++ [(a, v)]
def encP (kd : α → D) (xs : List (α × D)) : List (D × D) := xs.map fun p => (kd p.1, p.2)
theorem Keys.eq (K : Keys kd kk) (a b : α) : (nk (kd b) = some (kk a)) ↔ b = a := by
  constructor
  · intro h; exact K.inj _ _ (nk_inj h (keyOf_nk (K.key a)))
  · rintro rfl; exact keyOf_nk (K.key _)
theorem dicGet_enc (K : Keys kd kk) (xs : List (α × D)) (a : α) : dicGet (encP kd xs) (kk a) = getP xs a := by
  unfold dicGet getP encP
  rw [List.find?_map, Option.map_map]
  congr 1
  congr 1
  funext p
  simp only [Function.comp]
  exact decide_eq_decide.mpr (K.eq a p.1)
theorem getP_some (xs : List (α × D)) (a : α) : (getP xs a).isSome = true ↔ a ∈ xs.map (·.1) := by
  unfold getP
  rw [Option.isSome_map, List.find?_isSome]
  simp [List.mem_map]
theorem dicPut_enc (K : Keys kd kk) (xs : List (α × D)) (a : α) (v : D) : dicPut (encP kd xs) (kd a) (kk a) v = encP kd (putP xs a v) := by
  unfold dicPut
  rw [dicGet_enc K]
  by_cases h : a ∈ xs.map (·.1)
  · rw [if_pos ((getP_some xs a).mpr h)]
    unfold putP
    rw [if_pos h]
    simp only [encP, List.map_map]
    refine List.map_congr_left fun p _ => ?_
    simp only [Function.comp]
    by_cases e : p.1 = a
    · rw [if_pos ((K.eq a p.1).mpr e), if_pos e, e]
    · rw [if_neg (fun q => e ((K.eq a p.1).mp q)), if_neg e]
  · rw [if_neg (fun q => h ((getP_some xs a).mp q))]
    unfold putP
    rw [if_neg h]
    simp [encP]
theorem dicAll_enc (K : Keys kd kk) : ∀ (ys xs : List (α × D)), ((xs ++ ys).map (·.1)).Nodup → dicAll (encP kd xs) (ys.map fun p => PyData.tuple [kd p.1, p.2]) = some (encP kd (xs ++ ys))
  | [], xs, _ => by simp [dicAll]
  | y :: ys, xs, h => by
    rw [List.map_cons, dicAll]
    simp only [K.key]
    rw [dicPut_enc K]
    have hn : y.1 ∉ xs.map (·.1) := by
      rw [List.map_append, List.nodup_append] at h
      intro hy
      exact h.2.2 _ hy y.1 (by simp) rfl
    unfold putP
    rw [if_neg hn, dicAll_enc K ys (xs ++ [(y.1, y.2)]) (by rw [List.append_assoc]; exact h), List.append_assoc]
    rfl
end
theorem sortD_one (x : D) : sortD [x] = [x] := sortD_id (List.pairwise_singleton ..)
theorem sortedOf_of {d : D} {ds : List D} (h : items d = some ds) (h1 : alikes ds = true) (h2 : tupled ds = true) (h3 : ds.length ≤ sizeLine) (h4 : shs 39 ds = true) : sortedOf d = some (sortD ds) := by
  have : sortedD ds = some (sortD ds) := by unfold sortedD; rw [h1, h2, decide_eq_true h3, h4]; rfl
  unfold sortedOf
  split
  · simp only [items, Option.some.injEq] at h; subst h; rw [sortD_one]
  · rw [h]; exact this
theorem shs_map {α : Type} {f : α → D} {n : Nat} (h : ∀ a, sh n (f a) = true) : ∀ xs : List α, shs n (xs.map f) = true
  | [] => by simp [shs]
  | x :: xs => by rw [List.map_cons, shs, h, shs_map h xs]; rfl
theorem sh_ent (e : En) : sh 39 (entD e) = true := rfl
theorem sh_tab (t : List En) : sh 39 (tabD t) = true := by
  simp only [tabD, sh]
  exact shs_map (fun e => rfl) t
theorem tupled_ent (t : List En) : tupled (t.map entD) = true := by
  unfold tupled
  simp only [List.all_map, List.all_eq_true]
  intro e _; rfl
theorem tupled_tab {ts : List (List En)} (h : ∀ t ∈ ts, t ≠ []) : tupled (ts.map tabD) = true := by
  unfold tupled
  simp only [List.all_map, List.all_eq_true]
  intro t ht
  cases t with
  | nil => exact absurd rfl (h _ ht)
  | cons e t => rfl
theorem key_bar : Keys barD fun b => .tup [.num b.1, .num b.2] := ⟨fun b => rfl, fun _ _ => barD_inj⟩
def tabK (t : List En) : NestedKey := .tup (t.map fun e => .tup [.tup [.num e.1.1, .num e.1.2], .num e.2])
theorem nks_ent : ∀ t : List En, nks (t.map entD) = some (t.map fun e => .tup [.tup [.num e.1.1, .num e.1.2], .num e.2])
  | [] => rfl
  | e :: t => by
    rw [List.map_cons, nks, nks_ent t]; rfl
theorem depth_ent : ∀ t : List En, NestedKey.depthAll (t.map fun e => .tup [.tup [.num (e.1.1 : Int), .num (e.1.2 : Int)], .num (e.2 : Int)]) ≤ 2
  | [] => by simp [NestedKey.depthAll]
  | e :: t => by
    have := depth_ent t
    rw [List.map_cons, NestedKey.depthAll]
    refine Nat.max_le.mpr ⟨?_, this⟩
    simp [NestedKey.depth, NestedKey.depthAll]
theorem key_tab : Keys tabD tabK := ⟨fun t => by
  have h : nk (tabD t) = some (tabK t) := by simp only [tabD, nk, nks_ent, Option.map_some]; rfl
  have hd : (tabK t).depth ≤ 8 := by
    have := depth_ent t
    simp only [tabK, NestedKey.depth]; omega
  show (match nk (tabD t) with
    | some k => if k.depth ≤ 8 then some k else none
    | none => none) = _
  rw [h]
  show (if (tabK t).depth ≤ 8 then some (tabK t) else none) = _
  rw [if_pos hd], fun _ _ => tabD_inj⟩
end SR
end
section
/-! SrTab4: the def tables_with. -/
namespace SR
open PySem PySem.Spec PyProof.Rows L2
variable [Wd]
theorem atI_nat {α : Type} {xs : List α} {k : Nat} {v : α} (h : xs[k]? = some v) : atI xs (k : Int) = some v := by
  have hk : k < xs.length := by
    rcases Nat.lt_or_ge k xs.length with h1 | h1
    · exact h1
    · rw [List.getElem?_eq_none h1] at h; cases h
  have : ixN xs.length (k : Int) = some k := by
    unfold ixN
    rw [if_pos (by omega), if_pos (by omega)]; simp
  unfold atI
  rw [this]; exact h
theorem getD_of {s : List Nat} {k : Nat} (h : k < s.length) : s[k]? = some (s.getD k 0) := by
  rw [List.getD_eq_getElem?_getD, List.getElem?_eq_getElem h]; rfl
theorem ix_nat {s : List Nat} {k : Nat} (h : k < s.length) : ixD (.tuple (s.map intD)) (.int (k : Int)) = some (intD (s.getD k 0)) := by
  simp only [ixD]
  exact atI_nat (by rw [List.getElem?_map, getD_of h]; rfl)
theorem ix_natL {s : List Nat} {k : Nat} (h : k < s.length) : ixD (.list (s.map intD)) (.int (k : Int)) = some (intD (s.getD k 0)) := by
  simp only [ixD]
  exact atI_nat (by rw [List.getElem?_map, getD_of h]; rfl)
theorem any_nat (s : List Nat) : (s.any (· != 0)) = true ↔ ∃ k < s.length, 0 < s.getD k 0 := by
  rw [List.any_eq_true]
  constructor
  · rintro ⟨x, hx, h⟩
    obtain ⟨k, hk, rfl⟩ := List.getElem_of_mem hx
    refine ⟨k, hk, ?_⟩
    rw [List.getD_eq_getElem?_getD, List.getElem?_eq_getElem hk]
    simp at h ⊢; omega
  · rintro ⟨k, hk, h⟩
    refine ⟨s[k], List.getElem_mem hk, ?_⟩
    rw [List.getD_eq_getElem?_getD, List.getElem?_eq_getElem hk] at h
    simp at h ⊢; omega
/-- the first place of a kind -/
theorem first_of {n : Nat} {p : Nat → Bool} (h : ∃ k < n, p k = true) : ∃ a r, (List.range n).filter p = a :: r ∧ a < n ∧ p a = true ∧ ∀ k < a, p k = false := by
  cases e : (List.range n).filter p with
  | nil =>
    obtain ⟨k, hk, hp⟩ := h
    have : k ∈ (List.range n).filter p := List.mem_filter.mpr ⟨List.mem_range.mpr hk, hp⟩
    rw [e] at this; cases this
  | cons a r =>
    have e1 : (List.range n).find? p = some a := by rw [← List.head?_filter, e]; rfl
    rw [List.find?_range_eq_some] at e1
    refine ⟨a, r, rfl, List.mem_range.mp e1.2.1, e1.1, fun k hk => ?_⟩
    have := e1.2.2 k hk
    simpa using this
theorem ev_rng1 {a : E} {ρ : Sl} {n : Nat} (h : ev a ρ = ret (intD n)) (hz : n ≤ 16777216) : ev (.rng1 a) ρ = ret (.list ((List.range n).map intD)) := by
  rw [ev, h, bnd_ret, rngN hz, lift_some, bnd_ret]
theorem ev_lenT {i : Nat} {ρ : Sl} {ds : List D} (h : ρ[i]? = some (.dat (.tuple ds))) : ev (.bi .len (.cons (.var i) .nil)) ρ = ret (intD ds.length) := by
  simp only [ev, evs, h, bnd_ret, q_lent, lift_some]
theorem ev_lenL {i : Nat} {ρ : Sl} {ds : List D} (h : ρ[i]? = some (.dat (.list ds))) : ev (.bi .len (.cons (.var i) .nil)) ρ = ret (intD ds.length) := by
  simp only [ev, evs, h, bnd_ret, q_lenl, lift_some]
def c1_tw : E := .comp (.v 2) (.rng1 (.bi .len (.cons (.var 0) .nil))) (.cons (.cmp .gt (.ix (.var 0) (.var 2)) (.k (.int 0))) .nil) (.var 2) [2]
def c2_tw : E := .comp (.t2 (.v 2) (.v 6)) (.enum (.var 0)) .nil (.op2 .sub (.var 6) (.bi .int (.cons (.cmp2 .le .le (.var 1) (.var 2) (.var 4)) .nil))) [2, 6]
def b_tw : SL := .cons (.dictOf 8 (.var 7)) (.cons (.setd 8 (.tup (.cons (.var 1) (.cons (.var 4) .nil))) (.op2 .add (.dgetd 8 (.cons (.tup (.cons (.var 1) (.cons (.var 4) .nil))) (.cons (.k (.int 0)) .nil))) (.k (.int 1)))) (.cons (.setd 3 (.bi .tuple (.cons (.bi .sorted (.cons (.ditems 8) .nil)) .nil)) (.k (.bool true))) .nil))
def w_tw (f : Fn) : SL := .cons (.asg (.v 5) (.bi .tuple (.cons c2_tw .nil))) (.cons (.for_ (.v 7) (.call "tables_with" f (.cons (.var 5) .nil)) b_tw) (.cons (.aug 4 .add (.k (.int 1))) .nil))
def t_tw : E := .and (.cmp .lt (.var 4) (.bi .len (.cons (.var 0) .nil))) (.cmp .gt (.ix (.var 0) (.var 4)) (.k (.int 0)))
def i_tw (f : Fn) : SL := .cons (.ife (.not (.bi .any (.cons (.var 0) .nil))) (.cons (.ret (.lst (.cons (.tup .nil) .nil))) .nil) .nil) (.cons (.asg (.v 1) (.ix c1_tw (.k (.int 0)))) (.cons (.newD 3) (.cons (.asg (.v 4) (.var 1)) (.cons (.whl 100 t_tw (w_tw f)) (.cons (.ret (.bi .sorted (.cons (.dkeys 3) .nil))) .nil)))))
def f_tw : Nat → Fn
  | 0 => fun _ => none
  | k + 1 => den 1 9 (i_tw (f_tw k))
def szD (s : List Nat) : D := .tuple (s.map intD)
theorem c1_ok {s : List Nat} (hz : s.length ≤ 16777216) (σ : Sl) : ev c1_tw (.dat (szD s) :: .no :: .no :: σ) = ret (.list (((List.range s.length).filter fun k => decide (0 < s.getD k 0)).map intD)) := by
  refine comp_map (xs := List.range s.length) (en := intD) _ intD (d := .list ((List.range s.length).map intD)) ?_ rfl fun x hx => ?_
  · have := ev_lenT (i := 0) (ρ := .dat (szD s) :: .no :: .no :: σ) (ds := s.map intD) rfl
    rw [List.length_map] at this
    exact ev_rng1 this hz
  · refine ⟨_, rfl, ?_, fun _ => rfl⟩
    simp only [evC, ev, wipeS, List.set_cons_succ, List.set_cons_zero, List.getElem?_cons_zero, List.getElem?_cons_succ, bnd_ret, szD, ix_nat (List.mem_range.mp hx), lift_some, q_gt, truthM, truth]
    congr 1
    exact decide_eq_decide.mpr (by omega)
end SR
end
section
/-! SrTab45: a table as a dict of bars. -/
namespace SR
open PySem PySem.Spec PyProof.Rows L2
def enP (t : List En) : List (Bar × D) := t.map fun e => (e.1, intD e.2)
def putT (t : List En) (b : Bar) (v : Nat) : List En := if b ∈ t.map (·.1) then t.map (fun e => if e.1 = b then (b, v) else e) else t ++ [(b, v)]
theorem putP_enP (t : List En) (b : Bar) (v : Nat) : putP (enP t) b (intD v) = enP (putT t b v) := by
  have hk : (enP t).map (·.1) = t.map (·.1) := by simp [enP, List.map_map, Function.comp_def]
  unfold putP putT
  rw [hk]
  by_cases h : b ∈ t.map (·.1)
  · rw [if_pos h, if_pos h]
    simp only [enP, List.map_map]
    refine List.map_congr_left fun e _ => ?_
    simp only [Function.comp]
    by_cases he : e.1 = b
    · rw [if_pos he, if_pos he]
    · rw [if_neg he, if_neg he]
  · rw [if_neg h, if_neg h]
    simp [enP]
theorem tab_keys (n : Nat) (μ : Mu) : ((tab n μ).map (·.1)).Nodup := by
  have := raw_keys (bars_nodup n) μ
  exact ((sortT_perm _).map _).nodup_iff.mpr this
theorem dict_tab (t : List En) (h : (t.map (·.1)).Nodup) : ((items (tabD t)).bind fun es => dicAll [] es) = some (encP barD (enP t)) := by
  have := dicAll_enc key_bar (enP t) [] (by simpa [enP, List.map_map, Function.comp_def] using h)
  simp only [tabD, items, Option.bind_some]
  rw [List.nil_append] at this
  rw [← this]
  congr 1
  simp only [enP, List.map_map]
  rfl
theorem tab_nodup (n : Nat) (μ : Mu) : (tab n μ).Nodup := nodup_of_map (tab_keys n μ)
theorem getP_tab {n : Nat} {μ : Mu} {b : Bar} (hb : b ∈ bars n) : (getP (enP (tab n μ)) b).getD (.int 0) = intD (μ b) := by
  unfold getP
  cases e : (enP (tab n μ)).find? (fun p => decide (p.1 = b)) with
  | none =>
    rw [List.find?_eq_none] at e
    by_cases h0 : μ b = 0
    · rw [h0]; rfl
    · exfalso
      have hm : (b, μ b) ∈ tab n μ := mem_tab.mpr ⟨hb, rfl, h0⟩
      exact e (b, intD (μ b)) (List.mem_map.mpr ⟨_, hm, rfl⟩) (decide_eq_true rfl)
  | some p =>
    have h1 := List.find?_some e
    have h2 := List.mem_of_find?_eq_some e
    obtain ⟨x, hx, rfl⟩ := List.mem_map.mp h2
    simp only [decide_eq_true_eq] at h1
    have := (mem_tab.mp hx).2.1
    simp only [Option.map_some, Option.getD_some]
    rw [this, h1]
theorem putT_perm {n : Nat} {μ : Mu} {b : Bar} (hb : b ∈ bars n) {v : Nat} (hv : v ≠ 0) : (putT (tab n μ) b v).Perm (raw (bars n) (upM μ b v)) := by
  have hnd := tab_nodup n μ
  have key : ∀ e : En, e ∈ putT (tab n μ) b v ↔ (e = (b, v) ∨ (e.1 ≠ b ∧ e ∈ tab n μ)) := fun e => by
    unfold putT
    by_cases h : b ∈ (tab n μ).map (·.1)
    · rw [if_pos h, List.mem_map]
      constructor
      · rintro ⟨x, hx, rfl⟩
        by_cases hxb : x.1 = b
        · rw [if_pos hxb]; exact .inl rfl
        · rw [if_neg hxb]; exact .inr ⟨hxb, hx⟩
      · rintro (rfl | ⟨h1, h2⟩)
        · obtain ⟨x, hx, hxb⟩ := List.mem_map.mp h
          exact ⟨x, hx, if_pos hxb⟩
        · exact ⟨e, h2, if_neg h1⟩
    · rw [if_neg h, List.mem_append, List.mem_singleton]
      constructor
      · rintro (h1 | h1)
        · exact .inr ⟨fun q => h (List.mem_map.mpr ⟨e, h1, q⟩), h1⟩
        · exact .inl h1
      · rintro (h1 | ⟨_, h1⟩)
        · exact .inr h1
        · exact .inl h1
  refine perm_of ?_ (raw_nodup (bars_nodup n) _) fun e => ?_
  · unfold putT
    split
    · have hk := tab_keys n μ
      refine nodup_of_map (f := fun e : En => e.1) ?_
      rw [List.map_map]
      have : ((fun e : En => e.1) ∘ fun e : En => if e.1 = b then (b, v) else e) = fun e : En => e.1 := by
        funext e
        simp only [Function.comp]
        by_cases h : e.1 = b
        · rw [if_pos h]; exact h.symm
        · rw [if_neg h]
      rw [this]; exact hk
    · rename_i h
      rw [List.nodup_append]
      refine ⟨hnd, by simp, ?_⟩
      intro x hx y hy e
      rw [List.mem_singleton] at hy
      subst hy; subst e
      exact h (List.mem_map.mpr ⟨_, hx, rfl⟩)
  · rw [key, mem_raw]
    constructor
    · rintro (rfl | ⟨h1, h2⟩)
      · exact ⟨hb, by simp [upM], hv⟩
      · obtain ⟨k1, k2, k3⟩ := mem_tab.mp h2
        exact ⟨k1, by unfold upM; rw [if_neg h1]; exact k2, k3⟩
    · rintro ⟨k1, k2, k3⟩
      by_cases h : e.1 = b
      · refine .inl (Prod.ext h ?_)
        rw [k2, h]; simp [upM]
      · refine .inr ⟨h, mem_tab.mpr ⟨k1, ?_, k3⟩⟩
        rw [k2]; unfold upM; rw [if_neg h]
theorem sort_putT {n : Nat} {μ : Mu} {b : Bar} (hb : b ∈ bars n) {v : Nat} (hv : v ≠ 0) : sortT (putT (tab n μ) b v) = tab n (upM μ b v) := sortT_congr (putT_perm hb hv)
theorem flat_len {α β : Type} {f : α → List β} {c : Nat} : ∀ {xs : List α}, (∀ x ∈ xs, (f x).length ≤ c) → (xs.flatMap f).length ≤ xs.length * c
  | [], _ => by simp
  | x :: xs, h => by
    have h1 := h x (.head _)
    have h2 := flat_len (xs := xs) fun y hy => h y (.tail _ hy)
    rw [List.flatMap_cons, List.length_append, List.length_cons, Nat.add_mul]
    omega
theorem bars_len (n : Nat) : (bars n).length ≤ n * n := by
  have := flat_len (xs := List.range n) (f := fun i => ((List.range n).filter (i ≤ ·)).map (i, ·)) (c := n) fun i _ => by
    rw [List.length_map]
    have := List.length_filter_le (fun x => decide (i ≤ x)) (List.range n)
    rw [List.length_range] at this; exact this
  rwa [List.length_range] at this
theorem tab_len (n : Nat) (μ : Mu) : (tab n μ).length ≤ n * n := by
  have h1 : (tab n μ).length ≤ (bars n).length := by
    rw [show (tab n μ).length = (raw (bars n) μ).length from (sortT_perm _).length_eq]
    unfold raw
    rw [List.length_map]
    exact List.length_filter_le ..
  exact Nat.le_trans h1 (bars_len n)
theorem sorted_ents {d : D} (t : List En) (h : items d = some (t.map entD)) (hl : t.length ≤ sizeLine) : sortedOf d = some ((sortT t).map entD) := by
  rw [sortT_D]
  exact sortedOf_of h (alikes_map alike_ent t) (tupled_ent t) (by rw [List.length_map]; exact hl) (shs_map sh_ent t)
end SR
end
section
/-! SrTab5: the def tables_with, its loops. -/
namespace SR
open PySem PySem.Spec PyProof.Rows L2
variable [Wd]
theorem enumD_nat (s : List Nat) : enumD (s.map intD) = s.zipIdx.map fun p => PyData.tuple [intD p.2, intD p.1] := by
  unfold enumD
  rw [List.zipIdx_map, List.map_map]
  rfl
theorem between {i j k : Nat} : (decide ((i : Int) ≤ (j : Int)) && decide ((j : Int) ≤ (k : Int))) = decide (i ≤ j ∧ j ≤ k) := by
  rw [← Bool.decide_and]
  exact decide_eq_decide.mpr (by omega)
theorem c2_ok {s : List Nat} {a l : Nat} (h : ∀ k, a ≤ k → k ≤ l → 1 ≤ s.getD k 0) (s3 s5 s7 s8 : Slot) : ev c2_tw [.dat (szD s), .dat (intD a), .no, s3, .dat (intD l), s5, .no, s7, s8] = ret (.list ((less s a l).map intD)) := by
  have e : (less s a l).map intD = s.zipIdx.map fun p => intD (p.1 - (if a ≤ p.2 ∧ p.2 ≤ l then 1 else 0)) := by
    unfold less
    rw [List.mapIdx_eq_zipIdx_map, List.map_map]; rfl
  rw [e]
  refine comp_all (xs := s.zipIdx) (en := fun p => PyData.tuple [intD p.2, intD p.1]) (d := .list (enumD (s.map intD))) _ ?_ (by rw [enumD_nat]; rfl) fun p hp => ?_
  · simp only [ev, List.getElem?_cons_zero, bnd_ret, szD, items, Option.map_some, lift_some]
  · obtain ⟨x, k⟩ := p
    rw [List.mk_mem_zipIdx_iff_getElem?] at hp
    have hx : s.getD k 0 = x := by rw [List.getD_eq_getElem?_getD, hp]; rfl
    refine ⟨_, rfl, ?_⟩
    simp only [ev, evs, wipeS, List.set_cons_succ, List.set_cons_zero, List.getElem?_cons_zero, List.getElem?_cons_succ, bnd_ret, q_le, lift_some]
    by_cases h1 : a ≤ k
    · rw [decide_eq_true (show (a : Int) ≤ (k : Int) by omega)]
      simp only [if_true, bnd_ret]
      by_cases h2 : k ≤ l
      · rw [decide_eq_true (show (k : Int) ≤ (l : Int) by omega), if_pos ⟨h1, h2⟩]
        simp only [q_intb, lift_some, bnd_ret, if_true, q_sub]
        have := h k h1 h2
        rw [hx] at this
        rw [show (x : Int) - 1 = ((x - 1 : Nat) : Int) by omega]
      · rw [decide_eq_false (show ¬ (k : Int) ≤ (l : Int) by omega), if_neg (fun q => h2 q.2)]
        simp only [q_intb, lift_some, bnd_ret, q_sub]
        simp
    · rw [decide_eq_false (show ¬ (a : Int) ≤ (k : Int) by omega)]
      simp [q_intb, q_sub, h1]
/-- one table of the smaller sizes: a bar more, kept as a key -/
theorem b_ok {n a l : Nat} (hal : a ≤ l) (hl : l < n) (μ : Mu) (s0 s2 s5 s6 s8 : Slot) (ks : List (List En × D)) (hk : ks.length < sizeLine) (hn : n ≤ 1000) :
    exs b_tw [s0, .dat (intD a), s2, .own (.dic (encP tabD ks)), .dat (intD l), s5, s6, .dat (tabD (tab n μ)), s8]
      = ret (.nx [s0, .dat (intD a), s2, .own (.dic (encP tabD (putP ks (tab n (upM μ (a, l) (μ (a, l) + 1))) (.bool true)))), .dat (intD l), s5, s6, .dat (tabD (tab n μ)), .own (.dic (encP barD (enP (putT (tab n μ) (a, l) (μ (a, l) + 1)))))]) := by
  have hb : (a, l) ∈ bars n := (mem_bars (b := (a, l))).mpr ⟨hal, hl⟩
  have hsz : n * n ≤ 1000000 := Nat.mul_le_mul hn hn
  have hl1 := tab_len n μ
  have hl2 : (putT (tab n μ) (a, l) (μ (a, l) + 1)).length ≤ n * n := by
    rw [(putT_perm hb (Nat.succ_ne_zero _)).length_eq, ← (sortT_perm _).length_eq]
    exact tab_len n _
  have sl : sizeLine = 16777216 := by decide
  have e1 : ∀ i, ex (.dictOf 8 (.var 7)) [s0, .dat (intD a), s2, i, .dat (intD l), s5, s6, .dat (tabD (tab n μ)), s8] = ret (.nx [s0, .dat (intD a), s2, i, .dat (intD l), s5, s6, .dat (tabD (tab n μ)), .own (.dic (encP barD (enP (tab n μ))))]) := fun i => by
    simp only [ex, newDM, dictM, ev, List.getElem?_cons_zero, List.getElem?_cons_succ, bnd_ret, dict_tab _ (tab_keys n μ), lift_some, List.set_cons_succ, List.set_cons_zero]
  have e2 : ∀ i σ, ev (.tup (.cons (.var 1) (.cons (.var 4) .nil))) (s0 :: .dat (intD a) :: s2 :: i :: .dat (intD l) :: σ) = ret (barD (a, l)) := fun i σ => by
    simp only [ev, evs, List.getElem?_cons_zero, List.getElem?_cons_succ, bnd_ret, List.length_cons, List.length_nil]
    rfl
  have e3 : ∀ i, ex (.setd 8 (.tup (.cons (.var 1) (.cons (.var 4) .nil))) (.op2 .add (.dgetd 8 (.cons (.tup (.cons (.var 1) (.cons (.var 4) .nil))) (.cons (.k (.int 0)) .nil))) (.k (.int 1)))) [s0, .dat (intD a), s2, i, .dat (intD l), s5, s6, .dat (tabD (tab n μ)), .own (.dic (encP barD (enP (tab n μ))))]
      = ret (.nx [s0, .dat (intD a), s2, i, .dat (intD l), s5, s6, .dat (tabD (tab n μ)), .own (.dic (encP barD (enP (putT (tab n μ) (a, l) (μ (a, l) + 1)))))]) := fun i => by
    have g := getP_tab (n := n) (μ := μ) hb
    have k1 := key_bar.key (a, l)
    have k2 := dicGet_enc key_bar (enP (tab n μ)) (a, l)
    have k3 := dicPut_enc key_bar (enP (tab n μ)) (a, l) (intD (μ (a, l) + 1))
    rw [putP_enP] at k3
    have hlen : (encP barD (enP (tab n μ))).length < sizeLine := by
      simp only [encP, enP, List.length_map]; omega
    have e2' := e2 i [s5, s6, .dat (tabD (tab n μ)), .own (.dic (encP barD (enP (tab n μ))))]
    generalize E.tup (.cons (.var 1) (.cons (.var 4) .nil)) = K at e2' ⊢
    generalize barD (a, l) = bk at e2' k1 k3
    generalize NestedKey.tup [NestedKey.num ↑(a, l).fst, NestedKey.num ↑(a, l).snd] = kk at k1 k2 k3
    simp only [ex, setdM, evs, e2', bnd_ret, ownD, ev, List.getElem?_cons_zero, List.getElem?_cons_succ, k1, k2, Option.map_some, lift_some, g, q_add]
    rw [show (((μ (a, l) : Nat) : Int) + 1) = ((μ (a, l) + 1 : Nat) : Int) by omega]
    simp only [if_pos hlen]
    rw [k3]
    rfl
  have e4 : ex (.setd 3 (.bi .tuple (.cons (.bi .sorted (.cons (.ditems 8) .nil)) .nil)) (.k (.bool true))) [s0, .dat (intD a), s2, .own (.dic (encP tabD ks)), .dat (intD l), s5, s6, .dat (tabD (tab n μ)), .own (.dic (encP barD (enP (putT (tab n μ) (a, l) (μ (a, l) + 1)))))]
      = ret (.nx [s0, .dat (intD a), s2, .own (.dic (encP tabD (putP ks (tab n (upM μ (a, l) (μ (a, l) + 1))) (.bool true)))), .dat (intD l), s5, s6, .dat (tabD (tab n μ)), .own (.dic (encP barD (enP (putT (tab n μ) (a, l) (μ (a, l) + 1)))))]) := by
    have i1 : (encP barD (enP (putT (tab n μ) (a, l) (μ (a, l) + 1)))).map (fun p => PyData.tuple [p.1, p.2]) = (putT (tab n μ) (a, l) (μ (a, l) + 1)).map entD := by
      simp only [encP, enP, List.map_map]; rfl
    have i2 := sorted_ents (d := .list ((putT (tab n μ) (a, l) (μ (a, l) + 1)).map entD)) _ rfl (by omega)
    rw [sort_putT hb (Nat.succ_ne_zero _)] at i2
    have k1 := key_tab.key (tab n (upM μ (a, l) (μ (a, l) + 1)))
    have k3 := dicPut_enc key_tab ks (tab n (upM μ (a, l) (μ (a, l) + 1))) (.bool true)
    have hlen : (encP tabD ks).length < sizeLine := by simp only [encP, List.length_map]; exact hk
    have q : ∀ ds, bi .tuple [.list ds] = some (.tuple ds) := fun _ => rfl
    have q2 : ∀ d, bi .sorted [d] = (sortedOf d).map .list := fun _ => rfl
    have q3 : ∀ t, PyData.tuple (t.map entD) = tabD t := fun _ => rfl
    simp only [ex, setdM, ev, evs, bnd_ret, ownD, List.getElem?_cons_zero, List.getElem?_cons_succ, i1, q2, i2, Option.map_some, lift_some, q, q3, k1, if_pos hlen, k3, List.set_cons_succ, List.set_cons_zero]
  simp only [b_tw, exs]
  rw [e1, bnd_ret]
  simp only []
  rw [e3, bnd_ret]
  simp only []
  rw [e4, bnd_ret]
end SR
end
section
/-! SrTab6: the def tables_with, whole. -/
namespace SR
open PySem PySem.Spec PyProof.Rows L2
variable [Wd]
def trueD (ts : List (List En)) : List (List En × D) := ts.map fun t => (t, .bool true)
theorem putP_true (ts : List (List En)) (t : List En) : putP (trueD ts) t (.bool true) = trueD (if t ∈ ts then ts else ts ++ [t]) := by
  have hk : (trueD ts).map (·.1) = ts := by simp [trueD, List.map_map, Function.comp_def]
  unfold putP
  rw [hk]
  by_cases h : t ∈ ts
  · rw [if_pos h, if_pos h]
    simp only [trueD, List.map_map]
    refine List.map_congr_left fun x _ => ?_
    simp only [Function.comp]
    by_cases e : x = t
    · rw [if_pos e, e]
    · rw [if_neg e]
  · rw [if_neg h, if_neg h]
    simp [trueD]
theorem mem_put {ts : List (List En)} {t x : List En} : x ∈ (if t ∈ ts then ts else ts ++ [t]) ↔ x ∈ ts ∨ x = t := by
  by_cases h : t ∈ ts
  · rw [if_pos h]
    exact ⟨.inl, fun q => q.elim id fun e => e ▸ h⟩
  · rw [if_neg h]; simp
theorem nodup_put {ts : List (List En)} {t : List En} (h : ts.Nodup) : (if t ∈ ts then ts else ts ++ [t]).Nodup := by
  by_cases e : t ∈ ts
  · rw [if_pos e]; exact h
  · rw [if_neg e, List.nodup_append]
    refine ⟨h, by simp, ?_⟩
    intro x hx y hy q
    rw [List.mem_singleton] at hy
    subst hy; subst q
    exact e hx
/-- the state of the loops -/
def stT (s : List Nat) (a : Nat) (ts : List (List En)) (l : Nat) (s5 s7 s8 : Slot) : Sl := [.dat (szD s), .dat (intD a), .no, .own (.dic (encP tabD (trueD ts))), .dat (intD l), s5, .no, s7, s8]
/-- found so far -/
structure Fnd (s : List Nat) (a l : Nat) (ts : List (List En)) : Prop where
  nd : ts.Nodup
  mem : ∀ t, t ∈ ts ↔ ∃ μ : Mu, t = tab s.length μ ∧ Hits s.length μ s ∧ ∃ j, a ≤ j ∧ j < l ∧ 1 ≤ μ (a, j)
theorem w_ok {f : Fn} {s : List Nat} {a l : Nat} {ts : List (List En)} (s5 s7 s8 : Slot) (hn : s.length ≤ 1000) (hal : a ≤ l) (hl : l < s.length) (h1 : ∀ k, a ≤ k → k ≤ l → 1 ≤ s.getD k 0) (hr : (allT s).length < sizeLine)
    (hf : f [szD (less s a l)] = some (.list ((allT (less s a l)).map tabD))) (F : Fnd s a l ts) : ∃ ts' t5 t7 t8, exs (w_tw f) (stT s a ts l s5 s7 s8) = ret (.nx (stT s a ts' (l + 1) t5 t7 t8)) ∧ Fnd s a (l + 1) ts' := by
  have hlen : (less s a l).length = s.length := less_len s a l
  have e1 : ∀ ts s5 s7 s8, ex (.asg (.v 5) (.bi .tuple (.cons c2_tw .nil))) (stT s a ts l s5 s7 s8) = ret (.nx (stT s a ts l (.dat (szD (less s a l))) s7 s8)) := fun ts s5 s7 s8 => by
    have q : ∀ ds, bi .tuple [.list ds] = some (.tuple ds) := fun _ => rfl
    simp only [ex, asgM, ev, evs, stT, c2_ok h1, bnd_ret, q, lift_some, bindT, List.set_cons_succ, List.set_cons_zero]
    rfl
  have e2 : ∀ ts s7 s8, ev (.call "tables_with" f (.cons (.var 5) .nil)) (stT s a ts l (.dat (szD (less s a l))) s7 s8) = ret (.list ((allT (less s a l)).map tabD)) := fun ts s7 s8 => by
    simp only [ev, evs, stT, List.getElem?_cons_zero, List.getElem?_cons_succ, bnd_ret, hf, lift_some]
  have loop := for_inv (tg := .v 7) (b := fun ρ => exs b_tw ρ) (en := tabD) (I := fun done ρ => ∃ ts2 s7 s8, ρ = stT s a ts2 l (.dat (szD (less s a l))) s7 s8 ∧ ts2.Nodup ∧ ∀ t, t ∈ ts2 ↔ t ∈ ts ∨ ∃ μ : Mu, tab s.length μ ∈ done ∧ t = tab s.length (upM μ (a, l) (μ (a, l) + 1)))
    (allT (less s a l)) [] (stT s a ts l (.dat (szD (less s a l))) s7 s8) ⟨ts, s7, s8, rfl, F.nd, fun t => by simp⟩ (fun d x r ρ e I => by
      obtain ⟨ts2, s7, s8, rfl, nd, hm⟩ := I
      rw [List.nil_append] at e
      obtain ⟨μ, hx, hμ⟩ := mem_allT.mp (e ▸ List.mem_append_right _ (.head _) : x ∈ allT (less s a l))
      rw [hlen] at hx hμ
      subst hx
      have hsub : ∀ t, t ∈ ts2 → t ∈ allT s := fun t ht => by
        rcases (hm t).mp ht with h | ⟨ν, h, rfl⟩
        · obtain ⟨ν, h2, h3, _⟩ := (F.mem t).mp h
          exact mem_allT.mpr ⟨ν, h2, h3⟩
        · obtain ⟨ν', h2, h3⟩ := mem_allT.mp (e ▸ List.mem_append_left _ h : tab s.length ν ∈ allT (less s a l))
          rw [hlen] at h2 h3
          refine mem_allT.mpr ⟨_, rfl, inc_hits (μ := ν) ?_ h1 hal hl⟩
          intro k hk
          rw [sums_congr (tab_ext.mp h2)]; exact h3 k hk
      have hk : (trueD ts2).length < sizeLine := by
        rw [trueD, List.length_map]
        exact Nat.lt_of_le_of_lt (nd.length_le_of_subset fun t ht => hsub t ht) hr
      refine ⟨stT s a ts2 l (.dat (szD (less s a l))) (.dat (tabD (tab s.length μ))) s8, _, rfl, b_ok hal hl μ _ _ _ _ _ _ hk hn, ?_⟩
      rw [putP_true]
      refine ⟨_, _, _, rfl, nodup_put nd, fun t => ?_⟩
      rw [mem_put, hm]
      constructor
      · rintro ((h | ⟨ν, h, rfl⟩) | rfl)
        · exact .inl h
        · exact .inr ⟨ν, List.mem_append_left _ h, rfl⟩
        · exact .inr ⟨μ, List.mem_append_right _ (.head _), rfl⟩
      · rintro (h | ⟨ν, h, rfl⟩)
        · exact .inl (.inl h)
        · rcases List.mem_append.mp h with h | h
          · exact .inl (.inr ⟨ν, h, rfl⟩)
          · rw [List.mem_singleton] at h
            refine .inr (tab_ext.mpr fun b hb => ?_)
            have h' := tab_ext.mp h
            have h0 := h' _ ((mem_bars (b := (a, l))).mpr ⟨hal, hl⟩)
            unfold upM
            rw [h0, h' b hb])
  obtain ⟨ρ', e3, ts', s7', s8', rfl, nd, hm⟩ := loop
  rw [List.nil_append] at hm
  refine ⟨ts', .dat (szD (less s a l)), s7', s8', ?_, nd, fun t => ?_⟩
  · simp only [w_tw, exs]
    rw [e1, bnd_ret]
    simp only []
    have e4 : ex (.for_ (.v 7) (.call "tables_with" f (.cons (.var 5) .nil)) b_tw) (stT s a ts l (.dat (szD (less s a l))) s7 s8) = ret (.nx (stT s a ts' l (.dat (szD (less s a l))) s7' s8')) := by
      simp only [ex]
      rw [e2, bnd_ret]
      simp only [iterD, lift_some, bnd_ret]
      exact e3
    rw [e4, bnd_ret]
    simp only [ex, augM, stT, ev, List.getElem?_cons_zero, List.getElem?_cons_succ, bnd_ret, List.set_cons_succ, List.set_cons_zero]
    rfl
  · rw [hm]
    constructor
    · rintro (h | ⟨μ, h, rfl⟩)
      · obtain ⟨μ, h1, h2, j, j1, j2, j3⟩ := (F.mem t).mp h
        exact ⟨μ, h1, h2, j, j1, by omega, j3⟩
      · obtain ⟨ν, h2, h3⟩ := mem_allT.mp h
        rw [hlen] at h2 h3
        refine ⟨_, rfl, inc_hits (μ := μ) (fun k hk => ?_) h1 hal hl, l, hal, by omega, by simp [upM]⟩
        rw [sums_congr (tab_ext.mp h2)]; exact h3 k hk
    · rintro ⟨μ, rfl, h2, j, j1, j2, j3⟩
      by_cases hj : j < l
      · exact .inl ((F.mem _).mpr ⟨μ, rfl, h2, j, j1, hj, j3⟩)
      · have : j = l := by omega
        subst this
        refine .inr ⟨upM μ (a, j) (μ (a, j) - 1), ?_, tab_ext.mpr fun b hb => ?_⟩
        · exact mem_allT.mpr ⟨_, by rw [hlen], by rw [hlen]; exact dec_hits h2 j3 hal hl⟩
        · unfold upM
          by_cases hbj : b = (a, j)
          · subst hbj; simp; omega
          · rw [if_neg hbj, if_neg hbj]
end SR
end
section
/-! SrTab7: what tables_with answers. -/
namespace SR
open PySem PySem.Spec PyProof.Rows L2
variable [Wd]
theorem ev_and {a b : E} {ρ : Sl} : ev (.and a b) ρ = bnd (ev a ρ) fun x => bnd (truthM x) fun k => if k then ev b ρ else ret x := by rw [ev]
theorem ev_cmp {c : Cmp} {a b : E} {ρ : Sl} : ev (.cmp c a b) ρ = bnd (ev a ρ) fun x => bnd (ev b ρ) fun y => bnd (lift (cmpD c x y)) fun k => ret (.bool k) := by rw [ev]
theorem ev_ix {a i : E} {ρ : Sl} : ev (.ix a i) ρ = bnd (ev a ρ) fun x => bnd (ev i ρ) fun y => lift (ixD x y) := by rw [ev]
theorem ev_k {d : D} {ρ : Sl} : ev (.k d) ρ = ret d := by rw [ev]
theorem ex_ife {c : E} {a b : SL} {ρ : Sl} : ex (.ife c a b) ρ = bnd (ev c ρ) fun d => bnd (truthM d) fun k => if k then exs a ρ else exs b ρ := by rw [ex]
theorem exs_cons {s : S} {r : SL} {ρ : Sl} : exs (.cons s r) ρ = bnd (ex s ρ) fun o => match o with
    | .nx ρ' => exs r ρ'
    | .rt d => SR.ret (.rt d) := by
  rw [exs]
  all_goals rfl
theorem sum_le (c : Nat → Nat) : ∀ s : List Nat, (s.mapIdx fun k x => x - c k).sum ≤ s.sum
  | [] => by simp
  | x :: s => by
    rw [List.mapIdx_cons, List.sum_cons, List.sum_cons]
    have := sum_le (fun k => c (k + 1)) s
    omega
theorem sum_lt : ∀ (s : List Nat) (c : Nat → Nat) (k : Nat), 1 ≤ c k → 1 ≤ s.getD k 0 → (s.mapIdx fun k x => x - c k).sum < s.sum
  | [], _, k, _, h => by simp at h
  | x :: s, c, 0, h1, h2 => by
    rw [List.mapIdx_cons, List.sum_cons, List.sum_cons]
    have := sum_le (fun k => c (k + 1)) s
    simp at h2
    omega
  | x :: s, c, k + 1, h1, h2 => by
    rw [List.mapIdx_cons, List.sum_cons, List.sum_cons]
    have := sum_lt s (fun k => c (k + 1)) k h1 (by simpa using h2)
    omega
theorem less_sum {s : List Nat} {a l : Nat} (hal : a ≤ l) (h : 1 ≤ s.getD a 0) : (less s a l).sum < s.sum := by
  unfold less
  exact sum_lt s (fun k => if a ≤ k ∧ k ≤ l then 1 else 0) a (by rw [if_pos ⟨Nat.le_refl _, hal⟩]; exact Nat.le_refl _) h
/-- no list of tables of these or of smaller sizes is too long -/
def Room (s : List Nat) : Prop := ∀ s' : List Nat, s'.length = s.length → (∀ k, s'.getD k 0 ≤ s.getD k 0) → (allT s').length < sizeLine
theorem Room.less {s : List Nat} (h : Room s) (a l : Nat) : Room (less s a l) := fun s' h1 h2 => h s' (by rw [h1, less_len]) fun k => by
  have := h2 k
  rw [less_get] at this
  omega
theorem raw_zero {bs : List Bar} {μ : Mu} (h : ∀ b ∈ bs, μ b = 0) : raw bs μ = [] := by
  unfold raw
  rw [List.filter_eq_nil_iff.mpr fun b hb => by simp [h b hb]]
  rfl
theorem sortT_nil : sortT [] = [] := (sortT_perm []).eq_nil
theorem sortTs_one (t : List En) : sortTs [t] = [t] := List.perm_singleton.mp (sortTs_perm [t])
theorem sum_zero {α : Type} (xs : List α) : (xs.map fun _ => 0).sum = 0 := by
  induction xs with
  | nil => rfl
  | cons x xs ih => rw [List.map_cons, List.sum_cons, ih]
theorem fnd_none (s : List Nat) (a : Nat) : Fnd s a a [] := ⟨List.nodup_nil, fun t => by
  constructor
  · intro h; cases h
  · rintro ⟨_, _, _, j, j1, j2, _⟩; omega⟩
theorem allT_zero {s : List Nat} (h : ∀ k < s.length, s.getD k 0 = 0) : allT s = [[]] := by
  have hz : tab s.length (fun _ => 0) = [] := by
    unfold tab
    rw [raw_zero fun _ _ => rfl]; exact sortT_nil
  have := allT_eq (s := s) (ts := [[]]) (by simp) fun t => by
    rw [List.mem_singleton]
    constructor
    · rintro rfl
      refine ⟨fun _ => 0, hz.symm, fun k hk => ?_⟩
      rw [h k hk]
      unfold sums
      simp only [ite_self]
      exact sum_zero _
    · rintro ⟨μ, rfl, hμ⟩
      unfold tab
      rw [raw_zero fun b hb => ?_]
      · exact sortT_nil
      · have hb' := mem_bars.mp hb
        have := le_sums hb μ (k := b.1) (cov_iff.mpr ⟨Nat.le_refl _, hb'.1⟩)
        rw [hμ _ (by omega), h _ (by omega)] at this
        omega
  rw [← this]
  exact sortTs_one _
theorem sorted_tabs {d : D} (ts : List (List En)) (h : items d = some (ts.map tabD)) (hl : ts.length ≤ sizeLine) (h0 : ∀ t ∈ ts, t ≠ []) : sortedOf d = some ((sortTs ts).map tabD) := by
  rw [sortTs_D]
  exact sortedOf_of h (alikes_map alike_tab ts) (tupled_tab h0) (by rw [List.length_map]; exact hl) (shs_map sh_tab ts)
theorem tw_ok : ∀ (fuel : Nat) (s : List Nat), s.sum < fuel → s.length ≤ 99 → Room s → f_tw fuel [szD s] = some (.list ((allT s).map tabD))
  | 0, s, h, _, _ => by omega
  | fuel + 1, s, h, hn, hr => by
    have sl : sizeLine = 16777216 := by decide
    suffices e : exs (i_tw (f_tw fuel)) [.dat (szD s), .no, .no, .no, .no, .no, .no, .no, .no] = ret (.rt (.list ((allT s).map tabD))) by
      show ((exs (i_tw (f_tw fuel)) [.dat (szD s), .no, .no, .no, .no, .no, .no, .no, .no] π0).map fun p => outD p.1) = _
      rw [e]; rfl
    have e0 : ∀ σ, ev (.not (.bi .any (.cons (.var 0) .nil))) (.dat (szD s) :: σ) = ret (.bool (!(s.any (· != 0)))) := fun σ => by
      have q := q_anyN (d := szD s) (ns := s) rfl
      simp only [ev, evs, List.getElem?_cons_zero, bnd_ret, q, lift_some, truthM, truth]
    by_cases hp : (s.any (· != 0)) = true
    · obtain ⟨a, r, ea, han, hpa, hb⟩ := first_of (n := s.length) (p := fun k => decide (0 < s.getD k 0)) (by
        obtain ⟨k, h1, h2⟩ := (any_nat s).mp hp
        exact ⟨k, h1, decide_eq_true h2⟩)
      have hpa' : 0 < s.getD a 0 := by simpa using hpa
      have hb' : ∀ k < a, s.getD k 0 = 0 := fun k hk => by
        have := hb k hk
        simp only [decide_eq_false_iff_not] at this; omega
      have e1 : ex (.asg (.v 1) (.ix c1_tw (.k (.int 0)))) [.dat (szD s), .no, .no, .no, .no, .no, .no, .no, .no] = ret (.nx [.dat (szD s), .dat (intD a), .no, .no, .no, .no, .no, .no, .no]) := by
        have q : ixD (.list ((a :: r).map intD)) (.int 0) = some (intD a) := ix_natL (s := a :: r) (k := 0) (by simp)
        have c := c1_ok (s := s) (by omega) [.no, .no, .no, .no, .no, .no]
        rw [ea] at c
        simp only [ex, asgM, ev, c, bnd_ret, q, lift_some, bindT, List.set_cons_succ, List.set_cons_zero]
      have e2 : ∀ σ, ex (.newD 3) (.dat (szD s) :: .dat (intD a) :: .no :: .no :: σ) = ret (.nx (.dat (szD s) :: .dat (intD a) :: .no :: .own (.dic (encP tabD (trueD []))) :: σ)) := fun σ => rfl
      have e3 : ex (.asg (.v 4) (.var 1)) [.dat (szD s), .dat (intD a), .no, .own (.dic (encP tabD (trueD []))), .no, .no, .no, .no, .no] = ret (.nx (stT s a [] a .no .no .no)) := rfl
      have wh := whl_inv (fc := ev t_tw) (b := fun ρ => exs (w_tw (f_tw fuel)) ρ)
        (fun k ρ => ∃ l ts s5 s7 s8, ρ = stT s a ts l s5 s7 s8 ∧ a ≤ l ∧ l ≤ s.length ∧ k = s.length - l ∧ Fnd s a l ts ∧ ∀ k, a ≤ k → k < l → 1 ≤ s.getD k 0)
        (fun ρ => ∃ l ts s5 s7 s8, ρ = stT s a ts l s5 s7 s8 ∧ sortTs ts = allT s ∧ ∀ t ∈ ts, t ≠ [])
        (by
          rintro k ρ ⟨l, ts, s5, s7, s8, rfl, hal, hln, rfl, F, hge⟩
          have len0 := ev_lenT (i := 0) (ρ := stT s a ts l s5 s7 s8) (ds := s.map intD) rfl
          rw [List.length_map] at len0
          have done : (l = s.length ∨ s.getD l 0 = 0) → sortTs ts = allT s ∧ ∀ t ∈ ts, t ≠ [] := fun hend => by
            refine ⟨allT_eq F.nd fun t => (F.mem t).trans ⟨?_, ?_⟩, ?_⟩
            · rintro ⟨μ, h1, h2, _⟩; exact ⟨μ, h1, h2⟩
            · rintro ⟨μ, h1, h2⟩
              obtain ⟨j, j1, j2, j3⟩ := has_bar h2 han hpa' hb'
              refine ⟨μ, h1, h2, j, j1, ?_, j3⟩
              rcases Nat.lt_or_ge j l with h | h
              · exact h
              · exfalso
                rcases hend with h3 | h3
                · omega
                · have := hits_ge h2 j1 j2 j3 hal h
                  omega
            · intro t ht e
              obtain ⟨μ, rfl, h2, j, j1, j2, j3⟩ := (F.mem t).mp ht
              have : ((a, j), μ (a, j)) ∈ tab s.length μ := mem_tab.mpr ⟨(mem_bars (b := (a, j))).mpr ⟨j1, by show j < _; omega⟩, rfl, by show μ (a, j) ≠ 0; omega⟩
              rw [e] at this; cases this
          by_cases hl : l < s.length
          · have t1 : ev t_tw (stT s a ts l s5 s7 s8) = ret (.bool (decide (0 < s.getD l 0))) := by
              have g : ixD (szD s) (.int (l : Int)) = some (intD (s.getD l 0)) := ix_nat hl
              have q1 : ev (.var 4) (stT s a ts l s5 s7 s8) = ret (intD l) := rfl
              have q2 : ev (.var 0) (stT s a ts l s5 s7 s8) = ret (szD s) := rfl
              simp only [t_tw, ev_and, ev_cmp, ev_ix, len0, q1, q2, bnd_ret, q_lt, lift_some, decide_eq_true (show (l : Int) < (s.length : Int) by omega), q_tb, if_true, g, ev_k, q_gt]
              congr 2
              exact decide_eq_decide.mpr (by omega)
            refine ⟨_, t1, ?_⟩
            by_cases h0 : 0 < s.getD l 0
            · refine .inl ⟨by simp only [truth]; rw [decide_eq_true h0], by omega, ?_⟩
              have hge' : ∀ k, a ≤ k → k ≤ l → 1 ≤ s.getD k 0 := fun k k1 k2 => by
                rcases Nat.lt_or_eq_of_le k2 with h | rfl
                · exact hge k k1 h
                · exact h0
              obtain ⟨ts', t5, t7, t8, ew, F'⟩ := w_ok s5 s7 s8 (by omega) hal hl hge' (hr s rfl fun _ => Nat.le_refl _) (tw_ok fuel (less s a l) (by have := less_sum hal (show 1 ≤ s.getD a 0 from hpa'); omega) (by rw [less_len]; exact hn) (hr.less a l)) F
              exact ⟨_, ew, l + 1, ts', t5, t7, t8, rfl, by omega, hl, by omega, F', fun k k1 k2 => hge' k k1 (by omega)⟩
            · refine .inr ⟨by simp only [truth]; rw [decide_eq_false h0], l, ts, s5, s7, s8, rfl, done (.inr (by omega))⟩
          · have t1 : ev t_tw (stT s a ts l s5 s7 s8) = ret (.bool false) := by
              have q1 : ev (.var 4) (stT s a ts l s5 s7 s8) = ret (intD l) := rfl
              simp only [t_tw, ev_and, ev_cmp, len0, q1, bnd_ret, q_lt, lift_some, decide_eq_false (show ¬ (l : Int) < (s.length : Int) by omega), q_tb]
              rfl
            exact ⟨_, t1, .inr ⟨rfl, l, ts, s5, s7, s8, rfl, done (.inl (by omega))⟩⟩)
        100 (s.length - a) (stT s a [] a .no .no .no) (by omega)
        ⟨a, [], .no, .no, .no, rfl, Nat.le_refl _, by omega, rfl, fnd_none s a, fun k k1 k2 => by omega⟩
      obtain ⟨ρ', e4, l, ts, s5, s7, s8, rfl, hts, hne⟩ := wh
      have e5 : ex (.ret (.bi .sorted (.cons (.dkeys 3) .nil))) (stT s a ts l s5 s7 s8) = ret (.rt (.list ((allT s).map tabD))) := by
        have i1 : (encP tabD (trueD ts)).map (·.1) = ts.map tabD := by simp only [encP, trueD, List.map_map]; rfl
        have hlen : ts.length ≤ sizeLine := by
          have := hr s rfl fun _ => Nat.le_refl _
          rw [← hts, (sortTs_perm _).length_eq] at this
          omega
        have i2 := sorted_tabs (d := .list (ts.map tabD)) ts rfl hlen hne
        have q2 : ∀ d, bi .sorted [d] = (sortedOf d).map .list := fun _ => rfl
        rw [hts] at i2
        simp only [ex, ev, evs, ownD, stT, List.getElem?_cons_zero, List.getElem?_cons_succ, bnd_ret, i1, q2, i2, Option.map_some, lift_some]
      have e4' : ex (.whl 100 t_tw (w_tw (f_tw fuel))) (stT s a [] a .no .no .no) = ret (.nx (stT s a ts l s5 s7 s8)) := e4
      have e0' : ex (.ife (.not (.bi .any (.cons (.var 0) .nil))) (.cons (.ret (.lst (.cons (.tup .nil) .nil))) .nil) .nil) [.dat (szD s), .no, .no, .no, .no, .no, .no, .no, .no] = ret (.nx [.dat (szD s), .no, .no, .no, .no, .no, .no, .no, .no]) := by
        rw [ex_ife, e0, hp]; rfl
      simp only [i_tw, exs_cons]
      rw [e0', bnd_ret]; simp only []
      rw [e1, bnd_ret]; simp only []
      rw [e2, bnd_ret]; simp only []
      rw [e3, bnd_ret]; simp only []
      rw [e4', bnd_ret]; simp only []
      rw [e5, bnd_ret]
    · have hz : ∀ k < s.length, s.getD k 0 = 0 := fun k hk => by
        rcases Nat.eq_zero_or_pos (s.getD k 0) with h | h
        · exact h
        · exact absurd ((any_nat s).mpr ⟨k, hk, h⟩) hp
      have e0' : ex (.ife (.not (.bi .any (.cons (.var 0) .nil))) (.cons (.ret (.lst (.cons (.tup .nil) .nil))) .nil) .nil) [.dat (szD s), .no, .no, .no, .no, .no, .no, .no, .no] = ret (.rt (.list [.tuple []])) := by
        rw [ex_ife, e0, Bool.eq_false_iff.mpr hp]; rfl
      rw [i_tw, exs_cons, e0', bnd_ret, allT_zero hz]
      rfl
end SR
end
section
/-! SrSame: _law_same says True of a datum and itself. -/
namespace SR
open PySem PySem.Spec PyProof.Rows L2
variable [Wd]
def c_same (f : Fn) : E := .comp (.v 2) (.rng1 (.bi .len (.cons (.var 1) .nil))) (.cons (.not (.call "_law_same" f (.cons (.ix (.var 0) (.var 2)) (.cons (.ix (.var 1) (.var 2)) .nil)))) .nil) (.var 2) [2]
def j_same (C : E) : SL := (.cons (.ife (.or (.isa .tuple (.var 1)) (.isa .list (.var 1))) (.cons (.ife (.or (.cmp .ne (.isa .tuple (.var 1)) (.isa .tuple (.var 0))) (.or (.cmp .ne (.isa .list (.var 1)) (.isa .list (.var 0))) (.cmp .ne (.bi .len (.cons (.var 0) .nil)) (.bi .len (.cons (.var 1) .nil))))) (.cons (.ret (.k (.bool false))) .nil) .nil) (.cons (.ret (.cmp .eq (.bi .len (.cons C .nil)) (.k (.int 0)))) .nil)) .nil) (.cons (.ife (.cmp .is (.var 1) (.k .none)) (.cons (.ret (.cmp .is (.var 0) (.k .none))) .nil) .nil) (.cons (.ife (.or (.isa .bool (.var 1)) (.isa .bool (.var 0))) (.cons (.ret (.and (.isa .bool (.var 1)) (.and (.isa .bool (.var 0)) (.cmp .eq (.var 0) (.var 1))))) .nil) .nil) (.cons (.ife (.isa .int (.var 1)) (.cons (.ret (.and (.isa .int (.var 0)) (.cmp .eq (.var 0) (.var 1)))) .nil) .nil) (.cons (.ret (.and (.isa .str (.var 0)) (.cmp .eq (.var 0) (.var 1)))) .nil)))))
def i_same (f : Fn) : SL := (.cons (.ife (.or (.isa .tuple (.var 1)) (.isa .list (.var 1))) (.cons (.ife (.or (.cmp .ne (.isa .tuple (.var 1)) (.isa .tuple (.var 0))) (.or (.cmp .ne (.isa .list (.var 1)) (.isa .list (.var 0))) (.cmp .ne (.bi .len (.cons (.var 0) .nil)) (.bi .len (.cons (.var 1) .nil))))) (.cons (.ret (.k (.bool false))) .nil) .nil) (.cons (.ret (.cmp .eq (.bi .len (.cons (.comp (.v 2) (.rng1 (.bi .len (.cons (.var 1) .nil))) (.cons (.not (.call "_law_same" f (.cons (.ix (.var 0) (.var 2)) (.cons (.ix (.var 1) (.var 2)) .nil)))) .nil) (.var 2) [2]) .nil)) (.k (.int 0)))) .nil)) .nil) (.cons (.ife (.cmp .is (.var 1) (.k .none)) (.cons (.ret (.cmp .is (.var 0) (.k .none))) .nil) .nil) (.cons (.ife (.or (.isa .bool (.var 1)) (.isa .bool (.var 0))) (.cons (.ret (.and (.isa .bool (.var 1)) (.and (.isa .bool (.var 0)) (.cmp .eq (.var 0) (.var 1))))) .nil) .nil) (.cons (.ife (.isa .int (.var 1)) (.cons (.ret (.and (.isa .int (.var 0)) (.cmp .eq (.var 0) (.var 1)))) .nil) .nil) (.cons (.ret (.and (.isa .str (.var 0)) (.cmp .eq (.var 0) (.var 1)))) .nil)))))
def f_same : Nat → Fn
  | 0 => fun _ => none
  | k + 1 => den 2 3 (i_same (f_same k))
/-- data without dicts, of lists that are not too long, of a depth of at most n -/
inductive Sm : Nat → D → Prop
  | non (n) : Sm n .none
  | bool (n b) : Sm n (.bool b)
  | int (n i) : Sm n (.int i)
  | str (n) (x : Str) (h : PyData.strOk x = true) : Sm n (.str x)
  | lst (n) (ds : List D) (hz : ds.length ≤ 16777216) (h : ∀ d ∈ ds, Sm n d) : Sm (n + 1) (.list ds)
  | tup (n) (ds : List D) (hz : ds.length ≤ 16777216) (h : ∀ d ∈ ds, Sm n d) : Sm (n + 1) (.tuple ds)
theorem same_comp {f : Fn} {d : D} {ds : List D} {n : Nat} (hi : ∀ (i : Nat) v, ds[i]? = some v → ixD d (.int (i : Int)) = some v) (hl : lenD d = some (ds.length : Int)) (hz : ds.length ≤ 16777216) (hf : ∀ x ∈ ds, f [x, x] = some (.bool true)) :
    ev (.comp (.v 2) (.rng1 (.bi .len (.cons (.var 1) .nil))) (.cons (.not (.call "_law_same" f (.cons (.ix (.var 0) (.var 2)) (.cons (.ix (.var 1) (.var 2)) .nil)))) .nil) (.var 2) [2]) [.dat d, .dat d, .no] = ret (.list []) := by
  have len1 : ev (.bi .len (.cons (.var 1) .nil)) [.dat d, .dat d, .no] = ret (intD ds.length) := by
    have q : bi .len [d] = some (intD ds.length) := by simp only [bi, hl, Option.map_some]
    simp only [ev, evs, List.getElem?_cons_zero, List.getElem?_cons_succ, bnd_ret, q, lift_some]
  have := comp_map (tg := .v 2) (it := .rng1 (.bi .len (.cons (.var 1) .nil))) (cs := .cons (.not (.call "_law_same" f (.cons (.ix (.var 0) (.var 2)) (.cons (.ix (.var 1) (.var 2)) .nil)))) .nil) (el := .var 2) (own := [2]) (ρ := [.dat d, .dat d, .no]) (xs := List.range ds.length) (en := intD) (fun _ => false) intD (ev_rng1 len1 hz) rfl fun k hk => by
    refine ⟨_, rfl, ?_, fun h => by cases h⟩
    have hk' := List.mem_range.mp hk
    have g := hi k ds[k] (List.getElem?_eq_getElem hk')
    have hfk := hf ds[k] (List.getElem_mem hk')
    have q0 : ev (.var 0) [.dat d, .dat d, .dat (intD k)] = ret d := rfl
    have q1 : ev (.var 1) [.dat d, .dat d, .dat (intD k)] = ret d := rfl
    have q2 : ev (.var 2) [.dat d, .dat d, .dat (intD k)] = ret (intD k) := rfl
    show evC _ [.dat d, .dat d, .dat (intD k)] = _
    have q3 : ∀ i, ev (.ix (.var i) (.var 2)) [.dat d, .dat d, .dat (intD k)] = bnd (ev (.var i) [.dat d, .dat d, .dat (intD k)]) fun x => bnd (ev (.var 2) [.dat d, .dat d, .dat (intD k)]) fun y => lift (ixD x y) := fun i => ev_ix
    have q4 : ev (.call "_law_same" f (.cons (.ix (.var 0) (.var 2)) (.cons (.ix (.var 1) (.var 2)) .nil))) [.dat d, .dat d, .dat (intD k)] = ret (.bool true) := by
      rw [ev, evs, evs, evs, q3, q3, q0, q1, q2]
      simp only [bnd_ret, g, lift_some, hfk]
    rw [evC, ev, q4]
    rfl
  rw [this, List.filter_eq_nil_iff.mpr fun _ _ => Bool.false_ne_true]
  rfl
theorem eqv_sm {x : Str} : PyData.eqv (.str x) (.str x) = true := PySem.W.eqv_refl_alike _ rfl
theorem same_int (f : Fn) (i : Int) : exs (i_same f) [.dat (.int i), .dat (.int i), .no] = ret (.rt (.bool true)) := by
  have q : cmpD .eq (.int i) (.int i) = some true := by simp [cmpD, sh, PyData.eqv]
  have q1 : cmpD .is (.int i) .none = some false := rfl
  simp only [i_same, exs, ex, ev, evs, evC, List.getElem?_cons_zero, List.getElem?_cons_succ, bnd_ret, isaD, q_tb, q1, q, lift_some, if_true, Bool.false_eq_true, if_false]
theorem same_str (f : Fn) (x : Str) (h : PyData.strOk x = true) : exs (i_same f) [.dat (.str x), .dat (.str x), .no] = ret (.rt (.bool true)) := by
  have q : cmpD .eq (.str x) (.str x) = some true := by
    have h1 : sh 40 (.str x) = true := by simpa [sh] using h
    show (if sh 40 (.str x) && sh 40 (.str x) then some (PyData.eqv (.str x) (.str x)) else none) = _
    rw [h1, eqv_sm]; rfl
  have q1 : cmpD .is (.str x) .none = some false := rfl
  simp only [i_same, exs, ex, ev, evs, evC, List.getElem?_cons_zero, List.getElem?_cons_succ, bnd_ret, isaD, q_tb, q1, q, lift_some, if_true, Bool.false_eq_true, if_false]
theorem same_seq {d : D} {C : E} {m : Nat} (hs : isaD .tuple d = true ∨ isaD .list d = true) (q0 : bi .len [d] = some (intD m)) (c : ev C [.dat d, .dat d, .no] = ret (.list [])) : exs (j_same C) [.dat d, .dat d, .no] = ret (.rt (.bool true)) := by
  have q1 : bi .len [.list ([] : List D)] = some (.int 0) := rfl
  have q2 : cmpD .eq (.int 0) (.int 0) = some true := by simp [cmpD, sh, PyData.eqv]
  have qi : ∀ a b : Bool, cmpD .ne (.bool a) (.bool b) = some (a != b) := by intro a b; cases a <;> cases b <;> rfl
  have qn : cmpD .ne (intD m) (intD m) = some false := by simp [cmpD, sh, PyData.eqv]
  have v0 : ([Slot.dat d, .dat d, .no] : Sl)[0]? = some (.dat d) := rfl
  have v1 : ([Slot.dat d, .dat d, .no] : Sl)[1]? = some (.dat d) := rfl
  generalize [Slot.dat d, .dat d, .no] = ρ at c v0 v1
  cases ht : isaD .tuple d <;> cases hl : isaD .list d
  · rw [ht, hl] at hs; simp at hs
  all_goals
    rw [j_same, exs, ex]
    simp only [ev, v1, v0, bnd_ret, ht, hl, q_tb, if_true, Bool.false_eq_true, if_false, exs, ex, qi, bne_self_eq_false, lift_some, evs, q0, qn, c, q1, q2]
theorem same_fin {f : Fn} {d : D} (e : exs (i_same f) [.dat d, .dat d, .no] = ret (.rt (.bool true))) : den 2 3 (i_same f) [d, d] = some (.bool true) := by
  show ((exs (i_same f) [.dat d, .dat d, .no] π0).map fun p => outD p.1) = _
  rw [e]; rfl
theorem same_ok : ∀ (n : Nat) (d : D), Sm n d → f_same (n + 1) [d, d] = some (.bool true) := by
  intro n
  induction n with
  | zero =>
    intro d h
    refine same_fin ?_
    cases h with
    | non => rfl
    | bool _ b => cases b <;> rfl
    | int _ i => exact same_int _ i
    | str _ x h => exact same_str _ x h
  | succ n ih =>
    intro d h
    refine same_fin ?_
    have qi : ∀ a b : Bool, cmpD .ne (.bool a) (.bool b) = some (a != b) := by intro a b; cases a <;> cases b <;> rfl
    have qn : ∀ m : Nat, cmpD .ne (intD m) (intD m) = some false := by intro m; simp [cmpD, sh, PyData.eqv]
    cases h with
    | non => rfl
    | bool _ b => cases b <;> rfl
    | int _ i => exact same_int _ i
    | str _ x h => exact same_str _ x h
    | lst _ ds hz hd =>
      have c := same_comp (f := f_same (n + 1)) (d := .list ds) (ds := ds) (n := n) (fun i v h => by simp only [ixD]; exact atI_nat h) rfl hz fun x hx => ih x (hd x hx)
      exact same_seq (C := c_same (f_same (n + 1))) (.inr rfl) rfl c
    | tup _ ds hz hd =>
      have c := same_comp (f := f_same (n + 1)) (d := .tuple ds) (ds := ds) (n := n) (fun i v h => by simp only [ixD]; exact atI_nat h) rfl hz fun x hx => ih x (hd x hx)
      exact same_seq (C := c_same (f_same (n + 1))) (.inl rfl) rfl c
end SR
end
section
/-! SrTab8: how many tables; their sizes told; their mirror. -/
namespace SR
open PySem PySem.Spec PyProof.Rows L2
variable [Wd]
theorem enum_len (c : Nat) : ∀ (bs : List Bar) (s : List Nat), (∀ k, s.getD k 0 ≤ c) → (enumB bs s).length ≤ (c + 1) ^ bs.length
  | [], s, _ => by
    simp only [enumB]
    split <;> simp
  | b :: bs, s, h => by
    simp only [enumB]
    have := flat_len (xs := List.range (s.getD b.1 0 + 1)) (f := fun m => if fits b m s = true then (enumB bs (subS b m s)).map (putE b m) else []) (c := (c + 1) ^ bs.length) fun m _ => by
      split
      · rw [List.length_map]
        exact enum_len c bs _ fun k => by
          rw [subS_get]
          have := h k
          split <;> omega
      · exact Nat.zero_le _
    rw [List.length_range] at this
    refine Nat.le_trans this ?_
    rw [List.length_cons, Nat.pow_succ, Nat.mul_comm]
    exact Nat.mul_le_mul (Nat.le_refl _) (by have := h b.1; omega)
theorem room_small {s : List Nat} (hn : s.length ≤ 5) (h : ∀ k, s.getD k 0 ≤ 2) : Room s := fun s' h1 h2 => by
  rw [allT_len]
  have := enum_len 2 (bars s'.length) s' fun k => Nat.le_trans (h2 k) (h k)
  have hb : (bars s'.length).length ≤ 15 := by
    rw [h1]
    have : ∀ n : Fin 6, (bars n.val).length ≤ 15 := by decide
    exact this ⟨s.length, by omega⟩
  have h3 : 3 ^ (bars s'.length).length ≤ 3 ^ 15 := Nat.pow_le_pow_right (by decide) hb
  have h4 : (3 : Nat) ^ 15 < sizeLine := by decide
  exact Nat.lt_of_le_of_lt this (Nat.lt_of_le_of_lt h3 h4)
theorem raw_sum (bs : List Bar) (μ : Mu) (k : Nat) : (((raw bs μ).filter fun e => cov e.1 k).map (·.2)).sum = sums bs μ k := by
  induction bs with
  | nil => rfl
  | cons b bs ih =>
    rw [raw_cons, sums_cons]
    unfold putE
    by_cases h : μ b = 0
    · rw [if_pos h, ih, h]; simp
    · rw [if_neg h, List.filter_cons]
      by_cases hc : cov b k = true
      · simp only [hc, if_true, List.map_cons, List.sum_cons, ih]
      · rw [if_neg hc, ih]; simp [hc]
theorem tab_sum (n : Nat) (μ : Mu) (k : Nat) : (((tab n μ).filter fun e => cov e.1 k).map (·.2)).sum = sums (bars n) μ k := by
  rw [← raw_sum]
  exact List.Perm.sum_nat (((sortT_perm _).filter _).map _)
end SR
end
section
/-! SrTab9: the mirror of tables. -/
namespace SR
open PySem PySem.Spec PyProof.Rows L2
def flip (n : Nat) (b : Bar) : Bar := (n - 1 - b.2, n - 1 - b.1)
theorem flip_mem {n : Nat} {b : Bar} (h : b ∈ bars n) : flip n b ∈ bars n := by
  rw [mem_bars] at h ⊢
  unfold flip
  exact ⟨by show n - 1 - b.2 ≤ n - 1 - b.1; omega, by show n - 1 - b.1 < n; omega⟩
theorem flip_flip {n : Nat} {b : Bar} (h : b ∈ bars n) : flip n (flip n b) = b := by
  rw [mem_bars] at h
  unfold flip
  exact Prod.ext (by show n - 1 - (n - 1 - b.1) = b.1; omega) (by show n - 1 - (n - 1 - b.2) = b.2; omega)
theorem flip_cov {n k : Nat} {b : Bar} (h : b ∈ bars n) (hk : k < n) : cov (flip n b) (n - 1 - k) = cov b k := by
  rw [mem_bars] at h
  rw [Bool.eq_iff_iff, cov_iff, cov_iff]
  unfold flip
  show (n - 1 - b.2 ≤ n - 1 - k ∧ n - 1 - k ≤ n - 1 - b.1) ↔ _
  omega
theorem map_nodup_on {α β : Type} {f : α → β} {xs : List α} (n : xs.Nodup) (h : ∀ a ∈ xs, ∀ b ∈ xs, f a = f b → a = b) : (xs.map f).Nodup :=
  List.pairwise_map.mpr (List.Pairwise.imp_of_mem (fun ha hb ne e => ne (h _ ha _ hb e)) n)
theorem bars_flip (n : Nat) : ((bars n).map (flip n)).Perm (bars n) := by
  refine perm_of (map_nodup_on (bars_nodup n) fun a ha b hb e => ?_) (bars_nodup n) fun b => ?_
  · rw [← flip_flip ha, e, flip_flip hb]
  · rw [List.mem_map]
    constructor
    · rintro ⟨c, hc, rfl⟩; exact flip_mem hc
    · intro hb; exact ⟨flip n b, flip_mem hb, flip_flip hb⟩
def mir (n : Nat) (t : List En) : List En := sortT (t.map fun e => (flip n e.1, e.2))
theorem mir_tab (n : Nat) (μ : Mu) : mir n (tab n μ) = tab n (fun b => μ (flip n b)) := by
  refine sortT_congr (perm_of (map_nodup_on (tab_nodup n μ) fun a ha b hb e => ?_) (raw_nodup (bars_nodup n) _) fun e => ?_)
  · have h1 := congrArg Prod.fst e
    have h2 := congrArg Prod.snd e
    refine Prod.ext ?_ h2
    rw [← flip_flip (mem_tab.mp ha).1, ← flip_flip (mem_tab.mp hb).1]
    exact congrArg (flip n) h1
  · rw [List.mem_map, mem_raw]
    constructor
    · rintro ⟨x, hx, rfl⟩
      obtain ⟨h1, h2, h3⟩ := mem_tab.mp hx
      exact ⟨flip_mem h1, by show x.2 = μ (flip n (flip n x.1)); rw [flip_flip h1]; exact h2, h3⟩
    · rintro ⟨h1, h2, h3⟩
      exact ⟨(flip n e.1, e.2), mem_tab.mpr ⟨flip_mem h1, h2, h3⟩, Prod.ext (flip_flip h1) rfl⟩
theorem sums_flip (n : Nat) (μ : Mu) {k : Nat} (hk : k < n) : sums (bars n) (fun b => μ (flip n b)) k = sums (bars n) μ (n - 1 - k) := by
  unfold sums
  rw [← List.Perm.sum_nat ((bars_flip n).map _), List.map_map]
  congr 1
  refine List.map_congr_left fun b hb => ?_
  simp only [Function.comp]
  have := flip_cov (k := n - 1 - k) hb (by omega)
  rw [show n - 1 - (n - 1 - k) = k by omega] at this
  rw [this, flip_flip hb]
theorem rev_get {s : List Nat} {k : Nat} (hk : k < s.length) : s.reverse.getD k 0 = s.getD (s.length - 1 - k) 0 := by
  rw [List.getD_eq_getElem?_getD, List.getD_eq_getElem?_getD, List.getElem?_reverse hk]
theorem hits_flip {s : List Nat} {μ : Mu} (h : Hits s.length μ s) : Hits s.length (fun b => μ (flip s.length b)) s.reverse := fun k hk => by
  rw [sums_flip _ _ hk, rev_get hk]
  exact h _ (by omega)
theorem allT_mir (s : List Nat) : sortTs ((allT s).map (mir s.length)) = allT s.reverse := by
  have hl : s.reverse.length = s.length := List.length_reverse
  have ext2 : ∀ μ ν : Mu, (∀ b ∈ bars s.length, μ (flip s.length b) = ν (flip s.length b)) → ∀ b ∈ bars s.length, μ b = ν b := fun μ ν h b hb => by
    have := h _ (flip_mem hb)
    rwa [flip_flip hb] at this
  refine allT_eq (map_nodup_on (allT_nodup s) fun a ha b hb e => ?_) fun t => ?_
  · obtain ⟨μ, rfl, _⟩ := mem_allT.mp ha
    obtain ⟨ν, rfl, _⟩ := mem_allT.mp hb
    rw [mir_tab, mir_tab] at e
    exact tab_ext.mpr (ext2 μ ν (tab_ext.mp e))
  · rw [List.mem_map, hl]
    constructor
    · rintro ⟨x, hx, rfl⟩
      obtain ⟨μ, rfl, h⟩ := mem_allT.mp hx
      exact ⟨_, mir_tab _ _, hits_flip h⟩
    · rintro ⟨μ, rfl, h⟩
      refine ⟨tab s.length (fun b => μ (flip s.length b)), mem_allT.mpr ⟨_, rfl, ?_⟩, ?_⟩
      · have := hits_flip (s := s.reverse) (μ := μ) (by rw [hl]; exact h)
        rw [hl, List.reverse_reverse] at this
        exact this
      · rw [mir_tab]
        exact tab_ext.mpr fun b hb => by rw [flip_flip hb]
end SR
end
section
/-! SrTab10: tables of sizes that are nought at a place are pairs of tables. -/
namespace SR
open PySem PySem.Spec PyProof.Rows L2
theorem sum_const {α : Type} (n : Nat) : ∀ xs : List α, (xs.map fun _ => n).sum = xs.length * n
  | [] => by simp
  | x :: xs => by rw [List.map_cons, List.sum_cons, sum_const n xs, List.length_cons, Nat.add_mul]; omega
variable [Wd]
def shiftE (k : Nat) (e : En) : En := ((e.1.1 + (k + 1), e.1.2 + (k + 1)), e.2)
def glue (k : Nat) (μ ν : Mu) : Mu := fun b => if b.2 < k then μ b else if k < b.1 then ν (b.1 - (k + 1), b.2 - (k + 1)) else 0
def joinT (k : Nat) (t u : List En) : List En := sortT (t ++ u.map (shiftE k))
theorem shiftE_inj {k : Nat} {a b : En} (h : shiftE k a = shiftE k b) : a = b := by
  obtain ⟨⟨a1, a2⟩, a3⟩ := a
  obtain ⟨⟨b1, b2⟩, b3⟩ := b
  simp only [shiftE, Prod.mk.injEq] at h ⊢
  omega
theorem tab_nodup' (n : Nat) (μ : Mu) : (tab n μ).Nodup := (sortT_perm _).nodup_iff.mpr (raw_nodup (bars_nodup n) μ)
theorem glue_perm (k m : Nat) (μ ν : Mu) : (tab k μ ++ (tab m ν).map (shiftE k)).Perm (raw (bars (k + 1 + m)) (glue k μ ν)) := by
  refine perm_of ?_ (raw_nodup (bars_nodup _) _) fun e => ?_
  · rw [List.nodup_append]
    refine ⟨tab_nodup' _ _, nodup_map (fun _ _ => shiftE_inj) (tab_nodup' _ _), ?_⟩
    rintro a ha b hb rfl
    obtain ⟨x, hx, rfl⟩ := List.mem_map.mp hb
    have h1 := mem_bars.mp (mem_tab.mp ha).1
    simp only [shiftE] at h1
    omega
  · obtain ⟨⟨e1, e2⟩, e3⟩ := e
    rw [List.mem_append, mem_raw, mem_tab, mem_bars, mem_bars, List.mem_map]
    simp only [glue]
    constructor
    · rintro (⟨⟨h1, h2⟩, h3, h4⟩ | ⟨x, hx, e⟩)
      · refine ⟨⟨h1, by omega⟩, ?_, h4⟩
        rw [if_pos h2]; exact h3
      · obtain ⟨h1, h2, h3⟩ := mem_tab.mp hx
        have h1 := mem_bars.mp h1
        simp only [shiftE, Prod.mk.injEq] at e
        obtain ⟨⟨rfl, rfl⟩, rfl⟩ := e
        refine ⟨⟨by omega, by omega⟩, ?_, h3⟩
        rw [if_neg (by omega), if_pos (by omega), Nat.add_sub_cancel, Nat.add_sub_cancel]
        exact h2
    · rintro ⟨⟨h1, h2⟩, h3, h4⟩
      by_cases c : e2 < k
      · rw [if_pos c] at h3
        exact .inl ⟨⟨h1, c⟩, h3, h4⟩
      · rw [if_neg c] at h3
        by_cases c2 : k < e1
        · rw [if_pos c2] at h3
          refine .inr ⟨((e1 - (k + 1), e2 - (k + 1)), e3), mem_tab.mpr ⟨mem_bars.mpr ⟨?_, ?_⟩, h3, h4⟩, ?_⟩
          · show e1 - (k + 1) ≤ e2 - (k + 1); omega
          · show e2 - (k + 1) < m; omega
          · simp only [shiftE, Prod.mk.injEq, and_true]; omega
        · rw [if_neg c2] at h3; exact absurd h3 h4
theorem joinT_tab (k m : Nat) (μ ν : Mu) : joinT k (tab k μ) (tab m ν) = tab (k + 1 + m) (glue k μ ν) := sortT_congr (glue_perm k m μ ν)
theorem sums_out {n k : Nat} (μ : Mu) (h : n ≤ k) : sums (bars n) μ k = 0 := by
  rcases Nat.eq_zero_or_pos (sums (bars n) μ k) with e | e
  · exact e
  · obtain ⟨b, hb, hc, _⟩ := sums_pos e
    have := mem_bars.mp hb
    have := cov_iff.mp hc
    omega
theorem sums_glue (k m : Nat) (μ ν : Mu) (x : Nat) : sums (bars (k + 1 + m)) (glue k μ ν) x = sums (bars k) μ x + (if k < x then sums (bars m) ν (x - (k + 1)) else 0) := by
  rw [← raw_sum, ← tab_sum k, ← List.Perm.sum_nat (((glue_perm k m μ ν).filter _).map _), List.filter_append, List.map_append, List.sum_append]
  congr 1
  rw [List.filter_map, List.map_map]
  by_cases h : k < x
  · rw [if_pos h, ← tab_sum m]
    have e : ((fun e : En => cov e.1 x) ∘ shiftE k) = fun e : En => cov e.1 (x - (k + 1)) := funext fun e => by
      rw [Bool.eq_iff_iff, Function.comp, cov_iff, cov_iff]
      simp only [shiftE]
      omega
    rw [e]
    rfl
  · rw [if_neg h, List.filter_eq_nil_iff.mpr]
    · rfl
    · intro e he hc
      rw [Function.comp, cov_iff] at hc
      simp only [shiftE] at hc
      omega
theorem get_cut {l r : List Nat} (x : Nat) : (l ++ 0 :: r).getD x 0 = if x < l.length then l.getD x 0 else if l.length < x then r.getD (x - (l.length + 1)) 0 else 0 := by
  rw [List.getD_eq_getElem?_getD, List.getElem?_append]
  by_cases h : x < l.length
  · rw [if_pos h, if_pos h, List.getD_eq_getElem?_getD]
  · rw [if_neg h, if_neg h]
    by_cases h2 : l.length < x
    · rw [if_pos h2, show x - l.length = (x - (l.length + 1)) + 1 by omega, List.getElem?_cons_succ, List.getD_eq_getElem?_getD]
    · rw [if_neg h2, show x - l.length = 0 by omega]; rfl
theorem hits_glue {l r : List Nat} {μ ν : Mu} : Hits (l.length + 1 + r.length) (glue l.length μ ν) (l ++ 0 :: r) ↔ Hits l.length μ l ∧ Hits r.length ν r := by
  constructor
  · intro h
    constructor
    · intro x hx
      have := h x (by omega)
      rw [sums_glue, get_cut, if_neg (by omega), if_pos hx] at this
      exact this
    · intro x hx
      have := h (x + (l.length + 1)) (by omega)
      rw [sums_glue, get_cut, if_pos (by omega), if_neg (by omega), if_pos (by omega), sums_out _ (by omega), Nat.add_sub_cancel, Nat.zero_add] at this
      exact this
  · rintro ⟨h1, h2⟩ x hx
    rw [sums_glue, get_cut]
    by_cases c : x < l.length
    · rw [if_neg (by omega), if_pos c]; exact h1 x c
    · rw [if_neg c, sums_out _ (by omega)]
      by_cases c2 : l.length < x
      · rw [if_pos c2, if_pos c2, Nat.zero_add]; exact h2 _ (by omega)
      · rw [if_neg c2, if_neg c2]
theorem cut_len (l r : List Nat) : (l ++ 0 :: r).length = l.length + 1 + r.length := by
  rw [List.length_append, List.length_cons]; omega
theorem allT_cut (l r : List Nat) : (allT (l ++ 0 :: r)).length = (allT l).length * (allT r).length := by
  have key : ∀ μ ν μ' ν' : Mu, joinT l.length (tab l.length μ) (tab r.length ν) = joinT l.length (tab l.length μ') (tab r.length ν') → tab l.length μ = tab l.length μ' ∧ tab r.length ν = tab r.length ν' := fun μ ν μ' ν' h => by
    rw [joinT_tab, joinT_tab, tab_ext] at h
    refine ⟨tab_ext.mpr fun b hb => ?_, tab_ext.mpr fun b hb => ?_⟩
    · have hb' := mem_bars.mp hb
      have := h b (mem_bars.mpr ⟨hb'.1, by omega⟩)
      unfold glue at this
      rwa [if_pos hb'.2, if_pos hb'.2] at this
    · have hb' := mem_bars.mp hb
      have := h (b.1 + (l.length + 1), b.2 + (l.length + 1)) (mem_bars.mpr ⟨by show b.1 + (l.length + 1) ≤ b.2 + (l.length + 1); omega, by show b.2 + (l.length + 1) < _; omega⟩)
      simp only [glue] at this
      rw [if_neg (by omega), if_pos (by omega), if_neg (by omega), if_pos (by omega), Nat.add_sub_cancel, Nat.add_sub_cancel] at this
      exact this
  have e := allT_eq (s := l ++ 0 :: r) (ts := (allT l).flatMap fun t => (allT r).map (joinT l.length t)) ?_ ?_
  · rw [← e, (sortTs_perm _).length_eq, List.length_flatMap]
    rw [List.map_congr_left (g := fun _ => (allT r).length) fun t _ => List.length_map ..]
    rw [sum_const]
  · refine nodup_flatMap' (allT_nodup l) (fun t ht => map_nodup_on (allT_nodup r) fun a ha b hb e => ?_) ?_
    · obtain ⟨μ, rfl, _⟩ := mem_allT.mp ht
      obtain ⟨ν, rfl, _⟩ := mem_allT.mp ha
      obtain ⟨ν', rfl, _⟩ := mem_allT.mp hb
      exact (key _ _ _ _ e).2
    · intro x hx y hy a ha hb
      obtain ⟨u, hu, rfl⟩ := List.mem_map.mp ha
      obtain ⟨v, hv, e⟩ := List.mem_map.mp hb
      obtain ⟨μ, rfl, _⟩ := mem_allT.mp hx
      obtain ⟨ν, rfl, _⟩ := mem_allT.mp hu
      obtain ⟨μ', rfl, _⟩ := mem_allT.mp hy
      obtain ⟨ν', rfl, _⟩ := mem_allT.mp hv
      exact (key _ _ _ _ e).1.symm
  · intro t
    simp only [List.mem_flatMap, List.mem_map, cut_len]
    constructor
    · rintro ⟨x, hx, u, hu, rfl⟩
      obtain ⟨μ, rfl, h1⟩ := mem_allT.mp hx
      obtain ⟨ν, rfl, h2⟩ := mem_allT.mp hu
      exact ⟨_, joinT_tab _ _ _ _, hits_glue.mpr ⟨h1, h2⟩⟩
    · rintro ⟨μ, rfl, h⟩
      have hg : ∀ b ∈ bars (l.length + 1 + r.length), μ b = glue l.length μ (fun b => μ (b.1 + (l.length + 1), b.2 + (l.length + 1))) b := fun b hb => by
        have hb' := mem_bars.mp hb
        unfold glue
        by_cases c : b.2 < l.length
        · rw [if_pos c]
        · rw [if_neg c]
          by_cases c2 : l.length < b.1
          · rw [if_pos c2]
            show μ b = μ (b.1 - (l.length + 1) + (l.length + 1), b.2 - (l.length + 1) + (l.length + 1))
            congr 1
            exact Prod.ext (by show b.1 = _ ; omega) (by show b.2 = _; omega)
          · rw [if_neg c2]
            have h3 := le_sums hb μ (k := l.length) (cov_iff.mpr ⟨by omega, by omega⟩)
            rw [h _ (by omega), get_cut, if_neg (by omega), if_neg (by omega)] at h3
            omega
      have h' : Hits (l.length + 1 + r.length) (glue l.length μ (fun b => μ (b.1 + (l.length + 1), b.2 + (l.length + 1)))) (l ++ 0 :: r) := fun k hk => by
        rw [← sums_congr hg]; exact h k hk
      obtain ⟨h1, h2⟩ := hits_glue.mp h'
      refine ⟨_, mem_allT.mpr ⟨_, rfl, h1⟩, _, mem_allT.mpr ⟨_, rfl, h2⟩, ?_⟩
      rw [joinT_tab]
      exact (tab_ext.mpr hg).symm
theorem allT_zeros : (allT [0]).length = 1 := by
  rw [allT_zero (s := [0]) fun k hk => by
    have : k = 0 := by simpa using hk
    subst this; rfl]
  rfl
theorem allT_nil : (allT []).length = 1 := by
  rw [allT_zero (s := []) fun k hk => by simp at hk]
  rfl
theorem allT_ones : ∀ n : Fin 5, (allT (List.replicate (n.val + 1) 1)).length = 2 ^ n.val := by
  intro n
  rw [allT_len, List.length_replicate]
  revert n
  decide +kernel
end SR
end
section
/-! SrLaw: _law_pool; a law's body. -/
namespace SR
open PySem PySem.Spec PyProof.Rows L2
/-- what _law_pool promises -/
def spPool (K : PySem.W.Frag) : Sp := fun vs H Q _ => ∃ (a : Addr) (ns : List Int), vs = [.ref a] ∧ SqL K H a (ns.map V.int) ∧ ns.length ≤ 63 ∧ ∀ H' p sa salt, (∀ x o, H x = some o → H' x = some o) → H p = none → H sa = none → p ≠ sa →
  H' p = some (.lst [.ref sa, .int 0, .int 0, .int 0, .int salt]) → H' sa = some (.lst (ns.map V.int)) → Q (.ref p) H'
def nPool : List Str := ["script", "salt", "cell"]
def ePool : E := .op2 .mod (.bi .int (.cons (.op2 .add (.op2 .mul (.var 1) (.k (.int 31))) (.var 2)) .nil)) (.k (.int 1000003))
theorem pool_val (z c : Int) : ev ePool [.no, .dat (.int z), .dat (.int c)] π0 = some (.int ((z * 31 + c) % 1000003), π0) := by
  have h1 : op2 .mul (.int z) (.int 31) = some (.int (z * 31)) := by
    have hm : mulOk z 31 = true := by unfold mulOk; simp
    simp only [op2, hm, if_true]
  have h2 : op2 .add (.int (z * 31)) (.int c) = some (.int (z * 31 + c)) := rfl
  have h3 : bi .int [.int (z * 31 + c)] = some (.int (z * 31 + c)) := rfl
  have h4 : op2 .mod (.int (z * 31 + c)) (.int 1000003) = some (.int ((z * 31 + c) % 1000003)) := rfl
  have a1 : ev (.var 1) [.no, .dat (.int z), .dat (.int c)] = ret (.int z) := rfl
  have a2 : ev (.var 2) [.no, .dat (.int z), .dat (.int c)] = ret (.int c) := rfl
  simp only [ePool, ev, evs] at a1 a2 ⊢
  simp only [a1, a2, bnd_ret, h1, h2, lift_some, h3, h4, ret_ap]
theorem sq_ex {K : PySem.W.Frag} {H H' : Hp} {a : Addr} {xs : List V} (e : ∀ x o, H x = some o → H' x = some o) (h : SqL K H a xs) : SqL K H' a xs := ex_sqL e h
section
variable {P : Program} {w : World} {K : PySem.W.Frag} {mg : Str → Option Value} {base : Heap} {x qual : Str} {params : Arguments} {body : List Stmt} {scope : Scope} {f : Addr} {fd : FuncData} {k : Nat}
theorem ok_pool {p1 p2 p3 p4 p5 p6 p7 p8 p9 q1 q2 q3 q4 q5 q6 q7 q8 q9 r1 r2 r3 r4 r5 r6 r7 r8 r9 u1 u2 : Pos} (F : FunD K x qual params body scope [] [] f fd) (S : FnScope nPool ["script"] scope) (free : ∀ n ∈ frees, mg n = none)
    (hb : body = [.Assign [.Name "salt" p1] (.Constant (.int 7) 0 p2) p3,
      .For (.Name "cell" p4) (.Subscript (.Name "script" p5) (.Slice none (some (.Constant (.int 63) 0 p6)) none p7) p8)
        [.Assign [.Name "salt" p9] (.BinOp (.Call (.Name "int" q1) [.BinOp (.BinOp (.Name "salt" q2) .Mult (.Constant (.int 31) 0 q3) q4) .Add (.Name "cell" q5) q6] [] q7) .Mod (.Constant (.int 1000003) 0 q8) q9) r1] [] r2,
      .Return (some (.List [.Call (.Name "list" r3) [.Name "script" r4] [] r5, .Constant (.int 0) 0 r6, .Constant (.int 0) 0 r7, .Constant (.int 0) 0 r8, .Name "salt" r9] u1)) u2])
    (hs0 : scope.names.lookup ("script" : Str) = some .local) (hs1 : scope.names.lookup ("salt" : Str) = some .local) (hs2 : scope.names.lookup ("cell" : Str) = some .local) (hs3 : scope.names.lookup ("int" : Str) = some .globalImplicit) (hs4 : scope.names.lookup ("list" : Str) = some .globalImplicit) :
    FnOk P w K mg base CX0 (k + 1) f fd ["script"] (spPool K) := by
  letI : Wd := ⟨P, w⟩
  refine F.ok S (fun vs H Q E h => ?_) (fun cdv A outer s H vs Q E hr h => ?_)
  · obtain ⟨a, ns, rfl, _⟩ := h; rfl
  · obtain ⟨a, ns, rfl, hS, hlen, q⟩ := h
    subst hb
    have hP := par_of (P := P) (w := w) (K := K) (mg := mg) (base := base) (qual := qual) (cdv := cdv) (A := A) (outer := outer) (s := s) (H := H) (E := E) (f := f) rfl S free hr
    have v0 : ∀ {p : Pos}, PE (cxOf CX0 P w K mg base nPool qual scope f cdv A outer s H E).nox (.Name "script" p) (tVar 0) := fun {p} => pe_var rfl (.inl hs0) (by decide +kernel) (by decide +kernel)
    have v1 : ∀ {p : Pos}, PE (cxOf CX0 P w K mg base nPool qual scope f cdv A outer s H E).nox (.Name "salt" p) (tVar 1) := fun {p} => pe_var rfl (.inl hs1) (by decide +kernel) (by decide +kernel)
    have g3 : Gl (cxOf CX0 P w K mg base nPool qual scope f cdv A outer s H E).nox "int" := hs3
    have g4 : Gl (cxOf CX0 P w K mg base nPool qual scope f cdv A outer s H E).nox "list" := hs4
    have hE : PE (cxOf CX0 P w K mg base nPool qual scope f cdv A outer s H E).nox (.BinOp (.Call (.Name "int" q1) [.BinOp (.BinOp (.Name "salt" q2) .Mult (.Constant (.int 31) 0 q3) q4) .Add (.Name "cell" q5) q6] [] q7) .Mod (.Constant (.int 1000003) 0 q8) q9) (tD K none (ev ePool)) :=
      s_op2 .mod (s_bi hP.calm hP.un .int g3 (free _ (by decide +kernel)) rfl (a_cons rfl (s_op2 .add (s_op2 .mul (s_var (i := 1) rfl (.inl hs1) (by decide +kernel) (by decide +kernel)) (s_k (d := .int 31) rfl)) (s_var (i := 2) rfl (.inl hs2) (by decide +kernel) (by decide +kernel))) a_nil)) (s_k (d := .int 1000003) rfl)
    refine ⟨_, PSs.nox (pss_cons (ps_set (i := 1) S.nd rfl (.inl hs1) pe_int rfl (.inl rfl)) (pss_cons (ps_for PassesOwn.never rfl (pi_list (pe_slice sl_list v0 po_none (po_some pe_int))) (pg_name (i := 2) S.nd rfl (.inl hs2) (.inl rfl)) (pss_one (ps_set (i := 1) S.nd rfl (.inl hs1) hE rfl (.inl rfl))))
      (pss_one (ps_ret (pe_lst (pa_cons (pe_callTy call_list_of g4 (free _ (by decide +kernel)) (boot_bi .list) (pa_cons v0 pa_nil)) (pa_cons pe_int (pa_cons pe_int (pa_cons pe_int (pa_cons v1 pa_nil)))))))))), ?_⟩
    refine ⟨.ref a, rfl, 63, rfl, a, ns.map V.int, rfl, hS, fun c nc => ?_⟩
    have s1 : ∀ x o, H x = some o → (upd H c (.lst (cutV (ns.map V.int) none (some 63)))) x = some o := fun x o e => by rw [upd_ne (ne_of_none e nc)]; exact e
    have hcut : cutV (ns.map V.int) none (some 63) = ns.map V.int := by
      unfold cutV
      have h1 : HT.sIx (ns.map V.int).length (ns.map V.int).length (some 63) = (ns.map V.int).length := by
        rw [show ((63 : Int)) = ((63 : Nat) : Int) from rfl, HT.sIx_nat]
        rw [List.length_map]
        omega
      rw [h1, HT.sIx_none]
      simp only [List.drop_zero, Nat.sub_zero, List.take_length]
    rw [hcut]
    have hC : ∀ H' : Hp, (∀ x o, (upd H c (.lst (ns.map V.int))) x = some o → H' x = some o) → SqL K H' c (ns.map V.int) := fun H' e => SqL.of (e c _ upd_same)
    rw [hcut] at s1
    refine ⟨c, rfl, ⟨_, hC _ fun _ _ e => e⟩, fun i m σ H' => ∃ z y, σ = [some (.ref a), some (.int z), y] ∧ i ≤ ns.length ∧ m = ns.length - i ∧ ∀ x o, (upd H c (.lst (ns.map V.int))) x = some o → H' x = some o, ⟨ns.length, 7, none, rfl, Nat.zero_le _, rfl, fun _ _ e => e⟩, ?_⟩
    rintro i m σ H' ⟨z, y, rfl, hi, rfl, eH⟩
    by_cases hlt : i < ns.length
    · have g1 : (ns.map V.int)[i]? = some (.int ns[i]) := by rw [List.getElem?_map, List.getElem?_eq_getElem hlt]; rfl
      refine .inr ⟨⟨_, _, hC _ eH, g1⟩, fun σ' H'' => ∃ z y, σ' = [some (.ref a), some (.int z), y] ∧ ∀ x o, (upd H c (.lst (ns.map V.int))) x = some o → H'' x = some o, ?_, fun v H'' hy => ?_⟩
      · rintro σ' H'' ⟨z, y, rfl, e⟩
        exact ⟨ns.length - (i + 1), by omega, z, y, rfl, by omega, rfl, e⟩
      · obtain ⟨rfl, fv⟩ := hy
        have ev' : v = .int ns[i] := Option.some.inj ((fv _ (hC _ eH)).symm.trans g1)
        subst ev'
        have hval := pool_val z ns[i]
        generalize (z * 31 + ns[i]) % 1000003 = r at hval
        refine ⟨[.no, .dat (.int z), .dat (.int ns[i])], π0, fun _ => none, .int r, π0, ⟨⟨rfl, fun j d hj => ?_, fun j c hj => ?_, fun j l c c' a hj => ?_, fun j hj => ?_⟩, (fun _ _ e => by cases e), PoolAt.no⟩, hval, fun F1 H1 v g _ rv => ⟨r, some (.int ns[i]), by rw [rp_int rv]; rfl, fun x o e => g.h x o (by simp) (eH x o e)⟩⟩
        · match j, hj with
          | 0, hj => cases hj
          | 1, hj => cases hj; exact ⟨_, rfl, .int _⟩
          | 2, hj => cases hj; exact ⟨_, rfl, .int _⟩
        · match j, hj with
          | 0, hj => cases hj
          | 1, hj => cases hj
          | 2, hj => cases hj
        · match j, hj with
          | 0, hj => cases hj
          | 1, hj => cases hj
          | 2, hj => cases hj
        · match j, hj with
          | 0, hj => cases hj
          | 1, hj => cases hj
          | 2, hj => cases hj
    · have hie : i = ns.length := by omega
      subst hie
      refine .inl ⟨⟨_, hC _ eH, by rw [List.length_map]; exact Nat.le_refl _⟩, ?_⟩
      have eHH : ∀ x o, H x = some o → H' x = some o := fun x o e => eH x o (s1 x o e)
      refine ⟨.ref a, rfl, a, _, rfl, .inl (sq_ex eHH hS), fun sa nsa => ?_⟩
      refine ⟨.int z, rfl, by show 5 ≤ sizeLine; decide, fun p np => ?_⟩
      have hps : p ≠ sa := fun e => by rw [e, upd_same] at np; cases np
      have np' : H' p = none := by rw [upd_ne hps] at np; exact np
      refine q _ p sa z (fun x o e => ?_) ?_ ?_ hps upd_same (by rw [upd_ne (Ne.symm hps), upd_same])
      · rw [upd_ne (ne_of_none (eHH x o e) np'), upd_ne (ne_of_none (eHH x o e) nsa)]; exact eHH x o e
      · cases e : H p with
        | none => rfl
        | some o => rw [eHH p o e] at np'; cases np'
      · cases e : H sa with
        | none => rfl
        | some o => rw [eHH sa o e] at nsa; cases nsa
def spLaw (K : PySem.W.Frag) : Sp := fun vs H Q _ => ∃ (a : Addr) (ns : List Int), vs = [.ref a] ∧ SqL K H a (ns.map V.int) ∧ ns.length ≤ 63 ∧ ∀ H', Q (.bl true) H'
theorem le63 {n : Nat} (h : n ≤ 63) : n ≤ sizeLine := Nat.le_trans h (by decide)
/-- the slots behind the pool's making -/
def lawS (n : Nat) : Sl := .no :: .pool :: nos (n - 2)
/-- a law's body answers True -/
def LawTrue (n : Nat) (sl : SL) : Prop := ∀ (ns : List Int) (salt : Int) (h : ns.length ≤ 63), ∃ π', exs sl (lawS n) ⟨ns, 0, 0, 0, salt, le63 h⟩ = some (.rt (.bool true), π')
theorem pss_ex {X : Cx} {st : List Stmt} {α : Type} {t : α → TS} (h : ∀ a, PSs X st (t a)) : PSs X st (fun D σ H => ∃ a, t a D σ H) := ⟨fun pins s σ H D I ⟨a, q⟩ => (h a).run pins s σ H D I q⟩
theorem law_env [Wd] {K : PySem.W.Frag} {F H : Hp} {n : Nat} {a p : Addr} {N : List Str} (hn : N.length = n + 2) : Env K (some p) ((L2.start N [V.ref a]).set 1 (some (.ref p))) (lawS (n + 2)) F H where
  len := by simp [L2.start, lawS, nos, hn]
  dat := fun i d h => by
    match i, h with
    | 0, h => cases h
    | 1, h => cases h
    | i + 2, h =>
      have := List.mem_of_getElem? (show (nos (n + 2 - 2))[i]? = some (Slot.dat d) from h)
      rw [nos, List.mem_replicate] at this; cases this.2
  own := fun i c h => by
    match i, h with
    | 0, h => cases h
    | 1, h => cases h
    | i + 2, h =>
      have := List.mem_of_getElem? (show (nos (n + 2 - 2))[i]? = some (Slot.own c) from h)
      rw [nos, List.mem_replicate] at this; cases this.2
  inj := fun i j c c' b h => by
    match i, h with
    | 0, h => cases h
    | 1, h => cases h
    | i + 2, h =>
      have := List.mem_of_getElem? (show (nos (n + 2 - 2))[i]? = some (Slot.own c) from h)
      rw [nos, List.mem_replicate] at this; cases this.2
  pool := fun i h => by
    match i, h with
    | 0, h => cases h
    | 1, h =>
      refine ⟨p, rfl, ?_⟩
      rw [List.getElem?_set_self (by simp [L2.start, hn])]
    | i + 2, h =>
      have := List.mem_of_getElem? (show (nos (n + 2 - 2))[i]? = some Slot.pool from h)
      rw [nos, List.mem_replicate] at this; cases this.2
theorem ok_law {N : List Str} {n : Nat} {p1 p2 p3 p4 p5 : Pos} {rest : List Stmt} (F : FunD K x qual params body scope [] [] f fd) (S : FnScope N ["script"] scope) (free : ∀ n ∈ frees, mg n = none) (GP : FnSem P w K mg base k ("_law_pool" : Str) (spPool K))
    (hb : body = .Assign [.Name "pool" p1] (.Call (.Name "_law_pool" p2) [.Name "script" p3] [] p4) p5 :: rest) (hn : N.length = n + 2) (hN0 : N[0]? = some ("script" : Str)) (hN1 : N[1]? = some ("pool" : Str))
    (hs0 : varB N scope 0 "script" = true) (hs1 : stoB N scope anyT 1 "pool" = true) (hs2 : glB scope "_law_pool" = true) (sl : SL) (hc : chkSL N scope sl rest = true) (ho : sl.ok ⟨P, w, K, mg, base⟩ k) (hT : LawTrue (n + 2) sl) :
    FnOk P w K mg base CX0 (k + 1) f fd ["script"] (spLaw K) := by
  letI : Wd := ⟨P, w⟩
  refine F.ok S (fun vs H Q E h => ?_) (fun cdv A outer s H vs Q E hr h => ?_)
  · obtain ⟨a, ns, rfl, _⟩ := h; rfl
  · obtain ⟨a, ns, rfl, hS, hlen, q⟩ := h
    subst hb
    have hP := par_of (P := P) (w := w) (K := K) (mg := mg) (base := base) (qual := qual) (cdv := cdv) (A := A) (outer := outer) (s := s) (H := H) (E := E) (f := f) rfl S free hr
    obtain ⟨v1, v2, v3, v4⟩ := var_of hs0
    obtain ⟨fa, fdp, ps, FP, hm, hk, hbd⟩ := GP.ex
    have g2 := gl_of (X := (cxOf CX0 P w K mg base N qual scope f cdv A outer s H E).nox) hs2
    have hpe := pe_call (X := (cxOf CX0 P w K mg base N qual scope f cdv A outer s H E).nox) (p := p2) (pos := p4) FP hr g2.1 hm hk hbd .nil pass0 (pa_cons (pe_var (X := (cxOf CX0 P w K mg base N qual scope f cdv A outer s H E).nox) (pos := p3) v1 v2 v3 v4) pa_nil) g2.2
    obtain ⟨t1, t2⟩ := sto_ok hs1
    refine ⟨_, PSs.nox (pss_cons (ps_set (i := 1) S.nd t1 t2 hpe rfl (.inl rfl)) (pss_ex fun b => snd_sl (some b) k sl _ rest hP ho hc)), ?_⟩
    refine ⟨.ref a, rfl, a, ns, rfl, hS, hlen, fun H' p sa salt e np nsa hps hp hsa => ?_⟩
    obtain ⟨π', hv⟩ := hT ns salt hlen
    have hF : Ex (fun y => if y = sa then some (HO.lst (ns.map V.int)) else none) H' := fun y o e => by
      by_cases h : y = sa
      · subst h; simp only [if_true] at e; cases e; exact hsa
      · simp only [h, if_false] at e; cases e
    refine ⟨p, fun y => if y = sa then some (HO.lst (ns.map V.int)) else none, H', _, _, _, _, π', ⟨⟨law_env hn, hF, fun b hb => ?_⟩, Grow.refl hF, fun i c b hc => ?_⟩, hv, fun F' H'' v _ _ r => by rw [rp_bool r]; exact q H''⟩
    · cases hb
      exact ⟨by simp [hps], sa, hp, by simp⟩
    · match i, hc with
      | 0, hc => cases hc
      | 1, hc => cases hc
      | i + 2, hc =>
        have := List.mem_of_getElem? (show (nos (n + 2 - 2))[i]? = some (Slot.own c) from hc)
        rw [nos, List.mem_replicate] at this; cases this.2
end
theorem sem_mono {P : Program} {w : World} {K : PySem.W.Frag} {mg : Str → Option Value} {base : Heap} {j k : Nat} {n : Str} {sp : Sp} (h : FnSem P w K mg base j n sp) (hk : j ≤ k) : FnSem P w K mg base k n sp := by
  obtain ⟨fa, fd, ps, F, r⟩ := h.ex
  exact ⟨fa, fd, ps, F.mono hk, r⟩
theorem Gn.fn_mono {G : Gn} {j k : Nat} {n : Str} {f : Fn} (h : G.fn j n f) (hk : j ≤ k) : G.fn k n f := sem_mono h hk
theorem Gn.fnP_mono {G : Gn} {j k : Nat} {n : Str} {f : FnP} (h : G.fnP j n f) (hk : j ≤ k) : G.fnP k n f := sem_mono h hk
theorem ok_none {P : Program} {w : World} {K : PySem.W.Frag} {mg : Str → Option Value} {base : Heap} {k : Nat} {f : Addr} {fd : FuncData} {ps : List Str} : FnOk P w K mg base CX0 k f fd ps (spF K fun _ => none) :=
  ⟨fun vs H Q E h => (by obtain ⟨_, _, _, _, _, hf, _⟩ := h; cases hf), fun A outer s H args us vs Q E _ _ _ _ h => (by obtain ⟨_, _, _, _, _, hf, _⟩ := h; cases hf)⟩
theorem free_of {K : PySem.W.Frag} {h : Heap} {mg : Str → Option Value} {gl : List He.Fa} {fn : List He.DefD} (X : K.In h) (G : h.Ns mainGlobals mg) (c : He.SaysD (gl ++ frees.map .free) fn K) : ∀ n ∈ frees, mg n = none := fun n hn => by
  obtain ⟨j, hj⟩ := List.mem_iff_getElem?.mp hn
  exact He.free_ok X G (c.fact (gl.length + j) (f := .free n) (by rw [List.getElem?_append_right (Nat.le_add_right _ _), Nat.add_sub_cancel_left, List.getElem?_map, hj]; rfl))
end SR
end
section
/-! SrRun: what runs for every pool, and answers as Q says. -/
namespace SR
open PySem PySem.Spec PyProof.Rows L2
def Run {α : Type} (m : M α) (Q : α → Prop) : Prop := ∀ π : Pool, 0 ≤ π.pos → ∃ a π', m π = some (a, π') ∧ 0 ≤ π'.pos ∧ Q a
theorem Run.ret {α : Type} {a : α} {Q : α → Prop} (h : Q a) : Run (SR.ret a) Q := fun π h0 => ⟨a, π, rfl, h0, h⟩
theorem Run.eq {α : Type} {m : M α} {a : α} {Q : α → Prop} (e : m = SR.ret a) (h : Q a) : Run m Q := by rw [e]; exact .ret h
theorem Run.bnd {α β : Type} {m : M α} {f : α → M β} {Q : β → Prop} (h : Run m fun a => Run (f a) Q) : Run (SR.bnd m f) Q := fun π h0 => by
  obtain ⟨a, π1, e1, p1, h1⟩ := h π h0
  obtain ⟨b, π2, e2, p2, h2⟩ := h1 π1 p1
  exact ⟨b, π2, by rw [bnd_ap e1, e2], p2, h2⟩
theorem Run.mono {α : Type} {m : M α} {P Q : α → Prop} (h : Run m P) (i : ∀ a, P a → Q a) : Run m Q := fun π h0 => by
  obtain ⟨a, π1, e1, p1, h1⟩ := h π h0
  exact ⟨a, π1, e1, p1, i a h1⟩
variable [Wd]
theorem run_exs {s : S} {r : SL} {ρ : Sl} {Q : Out → Prop} (h : Run (ex s ρ) fun o => match o with
    | .nx ρ' => Run (exs r ρ') Q
    | .rt d => Q (.rt d)) : Run (exs (.cons s r) ρ) Q := by
  rw [exs_cons]
  refine .bnd (h.mono fun o q => ?_)
  cases o with
  | nx ρ' => exact q
  | rt d => exact .ret q
theorem run_nil {ρ : Sl} {Q : Out → Prop} (h : Q (.nx ρ)) : Run (exs .nil ρ) Q := by rw [exs]; exact .ret h
theorem run_asg {tg : Tg} {e : E} {r : SL} {ρ : Sl} {Q : Out → Prop} (h : Run (ev e ρ) fun d => ∃ ρ', bindT tg d ρ = some ρ' ∧ Run (exs r ρ') Q) : Run (exs (.cons (.asg tg e) r) ρ) Q := by
  refine run_exs ?_
  rw [ex]
  refine Run.bnd (h.mono fun d q => ?_)
  obtain ⟨ρ', e, q⟩ := q
  simp only [e]
  exact .ret q
/-- an assignment to a name -/
theorem run_set {i : Nat} {e : E} {r : SL} {ρ : Sl} {Q : Out → Prop} {d : D} (h : ev e ρ = SR.ret d) (q : Run (exs r (ρ.set i (.dat d))) Q) : Run (exs (.cons (.asg (.v i) e) r) ρ) Q := run_asg (.eq h ⟨_, rfl, q⟩)
theorem run_skip {c : E} {a r : SL} {ρ : Sl} {Q : Out → Prop} {d : D} (h : ev c ρ = SR.ret d) (ht : truth d = some false) (q : Run (exs r ρ) Q) : Run (exs (.cons (.ife c a .nil) r) ρ) Q := by
  refine run_exs ?_
  rw [ex_ife, h, bnd_ret, truthM, ht, lift_some, bnd_ret, if_neg Bool.false_ne_true]
  exact run_nil q
theorem run_ife {c : E} {a b r : SL} {ρ : Sl} {Q : Out → Prop} {d : D} {k : Bool} (h : ev c ρ = SR.ret d) (ht : truth d = some k) (q : Run (if k then exs a ρ else exs b ρ) fun o => match o with
    | .nx ρ' => Run (exs r ρ') Q
    | .rt d => Q (.rt d)) : Run (exs (.cons (.ife c a b) r) ρ) Q := by
  refine run_exs ?_
  rw [ex_ife, h, bnd_ret, truthM, ht, lift_some, bnd_ret]
  exact q
theorem run_ret {e : E} {r : SL} {ρ : Sl} {Q : Out → Prop} (h : Run (ev e ρ) fun d => Q (.rt d)) : Run (exs (.cons (.ret e) r) ρ) Q := by
  refine run_exs ?_
  rw [ex]
  exact .bnd (h.mono fun d q => .ret q)
theorem run_forL {α : Type} {en : α → D} {tg : Tg} {b : Sl → M Out} {Q : Out → Prop} (I : List α → Sl → Prop) : ∀ (xs done : List α) (ρ : Sl), I done ρ →
    (∀ d x r ρ, done ++ xs = d ++ x :: r → I d ρ → ∃ ρ1, bindT tg (en x) ρ = some ρ1 ∧ Run (b ρ1) fun o => match o with
      | .nx ρ2 => I (d ++ [x]) ρ2
      | .rt d => Q (.rt d)) → (∀ ρ', I (done ++ xs) ρ' → Q (.nx ρ')) → Run (forL tg b (xs.map en) ρ) Q
  | [], done, ρ, h, _, hq => .ret (hq ρ (by rw [List.append_nil]; exact h))
  | x :: xs, done, ρ, h, hs, hq => by
    obtain ⟨ρ1, h1, h2⟩ := hs done x xs ρ rfl h
    rw [List.map_cons, forL]
    simp only [h1]
    refine .bnd (h2.mono fun o q => ?_)
    cases o with
    | nx ρ2 => exact run_forL I xs (done ++ [x]) ρ2 q (fun d y r ρ e => hs d y r ρ (by rw [← e, List.append_assoc]; rfl)) fun ρ' i => hq ρ' (by rw [List.append_assoc] at i; exact i)
    | rt d => exact .ret q
theorem run_for {α : Type} {en : α → D} {tg : Tg} {it : E} {b r : SL} {ρ : Sl} {Q : Out → Prop} {d : D} {xs : List α} (I : List α → Sl → Prop) (h : ev it ρ = SR.ret d) (hi : iterD d = some (xs.map en)) (h0 : I [] ρ)
    (hs : ∀ done x rest ρ, xs = done ++ x :: rest → I done ρ → ∃ ρ1, bindT tg (en x) ρ = some ρ1 ∧ Run (exs b ρ1) fun o => match o with
      | .nx ρ2 => I (done ++ [x]) ρ2
      | .rt d => Q (.rt d)) (hk : ∀ ρ', I xs ρ' → Run (exs r ρ') Q) : Run (exs (.cons (.for_ tg it b) r) ρ) Q := by
  refine run_exs ?_
  rw [ex, h, bnd_ret, hi, lift_some, bnd_ret]
  exact run_forL (Q := fun o => match o with
    | .nx ρ' => Run (exs r ρ') Q
    | .rt d => Q (.rt d)) I xs [] ρ h0 hs hk
theorem run_law {n : Nat} {sl : SL} (h : Run (exs sl (lawS n)) fun o => o = .rt (.bool true)) : LawTrue n sl := fun ns salt hn => by
  obtain ⟨a, π', e, _, rfl⟩ := h ⟨ns, 0, 0, 0, salt, le63 hn⟩ (Int.le_refl _)
  exact ⟨π', e⟩
theorem run_draw {i m : Nat} {e : E} {n : Str} {ρ : Sl} (hp : ρ[i]? = some .pool) (he : ev e ρ = SR.ret (intD m)) (h0 : 0 < m) (hm : m < 1073741824) : Run (ev (.callP i n f_draw (.cons e .nil)) ρ) fun d => ∃ v, v < m ∧ d = intD v := fun π h => by
  obtain ⟨v, π1, e1, v0, v1, p1⟩ := draw_ok π m h (by omega) (by omega)
  refine ⟨_, π1, ?_, p1, v.toNat, by omega, congrArg PyData.int (Int.toNat_of_nonneg v0).symm⟩
  simp only [ev, evs, hp, he, bnd_ret]
  exact e1
theorem run_shape {i m : Nat} {n : Str} {ρ : Sl} (hp : ρ[i]? = some .pool) (hm : m ≤ 999) : Run (ev (.callP i n f_shape (.cons (.k (.int m)) .nil)) ρ) fun d => ∃ ws : List Bool, ws.length ≤ m ∧ d = .str (wd ws) := fun π h => by
  obtain ⟨ws, π1, e1, v1, p1⟩ := shape_ok π m h (by omega) (by omega)
  refine ⟨_, π1, ?_, p1, ws, by omega, rfl⟩
  simp only [ev, evs, hp, bnd_ret]
  exact e1
/-- a comprehension whose items are drawn -/
theorem run_comp {α β : Type} {tg : Tg} {it el : E} {own : List Nat} {ρ : Sl} {d : D} {xs : List α} {en : α → D} {en' : β → D} {P : β → Prop} (h : ev it ρ = SR.ret d) (hi : iterD d = some (xs.map en))
    (hg : ∀ x ∈ xs, ∃ ρ', bindT tg (en x) (wipeS ρ own) = some ρ' ∧ Run (ev el ρ') fun y => ∃ b, P b ∧ y = en' b) : Run (ev (.comp tg it .nil el own) ρ) fun y => ∃ bs : List β, bs.length = xs.length ∧ (∀ b ∈ bs, P b) ∧ y = .list (bs.map en') := by
  simp only [ev, h, bnd_ret, hi, lift_some]
  suffices s : Run (compL (fun x => match bindT tg x (wipeS ρ own) with
      | some ρ' => SR.bnd (evC .nil ρ') fun k => if k then SR.bnd (ev el ρ') fun y => SR.ret (some y) else SR.ret none
      | none => stuck) (xs.map en)) fun ys => ∃ bs : List β, bs.length = xs.length ∧ (∀ b ∈ bs, P b) ∧ ys = bs.map en' by
    refine .bnd (s.mono ?_)
    rintro ys ⟨bs, h1, h2, rfl⟩
    exact .ret ⟨bs, h1, h2, rfl⟩
  clear h hi
  induction xs with
  | nil => exact .ret ⟨[], rfl, (fun b h => by cases h), rfl⟩
  | cons x xs ih =>
    rw [List.map_cons, compL]
    obtain ⟨ρ', h1, h2⟩ := hg x (.head _)
    simp only [h1, evC, bnd_ret, if_true]
    refine .bnd (.bnd (h2.mono ?_))
    rintro y ⟨b, hb, rfl⟩
    refine .ret (.bnd ((ih fun z hz => hg z (.tail _ hz)).mono ?_))
    rintro ys ⟨bs, l, hbs, rfl⟩
    refine .ret ⟨b :: bs, by simp [l], ?_, rfl⟩
    intro c hc
    rcases List.mem_cons.mp hc with rfl | hc
    · exact hb
    · exact hbs c hc
/-- a list of drawn numbers -/
theorem run_draws {i j n m : Nat} {e : E} {nm : Str} {ρ : Sl} (hp : ρ[i]? = some .pool) (hj : j ≠ i) (he : ev e ρ = SR.ret (intD n)) (hn : n ≤ 16777216) (h0 : 0 < m) (hm : m < 1073741824) :
    Run (ev (.comp (.v j) (.rng1 e) .nil (.callP i nm f_draw (.cons (.k (.int m)) .nil)) [j]) ρ) fun d => ∃ s : List Nat, s.length = n ∧ (∀ x ∈ s, x < m) ∧ d = .list (s.map intD) := by
  have := run_comp (tg := .v j) (own := [j]) (el := .callP i nm f_draw (.cons (.k (.int m)) .nil)) (xs := List.range n) (en := intD) (P := fun x => x < m) (en' := intD) (ev_rng1 he hn) rfl fun x _ => by
    refine ⟨_, rfl, ?_⟩
    refine run_draw (m := m) ?_ (by rw [ev]) h0 hm
    simp only [wipeS]
    rw [List.getElem?_set_ne hj, List.getElem?_set_ne hj]
    exact hp
  rw [List.length_range] at this
  exact this
theorem getD_lt {s : List Nat} {m : Nat} (h : ∀ x ∈ s, x < m + 1) (k : Nat) : s.getD k 0 ≤ m := by
  rw [List.getD_eq_getElem?_getD]
  cases e : s[k]? with
  | none => exact Nat.zero_le _
  | some x =>
    have := h x (List.mem_of_getElem? e)
    show x ≤ m
    omega
end SR
end
section
/-! SrSz: the def sizes_by. -/
namespace SR
open PySem PySem.Spec PyProof.Rows L2
variable [Wd]
def c_szIn : E := (.comp (.t2 (.t2 (.v 2) (.v 3)) (.v 4)) (.var 1) (.cons (.cmp2 .le .le (.var 2) (.var 5) (.var 3)) .nil) (.var 4) [4, 2, 3])
def i_sz : SL := (.cons (.ret (.bi .tuple (.cons (.comp (.v 5) (.rng1 (.op2 .add (.bi .len (.cons (.var 0) .nil)) (.k (.int 1)))) .nil (.bi .sum (.cons (.comp (.t2 (.t2 (.v 2) (.v 3)) (.v 4)) (.var 1) (.cons (.cmp2 .le .le (.var 2) (.var 5) (.var 3)) .nil) (.var 4) [4, 2, 3]) .nil)) [5]) .nil))) .nil)
def f_sz : Fn := den 2 6 i_sz
theorem wd_len (ws : List Bool) : (wd ws).length = ws.length := by simp [wd, Str.length]
theorem q_lens {ws : List Bool} (h : ws.length ≤ 1000) : bi .len [.str (wd ws)] = some (intD ws.length) := by
  have sl : sizeLine = 16777216 := by decide
  simp only [bi, lenD, wd_len]
  rw [if_pos (by omega)]; rfl
theorem ev_lenS {i : Nat} {ρ : Sl} {ws : List Bool} (h : ρ[i]? = some (.dat (.str (wd ws)))) (hw : ws.length ≤ 1000) : ev (.bi .len (.cons (.var i) .nil)) ρ = ret (intD ws.length) := by
  simp only [ev, evs, h, bnd_ret, q_lens hw, lift_some]
theorem ev_len1 {i : Nat} {ρ : Sl} {ws : List Bool} (h : ρ[i]? = some (.dat (.str (wd ws)))) (hw : ws.length ≤ 1000) : ev (.op2 .add (.bi .len (.cons (.var i) .nil)) (.k (.int 1))) ρ = ret (intD (ws.length + 1)) := by
  rw [ev, ev_lenS h hw, bnd_ret, ev, bnd_ret, q_add, lift_some]; rfl
theorem szIn_ok {s0 : Slot} {t : List En} {k : Nat} : ev c_szIn [s0, .dat (tabD t), .no, .no, .no, .dat (intD k)] = ret (.list ((t.filter fun e => cov e.1 k).map fun e => intD e.2)) := by
  refine comp_map (xs := t) (en := entD) (d := tabD t) (fun e => cov e.1 k) (fun e => intD e.2) rfl rfl fun e _ => ?_
  refine ⟨[s0, .dat (tabD t), .dat (intD e.1.1), .dat (intD e.1.2), .dat (intD e.2), .dat (intD k)], rfl, ?_, fun _ => rfl⟩
  have v2 : ev (.var 2) [s0, .dat (tabD t), .dat (intD e.1.1), .dat (intD e.1.2), .dat (intD e.2), .dat (intD k)] = ret (.int (e.1.1 : Nat)) := rfl
  have v3 : ev (.var 3) [s0, .dat (tabD t), .dat (intD e.1.1), .dat (intD e.1.2), .dat (intD e.2), .dat (intD k)] = ret (.int (e.1.2 : Nat)) := rfl
  have v5 : ev (.var 5) [s0, .dat (tabD t), .dat (intD e.1.1), .dat (intD e.1.2), .dat (intD e.2), .dat (intD k)] = ret (.int (k : Nat)) := rfl
  rw [evC, ev, v2, bnd_ret, v5, bnd_ret, q_le, lift_some, bnd_ret, v3, bnd_ret, q_le, lift_some, bnd_ret]
  by_cases h1 : e.1.1 ≤ k
  · have : cov e.1 k = decide (k ≤ e.1.2) := by unfold cov; rw [decide_eq_true h1]; rfl
    rw [decide_eq_true (show (e.1.1 : Int) ≤ k by omega), if_pos rfl, bnd_ret, this, decide_eq_decide.mpr (show (k : Int) ≤ (e.1.2 : Nat) ↔ k ≤ e.1.2 by omega)]
    rfl
  · have : cov e.1 k = false := by unfold cov; rw [decide_eq_false h1]; rfl
    rw [decide_eq_false (show ¬ (e.1.1 : Int) ≤ k by omega), if_neg Bool.false_ne_true, bnd_ret, this]
    rfl
def szT (n : Nat) (t : List En) : List Nat := (List.range n).map fun k => ((t.filter fun e => cov e.1 k).map (·.2)).sum
theorem sz_ok (ws : List Bool) (t : List En) (hw : ws.length ≤ 1000) : f_sz [.str (wd ws), tabD t] = some (szD (szT (ws.length + 1) t)) := by
  have e : exs i_sz [.dat (.str (wd ws)), .dat (tabD t), .no, .no, .no, .no] = ret (.rt (szD (szT (ws.length + 1) t))) := by
    have c := comp_all (tg := .v 5) (own := [5]) (el := .bi .sum (.cons c_szIn .nil)) (ρ := [.dat (.str (wd ws)), .dat (tabD t), .no, .no, .no, .no]) (xs := List.range (ws.length + 1)) (en := intD)
      (fun k => intD ((t.filter fun e => cov e.1 k).map (·.2)).sum) (ev_rng1 (ev_len1 (i := 0) rfl hw) (by omega)) rfl fun k _ => ⟨_, rfl, by
        have q : bi .sum [.list ((t.filter fun e => cov e.1 k).map fun e => intD e.2)] = some (intD ((t.filter fun e => cov e.1 k).map (·.2)).sum) := q_sumN (by rw [List.map_map]; rfl)
        show ev _ [.dat (.str (wd ws)), .dat (tabD t), .no, .no, .no, .dat (intD k)] = _
        rw [ev, evs, szIn_ok, bnd_ret, evs, bnd_ret, bnd_ret, q, lift_some]⟩
    have c' : ev (.comp (.v 5) (.rng1 (.op2 .add (.bi .len (.cons (.var 0) .nil)) (.k (.int 1)))) .nil (.bi .sum (.cons (.comp (.t2 (.t2 (.v 2) (.v 3)) (.v 4)) (.var 1) (.cons (.cmp2 .le .le (.var 2) (.var 5) (.var 3)) .nil) (.var 4) [4, 2, 3]) .nil)) [5]) [.dat (.str (wd ws)), .dat (tabD t), .no, .no, .no, .no] = _ := c
    have q2 : ∀ ds, bi .tuple [.list ds] = some (.tuple ds) := fun _ => rfl
    rw [i_sz, exs_cons, ex, ev, evs, c', bnd_ret, evs, bnd_ret, bnd_ret, q2, lift_some, bnd_ret, bnd_ret]
    simp only [szD, szT, List.map_map]
    rfl
  show ((exs i_sz [.dat (.str (wd ws)), .dat (tabD t), .no, .no, .no, .no] π0).map fun p => outD p.1) = _
  rw [e]; rfl
theorem szT_tab {s : List Nat} {μ : Mu} (h : Hits s.length μ s) : szT s.length (tab s.length μ) = s := by
  refine List.ext_getElem (by simp [szT]) fun k h1 h2 => ?_
  simp only [szT, List.getElem_map, List.getElem_range]
  rw [tab_sum, h k h2, List.getD_eq_getElem?_getD, List.getElem?_eq_getElem h2]
  rfl
end SR
end
section
/-! SrLw: small rules for the bodies of laws. -/
namespace SR
open PySem PySem.Spec PyProof.Rows L2
variable [Wd]
/-- some world: plain laws hold in each -/
abbrev wd0 (p : Program) : Wd := ⟨p, ⟨fun _ _ => 0, { strHash := fun _ => 0, shareClass := fun _ => 0, mergeTok := id, idOf := fun _ => 0, idOfShared := fun _ _ => 0, followText := fun _ => false, idOfImm := fun _ => 0 }⟩⟩
theorem sl_val : sizeLine = 16777216 := by decide
theorem run_bi1 {b : Bi} {e : E} {ρ : Sl} {Q : D → Prop} (h : Run (ev e ρ) fun d => ∃ y, bi b [d] = some y ∧ Q y) : Run (ev (.bi b (.cons e .nil)) ρ) Q := by
  rw [ev, evs, evs]
  refine .bnd (.bnd (h.mono ?_))
  rintro d ⟨y, e, q⟩
  refine .bnd (.ret (.ret ?_))
  rw [e]
  exact .ret q
theorem ev_bi1 {b : Bi} {e : E} {ρ : Sl} {d y : D} (h : ev e ρ = ret d) (hb : bi b [d] = some y) : ev (.bi b (.cons e .nil)) ρ = ret y := by
  rw [ev, evs, evs, h]; simp only [bnd_ret, hb, lift_some]
theorem ev_call1 {n : Str} {f : Fn} {e : E} {ρ : Sl} {d y : D} (h : ev e ρ = ret d) (hf : f [d] = some y) : ev (.call n f (.cons e .nil)) ρ = ret y := by
  rw [ev, evs, evs, h]; simp only [bnd_ret, hf, lift_some]
theorem ev_call2 {n : Str} {f : Fn} {e e1 : E} {ρ : Sl} {d d1 y : D} (h : ev e ρ = ret d) (h1 : ev e1 ρ = ret d1) (hf : f [d, d1] = some y) : ev (.call n f (.cons e (.cons e1 .nil))) ρ = ret y := by
  rw [ev, evs, evs, evs, h, h1]; simp only [bnd_ret, hf, lift_some]
theorem ev_call3 {n : Str} {f : Fn} {e e1 e2 : E} {ρ : Sl} {d d1 d2 y : D} (h : ev e ρ = ret d) (h1 : ev e1 ρ = ret d1) (h2 : ev e2 ρ = ret d2) (hf : f [d, d1, d2] = some y) : ev (.call n f (.cons e (.cons e1 (.cons e2 .nil)))) ρ = ret y := by
  rw [ev, evs, evs, evs, evs, h, h1, h2]; simp only [bnd_ret, hf, lift_some]
theorem ev_var {i : Nat} {ρ : Sl} {d : D} (h : ρ[i]? = some (.dat d)) : ev (.var i) ρ = ret d := by rw [ev, h]
theorem ev_op2 {o : Op2} {a b : E} {ρ : Sl} {x y z : D} (h1 : ev a ρ = ret x) (h2 : ev b ρ = ret y) (h : op2 o x y = some z) : ev (.op2 o a b) ρ = ret z := by
  rw [ev, h1, bnd_ret, h2, bnd_ret, h, lift_some]
theorem ev_cmp' {c : Cmp} {a b : E} {ρ : Sl} {x y : D} {k : Bool} (h1 : ev a ρ = ret x) (h2 : ev b ρ = ret y) (h : cmpD c x y = some k) : ev (.cmp c a b) ρ = ret (.bool k) := by
  rw [ev, h1, bnd_ret, h2, bnd_ret, h, lift_some, bnd_ret]
theorem ev_not {a : E} {ρ : Sl} {x : D} {k : Bool} (h1 : ev a ρ = ret x) (h : truth x = some k) : ev (.not a) ρ = ret (.bool (!k)) := by
  rw [ev, h1, bnd_ret, truthM, h, lift_some, bnd_ret]
theorem ev_or {a b : E} {ρ : Sl} {x : D} {k : Bool} (h1 : ev a ρ = ret x) (h : truth x = some k) : ev (.or a b) ρ = if k then ret x else ev b ρ := by
  rw [ev, h1, bnd_ret, truthM, h, lift_some, bnd_ret]
theorem ev_and' {a b : E} {ρ : Sl} {x : D} {k : Bool} (h1 : ev a ρ = ret x) (h : truth x = some k) : ev (.and a b) ρ = if k then ev b ρ else ret x := by
  rw [ev, h1, bnd_ret, truthM, h, lift_some, bnd_ret]
theorem ev_ix' {a b : E} {ρ : Sl} {x y z : D} (h1 : ev a ρ = ret x) (h2 : ev b ρ = ret y) (h : ixD x y = some z) : ev (.ix a b) ρ = ret z := by
  rw [ev, h1, bnd_ret, h2, bnd_ret, h, lift_some]
theorem ev_lst1 {a : E} {ρ : Sl} {x : D} (h : ev a ρ = ret x) : ev (.lst (.cons a .nil)) ρ = ret (.list [x]) := by
  rw [ev, evs, evs, h]; rfl
theorem ev_lst2 {a b : E} {ρ : Sl} {x y : D} (h : ev a ρ = ret x) (h2 : ev b ρ = ret y) : ev (.lst (.cons a (.cons b .nil))) ρ = ret (.list [x, y]) := by
  rw [ev, evs, evs, evs, h, h2]; rfl
theorem ev_lst3 {a b c : E} {ρ : Sl} {x y z : D} (h : ev a ρ = ret x) (h2 : ev b ρ = ret y) (h3 : ev c ρ = ret z) : ev (.lst (.cons a (.cons b (.cons c .nil)))) ρ = ret (.list [x, y, z]) := by
  rw [ev, evs, evs, evs, evs, h, h2, h3]; rfl
theorem ev_tup1 {a : E} {ρ : Sl} {x : D} (h : ev a ρ = ret x) : ev (.tup (.cons a .nil)) ρ = ret (.tuple [x]) := by
  rw [ev, evs, evs, h]; rfl
theorem ev_tup2 {a b : E} {ρ : Sl} {x y : D} (h : ev a ρ = ret x) (h2 : ev b ρ = ret y) : ev (.tup (.cons a (.cons b .nil))) ρ = ret (.tuple [x, y]) := by
  rw [ev, evs, evs, evs, h, h2]; rfl
theorem ev_tup3 {a b c : E} {ρ : Sl} {x y z : D} (h : ev a ρ = ret x) (h2 : ev b ρ = ret y) (h3 : ev c ρ = ret z) : ev (.tup (.cons a (.cons b (.cons c .nil)))) ρ = ret (.tuple [x, y, z]) := by
  rw [ev, evs, evs, evs, evs, h, h2, h3]; rfl
theorem ev_rev {a : E} {ρ : Sl} {ds : List D} (h : ev a ρ = ret (.tuple ds)) : ev (.rev a) ρ = ret (.tuple ds.reverse) := by rw [ev, h]; rfl
theorem cutL_hi {α : Type} {xs : List α} {k : Nat} : cutL xs none (some (k : Int)) = xs.take k := by
  unfold cutL
  rw [HT.sIx_none, HT.sIx_nat, List.drop_zero, Nat.sub_zero, List.take_eq_take_iff]; omega
theorem cutL_lo {α : Type} {xs : List α} {k : Nat} : cutL xs (some (k : Int)) none = xs.drop k := by
  unfold cutL
  rw [HT.sIx_none, HT.sIx_nat]
  rcases Nat.le_total k xs.length with h | h
  · rw [Nat.min_eq_left h]
    exact List.take_of_length_le (by rw [List.length_drop]; omega)
  · rw [Nat.min_eq_right h, List.drop_of_length_le (Nat.le_refl _), List.drop_of_length_le h, List.take_nil]
theorem ev_slhi {a e : E} {ρ : Sl} {ds : List D} {k : Nat} (h : ev a ρ = ret (.tuple ds)) (h2 : ev e ρ = ret (intD k)) : ev (.sl a .nil (.cons e .nil)) ρ = ret (.tuple (ds.take k)) := by
  rw [ev, h, bnd_ret, evs, bnd_ret, evs, evs, h2]
  show lift (slD (.tuple ds) none (some (k : Int))) = _
  simp only [slD, cutL_hi, lift_some]
theorem ev_sllo {a e : E} {ρ : Sl} {ds : List D} {k : Nat} (h : ev a ρ = ret (.tuple ds)) (h2 : ev e ρ = ret (intD k)) : ev (.sl a (.cons e .nil) .nil) ρ = ret (.tuple (ds.drop k)) := by
  rw [ev, h, bnd_ret, evs, bnd_ret, evs, evs, h2]
  show lift (slD (.tuple ds) (some (k : Int)) none) = _
  simp only [slD, cutL_lo, lift_some]
theorem q_mulN {a b : Nat} (h : a < 2 ^ 64 ∨ b < 2 ^ 64) : op2 .mul (intD a) (intD b) = some (intD (a * b)) := by
  rw [q_mul]
  · rw [intD, Int.natCast_mul]
  · unfold mulOk
    rcases h with h | h
    · rw [decide_eq_true (show -(2 ^ 64) < (a : Int) by omega), decide_eq_true (show (a : Int) < 2 ^ 64 by omega)]; rfl
    · rw [decide_eq_true (show -(2 ^ 64) < (b : Int) by omega), decide_eq_true (show (b : Int) < 2 ^ 64 by omega)]; simp
theorem q_eq {a b : D} (h1 : sh 40 a = true) (h2 : sh 40 b = true) : cmpD .eq a b = some (PyData.eqv a b) := by
  show (if sh 40 a && sh 40 b then some (PyData.eqv a b) else none) = _
  rw [h1, h2]; rfl
theorem q_ne {a b : D} (h1 : sh 40 a = true) (h2 : sh 40 b = true) : cmpD .ne a b = some (!PyData.eqv a b) := by
  show (if sh 40 a && sh 40 b then some (!PyData.eqv a b) else none) = _
  rw [h1, h2]; rfl
theorem q_eqN (a b : Nat) : cmpD .eq (intD a) (intD b) = some (decide (a = b)) := by
  rw [q_eq (by simp [sh]) (by simp [sh])]
  simp only [PyData.eqv, Option.some.injEq]
  rw [Bool.eq_iff_iff, beq_iff_eq, decide_eq_true_eq]; omega
theorem q_neN (a b : Nat) : cmpD .ne (intD a) (intD b) = some (!decide (a = b)) := by
  rw [q_ne (by simp [sh]) (by simp [sh])]
  simp only [PyData.eqv, Option.some.injEq]
  congr 1
  rw [Bool.eq_iff_iff, beq_iff_eq, decide_eq_true_eq]; omega
/-! same -/
theorem sm_int (n : Nat) (i : Nat) : Sm n (intD i) := .int _ _
theorem sm_bar (n : Nat) (b : Bar) : Sm (n + 1) (barD b) := .tup _ _ (by simp) fun d hd => by
  simp only [List.mem_cons, List.not_mem_nil, or_false] at hd
  rcases hd with rfl | rfl <;> exact .int _ _
theorem sm_ent (n : Nat) (e : En) : Sm (n + 2) (entD e) := .tup _ _ (by simp) fun d hd => by
  simp only [List.mem_cons, List.not_mem_nil, or_false] at hd
  rcases hd with rfl | rfl
  · exact sm_bar _ _
  · exact .int _ _
theorem sm_tab (n : Nat) (t : List En) (h : t.length ≤ 16777216) : Sm (n + 3) (tabD t) := .tup _ _ (by simpa using h) fun d hd => by
  obtain ⟨e, _, rfl⟩ := List.mem_map.mp hd
  exact sm_ent _ _
theorem sm_tabL (n : Nat) (t : List En) (h : t.length ≤ 16777216) : Sm (n + 3) (.list (t.map entD)) := .lst _ _ (by simpa using h) fun d hd => by
  obtain ⟨e, _, rfl⟩ := List.mem_map.mp hd
  exact sm_ent _ _
theorem sm_tabs (n : Nat) (ts : List (List En)) (h : ts.length ≤ 16777216) (h2 : ∀ t ∈ ts, t.length ≤ 16777216) : Sm (n + 4) (.list (ts.map tabD)) := .lst _ _ (by simpa using h) fun d hd => by
  obtain ⟨t, ht, rfl⟩ := List.mem_map.mp hd
  exact sm_tab _ _ (h2 t ht)
theorem sm_szD (n : Nat) (s : List Nat) (h : s.length ≤ 16777216) : Sm (n + 1) (szD s) := .tup _ _ (by simpa using h) fun d hd => by
  obtain ⟨e, _, rfl⟩ := List.mem_map.mp hd
  exact .int _ _
theorem sm_lst2 (n : Nat) {a b : D} (h1 : Sm n a) (h2 : Sm n b) : Sm (n + 1) (.list [a, b]) := .lst _ _ (by simp) fun d hd => by
  simp only [List.mem_cons, List.not_mem_nil, or_false] at hd
  rcases hd with rfl | rfl <;> assumption
theorem sm_lst3 (n : Nat) {a b c : D} (h1 : Sm n a) (h2 : Sm n b) (h3 : Sm n c) : Sm (n + 1) (.list [a, b, c]) := .lst _ _ (by simp) fun d hd => by
  simp only [List.mem_cons, List.not_mem_nil, or_false] at hd
  rcases hd with rfl | rfl | rfl <;> assumption
theorem allT_tlen {s : List Nat} (hn : s.length ≤ 10) {t : List En} (h : t ∈ allT s) : t.length ≤ 100 := by
  obtain ⟨μ, rfl, _⟩ := mem_allT.mp h
  exact Nat.le_trans (tab_len _ _) (Nat.mul_le_mul hn hn)
theorem sortT_sortT (t : List En) : sortT (sortT t) = sortT t := sortT_congr (sortT_perm t)
theorem sortT_tab (n : Nat) (μ : Mu) : sortT (tab n μ) = tab n μ := sortT_sortT _
/-- all tables of sizes that are not all nought have bars -/
theorem allT_ne {s : List Nat} (h : ∃ k < s.length, 0 < s.getD k 0) {t : List En} (ht : t ∈ allT s) : t ≠ [] := by
  obtain ⟨k, hk, h0⟩ := h
  obtain ⟨μ, rfl, hm⟩ := mem_allT.mp ht
  intro e
  have := hm k hk
  rw [← tab_sum, e] at this
  have h2 : s.getD k 0 = 0 := by rw [← this]; rfl
  omega
theorem allT_or (s : List Nat) : allT s = [[]] ∨ ∀ t ∈ allT s, t ≠ [] := by
  by_cases h : ∃ k < s.length, 0 < s.getD k 0
  · exact .inr fun t ht => allT_ne h ht
  · refine .inl (allT_zero fun k hk => ?_)
    rcases Nat.eq_zero_or_pos (s.getD k 0) with e | e
    · exact e
    · exact absurd ⟨k, hk, e⟩ h
theorem sorted_tabs1 (ts : List (List En)) (hl : ts.length ≤ sizeLine) (h0 : ts = [[]] ∨ ∀ t ∈ ts, t ≠ []) : sortedOf (.list (ts.map tabD)) = some ((sortTs ts).map tabD) := by
  rcases h0 with rfl | h0
  · rw [sortTs_one]; rfl
  · exact sorted_tabs ts rfl hl h0
end SR
end
section
/-! SrFn: the defs of the program and of the laws (printed). -/
namespace SR
open PySem PySem.Spec L2
/-! count_tables: 0.sizes -/
def i_count_tables : SL := (.cons (.ret (.bi .len (.cons (.call "tables_with" (f_tw 12) (.cons (.var 0) .nil)) .nil))) .nil)
def f_count_tables : Fn := den 1 1 i_count_tables
/-! arrow: 0.shape 1.k -/
def i_arrow : SL := (.cons (.ret (.ite (.cmp .eq (.ix (.var 0) (.var 1)) (.k (.str "r"))) (.tup (.cons (.var 1) (.cons (.op2 .add (.var 1) (.k (.int 1))) .nil))) (.tup (.cons (.op2 .add (.var 1) (.k (.int 1))) (.cons (.var 1) .nil))))) .nil)
def f_arrow : Fn := den 2 2 i_arrow
/-! all_stretches: 0.shape 1.n 2.found 3.i 4.j -/
def i_all_stretches : SL := (.cons (.asg (.v 1) (.op2 .add (.bi .len (.cons (.var 0) .nil)) (.k (.int 1)))) (.cons (.newL 2 (.lst .nil)) (.cons (.for_ (.v 3) (.rng1 (.var 1)) (.cons (.ext 2 (.comp (.v 4) (.rng2 (.var 3) (.var 1)) .nil (.tup (.cons (.var 3) (.cons (.var 4) .nil))) [4])) .nil)) (.frz 2 (.cons (.ret (.var 2)) .nil)))))
def f_all_stretches : Fn := den 1 5 i_all_stretches
/-! leads_on: 0.shape 1.one 2.two 3.low 4.high -/
def i_leads_on : SL := (.cons (.asg (.t2 (.v 3) (.v 4)) (.tup (.cons (.bi .max (.cons (.ix (.var 1) (.k (.int 0))) (.cons (.ix (.var 2) (.k (.int 0))) .nil))) (.cons (.bi .min (.cons (.ix (.var 1) (.k (.int 1))) (.cons (.ix (.var 2) (.k (.int 1))) .nil))) .nil)))) (.cons (.ife (.cmp .gt (.var 3) (.var 4)) (.cons (.ret (.k (.int 0))) .nil) .nil) (.cons (.ife (.or (.and (.cmp .lt (.ix (.var 1) (.k (.int 0))) (.var 3)) (.cmp .ne (.ix (.var 0) (.op2 .sub (.var 3) (.k (.int 1)))) (.k (.str "l")))) (.and (.cmp .lt (.ix (.var 2) (.k (.int 0))) (.var 3)) (.cmp .ne (.ix (.var 0) (.op2 .sub (.var 3) (.k (.int 1)))) (.k (.str "r"))))) (.cons (.ret (.k (.int 0))) .nil) .nil) (.cons (.ife (.or (.and (.cmp .gt (.ix (.var 1) (.k (.int 1))) (.var 4)) (.cmp .ne (.ix (.var 0) (.var 4)) (.k (.str "r")))) (.and (.cmp .gt (.ix (.var 2) (.k (.int 1))) (.var 4)) (.cmp .ne (.ix (.var 0) (.var 4)) (.k (.str "l"))))) (.cons (.ret (.k (.int 0))) .nil) .nil) (.cons (.ret (.k (.int 1))) .nil)))))
def f_leads_on : Fn := den 3 5 i_leads_on
/-! maps_by: 0.shape 1.one 2.two 3.x 4.a 5.y 6.b -/
def i_maps_by : SL := (.cons (.ret (.bi .sum (.cons (.comp2 (.t2 (.v 3) (.v 4)) (.var 1) (.t2 (.v 5) (.v 6)) (.var 2) (.op2 .mul (.op2 .mul (.var 4) (.var 6)) (.call "leads_on" f_leads_on (.cons (.var 0) (.cons (.var 3) (.cons (.var 5) .nil))))) [3, 4, 5, 6] [5, 6]) .nil))) .nil)
def f_maps_by : Fn := den 3 7 i_maps_by
/-! euler: 0.shape 1.one 2.two 3.found 4.a 5.b 6.k 7.start 8.end -/
def i_euler : SL := (.cons (.ife (.or (.cmp .ne (.bi .len (.cons (.var 1) .nil)) (.op2 .add (.bi .len (.cons (.var 0) .nil)) (.k (.int 1)))) (.cmp .ne (.bi .len (.cons (.var 2) .nil)) (.bi .len (.cons (.var 1) .nil)))) (.cons (.stk) .nil) .nil) (.cons (.asg (.v 3) (.bi .sum (.cons (.comp (.t2 (.v 4) (.v 5)) (.zip2 (.var 1) (.var 2)) .nil (.op2 .mul (.var 4) (.var 5)) [4, 5]) .nil))) (.cons (.for_ (.v 6) (.rng1 (.bi .len (.cons (.var 0) .nil))) (.cons (.asg (.t2 (.v 7) (.v 8)) (.call "arrow" f_arrow (.cons (.var 0) (.cons (.var 6) .nil)))) (.cons (.aug 3 .sub (.op2 .mul (.ix (.var 1) (.var 7)) (.ix (.var 2) (.var 8)))) .nil))) (.cons (.ret (.var 3)) .nil))))
def f_euler : Fn := den 3 9 i_euler
/-! square_form: 0.shape 1.one -/
def i_square_form : SL := (.cons (.ret (.call "euler" f_euler (.cons (.var 0) (.cons (.var 1) (.cons (.var 1) .nil))))) .nil)
def f_square_form : Fn := den 2 2 i_square_form
/-! further_by: 0.shape 1.one 2.two -/
def i_further_by : SL := (.cons (.ret (.op2 .sub (.call "maps_by" f_maps_by (.cons (.var 0) (.cons (.var 1) (.cons (.var 2) .nil)))) (.call "euler" f_euler (.cons (.var 0) (.cons (.call "sizes_by" f_sz (.cons (.var 0) (.cons (.var 1) .nil))) (.cons (.call "sizes_by" f_sz (.cons (.var 0) (.cons (.var 2) .nil))) .nil)))))) .nil)
def f_further_by : Fn := den 3 3 i_further_by
/-! is_rigid: 0.shape 1.table -/
def i_is_rigid : SL := (.cons (.ret (.cmp .eq (.call "further_by" f_further_by (.cons (.var 0) (.cons (.var 1) (.cons (.var 1) .nil)))) (.k (.int 0)))) .nil)
def f_is_rigid : Fn := den 2 2 i_is_rigid
/-! maps_from: 0.shape 1.stretch 2.table 3.other 4.many -/
def i_maps_from : SL := (.cons (.ret (.bi .sum (.cons (.comp (.t2 (.v 3) (.v 4)) (.var 2) .nil (.op2 .mul (.var 4) (.call "leads_on" f_leads_on (.cons (.var 0) (.cons (.var 1) (.cons (.var 3) .nil))))) [3, 4]) .nil))) .nil)
def f_maps_from : Fn := den 3 5 i_maps_from
/-! falls_to: 0.shape 1.one 2.two 3.x -/
def i_falls_to : SL := (.cons (.ife (.cmp .ne (.call "sizes_by" f_sz (.cons (.var 0) (.cons (.var 1) .nil))) (.call "sizes_by" f_sz (.cons (.var 0) (.cons (.var 2) .nil)))) (.cons (.stk) .nil) .nil) (.cons (.ret (.bi .all (.cons (.comp (.v 3) (.call "all_stretches" f_all_stretches (.cons (.var 0) .nil)) .nil (.cmp .le (.call "maps_from" f_maps_from (.cons (.var 0) (.cons (.var 3) (.cons (.var 1) .nil)))) (.call "maps_from" f_maps_from (.cons (.var 0) (.cons (.var 3) (.cons (.var 2) .nil))))) [3]) .nil))) .nil))
def f_falls_to : Fn := den 3 4 i_falls_to
/-! greatest_table: 0.shape 1.sizes 2.table 3.other -/
def i_greatest_table : SL := (.cons (.for_ (.v 2) (.call "tables_with" (f_tw 12) (.cons (.var 1) .nil)) (.cons (.ife (.bi .all (.cons (.comp (.v 3) (.call "tables_with" (f_tw 12) (.cons (.var 1) .nil)) .nil (.call "falls_to" f_falls_to (.cons (.var 0) (.cons (.var 2) (.cons (.var 3) .nil)))) [3]) .nil)) (.cons (.ret (.var 2)) .nil) .nil) .nil)) (.cons (.ret (.k .none)) .nil))
def f_greatest_table : Fn := den 2 4 i_greatest_table
/-! _law_pick: 0.pool 1.items -/
def i__law_pick : SL := (.cons (.ret (.ix (.var 1) (.callP 0 "_law_draw" f_draw (.cons (.bi .len (.cons (.var 1) .nil)) .nil)))) .nil)
def f__law_pick : FnP := denP 2 2 i__law_pick
/-! _law_stretches: 0.shape 1.found 2.i 3.j -/
def i__law_stretches : SL := (.cons (.newL 1 (.lst .nil)) (.cons (.for_ (.v 2) (.rng1 (.op2 .add (.bi .len (.cons (.var 0) .nil)) (.k (.int 1)))) (.cons (.for_ (.v 3) (.rng2 (.var 2) (.op2 .add (.bi .len (.cons (.var 0) .nil)) (.k (.int 1)))) (.cons (.app 1 (.tup (.cons (.var 2) (.cons (.var 3) .nil)))) .nil)) .nil)) (.frz 1 (.cons (.ret (.var 1)) .nil))))
def f__law_stretches : Fn := den 1 4 i__law_stretches
/-! _law_sizes: 0.shape 1.table 2.i 3.j 4.many 5.k -/
def i__law_sizes : SL := (.cons (.ret (.bi .tuple (.cons (.comp (.v 5) (.rng1 (.op2 .add (.bi .len (.cons (.var 0) .nil)) (.k (.int 1)))) .nil (.bi .sum (.cons (.comp (.t2 (.t2 (.v 2) (.v 3)) (.v 4)) (.var 1) (.cons (.and (.cmp .le (.var 2) (.var 5)) (.cmp .le (.var 5) (.var 3))) .nil) (.var 4) [4, 2, 3]) .nil)) [5]) .nil))) .nil)
def f__law_sizes : Fn := den 2 6 i__law_sizes
/-! covers: 0.shape 1.table 2.below 3.other 4.good 5.one -/
def i_covers : SL := (.cons (.asg (.v 2) (.comp (.v 3) (.call "tables_with" (f_tw 12) (.cons (.call "sizes_by" f_sz (.cons (.var 0) (.cons (.var 1) .nil))) .nil)) (.cons (.and (.cmp .ne (.var 3) (.var 1)) (.call "falls_to" f_falls_to (.cons (.var 0) (.cons (.var 1) (.cons (.var 3) .nil))))) .nil) (.var 3) [3])) (.cons (.newL 4 (.lst .nil)) (.cons (.for_ (.v 5) (.var 2) (.cons (.ife (.not (.bi .any (.cons (.comp (.v 3) (.var 2) (.cons (.cmp .ne (.var 3) (.var 5)) .nil) (.call "falls_to" f_falls_to (.cons (.var 0) (.cons (.var 3) (.cons (.var 5) .nil)))) [3]) .nil))) (.cons (.app 4 (.var 5)) .nil) .nil) .nil)) (.frz 4 (.cons (.ret (.bi .sorted (.cons (.var 4) .nil))) .nil)))))
def f_covers : Fn := den 2 6 i_covers
/-! span_by: 0.table 1.i 2.j 3.a 4.b 5.many -/
def i_span_by : SL := (.cons (.ret (.bi .sum (.cons (.comp (.t2 (.t2 (.v 3) (.v 4)) (.v 5)) (.var 0) (.cons (.and (.cmp .le (.var 3) (.var 1)) (.cmp .le (.var 2) (.var 4))) .nil) (.var 5) [5, 3, 4]) .nil))) .nil)
def f_span_by : Fn := den 3 6 i_span_by
/-! least_table: 0.sizes 1.k 2.size -/
def i_least_table : SL := (.cons (.ret (.bi .tuple (.cons (.comp (.t2 (.v 1) (.v 2)) (.enum (.var 0)) (.cons (.cmp .gt (.var 2) (.k (.int 0))) .nil) (.tup (.cons (.tup (.cons (.var 1) (.cons (.var 1) .nil))) (.cons (.var 2) .nil))) [1, 2]) .nil))) .nil)
def f_least_table : Fn := den 1 3 i_least_table
/-! maps_to: 0.shape 1.table 2.stretch 3.other 4.many -/
def i_maps_to : SL := (.cons (.ret (.bi .sum (.cons (.comp (.t2 (.v 3) (.v 4)) (.var 1) .nil (.op2 .mul (.var 4) (.call "leads_on" f_leads_on (.cons (.var 0) (.cons (.var 3) (.cons (.var 2) .nil))))) [3, 4]) .nil))) .nil)
def f_maps_to : Fn := den 3 5 i_maps_to
/-! _law_span_by: 0.table 1.i 2.j 3.a 4.b 5.many -/
def i__law_span_by : SL := (.cons (.ret (.bi .sum (.cons (.comp (.t2 (.t2 (.v 3) (.v 4)) (.v 5)) (.var 0) (.cons (.and (.cmp .le (.var 3) (.var 1)) (.cmp .le (.var 2) (.var 4))) .nil) (.var 5) [5, 3, 4]) .nil))) .nil)
def f__law_span_by : Fn := den 3 6 i__law_span_by
end SR
end
section
/-! SrVal: values of the program's defs: stretches, maps, forms. -/
namespace SR
open PySem PySem.Spec L2
variable [Wd]
theorem den_run {n m : Nat} {sl : SL} {ds : List D} {d : D} {ρ : Sl} (hl : ds.length = n) (hρ : ds.map .dat ++ nos (m - n) = ρ) (h : Run (exs sl ρ) fun o => o = .rt d) : den n m sl ds = some d := by
  unfold den
  rw [if_pos hl, hρ]
  obtain ⟨a, π', e, _, rfl⟩ := h π0 (by decide)
  rw [e]; rfl
theorem run_stop {c : E} {r : SL} {ρ : Sl} {Q : Out → Prop} {d e : D} {x : E} (h : ev c ρ = SR.ret d) (ht : truth d = some true) (hx : ev x ρ = SR.ret e) (q : Q (.rt e)) : Run (exs (.cons (.ife c (.cons (.ret x) .nil) .nil) r) ρ) Q := by
  refine run_ife h ht ?_
  rw [if_pos rfl]
  exact run_ret (.eq hx q)
theorem run_retE {e : E} {r : SL} {ρ : Sl} {d : D} (h : ev e ρ = SR.ret d) : Run (exs (.cons (.ret e) r) ρ) fun o => o = .rt d := run_ret (.eq h rfl)
theorem run_newL {i : Nat} {e : E} {r : SL} {ρ : Sl} {Q : Out → Prop} {ds : List D} (h : evL e ρ = SR.ret ds) (q : Run (exs r (ρ.set i (.own (.lst ds)))) Q) : Run (exs (.cons (.newL i e) r) ρ) Q := by
  refine run_exs ?_
  rw [ex, newM, h, bnd_ret]
  exact .ret q
theorem run_app {i : Nat} {e : E} {r : SL} {ρ : Sl} {Q : Out → Prop} {ds : List D} {d : D} (h0 : ρ[i]? = some (.own (.lst ds))) (h : ev e ρ = SR.ret d) (hl : ds.length < 16777216) (q : Run (exs r (ρ.set i (.own (.lst (ds ++ [d]))))) Q) : Run (exs (.cons (.app i e) r) ρ) Q := by
  refine run_exs ?_
  rw [ex, appM, ownL, h0]
  simp only [bnd_ret, h]
  rw [if_pos (by rw [sl_val]; exact hl)]
  exact .ret q
theorem run_ext {i : Nat} {e : E} {r : SL} {ρ : Sl} {Q : Out → Prop} {ds es : List D} (h0 : ρ[i]? = some (.own (.lst ds))) (h : ev e ρ = SR.ret (.list es)) (hl : ds.length + es.length ≤ 16777216) (q : Run (exs r (ρ.set i (.own (.lst (ds ++ es))))) Q) : Run (exs (.cons (.ext i e) r) ρ) Q := by
  refine run_exs ?_
  rw [ex, extM, ownL, h0]
  simp only [bnd_ret, h, asList]
  rw [if_pos (by rw [sl_val]; exact hl)]
  exact .ret q
theorem run_frz {i : Nat} {r : SL} {ρ : Sl} {Q : Out → Prop} {ds : List D} (h0 : ρ[i]? = some (.own (.lst ds))) (q : Run (exs r (ρ.set i (.dat (.list ds)))) Q) : Run (exs (.frz i r) ρ) Q := by
  rw [exs]
  refine .bnd ?_
  rw [frzM, h0]
  exact .ret q
theorem run_aug {i : Nat} {o : Op2} {e : E} {r : SL} {ρ : Sl} {Q : Out → Prop} {x y z : D} (h0 : ρ[i]? = some (.dat x)) (h : ev e ρ = SR.ret y) (ho : augD o x y = some z) (q : Run (exs r (ρ.set i (.dat z))) Q) : Run (exs (.cons (.aug i o e) r) ρ) Q := by
  refine run_exs ?_
  rw [ex, augM, ev_var h0]
  simp only [bnd_ret, h, ho, lift_some]
  exact .ret q
/-! letters -/
theorem ix_str {ws : List Bool} {k : Nat} (h : k < ws.length) (hw : ws.length ≤ 1000) : ixD (.str (wd ws)) (intD k) = some (.str ⟨#[cd (ws.getD k false)]⟩) := by
  simp only [ixD]
  rw [if_pos (by rw [sl_val, wd_len]; omega), atI_nat (v := cd (ws.getD k false))]
  · rfl
  · simp only [wd, List.getElem?_map, List.getElem?_eq_getElem h, List.getD_eq_getElem?_getD]
    rfl
theorem eqv_chr (a b : Nat) : PyData.eqv (.str ⟨#[a]⟩) (.str ⟨#[b]⟩) = decide (a = b) := by
  simp only [PyData.eqv]
  rw [Bool.eq_iff_iff, decide_eq_true_eq]
  simp
theorem q_eqr (b : Bool) : cmpD .eq (.str ⟨#[cd b]⟩) (.str "r") = some (!b) := by cases b <;> decide +kernel
theorem q_ner (b : Bool) : cmpD .ne (.str ⟨#[cd b]⟩) (.str "r") = some b := by cases b <;> decide +kernel
theorem q_nel (b : Bool) : cmpD .ne (.str ⟨#[cd b]⟩) (.str "l") = some (!b) := by cases b <;> decide +kernel
/-! arrow -/
def asrc (ws : List Bool) (k : Nat) : Nat := if ws.getD k false then k + 1 else k
def atgt (ws : List Bool) (k : Nat) : Nat := if ws.getD k false then k else k + 1
theorem arrow_ok {ws : List Bool} {k : Nat} (h : k < ws.length) (hw : ws.length ≤ 1000) : f_arrow [.str (wd ws), intD k] = some (.tuple [intD (asrc ws k), intD (atgt ws k)]) := by
  refine den_run rfl rfl (run_retE ?_)
  show ev _ [.dat (.str (wd ws)), .dat (intD k)] = _
  rw [ev, ev_cmp' (ev_ix' (ev_var rfl) (ev_var rfl) (ix_str h hw)) rfl (q_eqr _), bnd_ret, q_tb, bnd_ret]
  have e : ev (.op2 .add (.var 1) (.k (.int 1))) [.dat (.str (wd ws)), .dat (intD k)] = ret (intD (k + 1)) := ev_op2 (ev_var (d := intD k) rfl) rfl q_add
  unfold asrc atgt
  cases ws.getD k false
  · exact ev_tup2 (ev_var rfl) e
  · exact ev_tup2 e (ev_var rfl)
/-! leads_on -/
def leadsN (ws : List Bool) (x y : Bar) : Nat :=
  if min x.2 y.2 < max x.1 y.1 then 0
  else if (x.1 < max x.1 y.1 ∧ ws.getD (max x.1 y.1 - 1) false = false) ∨ (y.1 < max x.1 y.1 ∧ ws.getD (max x.1 y.1 - 1) false = true) then 0
  else if (min x.2 y.2 < x.2 ∧ ws.getD (min x.2 y.2) false = true) ∨ (min x.2 y.2 < y.2 ∧ ws.getD (min x.2 y.2) false = false) then 0
  else 1
theorem leadsN_le (ws : List Bool) (x y : Bar) : leadsN ws x y ≤ 1 := by
  unfold leadsN
  repeat' split
  all_goals omega
theorem q_max {i j : Nat} : bi .max [intD i, intD j] = some (intD (max i j)) := by
  show some (PyData.int (max (i : Int) j)) = some (PyData.int ((max i j : Nat) : Int))
  rw [show max (i : Int) j = ((max i j : Nat) : Int) by omega]
theorem q_min {i j : Nat} : bi .min [intD i, intD j] = some (intD (min i j)) := by
  show some (PyData.int (min (i : Int) j)) = some (PyData.int ((min i j : Nat) : Int))
  rw [show min (i : Int) j = ((min i j : Nat) : Int) by omega]
theorem ev_bi2 {b : Bi} {e e2 : E} {ρ : Sl} {d d2 y : D} (h : ev e ρ = ret d) (h2 : ev e2 ρ = ret d2) (hb : bi b [d, d2] = some y) : ev (.bi b (.cons e (.cons e2 .nil))) ρ = ret y := by
  rw [ev, evs, evs, evs, h, h2]; simp only [bnd_ret, hb, lift_some]
theorem q_ltN {i j : Nat} : cmpD .lt (intD i) (intD j) = some (decide (i < j)) := by
  rw [q_lt]; exact congrArg some (decide_eq_decide.mpr (by omega))
theorem q_leN {i j : Nat} : cmpD .le (intD i) (intD j) = some (decide (i ≤ j)) := by
  rw [q_le]; exact congrArg some (decide_eq_decide.mpr (by omega))
theorem q_gtN {i j : Nat} : cmpD .gt (intD i) (intD j) = some (decide (j < i)) := by
  rw [q_gt]; exact congrArg some (decide_eq_decide.mpr (by omega))
theorem q_geN {i j : Nat} : cmpD .ge (intD i) (intD j) = some (decide (j ≤ i)) := by
  rw [q_ge]; exact congrArg some (decide_eq_decide.mpr (by omega))
theorem bar0 (b : Bar) : ixD (barD b) (.int 0) = some (intD b.1) := rfl
theorem bar1 (b : Bar) : ixD (barD b) (.int 1) = some (intD b.2) := rfl
/-- the test of a side: c and (p's letter is of a kind) -/
theorem side_ok {a b : E} {ρ : Sl} {p q : Bool} (h : ev a ρ = ret (.bool p)) (h2 : p = true → ev b ρ = ret (.bool q)) : ev (.and a b) ρ = ret (.bool (p && q)) := by
  rw [ev_and' h rfl]
  cases p
  · rfl
  · exact h2 rfl
theorem or_ok {a b : E} {ρ : Sl} {p q : Bool} (h : ev a ρ = ret (.bool p)) (h2 : p = false → ev b ρ = ret (.bool q)) : ev (.or a b) ρ = ret (.bool (p || q)) := by
  rw [ev_or h rfl]
  cases p
  · exact h2 rfl
  · rfl
theorem leads_ok {ws : List Bool} {x y : Bar} (hx : x.1 ≤ x.2 ∧ x.2 < ws.length + 1) (hy : y.1 ≤ y.2 ∧ y.2 < ws.length + 1) (hw : ws.length ≤ 1000) : f_leads_on [.str (wd ws), barD x, barD y] = some (intD (leadsN ws x y)) := by
  refine den_run rfl rfl ?_
  show Run (exs _ [.dat (.str (wd ws)), .dat (barD x), .dat (barD y), .no, .no]) _
  refine run_asg (.eq (ev_tup2 (ev_bi2 (ev_ix' (ev_var rfl) rfl (bar0 x)) (ev_ix' (ev_var rfl) rfl (bar0 y)) q_max) (ev_bi2 (ev_ix' (ev_var rfl) rfl (bar1 x)) (ev_ix' (ev_var rfl) rfl (bar1 y)) q_min)) ?_)
  refine ⟨[.dat (.str (wd ws)), .dat (barD x), .dat (barD y), .dat (intD (max x.1 y.1)), .dat (intD (min x.2 y.2))], rfl, ?_⟩
  unfold leadsN
  have v3 : ev (.var 3) [.dat (.str (wd ws)), .dat (barD x), .dat (barD y), .dat (intD (max x.1 y.1)), .dat (intD (min x.2 y.2))] = ret (intD (max x.1 y.1)) := rfl
  have v4 : ev (.var 4) [.dat (.str (wd ws)), .dat (barD x), .dat (barD y), .dat (intD (max x.1 y.1)), .dat (intD (min x.2 y.2))] = ret (intD (min x.2 y.2)) := rfl
  have x0 : ev (.ix (.var 1) (.k (.int 0))) [.dat (.str (wd ws)), .dat (barD x), .dat (barD y), .dat (intD (max x.1 y.1)), .dat (intD (min x.2 y.2))] = ret (intD x.1) := rfl
  have x1 : ev (.ix (.var 1) (.k (.int 1))) [.dat (.str (wd ws)), .dat (barD x), .dat (barD y), .dat (intD (max x.1 y.1)), .dat (intD (min x.2 y.2))] = ret (intD x.2) := rfl
  have y0 : ev (.ix (.var 2) (.k (.int 0))) [.dat (.str (wd ws)), .dat (barD x), .dat (barD y), .dat (intD (max x.1 y.1)), .dat (intD (min x.2 y.2))] = ret (intD y.1) := rfl
  have y1 : ev (.ix (.var 2) (.k (.int 1))) [.dat (.str (wd ws)), .dat (barD x), .dat (barD y), .dat (intD (max x.1 y.1)), .dat (intD (min x.2 y.2))] = ret (intD y.2) := rfl
  have v0 : ev (.var 0) [.dat (.str (wd ws)), .dat (barD x), .dat (barD y), .dat (intD (max x.1 y.1)), .dat (intD (min x.2 y.2))] = ret (.str (wd ws)) := rfl
  generalize [Slot.dat (.str (wd ws)), .dat (barD x), .dat (barD y), .dat (intD (max x.1 y.1)), .dat (intD (min x.2 y.2))] = ρ at *
  generalize hlo : max x.1 y.1 = lo at *
  generalize hhi : min x.2 y.2 = hi at *
  by_cases c0 : hi < lo
  · rw [if_pos c0]
    exact run_stop (ev_cmp' v3 v4 q_gtN) (by rw [decide_eq_true c0]; rfl) rfl rfl
  rw [if_neg c0]
  refine run_skip (ev_cmp' v3 v4 q_gtN) (by rw [decide_eq_false c0]; rfl) ?_
  have lo1 : 0 < lo → ev (.op2 .sub (.var 3) (.k (.int 1))) ρ = ret (intD (lo - 1)) := fun h => ev_op2 v3 rfl (by rw [q_sub]; congr 2; omega)
  have ch : ∀ i, i < ws.length → ixD (.str (wd ws)) (intD i) = some (.str ⟨#[cd (ws.getD i false)]⟩) := fun i h => ix_str h hw
  have t1 : ev (.or (.and (.cmp .lt (.ix (.var 1) (.k (.int 0))) (.var 3)) (.cmp .ne (.ix (.var 0) (.op2 .sub (.var 3) (.k (.int 1)))) (.k (.str "l")))) (.and (.cmp .lt (.ix (.var 2) (.k (.int 0))) (.var 3)) (.cmp .ne (.ix (.var 0) (.op2 .sub (.var 3) (.k (.int 1)))) (.k (.str "r"))))) ρ = ret (.bool ((decide (x.1 < lo) && !(ws.getD (lo - 1) false)) || (decide (y.1 < lo) && ws.getD (lo - 1) false))) := by
    refine or_ok (side_ok (ev_cmp' x0 v3 q_ltN) fun h => ?_) fun _ => (side_ok (ev_cmp' y0 v3 q_ltN) fun h => ?_)
    · have h := of_decide_eq_true h
      exact ev_cmp' (ev_ix' v0 (lo1 (by omega)) (ch _ (by omega))) rfl (q_nel _)
    · have h := of_decide_eq_true h
      exact ev_cmp' (ev_ix' v0 (lo1 (by omega)) (ch _ (by omega))) rfl (q_ner _)
  have t2 : ev (.or (.and (.cmp .gt (.ix (.var 1) (.k (.int 1))) (.var 4)) (.cmp .ne (.ix (.var 0) (.var 4)) (.k (.str "r")))) (.and (.cmp .gt (.ix (.var 2) (.k (.int 1))) (.var 4)) (.cmp .ne (.ix (.var 0) (.var 4)) (.k (.str "l"))))) ρ = ret (.bool ((decide (hi < x.2) && ws.getD hi false) || (decide (hi < y.2) && !(ws.getD hi false)))) := by
    refine or_ok (side_ok (ev_cmp' x1 v4 q_gtN) fun h => ?_) fun _ => (side_ok (ev_cmp' y1 v4 q_gtN) fun h => ?_)
    · have h := of_decide_eq_true h
      exact ev_cmp' (ev_ix' v0 v4 (ch _ (by omega))) rfl (q_ner _)
    · have h := of_decide_eq_true h
      exact ev_cmp' (ev_ix' v0 v4 (ch _ (by omega))) rfl (q_nel _)
  generalize hb1 : ws.getD (lo - 1) false = b1 at *
  generalize hb2 : ws.getD hi false = b2 at *
  by_cases c1 : (x.1 < lo ∧ b1 = false) ∨ (y.1 < lo ∧ b1 = true)
  · rw [if_pos c1]
    refine run_stop t1 ?_ rfl rfl
    rcases c1 with ⟨h, rfl⟩ | ⟨h, rfl⟩ <;> simp [h, truth]
  rw [if_neg c1]
  refine run_skip t1 ?_ ?_
  · have : ((decide (x.1 < lo) && !b1) || (decide (y.1 < lo) && b1)) = false := by
      cases b1 <;> simp_all
    rw [this]; rfl
  by_cases c2 : (hi < x.2 ∧ b2 = true) ∨ (hi < y.2 ∧ b2 = false)
  · rw [if_pos c2]
    refine run_stop t2 ?_ rfl rfl
    rcases c2 with ⟨h, rfl⟩ | ⟨h, rfl⟩ <;> simp [h, truth]
  rw [if_neg c2]
  refine run_skip t2 ?_ (run_retE rfl)
  have : ((decide (hi < x.2) && b2) || (decide (hi < y.2) && !b2)) = false := by
    cases b2 <;> simp_all
  rw [this]; rfl
end SR
end
section
/-! SrVal2: values of the program's defs: sums of maps, forms, falls. -/
namespace SR
open PySem PySem.Spec L2
variable [Wd]
theorem flatL_map {α : Type} {g : D → M (List D)} {en : α → D} {F : α → List D} : ∀ {xs : List α}, (∀ x ∈ xs, g (en x) = ret (F x)) → flatL g (xs.map en) = ret (xs.flatMap F)
  | [], _ => rfl
  | x :: xs, h => by
    rw [List.map_cons, flatL, h x (.head _), bnd_ret, flatL_map (F := F) fun y hy => h y (.tail _ hy), bnd_ret, List.flatMap_cons]
theorem comp2_all {α β : Type} {tg tg1 : Tg} {it it1 el : E} {own own1 : List Nat} {ρ : Sl} {d : D} {xs : List α} {en : α → D} {ys : α → List β} {en1 : α → β → D} (g : α → β → D) (h : ev it ρ = ret d) (hi : iterD d = some (xs.map en))
    (hg : ∀ x ∈ xs, ∃ ρ', bindT tg (en x) (wipeS ρ own) = some ρ' ∧ (∃ d1, ev it1 ρ' = ret d1 ∧ iterD d1 = some ((ys x).map (en1 x))) ∧ ∀ y ∈ ys x, ∃ ρ2, bindT tg1 (en1 x y) (wipeS ρ' own1) = some ρ2 ∧ ev el ρ2 = ret (g x y))
    (hl : (xs.flatMap fun x => (ys x).map (g x)).length ≤ 16777216) : ev (.comp2 tg it tg1 it1 el own own1) ρ = ret (.list (xs.flatMap fun x => (ys x).map (g x))) := by
  simp only [ev, h, bnd_ret, hi, lift_some]
  rw [flatL_map (F := fun x => (ys x).map (g x))]
  · rw [bnd_ret, if_pos (by rw [sl_val]; exact hl)]
  · intro x hx
    obtain ⟨ρ', h1, ⟨d1, h2, h3⟩, h4⟩ := hg x hx
    simp only [h1, h2, bnd_ret, h3, lift_some]
    rw [compL_map (f := fun y => some (g x y))]
    · congr 1
      rw [List.filterMap_eq_map']
    · intro y hy
      obtain ⟨ρ2, h5, h6⟩ := h4 y hy
      simp only [h5, h6, bnd_ret]
/-! tables that are small -/
structure Tb (n : Nat) (t : List En) : Prop where
  bar : ∀ e ∈ t, e.1.1 ≤ e.1.2 ∧ e.1.2 < n
  num : ∀ e ∈ t, e.2 < 2 ^ 32
  len : t.length ≤ 1000
def fromN (ws : List Bool) (x : Bar) (t : List En) : Nat := (t.map fun f => f.2 * leadsN ws x f.1).sum
def toN (ws : List Bool) (t : List En) (x : Bar) : Nat := (t.map fun f => f.2 * leadsN ws f.1 x).sum
def mapsN (ws : List Bool) (t u : List En) : Nat := (t.map fun e => e.2 * fromN ws e.1 u).sum
theorem flat_sum {α : Type} (f : α → List Nat) : ∀ xs : List α, (xs.flatMap f).sum = (xs.map fun x => (f x).sum).sum
  | [] => rfl
  | x :: xs => by rw [List.flatMap_cons, List.sum_append, flat_sum f xs, List.map_cons, List.sum_cons]
theorem mul_sum {α : Type} (k : Nat) (f : α → Nat) : ∀ xs : List α, (xs.map fun x => k * f x).sum = k * (xs.map f).sum
  | [] => rfl
  | x :: xs => by rw [List.map_cons, List.sum_cons, mul_sum k f xs, List.map_cons, List.sum_cons, Nat.mul_add]
theorem bind_ent {a b : Nat} {e : En} {ρ : Sl} : bindT (.t2 (.v a) (.v b)) (entD e) ρ = some ((ρ.set a (.dat (barD e.1))).set b (.dat (intD e.2))) := rfl
theorem maps_ok {ws : List Bool} {t u : List En} (ht : Tb (ws.length + 1) t) (hu : Tb (ws.length + 1) u) (hw : ws.length ≤ 1000) : f_maps_by [.str (wd ws), tabD t, tabD u] = some (intD (mapsN ws t u)) := by
  refine den_run rfl rfl (run_retE ?_)
  have c := comp2_all (tg := .t2 (.v 3) (.v 4)) (it := .var 1) (tg1 := .t2 (.v 5) (.v 6)) (it1 := .var 2) (el := .op2 .mul (.op2 .mul (.var 4) (.var 6)) (.call "leads_on" f_leads_on (.cons (.var 0) (.cons (.var 3) (.cons (.var 5) .nil))))) (own := [3, 4, 5, 6]) (own1 := [5, 6]) (ρ := [.dat (.str (wd ws)), .dat (tabD t), .dat (tabD u), .no, .no, .no, .no]) (xs := t) (en := entD) (ys := fun _ => u) (en1 := fun _ => entD) (d := tabD t)
    (fun e f => intD (e.2 * f.2 * leadsN ws e.1 f.1)) (ev_var rfl) rfl (fun e he => ⟨[.dat (.str (wd ws)), .dat (tabD t), .dat (tabD u), .dat (barD e.1), .dat (intD e.2), .no, .no], rfl, ⟨tabD u, ev_var rfl, rfl⟩, fun f hf => ⟨[.dat (.str (wd ws)), .dat (tabD t), .dat (tabD u), .dat (barD e.1), .dat (intD e.2), .dat (barD f.1), .dat (intD f.2)], rfl, by
      have l1 := leadsN_le ws e.1 f.1
      have n1 := ht.num e he
      exact ev_op2 (ev_op2 (ev_var (d := intD e.2) rfl) (ev_var (d := intD f.2) rfl) (q_mulN (.inl (by omega)))) (ev_call3 (ev_var rfl) (ev_var (d := barD e.1) rfl) (ev_var (d := barD f.1) rfl) (leads_ok (ht.bar e he) (hu.bar f hf) hw)) (q_mulN (.inr (by omega)))⟩⟩)
    (by
      have := flat_len (xs := t) (f := fun x => u.map fun f => intD (x.2 * f.2 * leadsN ws x.1 f.1)) (c := 1000) fun _ _ => by rw [List.length_map]; exact hu.len
      have h1 := ht.len
      exact Nat.le_trans this (Nat.le_trans (Nat.mul_le_mul h1 (Nat.le_refl _)) (by decide)))
  refine ev_bi1 c ?_
  have q := q_sumN (d := .list (t.flatMap fun x => u.map fun f => intD (x.2 * f.2 * leadsN ws x.1 f.1))) (ns := t.flatMap fun x => u.map fun f => x.2 * f.2 * leadsN ws x.1 f.1) (by
    simp only [items, List.map_flatMap, List.map_map]
    rfl)
  rw [q, flat_sum]
  unfold mapsN fromN
  congr 4
  funext e
  rw [← mul_sum]
  simp only [Nat.mul_assoc]
theorem from_ok {ws : List Bool} {x : Bar} {t : List En} (hx : x.1 ≤ x.2 ∧ x.2 < ws.length + 1) (ht : Tb (ws.length + 1) t) (hw : ws.length ≤ 1000) : f_maps_from [.str (wd ws), barD x, tabD t] = some (intD (fromN ws x t)) := by
  refine den_run rfl rfl (run_retE ?_)
  have c := comp_all (tg := .t2 (.v 3) (.v 4)) (it := .var 2) (el := .op2 .mul (.var 4) (.call "leads_on" f_leads_on (.cons (.var 0) (.cons (.var 1) (.cons (.var 3) .nil))))) (own := [3, 4]) (ρ := [.dat (.str (wd ws)), .dat (barD x), .dat (tabD t), .no, .no]) (xs := t) (en := entD) (d := tabD t)
    (fun f => intD (f.2 * leadsN ws x f.1)) (ev_var rfl) rfl (fun f hf => ⟨[.dat (.str (wd ws)), .dat (barD x), .dat (tabD t), .dat (barD f.1), .dat (intD f.2)], rfl, by
      have l1 := leadsN_le ws x f.1
      exact ev_op2 (ev_var (d := intD f.2) rfl) (ev_call3 (ev_var rfl) (ev_var (d := barD x) rfl) (ev_var (d := barD f.1) rfl) (leads_ok hx (ht.bar f hf) hw)) (q_mulN (.inr (by omega)))⟩)
  refine ev_bi1 c (q_sumN ?_)
  simp only [items, List.map_map]
  rfl
theorem to_ok {ws : List Bool} {x : Bar} {t : List En} (hx : x.1 ≤ x.2 ∧ x.2 < ws.length + 1) (ht : Tb (ws.length + 1) t) (hw : ws.length ≤ 1000) : f_maps_to [.str (wd ws), tabD t, barD x] = some (intD (toN ws t x)) := by
  refine den_run rfl rfl (run_retE ?_)
  have c := comp_all (tg := .t2 (.v 3) (.v 4)) (it := .var 1) (el := .op2 .mul (.var 4) (.call "leads_on" f_leads_on (.cons (.var 0) (.cons (.var 3) (.cons (.var 2) .nil))))) (own := [3, 4]) (ρ := [.dat (.str (wd ws)), .dat (tabD t), .dat (barD x), .no, .no]) (xs := t) (en := entD) (d := tabD t)
    (fun f => intD (f.2 * leadsN ws f.1 x)) (ev_var rfl) rfl (fun f hf => ⟨[.dat (.str (wd ws)), .dat (tabD t), .dat (barD x), .dat (barD f.1), .dat (intD f.2)], rfl, by
      have l1 := leadsN_le ws f.1 x
      exact ev_op2 (ev_var (d := intD f.2) rfl) (ev_call3 (ev_var rfl) (ev_var (d := barD f.1) rfl) (ev_var (d := barD x) rfl) (leads_ok (ht.bar f hf) hx hw)) (q_mulN (.inr (by omega)))⟩)
  refine ev_bi1 c (q_sumN ?_)
  simp only [items, List.map_map]
  rfl
/-! the form -/
def eulerZ (ws : List Bool) (s t : List Nat) : Int := ((List.zipWith (· * ·) s t).sum : Nat) - ((List.range ws.length).map fun k => s.getD (asrc ws k) 0 * t.getD (atgt ws k) 0).sum
theorem asrc_le {ws : List Bool} {k : Nat} (h : k < ws.length) : asrc ws k < ws.length + 1 := by unfold asrc; split <;> omega
theorem atgt_le {ws : List Bool} {k : Nat} (h : k < ws.length) : atgt ws k < ws.length + 1 := by unfold atgt; split <;> omega
theorem zip2_nat (s t : List Nat) : zip2D [szD s, szD t] = some ((s.zip t).map fun p => .tuple [intD p.1, intD p.2]) := by
  simp only [zip2D, szD, items, Option.bind_some, Option.map_some]
  congr 1
  rw [List.zip, List.map_zipWith, List.zipWith_map]
theorem euler_ok {ws : List Bool} {s t : List Nat} (hs : s.length = ws.length + 1) (ht : t.length = ws.length + 1) (bs : ∀ x ∈ s, x < 2 ^ 32) (hw : ws.length ≤ 1000) : f_euler [.str (wd ws), szD s, szD t] = some (.int (eulerZ ws s t)) := by
  refine den_run rfl rfl ?_
  have l0 : ∀ a b c d e f, ev (.bi .len (.cons (.var 0) .nil)) [.dat (.str (wd ws)), .dat (szD s), .dat (szD t), a, b, c, d, e, f] = ret (intD ws.length) := fun _ _ _ _ _ _ => ev_lenS rfl hw
  have e1 : ev (.bi .len (.cons (.var 1) .nil)) [.dat (.str (wd ws)), .dat (szD s), .dat (szD t), .no, .no, .no, .no, .no, .no] = ret (intD (ws.length + 1)) := by
    rw [ev_lenT (ds := s.map intD) rfl, List.length_map, hs]
  have e2 : ev (.bi .len (.cons (.var 2) .nil)) [.dat (.str (wd ws)), .dat (szD s), .dat (szD t), .no, .no, .no, .no, .no, .no] = ret (intD (ws.length + 1)) := by
    rw [ev_lenT (ds := t.map intD) rfl, List.length_map, ht]
  have sg : ∀ k, s.getD k 0 < 2 ^ 32 := fun k => by
    have := getD_lt (m := 2 ^ 32 - 1) (s := s) (fun x hx => bs x hx) k
    omega
  refine run_skip (or_ok (p := false) (q := false) ?_ fun _ => ?_) rfl ?_
  · exact (ev_cmp' e1 (ev_op2 (l0 ..) rfl (z := intD (ws.length + 1)) q_add) (q_neN _ _)).trans (by rw [decide_eq_true rfl]; rfl)
  · exact (ev_cmp' e2 e1 (q_neN _ _)).trans (by rw [decide_eq_true rfl]; rfl)
  refine run_set (d := intD (List.zipWith (· * ·) s t).sum) (ev_bi1 (comp_all (tg := .t2 (.v 4) (.v 5)) (it := .zip2 (.var 1) (.var 2)) (xs := s.zip t) (en := fun p => .tuple [intD p.1, intD p.2]) (d := .list ((s.zip t).map fun p => .tuple [intD p.1, intD p.2])) (fun p => intD (p.1 * p.2)) ?_ rfl fun p hp => ⟨[.dat (.str (wd ws)), .dat (szD s), .dat (szD t), .no, .dat (intD p.1), .dat (intD p.2), .no, .no, .no], rfl, ?_⟩) (q_sumN ?_)) ?_
  · have v1 : ev (.var 1) [.dat (.str (wd ws)), .dat (szD s), .dat (szD t), .no, .no, .no, .no, .no, .no] = ret (szD s) := rfl
    have v2 : ev (.var 2) [.dat (.str (wd ws)), .dat (szD s), .dat (szD t), .no, .no, .no, .no, .no, .no] = ret (szD t) := rfl
    show ev _ [.dat (.str (wd ws)), .dat (szD s), .dat (szD t), .no, .no, .no, .no, .no, .no] = _
    rw [ev, v1, bnd_ret, v2, bnd_ret, zip2_nat, lift_some, bnd_ret]
  · have := bs p.1 (List.of_mem_zip hp).1
    exact ev_op2 (ev_var (d := intD p.1) rfl) (ev_var (d := intD p.2) rfl) (q_mulN (.inl (by omega)))
  · simp only [items]
    congr 1
    rw [List.zip, List.map_zipWith, List.map_zipWith]
  show Run (exs _ [.dat (.str (wd ws)), .dat (szD s), .dat (szD t), .dat (intD (List.zipWith (· * ·) s t).sum), .no, .no, .no, .no, .no]) _
  refine run_for (xs := List.range ws.length) (en := intD) (fun done ρ => ∃ a b c, ρ = [.dat (.str (wd ws)), .dat (szD s), .dat (szD t), .dat (.int (((List.zipWith (· * ·) s t).sum : Nat) - (done.map fun k => s.getD (asrc ws k) 0 * t.getD (atgt ws k) 0).sum)), .no, .no, a, b, c]) (ev_rng1 (l0 ..) (by omega)) rfl ⟨.no, .no, .no, by simp⟩ ?_ ?_
  · rintro done k rest _ e ⟨a, b, c, rfl⟩
    have hk : k < ws.length := List.mem_range.mp (by rw [e]; simp)
    generalize hz : (((List.zipWith (· * ·) s t).sum : Nat) - ((done.map fun k => s.getD (asrc ws k) 0 * t.getD (atgt ws k) 0).sum : Nat) : Int) = z
    refine ⟨[.dat (.str (wd ws)), .dat (szD s), .dat (szD t), .dat (.int z), .no, .no, .dat (intD k), b, c], rfl, ?_⟩
    refine run_asg (.eq (ev_call2 (ev_var rfl) (ev_var (d := intD k) rfl) (arrow_ok hk hw)) ⟨[.dat (.str (wd ws)), .dat (szD s), .dat (szD t), .dat (.int z), .no, .no, .dat (intD k), .dat (intD (asrc ws k)), .dat (intD (atgt ws k))], rfl, ?_⟩)
    refine run_aug (x := .int z) (y := intD (s.getD (asrc ws k) 0 * t.getD (atgt ws k) 0)) (z := .int (z - (s.getD (asrc ws k) 0 * t.getD (atgt ws k) 0 : Nat))) rfl (ev_op2 (ev_ix' (ev_var (d := szD s) rfl) (ev_var (d := intD (asrc ws k)) rfl) (ix_nat (by rw [hs]; exact asrc_le hk))) (ev_ix' (ev_var (d := szD t) rfl) (ev_var (d := intD (atgt ws k)) rfl) (ix_nat (by rw [ht]; exact atgt_le hk))) (q_mulN (.inl (by have := sg (asrc ws k); omega)))) rfl (run_nil ⟨.dat (intD k), .dat (intD (asrc ws k)), .dat (intD (atgt ws k)), ?_⟩)
    rw [List.map_append, List.sum_append, List.map_singleton, List.sum_singleton, Int.natCast_add, ← Int.sub_sub, hz]
    rfl
  · rintro _ ⟨a, b, c, rfl⟩
    exact run_retE rfl
theorem form_ok {ws : List Bool} {s : List Nat} (hs : s.length = ws.length + 1) (bs : ∀ x ∈ s, x < 2 ^ 32) (hw : ws.length ≤ 1000) : f_square_form [.str (wd ws), szD s] = some (.int (eulerZ ws s s)) :=
  den_run rfl rfl (run_retE (ev_call3 (ev_var rfl) (ev_var (d := szD s) rfl) (ev_var (d := szD s) rfl) (euler_ok hs hs bs hw)))
end SR
end
section
/-! SrVal3: values of the program's defs: further rows, falls, the greatest table. -/
namespace SR
open PySem PySem.Spec L2
variable [Wd]
theorem tb_tab {s : List Nat} {μ : Mu} (h : Hits s.length μ s) (hn : s.length ≤ 30) (hs : ∀ k, s.getD k 0 < 2 ^ 32) : Tb s.length (tab s.length μ) where
  bar := fun e he => mem_bars.mp (mem_tab.mp he).1
  num := fun e he => by
    obtain ⟨h1, h2, _⟩ := mem_tab.mp he
    have hb := mem_bars.mp h1
    have := le_sums h1 μ (k := e.1.1) (cov_iff.mpr ⟨Nat.le_refl _, hb.1⟩)
    rw [h _ (by omega)] at this
    have := hs e.1.1
    omega
  len := Nat.le_trans (tab_len _ _) (Nat.le_trans (Nat.mul_le_mul hn hn) (by decide))
theorem tb_all {s : List Nat} {t : List En} (h : t ∈ allT s) (hn : s.length ≤ 30) (hs : ∀ k, s.getD k 0 < 2 ^ 32) : Tb s.length t := by
  obtain ⟨μ, rfl, hm⟩ := mem_allT.mp h
  exact tb_tab hm hn hs
theorem szT_all {s : List Nat} {t : List En} (h : t ∈ allT s) : szT s.length t = s := by
  obtain ⟨μ, rfl, hm⟩ := mem_allT.mp h
  exact szT_tab hm
theorem szT_len (n : Nat) (t : List En) : (szT n t).length = n := by simp [szT]
theorem eulerF_ok {ws : List Bool} {s t : List Nat} (hs : s.length = ws.length + 1) (ht : t.length = ws.length + 1) (bs : ∀ x ∈ s, x < 2 ^ 32) (hw : ws.length ≤ 1000) : f_euler [.str (wd ws), szD s, szD t] = some (.int (eulerZ ws s t)) := euler_ok hs ht bs hw
theorem further_ok {ws : List Bool} {s s' : List Nat} {t u : List En} (hs : s.length = ws.length + 1) (hs' : s'.length = ws.length + 1) (ht : t ∈ allT s) (hu : u ∈ allT s') (bs : ∀ x ∈ s, x < 2 ^ 32) (bs' : ∀ x ∈ s', x < 2 ^ 32) (hw : ws.length ≤ 20) : f_further_by [.str (wd ws), tabD t, tabD u] = some (.int (mapsN ws t u - eulerZ ws s s')) := by
  have bt : Tb (ws.length + 1) t := hs ▸ tb_all ht (by omega) fun k => by have := getD_lt (m := 2 ^ 32 - 1) (s := s) bs k; omega
  have bu : Tb (ws.length + 1) u := hs' ▸ tb_all hu (by omega) fun k => by have := getD_lt (m := 2 ^ 32 - 1) (s := s') bs' k; omega
  have z1 := sz_ok ws t (by omega)
  have z2 := sz_ok ws u (by omega)
  rw [← hs, szT_all ht] at z1
  rw [← hs', szT_all hu] at z2
  refine den_run rfl rfl (run_retE ?_)
  exact ev_op2 (ev_call3 (ev_var rfl) (ev_var (d := tabD t) rfl) (ev_var (d := tabD u) rfl) (maps_ok bt bu (by omega))) (ev_call3 (ev_var rfl) (ev_call2 (ev_var rfl) (ev_var (d := tabD t) rfl) z1) (ev_call2 (ev_var rfl) (ev_var (d := tabD u) rfl) z2) (euler_ok hs hs' bs (by omega))) q_sub
theorem q_eqI (a b : Int) : cmpD .eq (.int a) (.int b) = some (decide (a = b)) := by
  rw [q_eq (by simp [sh]) (by simp [sh])]
  simp only [PyData.eqv, Option.some.injEq]
  rw [Bool.eq_iff_iff, beq_iff_eq, decide_eq_true_eq]
theorem q_neI (a b : Int) : cmpD .ne (.int a) (.int b) = some (!decide (a = b)) := by
  rw [q_ne (by simp [sh]) (by simp [sh])]
  simp only [PyData.eqv, Option.some.injEq]
  congr 1
theorem rigid_ok {ws : List Bool} {s : List Nat} {t : List En} (hs : s.length = ws.length + 1) (ht : t ∈ allT s) (bs : ∀ x ∈ s, x < 2 ^ 32) (hw : ws.length ≤ 20) : f_is_rigid [.str (wd ws), tabD t] = some (.bool (decide ((mapsN ws t t : Int) = eulerZ ws s s))) := by
  refine den_run rfl rfl (run_retE ?_)
  refine (ev_cmp' (ev_call3 (ev_var rfl) (ev_var (d := tabD t) rfl) (ev_var (d := tabD t) rfl) (further_ok hs hs ht ht bs bs hw)) rfl (q_eqI _ _)).trans ?_
  congr 2
  exact decide_eq_decide.mpr (by omega)
/-! all stretches -/
theorem rng2N {a b : Nat} (ha : a ≤ 16777216) (hb : b ≤ 16777216) : rngD [.int (a : Int), .int (b : Int)] = some ((List.range (b - a)).map fun i => intD (a + i)) := by
  have e : rangeD (a : Int) (b : Int) = (List.range (b - a)).map fun i => intD (a + i) := by
    unfold rangeD
    rw [show ((b : Int) - (a : Int)).toNat = b - a by omega]
    exact List.map_congr_left fun i _ => rfl
  have o : rangeOk (a : Int) (b : Int) = true := by
    unfold rangeOk
    simp; omega
  simp only [rngD]
  rw [if_pos o, e]
theorem ev_rng2 {a b : E} {ρ : Sl} {m n : Nat} (h : ev a ρ = ret (intD m)) (h2 : ev b ρ = ret (intD n)) (hm : m ≤ 16777216) (hn : n ≤ 16777216) : ev (.rng2 a b) ρ = ret (.list ((List.range (n - m)).map fun i => intD (m + i))) := by
  rw [ev, h, bnd_ret, h2, bnd_ret, rng2N hm hn, lift_some, bnd_ret]
def rowB (n i : Nat) : List Bar := (List.range (n - i)).map fun k => (i, i + k)
theorem bars_rows {n : Nat} (h : n ≤ 7) : bars n = (List.range n).flatMap (rowB n) := by
  have : ∀ n : Fin 8, bars n.val = (List.range n.val).flatMap (rowB n.val) := by decide
  exact this ⟨n, by omega⟩
theorem flat_done {α β : Type} (f : α → List β) (xs : List α) (x : α) : (xs ++ [x]).flatMap f = xs.flatMap f ++ f x := by
  rw [List.flatMap_append, List.flatMap_cons, List.flatMap_nil, List.append_nil]
theorem part_len {xs ys zs : List Nat} {n : Nat} (e : xs = ys ++ zs) : (ys.flatMap (rowB n)).length ≤ (xs.flatMap (rowB n)).length := by
  subst e
  rw [List.flatMap_append, List.length_append]; omega
theorem stretches_ok {ws : List Bool} (hw : ws.length ≤ 6) : f_all_stretches [.str (wd ws)] = some (.list ((bars (ws.length + 1)).map barD)) := by
  rw [bars_rows (by omega)]
  refine den_run rfl rfl ?_
  refine run_set (ev_len1 (ws := ws) rfl (by omega)) ?_
  refine run_newL (ds := []) rfl ?_
  refine run_for (xs := List.range (ws.length + 1)) (en := intD) (fun done ρ => ∃ a, ρ = [.dat (.str (wd ws)), .dat (intD (ws.length + 1)), .own (.lst ((done.flatMap (rowB (ws.length + 1))).map barD)), a, .no]) (ev_rng1 (ev_var rfl) (by omega)) rfl ⟨_, rfl⟩ ?_ ?_
  · rintro done i rest _ e ⟨a, rfl⟩
    have hi : i < ws.length + 1 := List.mem_range.mp (by rw [e]; simp)
    refine ⟨[.dat (.str (wd ws)), .dat (intD (ws.length + 1)), .own (.lst ((done.flatMap (rowB (ws.length + 1))).map barD)), .dat (intD i), .no], rfl, ?_⟩
    have c := comp_all (tg := .v 4) (it := .rng2 (.var 3) (.var 1)) (el := .tup (.cons (.var 3) (.cons (.var 4) .nil))) (own := [4]) (ρ := [.dat (.str (wd ws)), .dat (intD (ws.length + 1)), .own (.lst ((done.flatMap (rowB (ws.length + 1))).map barD)), .dat (intD i), .no]) (xs := List.range (ws.length + 1 - i)) (en := fun k => intD (i + k)) (fun k => barD (i, i + k)) (ev_rng2 (ev_var rfl) (ev_var rfl) (by omega) (by omega)) rfl fun k _ => ⟨_, rfl, ev_tup2 (ev_var (d := intD i) rfl) (ev_var (d := intD (i + k)) rfl)⟩
    have hl := part_len (n := ws.length + 1) e
    have hb : ((List.range (ws.length + 1)).flatMap (rowB (ws.length + 1))).length ≤ 100 := by
      have : ∀ n : Fin 8, ((List.range n.val).flatMap (rowB n.val)).length ≤ 100 := by decide
      exact this ⟨ws.length + 1, by omega⟩
    refine run_ext rfl c (by rw [List.length_map, List.length_map, List.length_range]; omega) (run_nil ⟨.dat (intD i), ?_⟩)
    rw [flat_done, List.map_append, rowB, List.map_map]
    rfl
  · rintro _ ⟨a, rfl⟩
    exact run_frz rfl (run_retE (ev_var rfl))
/-! falls -/
def fallsB (ws : List Bool) (t u : List En) : Bool := (bars (ws.length + 1)).all fun x => decide (fromN ws x t ≤ fromN ws x u)
theorem sh_sz (s : List Nat) : sh 40 (szD s) = true := by
  simp only [szD, sh]
  exact shs_map (fun _ => by simp [sh]) s
theorem alike_sz (s t : List Nat) : PySem.W.alike (szD s) (szD t) = true := by
  simp only [szD, PySem.W.alike]
  exact alikeAll_map (fun _ _ => rfl) s t
theorem truths_bool (bs : List Bool) : truths (bs.map PyData.bool) = some bs := by
  induction bs with
  | nil => rfl
  | cons b bs ih => rw [List.map_cons, truths, ih]; rfl
theorem q_all {α : Type} (xs : List α) (p : α → Bool) : bi .all [.list (xs.map fun x => .bool (p x))] = some (.bool (xs.all p)) := by
  simp only [bi, items, Option.bind_some]
  rw [show (xs.map fun x => PyData.bool (p x)) = (xs.map p).map PyData.bool by rw [List.map_map]; rfl, truths_bool, Option.map_some, List.all_map]
  rfl
theorem q_any {α : Type} (xs : List α) (p : α → Bool) : bi .any [.list (xs.map fun x => .bool (p x))] = some (.bool (xs.any p)) := by
  simp only [bi, items, Option.bind_some]
  rw [show (xs.map fun x => PyData.bool (p x)) = (xs.map p).map PyData.bool by rw [List.map_map]; rfl, truths_bool, Option.map_some, List.any_map]
  rfl
theorem falls_ok {ws : List Bool} {s : List Nat} {t u : List En} (hs : s.length = ws.length + 1) (ht : t ∈ allT s) (hu : u ∈ allT s) (bs : ∀ k, s.getD k 0 < 2 ^ 32) (hw : ws.length ≤ 6) : f_falls_to [.str (wd ws), tabD t, tabD u] = some (.bool (fallsB ws t u)) := by
  have bt : Tb (ws.length + 1) t := hs ▸ tb_all ht (by omega) bs
  have bu : Tb (ws.length + 1) u := hs ▸ tb_all hu (by omega) bs
  have z1 := sz_ok ws t (by omega)
  have z2 := sz_ok ws u (by omega)
  rw [← hs, szT_all ht] at z1
  rw [← hs, szT_all hu] at z2
  refine den_run rfl rfl ?_
  refine run_skip (ev_cmp' (ev_call2 (ev_var rfl) (ev_var (d := tabD t) rfl) z1) (ev_call2 (ev_var rfl) (ev_var (d := tabD u) rfl) z2) (q_ne (sh_sz _) (sh_sz _))) ?_ (run_retE ?_)
  · rw [PySem.W.eqv_refl_alike _ (alike_sz s s)]; rfl
  · refine ev_bi1 (comp_all (tg := .v 3) (own := [3]) (it := .call "all_stretches" f_all_stretches (.cons (.var 0) .nil)) (el := .cmp .le (.call "maps_from" f_maps_from (.cons (.var 0) (.cons (.var 3) (.cons (.var 1) .nil)))) (.call "maps_from" f_maps_from (.cons (.var 0) (.cons (.var 3) (.cons (.var 2) .nil))))) (xs := bars (ws.length + 1)) (en := barD) (fun x => .bool (decide (fromN ws x t ≤ fromN ws x u))) (ev_call1 (ev_var rfl) (stretches_ok hw)) rfl fun x hx => ?_) (q_all _ _)
    have hx := mem_bars.mp hx
    exact ⟨[.dat (.str (wd ws)), .dat (tabD t), .dat (tabD u), .dat (barD x)], rfl, ev_cmp' (ev_call3 (ev_var rfl) (ev_var (d := barD x) rfl) (ev_var (d := tabD t) rfl) (from_ok hx bt (by omega))) (ev_call3 (ev_var rfl) (ev_var (d := barD x) rfl) (ev_var (d := tabD u) rfl) (from_ok hx bu (by omega))) q_leN⟩
/-! the greatest table -/
theorem greatest_ok {ws : List Bool} {s : List Nat} {T : List En} (hs : s.length = ws.length + 1) (hw : ws.length ≤ 4) (h2 : ∀ k, s.getD k 0 ≤ 2) (hsum : s.sum ≤ 11) (hT : T ∈ allT s) (h : ∀ t ∈ allT s, (∀ u ∈ allT s, fallsB ws t u = true) ↔ t = T) : f_greatest_table [.str (wd ws), szD s] = some (tabD T) := by
  have tw := tw_ok 12 s (by omega) (by omega) (room_small (by omega) h2)
  refine den_run rfl rfl ?_
  refine run_for (xs := allT s) (en := tabD) (fun done ρ => (∃ a b, ρ = [.dat (.str (wd ws)), .dat (szD s), a, b]) ∧ T ∉ done) (ev_call1 (ev_var rfl) tw) rfl ⟨⟨_, _, rfl⟩, by simp⟩ ?_ ?_
  · rintro done t rest _ e ⟨⟨a, b, rfl⟩, hd⟩
    have ht : t ∈ allT s := by rw [e]; simp
    refine ⟨[.dat (.str (wd ws)), .dat (szD s), .dat (tabD t), b], rfl, ?_⟩
    have c := ev_bi1 (comp_all (tg := .v 3) (own := [3]) (it := .call "tables_with" (f_tw 12) (.cons (.var 1) .nil)) (el := .call "falls_to" f_falls_to (.cons (.var 0) (.cons (.var 2) (.cons (.var 3) .nil)))) (ρ := [.dat (.str (wd ws)), .dat (szD s), .dat (tabD t), b]) (xs := allT s) (en := tabD) (fun u => .bool (fallsB ws t u)) (ev_call1 (ev_var rfl) tw) rfl fun u hu => ⟨[.dat (.str (wd ws)), .dat (szD s), .dat (tabD t), .dat (tabD u)], rfl, ev_call3 (ev_var rfl) (ev_var (d := tabD t) rfl) (ev_var (d := tabD u) rfl) (falls_ok hs ht hu (fun k => by have := h2 k; omega) (by omega))⟩) (q_all (allT s) (fallsB ws t))
    by_cases hT' : t = T
    · subst hT'
      have : (allT s).all (fallsB ws t) = true := List.all_eq_true.mpr ((h t ht).mpr rfl)
      refine run_stop c (by rw [this]; rfl) (ev_var rfl) rfl
    · have : (allT s).all (fallsB ws t) = false := by
        rw [Bool.eq_false_iff]
        intro hh
        exact hT' ((h t ht).mp (List.all_eq_true.mp hh))
      refine run_skip c (by rw [this]; rfl) (run_nil ⟨⟨_, _, rfl⟩, ?_⟩)
      rw [List.mem_append, List.mem_singleton]
      rintro (h | h)
      · exact hd h
      · exact hT' h.symm
  · rintro _ ⟨_, hd⟩
    exact absurd hT hd
end SR
end
section
/-! SrHom: what holds of the few shapes, by counting through them. -/
namespace SR
/-- all words of a length -/
def allWs : Nat → List (List Bool)
  | 0 => [[]]
  | k + 1 => (allWs k).flatMap fun w => [false :: w, true :: w]
theorem mem_allWs : ∀ ws : List Bool, ws ∈ allWs ws.length
  | [] => .head _
  | b :: ws => List.mem_flatMap.mpr ⟨ws, mem_allWs ws, by cases b <;> simp⟩
def ind (n : Nat) (b : Bar) : List Nat := (List.range n).map fun k => if cov b k then 1 else 0
def rkP (ws : List Bool) (i : Nat) : Nat := if i = 0 then ws.length + 1 else if ws.getD (i - 1) false then ws.length + 1 + i else ws.length + 1 - i
def rkQ (ws : List Bool) (j : Nat) : Nat := if j = ws.length then ws.length + 1 else if ws.getD j false then ws.length + 1 - (ws.length - j) else ws.length + 1 + (ws.length - j)
def rk (ws : List Bool) (b : Bar) : Nat := rkP ws b.1 + rkQ ws b.2
def rkOk (ws : List Bool) : Bool := (bars (ws.length + 1)).all fun x => leadsN ws x x == 1 && (bars (ws.length + 1)).all fun y => leadsN ws x y == 0 || x == y || Nat.blt (rk ws x) (rk ws y)
def eB (ws : List Bool) (x y : Bar) : Int := eulerZ ws (ind (ws.length + 1) x) (ind (ws.length + 1) y)
/-- what comes before y -/
def arOk (ws : List Bool) : Bool := (bars (ws.length + 1)).all fun y =>
  ((bars (ws.length + 1)).all fun x => decide ((leadsN ws x y : Int) = eB ws x y)) || (bars (ws.length + 1)).any fun z => (bars (ws.length + 1)).all fun x => decide ((leadsN ws x y : Int) = eB ws x y + leadsN ws z x)
/-- what comes behind x -/
def raOk (ws : List Bool) : Bool := (bars (ws.length + 1)).all fun x =>
  ((bars (ws.length + 1)).all fun y => decide ((leadsN ws x y : Int) = eB ws x y)) || (bars (ws.length + 1)).any fun z => (bars (ws.length + 1)).all fun y => decide ((leadsN ws x y : Int) = eB ws x y + leadsN ws y z)
theorem allWs_of {p : List Bool → Bool} {k : Nat} (h : (allWs k).all p = true) : ∀ ws ∈ allWs k, p ws = true := fun ws hw => List.all_eq_true.mp h ws hw
theorem upto {p : List Bool → Bool} (h0 : (allWs 0).all p = true) (h1 : (allWs 1).all p = true) (h2 : (allWs 2).all p = true) (h3 : (allWs 3).all p = true) (h4 : (allWs 4).all p = true) : ∀ k : Fin 5, ∀ ws ∈ allWs k.val, p ws = true := fun k => by
  match k with
  | 0 => exact allWs_of h0
  | 1 => exact allWs_of h1
  | 2 => exact allWs_of h2
  | 3 => exact allWs_of h3
  | 4 => exact allWs_of h4
theorem rk_ok : ∀ k : Fin 5, ∀ ws ∈ allWs k.val, rkOk ws = true := upto (by decide +kernel) (by decide +kernel) (by decide +kernel) (by decide +kernel) (by decide +kernel)
theorem ar_ok4 : (allWs 4).all arOk = true := by decide +kernel
theorem ra_ok4 : (allWs 4).all raOk = true := by decide +kernel
theorem ar_ok3 : (allWs 3).all arOk = true := by decide +kernel
theorem ra_ok3 : (allWs 3).all raOk = true := by decide +kernel
theorem ar_ok : ∀ k : Fin 5, ∀ ws ∈ allWs k.val, arOk ws = true := upto (by decide +kernel) (by decide +kernel) (by decide +kernel) ar_ok3 ar_ok4
theorem ra_ok : ∀ k : Fin 5, ∀ ws ∈ allWs k.val, raOk ws = true := upto (by decide +kernel) (by decide +kernel) (by decide +kernel) ra_ok3 ra_ok4
end SR
end
section
/-! SrVal4: values of the laws' helpers. -/
namespace SR
open PySem PySem.Spec L2
variable [Wd]
theorem run_denP {n m : Nat} {sl : SL} {ds : List D} {P : D → Prop} {ρ : Sl} (hl : ds.length + 1 = n) (hρ : .pool :: ds.map .dat ++ nos (m - n) = ρ) (h : Run (exs sl ρ) fun o => P (outD o)) : Run (fun π => denP n m sl π ds) P := fun π hπ => by
  obtain ⟨o, π', e, hp, q⟩ := h π hπ
  refine ⟨outD o, π', ?_, hp, q⟩
  show denP n m sl π ds = _
  unfold denP
  rw [if_pos hl, hρ, e]; rfl
theorem run_callP0 {i : Nat} {n : Str} {f : FnP} {ρ : Sl} {P : D → Prop} (hp : ρ[i]? = some .pool) (h : Run (fun π => f π []) P) : Run (ev (.callP i n f .nil) ρ) P := by
  simp only [ev, evs, hp, bnd_ret]
  exact h
theorem run_callP1 {i : Nat} {n : Str} {f : FnP} {e : E} {ρ : Sl} {d : D} {P : D → Prop} (hp : ρ[i]? = some .pool) (he : ev e ρ = ret d) (h : Run (fun π => f π [d]) P) : Run (ev (.callP i n f (.cons e .nil)) ρ) P := by
  simp only [ev, evs, hp, he, bnd_ret]
  exact h
theorem run_callP2 {i : Nat} {n : Str} {f : FnP} {e e2 : E} {ρ : Sl} {d d2 : D} {P : D → Prop} (hp : ρ[i]? = some .pool) (he : ev e ρ = ret d) (he2 : ev e2 ρ = ret d2) (h : Run (fun π => f π [d, d2]) P) : Run (ev (.callP i n f (.cons e (.cons e2 .nil))) ρ) P := by
  simp only [ev, evs, hp, he, he2, bnd_ret]
  exact h
theorem run_callP3 {i : Nat} {n : Str} {f : FnP} {e e2 e3 : E} {ρ : Sl} {d d2 d3 : D} {P : D → Prop} (hp : ρ[i]? = some .pool) (he : ev e ρ = ret d) (he2 : ev e2 ρ = ret d2) (he3 : ev e3 ρ = ret d3) (h : Run (fun π => f π [d, d2, d3]) P) : Run (ev (.callP i n f (.cons e (.cons e2 (.cons e3 .nil)))) ρ) P := by
  simp only [ev, evs, hp, he, he2, he3, bnd_ret]
  exact h
theorem run_pickD {α : Type} {xs : List α} {en : α → D} (h0 : 0 < xs.length) (h1 : xs.length < 1073741824) : Run (fun π => f__law_pick π [.list (xs.map en)]) fun d => ∃ x ∈ xs, d = en x := by
  refine run_denP rfl rfl (run_ret ?_)
  show Run (ev _ [.pool, .dat (.list (xs.map en))]) _
  rw [ev, ev_var (d := .list (xs.map en)) rfl, bnd_ret]
  refine .bnd ((run_draw (m := xs.length) rfl (by rw [ev_lenL (ds := xs.map en) rfl, List.length_map]) h0 h1).mono ?_)
  rintro _ ⟨k, hk, rfl⟩
  have : ixD (.list (xs.map en)) (intD k) = some (en xs[k]) := by
    simp only [ixD]
    exact atI_nat (by rw [List.getElem?_map, List.getElem?_eq_getElem hk]; rfl)
  rw [this]
  exact .ret ⟨_, List.getElem_mem hk, rfl⟩
theorem run_pick {α : Type} {xs : List α} {en : α → D} {i : Nat} {n : Str} {e : E} {ρ : Sl} (hp : ρ[i]? = some .pool) (he : ev e ρ = ret (.list (xs.map en))) (h0 : 0 < xs.length) (h1 : xs.length < 1073741824) : Run (ev (.callP i n f__law_pick (.cons e .nil)) ρ) fun d => ∃ x ∈ xs, d = en x :=
  run_callP1 hp he (run_pickD h0 h1)
theorem lawStretches_ok {ws : List Bool} (hw : ws.length ≤ 6) : f__law_stretches [.str (wd ws)] = some (.list ((bars (ws.length + 1)).map barD)) := by
  rw [bars_rows (by omega)]
  have hb : ((List.range (ws.length + 1)).flatMap (rowB (ws.length + 1))).length ≤ 100 := by
    have : ∀ n : Fin 8, ((List.range n.val).flatMap (rowB n.val)).length ≤ 100 := by decide
    exact this ⟨ws.length + 1, by omega⟩
  refine den_run rfl rfl ?_
  refine run_newL (ds := []) rfl ?_
  refine run_for (xs := List.range (ws.length + 1)) (en := intD) (fun done ρ => ∃ a b, ρ = [.dat (.str (wd ws)), .own (.lst ((done.flatMap (rowB (ws.length + 1))).map barD)), a, b]) (ev_rng1 (ev_len1 (ws := ws) rfl (by omega)) (by omega)) rfl ⟨_, _, rfl⟩ ?_ ?_
  · rintro done i rest _ e ⟨a, b, rfl⟩
    have hi : i < ws.length + 1 := List.mem_range.mp (by rw [e]; simp)
    have hl : ((done ++ [i]).flatMap (rowB (ws.length + 1))).length ≤ 100 := Nat.le_trans (part_len (n := ws.length + 1) (zs := rest) (by rw [e, List.append_assoc]; rfl)) hb
    rw [flat_done, List.length_append, rowB, List.length_map, List.length_range] at hl
    refine ⟨[.dat (.str (wd ws)), .own (.lst ((done.flatMap (rowB (ws.length + 1))).map barD)), .dat (intD i), b], rfl, ?_⟩
    refine run_for (xs := List.range (ws.length + 1 - i)) (en := fun k => intD (i + k)) (fun dn ρ => ∃ b, ρ = [.dat (.str (wd ws)), .own (.lst ((done.flatMap (rowB (ws.length + 1)) ++ dn.map fun k => (i, i + k)).map barD)), .dat (intD i), b]) (ev_rng2 (ev_var rfl) (ev_len1 (ws := ws) rfl (by omega)) (by omega) (by omega)) rfl ⟨b, by simp⟩ ?_ ?_
    · rintro dn k rs _ e2 ⟨b, rfl⟩
      have hk : dn.length < ws.length + 1 - i := by
        have := congrArg List.length e2
        simp at this; omega
      refine ⟨[.dat (.str (wd ws)), .own (.lst ((done.flatMap (rowB (ws.length + 1)) ++ dn.map fun k => (i, i + k)).map barD)), .dat (intD i), .dat (intD (i + k))], rfl, ?_⟩
      refine run_app rfl (ev_tup2 (ev_var (d := intD i) rfl) (ev_var (d := intD (i + k)) rfl)) (by rw [List.length_map, List.length_append, List.length_map]; omega) (run_nil ⟨.dat (intD (i + k)), ?_⟩)
      · simp only [List.map_append, List.map_cons, List.map_nil, List.append_assoc]
        rfl
    · rintro _ ⟨b, rfl⟩
      refine run_nil ⟨.dat (intD i), b, ?_⟩
      rw [flat_done, rowB]
  · rintro _ ⟨a, b, rfl⟩
    exact run_frz rfl (run_retE (ev_var rfl))
def c_lszIn : E := (.comp (.t2 (.t2 (.v 2) (.v 3)) (.v 4)) (.var 1) (.cons (.and (.cmp .le (.var 2) (.var 5)) (.cmp .le (.var 5) (.var 3))) .nil) (.var 4) [4, 2, 3])
theorem lszIn_ok {s0 : Slot} {t : List En} {k : Nat} : ev c_lszIn [s0, .dat (tabD t), .no, .no, .no, .dat (intD k)] = ret (.list ((t.filter fun e => cov e.1 k).map fun e => intD e.2)) := by
  refine comp_map (xs := t) (en := entD) (d := tabD t) (fun e => cov e.1 k) (fun e => intD e.2) rfl rfl fun e _ => ?_
  refine ⟨[s0, .dat (tabD t), .dat (intD e.1.1), .dat (intD e.1.2), .dat (intD e.2), .dat (intD k)], rfl, ?_, fun _ => rfl⟩
  have c := side_ok (ρ := [s0, .dat (tabD t), .dat (intD e.1.1), .dat (intD e.1.2), .dat (intD e.2), .dat (intD k)]) (ev_cmp' (ev_var (i := 2) (d := intD e.1.1) rfl) (ev_var (i := 5) (d := intD k) rfl) q_leN) (fun _ => ev_cmp' (ev_var (i := 5) (d := intD k) rfl) (ev_var (i := 3) (d := intD e.1.2) rfl) q_leN)
  rw [evC, c]
  rfl
theorem lawSizes_ok (ws : List Bool) (t : List En) (hw : ws.length ≤ 1000) : f__law_sizes [.str (wd ws), tabD t] = some (szD (szT (ws.length + 1) t)) := by
  refine den_run rfl rfl (run_retE ?_)
  have c := comp_all (tg := .v 5) (own := [5]) (el := .bi .sum (.cons c_lszIn .nil)) (ρ := [.dat (.str (wd ws)), .dat (tabD t), .no, .no, .no, .no]) (xs := List.range (ws.length + 1)) (en := intD)
    (fun k => intD ((t.filter fun e => cov e.1 k).map (·.2)).sum) (ev_rng1 (ev_len1 (i := 0) rfl hw) (by omega)) rfl fun k _ => ⟨[.dat (.str (wd ws)), .dat (tabD t), .no, .no, .no, .dat (intD k)], rfl, by
      have q : bi .sum [.list ((t.filter fun e => cov e.1 k).map fun e => intD e.2)] = some (intD ((t.filter fun e => cov e.1 k).map (·.2)).sum) := q_sumN (by rw [List.map_map]; rfl)
      exact ev_bi1 lszIn_ok q⟩
  refine (ev_bi1 c rfl).trans ?_
  simp only [szD, szT, List.map_map]
  rfl
theorem szT_one (n : Nat) (b : Bar) : szT n [(b, 1)] = ind n b := by
  unfold szT ind
  refine List.map_congr_left fun k _ => ?_
  rw [List.filter_cons]
  by_cases h : cov b k = true
  · rw [if_pos h, if_pos h]; rfl
  · rw [if_neg h, if_neg h]; rfl
end SR
end
section
/-! SrHom2: sums over stretches; the order by maps. -/
namespace SR
def isum {α : Type} (xs : List α) (f : α → Int) : Int := (xs.map f).sum
section
variable {α β : Type}
theorem isum_cons (x : α) (xs : List α) (f : α → Int) : isum (x :: xs) f = f x + isum xs f := by simp [isum]
theorem isum_nil (f : α → Int) : isum [] f = 0 := rfl
theorem isum_congr {xs : List α} {f g : α → Int} (h : ∀ x ∈ xs, f x = g x) : isum xs f = isum xs g := by
  unfold isum; rw [List.map_congr_left h]
theorem isum_zero (xs : List α) : isum xs (fun _ => 0) = 0 := by
  induction xs with
  | nil => rfl
  | cons x xs ih => rw [isum_cons, ih]; rfl
theorem isum_add (xs : List α) (f g : α → Int) : isum xs (fun x => f x + g x) = isum xs f + isum xs g := by
  induction xs with
  | nil => rfl
  | cons x xs ih => rw [isum_cons, isum_cons, isum_cons, ih]; omega
theorem isum_sub (xs : List α) (f g : α → Int) : isum xs (fun x => f x - g x) = isum xs f - isum xs g := by
  induction xs with
  | nil => rfl
  | cons x xs ih => rw [isum_cons, isum_cons, isum_cons, ih]; omega
theorem isum_mul (c : Int) (xs : List α) (f : α → Int) : isum xs (fun x => c * f x) = c * isum xs f := by
  induction xs with
  | nil => simp [isum_nil]
  | cons x xs ih => rw [isum_cons, isum_cons, ih, Int.mul_add]
theorem isum_swap (xs : List α) (ys : List β) (f : α → β → Int) : isum xs (fun x => isum ys (f x)) = isum ys fun y => isum xs fun x => f x y := by
  induction xs with
  | nil => simp only [isum_nil]; rw [isum_zero]
  | cons x xs ih => simp only [isum_cons]; rw [ih, ← isum_add]
theorem isum_le {xs : List α} {f g : α → Int} (h : ∀ x ∈ xs, f x ≤ g x) : isum xs f ≤ isum xs g := by
  induction xs with
  | nil => exact Int.le_refl _
  | cons x xs ih =>
    rw [isum_cons, isum_cons]
    have := ih fun y hy => h y (.tail _ hy)
    have := h x (.head _)
    omega
theorem isum_lt {xs : List α} {f g : α → Int} (h : ∀ x ∈ xs, f x ≤ g x) {a : α} (ha : a ∈ xs) (hl : f a < g a) : isum xs f < isum xs g := by
  induction xs with
  | nil => cases ha
  | cons x xs ih =>
    rw [isum_cons, isum_cons]
    have h1 := h x (.head _)
    rcases List.mem_cons.mp ha with rfl | ha
    · have := isum_le fun y hy => h y (List.Mem.tail a hy)
      omega
    · have := ih (fun y hy => h y (.tail _ hy)) ha
      omega
theorem isum_one [DecidableEq α] {xs : List α} (nd : xs.Nodup) {a : α} (ha : a ∈ xs) (f : α → Int) : isum xs (fun x => if x = a then f x else 0) = f a := by
  induction xs with
  | nil => cases ha
  | cons x xs ih =>
    rw [List.nodup_cons] at nd
    rw [isum_cons]
    rcases List.mem_cons.mp ha with rfl | ha'
    · rw [if_pos rfl, isum_congr (g := fun _ => 0), isum_zero]
      · omega
      · intro y hy
        rw [if_neg]; rintro rfl; exact nd.1 hy
    · rw [if_neg (by rintro rfl; exact nd.1 ha'), ih nd.2 ha']
      omega
theorem nsum (xs : List α) (f : α → Nat) : (((xs.map f).sum : Nat) : Int) = isum xs fun x => (f x : Int) := by
  induction xs with
  | nil => rfl
  | cons x xs ih => rw [List.map_cons, List.sum_cons, isum_cons, ← ih]; omega
theorem isum_perm {xs ys : List α} (p : xs.Perm ys) (f : α → Int) : isum xs f = isum ys f := by
  induction p with
  | nil => rfl
  | cons x _ ih => rw [isum_cons, isum_cons, ih]
  | swap x y l => simp only [isum_cons]; omega
  | trans _ _ h1 h2 => rw [h1, h2]
end
/-- a sum over a table -/
theorem tab_isum (n : Nat) (μ : Mu) (g : Bar → Int) : isum (tab n μ) (fun e => e.2 * g e.1) = isum (bars n) fun b => μ b * g b := by
  rw [tab, isum_perm (sortT_perm _)]
  induction bars n with
  | nil => rfl
  | cons b bs ih =>
    rw [raw_cons, isum_cons, putE]
    by_cases h : μ b = 0
    · rw [if_pos h, ih, h]; simp
    · rw [if_neg h, isum_cons, ih]
abbrev Lz (ws : List Bool) (x y : Bar) : Int := (leadsN ws x y : Int)
def Fz (ws : List Bool) (μ : Mu) (x : Bar) : Int := isum (bars (ws.length + 1)) fun b => μ b * Lz ws x b
def Gz (ws : List Bool) (μ : Mu) (y : Bar) : Int := isum (bars (ws.length + 1)) fun b => μ b * Lz ws b y
def Mz (ws : List Bool) (μ ν : Mu) : Int := isum (bars (ws.length + 1)) fun b => μ b * Fz ws ν b
theorem from_z (ws : List Bool) (μ : Mu) (x : Bar) : (fromN ws x (tab (ws.length + 1) μ) : Int) = Fz ws μ x := by
  unfold fromN Fz
  rw [nsum, ← tab_isum]
  exact isum_congr fun e _ => by rw [Int.natCast_mul]
theorem to_z (ws : List Bool) (μ : Mu) (x : Bar) : (toN ws (tab (ws.length + 1) μ) x : Int) = Gz ws μ x := by
  unfold toN Gz
  rw [nsum, ← tab_isum]
  exact isum_congr fun e _ => by rw [Int.natCast_mul]
theorem maps_z (ws : List Bool) (μ ν : Mu) : (mapsN ws (tab (ws.length + 1) μ) (tab (ws.length + 1) ν) : Int) = Mz ws μ ν := by
  unfold mapsN Mz
  rw [nsum, ← tab_isum]
  exact isum_congr fun e _ => by rw [Int.natCast_mul, from_z]
theorem Mz_swap (ws : List Bool) (μ ν : Mu) : Mz ws μ ν = isum (bars (ws.length + 1)) fun b => ν b * Gz ws μ b := by
  unfold Mz Fz Gz
  simp only [← isum_mul]
  rw [isum_swap]
  refine isum_congr fun b _ => isum_congr fun c _ => ?_
  rw [← Int.mul_assoc, ← Int.mul_assoc, Int.mul_comm (μ c : Int)]
/-! the form is linear -/
variable [Wd]
theorem zip_range : ∀ (a s : List Nat), s.length = a.length → (List.zipWith (· * ·) a s).sum = ((List.range a.length).map fun k => a.getD k 0 * s.getD k 0).sum
  | [], [], _ => rfl
  | x :: a, y :: s, h => by
    rw [List.zipWith_cons_cons, List.sum_cons, List.length_cons, List.range_succ_eq_map, List.map_cons, List.sum_cons, List.map_map, zip_range a s (by simpa using h)]
    rfl
  | [], _ :: _, h => by simp at h
  | _ :: _, [], h => by simp at h
theorem euler_isum {ws : List Bool} {a s : List Nat} (ha : a.length = ws.length + 1) (hs : s.length = ws.length + 1) :
    eulerZ ws a s = isum (List.range (ws.length + 1)) (fun k => (a.getD k 0 : Int) * s.getD k 0) - isum (List.range ws.length) fun k => (a.getD (asrc ws k) 0 : Int) * s.getD (atgt ws k) 0 := by
  unfold eulerZ
  rw [zip_range a s (by omega), nsum, nsum, ha]
  congr 1
  all_goals exact isum_congr fun k _ => Int.natCast_mul _ _
theorem ind_len (n : Nat) (b : Bar) : (ind n b).length = n := by simp [ind]
theorem ind_get {n k : Nat} (b : Bar) (h : k < n) : (ind n b).getD k 0 = if cov b k then 1 else 0 := by
  rw [ind, List.getD_eq_getElem?_getD, List.getElem?_map, List.getElem?_range h]; rfl
theorem hits_isum {n : Nat} {μ : Mu} {s : List Nat} (h : Hits n μ s) {k : Nat} (hk : k < n) : (s.getD k 0 : Int) = isum (bars n) fun b => μ b * ((ind n b).getD k 0 : Nat) := by
  rw [← h k hk, sums, nsum]
  refine isum_congr fun b _ => ?_
  rw [ind_get b hk]
  split <;> simp
theorem euler_right {ws : List Bool} {a s : List Nat} {μ : Mu} (ha : a.length = ws.length + 1) (hs : s.length = ws.length + 1) (h : Hits (ws.length + 1) μ s) :
    eulerZ ws a s = isum (bars (ws.length + 1)) fun b => μ b * eulerZ ws a (ind (ws.length + 1) b) := by
  rw [euler_isum ha hs]
  simp only [euler_isum ha (ind_len _ _), Int.mul_sub]
  rw [isum_sub]
  congr 1
  · rw [isum_congr (g := fun k => isum (bars (ws.length + 1)) fun b => (a.getD k 0 : Int) * (μ b * ((ind (ws.length + 1) b).getD k 0 : Nat))) fun k hk => by rw [hits_isum h (List.mem_range.mp hk), isum_mul], isum_swap]
    refine isum_congr fun b _ => ?_
    rw [← isum_mul]
    exact isum_congr fun k _ => by rw [← Int.mul_assoc, ← Int.mul_assoc, Int.mul_comm (a.getD k 0 : Int)]
  · rw [isum_congr (g := fun k => isum (bars (ws.length + 1)) fun b => (a.getD (asrc ws k) 0 : Int) * (μ b * ((ind (ws.length + 1) b).getD (atgt ws k) 0 : Nat))) fun k hk => by rw [hits_isum h (atgt_le (List.mem_range.mp hk)), isum_mul], isum_swap]
    refine isum_congr fun b _ => ?_
    rw [← isum_mul]
    exact isum_congr fun k _ => by rw [← Int.mul_assoc, ← Int.mul_assoc, Int.mul_comm (a.getD (asrc ws k) 0 : Int)]
theorem euler_left {ws : List Bool} {a s : List Nat} {μ : Mu} (ha : a.length = ws.length + 1) (hs : s.length = ws.length + 1) (h : Hits (ws.length + 1) μ s) :
    eulerZ ws s a = isum (bars (ws.length + 1)) fun b => μ b * eulerZ ws (ind (ws.length + 1) b) a := by
  rw [euler_isum hs ha]
  simp only [euler_isum (ind_len _ _) ha, Int.mul_sub]
  rw [isum_sub]
  congr 1
  · rw [isum_congr (g := fun k => isum (bars (ws.length + 1)) fun b => (a.getD k 0 : Int) * (μ b * ((ind (ws.length + 1) b).getD k 0 : Nat))) fun k hk => by rw [hits_isum h (List.mem_range.mp hk), Int.mul_comm, isum_mul], isum_swap]
    refine isum_congr fun b _ => ?_
    rw [← isum_mul]
    exact isum_congr fun k _ => by rw [Int.mul_comm, Int.mul_assoc]
  · rw [isum_congr (g := fun k => isum (bars (ws.length + 1)) fun b => (a.getD (atgt ws k) 0 : Int) * (μ b * ((ind (ws.length + 1) b).getD (asrc ws k) 0 : Nat))) fun k hk => by rw [hits_isum h (asrc_le (List.mem_range.mp hk)), Int.mul_comm, isum_mul], isum_swap]
    refine isum_congr fun b _ => ?_
    rw [← isum_mul]
    exact isum_congr fun k _ => by rw [Int.mul_comm, Int.mul_assoc]
end SR
end
section
/-! SrGen: a table that falls to all others of its sizes. -/
namespace SR
def genGo : List Bool → Nat → Nat → List Nat → List Nat → List Bar
  | [], k, _, _, op => op.map fun i => (i, k)
  | _ :: _, k, _, [], op => op.map fun i => (i, k)
  | false :: ws, k, a, b :: ds, op => if Nat.blt b a then (op.drop b).map (fun i => (i, k)) ++ genGo ws (k + 1) b ds (op.take b) else genGo ws (k + 1) b ds (op ++ List.replicate (b - a) (k + 1))
  | true :: ws, k, a, b :: ds, op => if Nat.blt b a then (op.take (a - b)).map (fun i => (i, k)) ++ genGo ws (k + 1) b ds (op.drop (a - b)) else genGo ws (k + 1) b ds (List.replicate (b - a) (k + 1) ++ op)
def genL (ws : List Bool) : List Nat → List Bar
  | [] => []
  | a :: ds => genGo ws 0 a ds (List.replicate a 0)
/-- parts of a stretch -/
def subsGo (x : Bar) : Nat → List (List Nat)
  | 0 => [[]]
  | k + 1 => (subsGo x k).flatMap fun q => if cov x k then [q ++ [0], q ++ [1]] else [q ++ [0]]
def vq (ws : List Bool) (x : Bar) : List (List Nat) := (subsGo x (ws.length + 1)).filter fun q => (bars (ws.length + 1)).all fun y => decide (eulerZ ws q (ind (ws.length + 1) y) ≤ leadsN ws x y)
/-- all sizes up to two with a sum of at most m -/
def szs : Nat → Nat → List (List Nat)
  | 0, _ => [[]]
  | k + 1, m => (szs k m).flatMap fun d => (List.range 3).map fun a => a :: d
def hom1 (ws : List Bool) (x : Bar) (gl : List Bar) : Nat := (gl.map (leadsN ws x)).sum
def gOk (ws : List Bool) (d : List Nat) : Bool :=
  let gl := genL ws d
  (gl.all fun b => Nat.ble b.1 b.2 && Nat.blt b.2 (ws.length + 1)) && ((List.range (ws.length + 1)).all fun k => ((gl.filter fun b => cov b k).length == d.getD k 0))
    && ((bars (ws.length + 1)).all fun x => (vq ws x).any fun q => decide (eulerZ ws q d = hom1 ws x gl)) && decide (((gl.map fun a => hom1 ws a gl).sum : Int) = eulerZ ws d d)
theorem gen_all' {k : Nat} (h : ((allWs k).all fun ws => (szs (k + 1) 6).all (gOk ws)) = true) : ∀ ws ∈ allWs k, ∀ d ∈ szs (k + 1) 6, gOk ws d = true := fun ws hw => List.all_eq_true.mp (List.all_eq_true.mp h ws hw)
theorem gen3 : ((allWs 3).all fun ws => (szs 4 6).all (gOk ws)) = true := by decide +kernel
theorem gen_ok : ∀ k : Fin 4, ∀ ws ∈ allWs k.val, ∀ d ∈ szs (k.val + 1) 6, gOk ws d = true := fun k => by
  match k with
  | 0 => exact gen_all' (by decide +kernel)
  | 1 => exact gen_all' (by decide +kernel)
  | 2 => exact gen_all' (by decide +kernel)
  | 3 => exact gen_all' gen3
end SR
end
section
/-! SrHom3: the order by maps; the greatest table. -/
namespace SR
variable [Wd]
theorem exists_min {α : Type} (f : α → Nat) (P : α → Prop) : ∀ (m : Nat) (a : α), f a ≤ m → P a → ∃ b, P b ∧ ∀ c, P c → f b ≤ f c
  | 0, a, h, p => ⟨a, p, fun c _ => by omega⟩
  | m + 1, a, h, p => by
    by_cases q : ∃ c, P c ∧ f c ≤ m
    · obtain ⟨c, pc, hc⟩ := q
      exact exists_min f P m c hc pc
    · refine ⟨a, p, fun c pc => ?_⟩
      rcases Nat.lt_or_ge (f c) (f a) with h2 | h2
      · exact absurd ⟨c, pc, by omega⟩ q
      · exact h2
theorem rk_fact {ws : List Bool} (hw : ws.length ≤ 4) {x y : Bar} (hx : x ∈ bars (ws.length + 1)) (hy : y ∈ bars (ws.length + 1)) : leadsN ws x x = 1 ∧ (leadsN ws x y = 0 ∨ x = y ∨ rk ws x < rk ws y) := by
  have := rk_ok ⟨ws.length, by omega⟩ ws (mem_allWs ws)
  unfold rkOk at this
  have := List.all_eq_true.mp this x hx
  rw [Bool.and_eq_true, beq_iff_eq] at this
  refine ⟨this.1, ?_⟩
  have := List.all_eq_true.mp this.2 y hy
  rw [Bool.or_eq_true, Bool.or_eq_true, beq_iff_eq, beq_iff_eq, Nat.blt_eq] at this
  rcases this with (h | h) | h
  · exact .inl h
  · exact .inr (.inl h)
  · exact .inr (.inr h)
theorem ar_fact {ws : List Bool} (hw : ws.length ≤ 4) {y : Bar} (hy : y ∈ bars (ws.length + 1)) : (∀ x ∈ bars (ws.length + 1), Lz ws x y = eB ws x y) ∨ ∃ z ∈ bars (ws.length + 1), ∀ x ∈ bars (ws.length + 1), Lz ws x y = eB ws x y + Lz ws z x := by
  have := ar_ok ⟨ws.length, by omega⟩ ws (mem_allWs ws)
  unfold arOk at this
  have := List.all_eq_true.mp this y hy
  rw [Bool.or_eq_true] at this
  rcases this with h | h
  · exact .inl fun x hx => of_decide_eq_true (List.all_eq_true.mp h x hx)
  · obtain ⟨z, hz, h⟩ := List.any_eq_true.mp h
    exact .inr ⟨z, hz, fun x hx => of_decide_eq_true (List.all_eq_true.mp h x hx)⟩
theorem ra_fact {ws : List Bool} (hw : ws.length ≤ 4) {x : Bar} (hx : x ∈ bars (ws.length + 1)) : (∀ y ∈ bars (ws.length + 1), Lz ws x y = eB ws x y) ∨ ∃ z ∈ bars (ws.length + 1), ∀ y ∈ bars (ws.length + 1), Lz ws x y = eB ws x y + Lz ws y z := by
  have := ra_ok ⟨ws.length, by omega⟩ ws (mem_allWs ws)
  unfold raOk at this
  have := List.all_eq_true.mp this x hx
  rw [Bool.or_eq_true] at this
  rcases this with h | h
  · exact .inl fun y hy => of_decide_eq_true (List.all_eq_true.mp h y hy)
  · obtain ⟨z, hz, h⟩ := List.any_eq_true.mp h
    exact .inr ⟨z, hz, fun y hy => of_decide_eq_true (List.all_eq_true.mp h y hy)⟩
section
variable {ws : List Bool} {s : List Nat} {μ ν : Mu}
theorem G_cases (hw : ws.length ≤ 4) {y : Bar} (hy : y ∈ bars (ws.length + 1)) : (∀ (μ : Mu) (s : List Nat), s.length = ws.length + 1 → Hits (ws.length + 1) μ s → Gz ws μ y = eulerZ ws s (ind (ws.length + 1) y)) ∨ ∃ z ∈ bars (ws.length + 1), ∀ (μ : Mu) (s : List Nat), s.length = ws.length + 1 → Hits (ws.length + 1) μ s → Gz ws μ y = eulerZ ws s (ind (ws.length + 1) y) + Fz ws μ z := by
  rcases ar_fact hw hy with h | ⟨z, hz, h⟩
  · refine .inl fun μ s hs hh => ?_
    rw [euler_left (ind_len _ _) hs hh]
    exact isum_congr fun b hb => by rw [h b hb]; rfl
  · refine .inr ⟨z, hz, fun μ s hs hh => ?_⟩
    rw [euler_left (ind_len _ _) hs hh]
    unfold Gz Fz
    rw [← isum_add]
    exact isum_congr fun b hb => by rw [h b hb, Int.mul_add]; rfl
theorem F_cases (hw : ws.length ≤ 4) {x : Bar} (hx : x ∈ bars (ws.length + 1)) : (∀ (μ : Mu) (s : List Nat), s.length = ws.length + 1 → Hits (ws.length + 1) μ s → Fz ws μ x = eulerZ ws (ind (ws.length + 1) x) s) ∨ ∃ z ∈ bars (ws.length + 1), ∀ (μ : Mu) (s : List Nat), s.length = ws.length + 1 → Hits (ws.length + 1) μ s → Fz ws μ x = eulerZ ws (ind (ws.length + 1) x) s + Gz ws μ z := by
  rcases ra_fact hw hx with h | ⟨z, hz, h⟩
  · refine .inl fun μ s hs hh => ?_
    rw [euler_right (ind_len _ _) hs hh]
    exact isum_congr fun b hb => by rw [h b hb]; rfl
  · refine .inr ⟨z, hz, fun μ s hs hh => ?_⟩
    rw [euler_right (ind_len _ _) hs hh]
    unfold Gz Fz
    rw [← isum_add]
    exact isum_congr fun b hb => by rw [h b hb, Int.mul_add]; rfl
def Hle (ws : List Bool) (μ ν : Mu) : Prop := ∀ x ∈ bars (ws.length + 1), Fz ws μ x ≤ Fz ws ν x
theorem G_le (hw : ws.length ≤ 4) (hs : s.length = ws.length + 1) (hμ : Hits (ws.length + 1) μ s) (hν : Hits (ws.length + 1) ν s) (h : Hle ws μ ν) : ∀ y ∈ bars (ws.length + 1), Gz ws μ y ≤ Gz ws ν y := fun y hy => by
  rcases G_cases hw hy with e | ⟨z, hz, e⟩
  · rw [e μ s hs hμ, e ν s hs hν]; exact Int.le_refl _
  · rw [e μ s hs hμ, e ν s hs hν]
    have := h z hz
    omega
theorem F_le (hw : ws.length ≤ 4) (hs : s.length = ws.length + 1) (hμ : Hits (ws.length + 1) μ s) (hν : Hits (ws.length + 1) ν s) (h : ∀ y ∈ bars (ws.length + 1), Gz ws μ y ≤ Gz ws ν y) : Hle ws μ ν := fun x hx => by
  rcases F_cases hw hx with e | ⟨z, hz, e⟩
  · rw [e μ s hs hμ, e ν s hs hν]; exact Int.le_refl _
  · rw [e μ s hs hμ, e ν s hs hν]
    have := h z hz
    omega
/-- who falls to another one has fewer maps into itself -/
theorem M_lt (hw : ws.length ≤ 4) (hs : s.length = ws.length + 1) (hμ : Hits (ws.length + 1) μ s) (hν : Hits (ws.length + 1) ν s) (h : Hle ws μ ν) (hne : ∃ b ∈ bars (ws.length + 1), μ b ≠ ν b) : Mz ws μ μ < Mz ws ν ν := by
  have h1 : Mz ws μ μ ≤ Mz ws μ ν := isum_le fun b hb => Int.mul_le_mul_of_nonneg_left (h b hb) (Int.natCast_nonneg _)
  have hG := G_le hw hs hμ hν h
  obtain ⟨a, ha, hane⟩ := hne
  obtain ⟨b, ⟨hb, hbne⟩, hmin⟩ := exists_min (rk ws) (fun b => b ∈ bars (ws.length + 1) ∧ μ b ≠ ν b) (rk ws a) a (Nat.le_refl _) ⟨ha, hane⟩
  have hd : Gz ws ν b - Gz ws μ b = (ν b : Int) - μ b := by
    unfold Gz
    rw [← isum_sub, isum_congr (g := fun c => if c = b then (ν b : Int) - μ b else 0), isum_one (bars_nodup _) hb (fun _ => (ν b : Int) - μ b)]
    intro c hc
    by_cases e : c = b
    · subst e
      rw [if_pos rfl, Lz, (rk_fact hw hb hb).1]; omega
    · rw [if_neg e]
      rcases (rk_fact hw hc hb).2 with h0 | h0 | h0
      · rw [Lz, h0]; omega
      · exact absurd h0 e
      · by_cases e2 : μ c = ν c
        · rw [e2]; omega
        · have := hmin c ⟨hc, e2⟩
          omega
  have hb2 := hG b hb
  have : (μ b : Int) < ν b := by omega
  have h2 : Mz ws μ ν < Mz ws ν ν := by
    rw [Mz_swap, Mz_swap]
    refine isum_lt (a := b) (fun c hc => Int.mul_le_mul_of_nonneg_left (hG c hc) (Int.natCast_nonneg _)) hb ?_
    exact Int.mul_lt_mul_of_pos_left (by omega) (by omega)
  omega
theorem falls_iff : fallsB ws (tab (ws.length + 1) μ) (tab (ws.length + 1) ν) = true ↔ Hle ws μ ν := by
  unfold fallsB Hle
  rw [List.all_eq_true]
  constructor
  · intro h x hx
    have := of_decide_eq_true (h x hx)
    rw [← from_z, ← from_z]; omega
  · intro h x hx
    have := h x hx
    rw [← from_z, ← from_z] at this
    exact decide_eq_true (by omega)
end
/-! lists of stretches as tables -/
def cnt (gl : List Bar) : Mu := fun b => gl.count b
theorem cnt_isum {n : Nat} (g : Bar → Int) : ∀ {gl : List Bar}, (∀ b ∈ gl, b ∈ bars n) → isum (bars n) (fun b => cnt gl b * g b) = isum gl g
  | [], _ => by
    rw [isum_nil, isum_congr (g := fun _ => 0) fun b _ => by simp [cnt], isum_zero]
  | c :: gl, h => by
    rw [isum_cons, ← cnt_isum g fun b hb => h b (.tail _ hb), isum_congr (g := fun b => (if b = c then g b else 0) + cnt gl b * g b), isum_add, isum_one (bars_nodup n) (h c (.head _))]
    intro b hb
    unfold cnt
    rw [List.count_cons]
    by_cases e : b = c
    · subst e
      rw [if_pos (by simp), if_pos rfl, Int.natCast_add, Int.add_mul]; omega
    · rw [if_neg (by simpa using fun h => e h.symm), if_neg e, Nat.add_zero, Int.zero_add]
theorem subs_len (x : Bar) : ∀ (n : Nat) (q : List Nat), q ∈ subsGo x n → q.length = n
  | 0, q, h => by
    have := List.mem_singleton.mp h
    rw [this]; rfl
  | n + 1, q, h => by
    obtain ⟨r, hr, h⟩ := List.mem_flatMap.mp h
    have := subs_len x n r hr
    split at h
    · rcases List.mem_cons.mp h with rfl | h
      · simp [this]
      · rw [List.mem_singleton.mp h]; simp [this]
    · rw [List.mem_singleton.mp h]; simp [this]
/-- gOk says: a table that falls to all others of its sizes, with as few maps as the form tells -/
theorem gen_fact {ws : List Bool} {d : List Nat} (hd : d.length = ws.length + 1) (h : gOk ws d = true) : ∃ μ : Mu, Hits (ws.length + 1) μ d ∧ (∀ ν : Mu, Hits (ws.length + 1) ν d → Hle ws μ ν) ∧ Mz ws μ μ = eulerZ ws d d := by
  unfold gOk at h
  simp only [Bool.and_eq_true] at h
  obtain ⟨⟨⟨h1, h2⟩, h3⟩, h4⟩ := h
  have hb : ∀ b ∈ genL ws d, b ∈ bars (ws.length + 1) := fun b hb => by
    have := List.all_eq_true.mp h1 b hb
    rw [Bool.and_eq_true, Nat.blt_eq] at this
    exact mem_bars.mpr ⟨Nat.le_of_ble_eq_true this.1, this.2⟩
  have hF : ∀ x, Fz ws (cnt (genL ws d)) x = (hom1 ws x (genL ws d) : Nat) := fun x => by
    unfold Fz hom1
    rw [cnt_isum _ hb, nsum]
  refine ⟨cnt (genL ws d), fun k hk => ?_, fun ν hν x hx => ?_, ?_⟩
  · have h5 := List.all_eq_true.mp h2 k (List.mem_range.mpr hk)
    rw [beq_iff_eq] at h5
    rw [← h5]
    have h6 := cnt_isum (n := ws.length + 1) (fun b => if cov b k then 1 else 0) hb
    have h7 : ((sums (bars (ws.length + 1)) (cnt (genL ws d)) k : Nat) : Int) = isum (bars (ws.length + 1)) fun b => cnt (genL ws d) b * (if cov b k then 1 else 0) := by
      unfold sums
      rw [nsum]
      exact isum_congr fun b _ => by split <;> simp
    have h8 : ∀ gl : List Bar, isum gl (fun b => if cov b k then 1 else 0) = ((gl.filter fun b => cov b k).length : Nat) := fun gl => by
      induction gl with
      | nil => rfl
      | cons b gl ih =>
        rw [isum_cons, ih, List.filter_cons]
        by_cases c : cov b k = true
        · rw [if_pos c, if_pos c, List.length_cons]; omega
        · rw [if_neg c, if_neg c]; omega
    rw [h8] at h6
    omega
  · obtain ⟨q, hq, h5⟩ := List.any_eq_true.mp (List.all_eq_true.mp h3 x hx)
    obtain ⟨hq1, hq2⟩ := List.mem_filter.mp hq
    have h5 := of_decide_eq_true h5
    rw [hF, ← h5, euler_right (subs_len _ _ _ hq1) hd hν]
    refine isum_le fun b hb => Int.mul_le_mul_of_nonneg_left ?_ (Int.natCast_nonneg _)
    exact of_decide_eq_true (List.all_eq_true.mp hq2 b hb)
  · have h5 := of_decide_eq_true h4
    rw [← h5]
    unfold Mz
    rw [cnt_isum _ hb, nsum]
    exact isum_congr fun b _ => hF b
end SR
end
section
/-! SrEqv: when data of tables are alike; the greatest table; rules for bodies. -/
namespace SR
open PySem PySem.Spec L2
variable [Wd]
theorem eqvAll_map {α : Type} [DecidableEq α] {f : α → D} (h : ∀ a b, PyData.eqv (f a) (f b) = decide (a = b)) : ∀ xs ys : List α, PyData.eqvAll (xs.map f) (ys.map f) = decide (xs = ys)
  | [], [] => by simp [PyData.eqvAll]
  | [], y :: ys => by simp [PyData.eqvAll]
  | x :: xs, [] => by simp [PyData.eqvAll]
  | x :: xs, y :: ys => by
    rw [List.map_cons, List.map_cons, PyData.eqvAll, h, eqvAll_map h xs ys, Bool.eq_iff_iff]
    simp
theorem eqv_int (a b : Nat) : PyData.eqv (intD a) (intD b) = decide (a = b) := by
  simp only [PyData.eqv]
  rw [Bool.eq_iff_iff, beq_iff_eq, decide_eq_true_eq]; omega
theorem eqv_sz (s t : List Nat) : PyData.eqv (szD s) (szD t) = decide (s = t) := by
  simp only [szD, PyData.eqv]
  exact eqvAll_map eqv_int s t
theorem eqv_bar (a b : Bar) : PyData.eqv (barD a) (barD b) = decide (a = b) := by
  obtain ⟨a1, a2⟩ := a
  obtain ⟨b1, b2⟩ := b
  simp only [barD, PyData.eqv, PyData.eqvAll]
  rw [Bool.eq_iff_iff]
  simp
  omega
theorem eqv_ent (a b : En) : PyData.eqv (entD a) (entD b) = decide (a = b) := by
  obtain ⟨a1, a2⟩ := a
  obtain ⟨b1, b2⟩ := b
  simp only [entD]
  rw [show PyData.eqv (.tuple [barD a1, intD a2]) (.tuple [barD b1, intD b2]) = (PyData.eqv (barD a1) (barD b1) && (PyData.eqv (intD a2) (intD b2) && true)) by simp only [PyData.eqv, PyData.eqvAll], eqv_bar, eqv_int, Bool.eq_iff_iff]
  simp
theorem eqv_tab (a b : List En) : PyData.eqv (tabD a) (tabD b) = decide (a = b) := by
  simp only [tabD, PyData.eqv]
  exact eqvAll_map eqv_ent a b
theorem sh_tab40 (t : List En) : sh 40 (tabD t) = true := by
  simp only [tabD, sh]
  exact shs_map (fun e => rfl) t
theorem sh_bar40 (t : Bar) : sh 40 (barD t) = true := rfl
theorem q_eqS (s t : List Nat) : cmpD .eq (szD s) (szD t) = some (decide (s = t)) := by rw [q_eq (sh_sz s) (sh_sz t), eqv_sz]
theorem q_neS (s t : List Nat) : cmpD .ne (szD s) (szD t) = some (!decide (s = t)) := by rw [q_ne (sh_sz s) (sh_sz t), eqv_sz]
theorem q_eqT (s t : List En) : cmpD .eq (tabD s) (tabD t) = some (decide (s = t)) := by rw [q_eq (sh_tab40 s) (sh_tab40 t), eqv_tab]
theorem q_neT (s t : List En) : cmpD .ne (tabD s) (tabD t) = some (!decide (s = t)) := by rw [q_ne (sh_tab40 s) (sh_tab40 t), eqv_tab]
theorem q_neB (a b : Bool) : cmpD .ne (.bool a) (.bool b) = some (a != b) := by cases a <;> cases b <;> rfl
theorem q_eqB (a b : Bool) : cmpD .eq (.bool a) (.bool b) = some (a == b) := by cases a <;> cases b <;> rfl
theorem q_memT (t : List En) (ts : List (List En)) : cmpD .mem (tabD t) (.list (ts.map tabD)) = some (decide (t ∈ ts)) := by
  show (if sh 40 (tabD t) && shs 39 (ts.map tabD) then some ((ts.map tabD).any fun z => PyData.eqv z (tabD t)) else none) = _
  rw [sh_tab40, shs_map sh_tab ts, Bool.and_self, if_pos rfl, List.any_map]
  congr 1
  rw [Bool.eq_iff_iff, List.any_eq_true, decide_eq_true_eq]
  constructor
  · rintro ⟨u, hu, h⟩
    simp only [Function.comp, eqv_tab, decide_eq_true_eq] at h
    exact h ▸ hu
  · intro h
    exact ⟨t, h, by simp only [Function.comp, eqv_tab, decide_eq_true_eq]⟩
/-! rules -/
theorem run_cmpR {c : Cmp} {a b : E} {ρ : Sl} {Q : D → Prop} {y : D} (h2 : ev b ρ = ret y) (h : Run (ev a ρ) fun x => ∃ k, cmpD c x y = some k ∧ Q (.bool k)) : Run (ev (.cmp c a b) ρ) Q := by
  rw [ev]
  refine .bnd (h.mono ?_)
  rintro x ⟨k, hk, q⟩
  rw [h2, bnd_ret, hk, lift_some, bnd_ret]
  exact .ret q
theorem run_ifeR {c : E} {a b r : SL} {ρ : Sl} {Q : Out → Prop} (h : Run (ev c ρ) fun d => ∃ k, truth d = some k ∧ Run (if k then exs a ρ else exs b ρ) fun o => match o with
    | .nx ρ' => Run (exs r ρ') Q
    | .rt d => Q (.rt d)) : Run (exs (.cons (.ife c a b) r) ρ) Q := by
  refine run_exs ?_
  rw [ex_ife]
  refine .bnd (h.mono ?_)
  rintro d ⟨k, ht, q⟩
  rw [truthM, ht, lift_some, bnd_ret]
  exact q
/-! the greatest table -/
theorem greatest_at {ws : List Bool} {d : List Nat} (hw : ws.length ≤ 4) (hd : d.length = ws.length + 1) (h2 : ∀ k, d.getD k 0 ≤ 2) (hs : d.sum ≤ 11) (g : gOk ws d = true) :
    ∃ μ : Mu, Hits (ws.length + 1) μ d ∧ f_greatest_table [.str (wd ws), szD d] = some (tabD (tab (ws.length + 1) μ)) ∧ (∀ ν : Mu, Hits (ws.length + 1) ν d → Hle ws μ ν) ∧ Mz ws μ μ = eulerZ ws d d ∧ ∀ t ∈ allT d, (∀ u ∈ allT d, fallsB ws t u = true) ↔ t = tab (ws.length + 1) μ := by
  obtain ⟨μ, hμ, hmin, hM⟩ := gen_fact hd g
  have hT : tab (ws.length + 1) μ ∈ allT d := mem_allT.mpr ⟨μ, by rw [hd], by rw [hd]; exact hμ⟩
  have key : ∀ t ∈ allT d, (∀ u ∈ allT d, fallsB ws t u = true) ↔ t = tab (ws.length + 1) μ := fun t ht => by
    obtain ⟨ν, rfl, hν⟩ := mem_allT.mp ht
    rw [hd] at hν ⊢
    constructor
    · intro h
      have h1 := falls_iff.mp (h _ hT)
      refine tab_ext.mpr fun b hb => ?_
      rcases Decidable.em (ν b = μ b) with e | e
      · exact e
      · exfalso
        have l1 := M_lt hw hd hμ hν (hmin ν hν) ⟨b, hb, fun h => e h.symm⟩
        have l2 := M_lt hw hd hν hμ h1 ⟨b, hb, e⟩
        omega
    · intro e u hu
      obtain ⟨κ, rfl, hκ⟩ := mem_allT.mp hu
      rw [hd] at hκ ⊢
      rw [e]
      exact falls_iff.mpr (hmin κ hκ)
  exact ⟨μ, hμ, greatest_ok hd hw h2 hs hT key, hmin, hM, key⟩
/-! the form's algebra -/
theorem get_zip (s t : List Nat) (h : s.length = t.length) (k : Nat) : (List.zipWith (· + ·) s t).getD k 0 = s.getD k 0 + t.getD k 0 := by
  rw [List.getD_eq_getElem?_getD, List.getD_eq_getElem?_getD, List.getD_eq_getElem?_getD, List.getElem?_zipWith]
  rcases Nat.lt_or_ge k s.length with h1 | h1
  · rw [List.getElem?_eq_getElem h1, List.getElem?_eq_getElem (by omega)]; rfl
  · rw [List.getElem?_eq_none h1, List.getElem?_eq_none (by omega)]; rfl
theorem get_scale (c : Nat) (s : List Nat) (k : Nat) : (s.map (c * ·)).getD k 0 = c * s.getD k 0 := by
  rw [List.getD_eq_getElem?_getD, List.getD_eq_getElem?_getD, List.getElem?_map]
  cases s[k]? <;> simp
theorem euler_addL {ws : List Bool} {s t a : List Nat} (hs : s.length = ws.length + 1) (ht : t.length = ws.length + 1) (ha : a.length = ws.length + 1) : eulerZ ws (List.zipWith (· + ·) s t) a = eulerZ ws s a + eulerZ ws t a := by
  rw [euler_isum (by simp [hs, ht]) ha, euler_isum hs ha, euler_isum ht ha]
  simp only [get_zip s t (by omega), Int.natCast_add, Int.add_mul]
  rw [isum_add, isum_add]; omega
theorem euler_addR {ws : List Bool} {s t a : List Nat} (hs : s.length = ws.length + 1) (ht : t.length = ws.length + 1) (ha : a.length = ws.length + 1) : eulerZ ws a (List.zipWith (· + ·) s t) = eulerZ ws a s + eulerZ ws a t := by
  rw [euler_isum ha (by simp [hs, ht]), euler_isum ha hs, euler_isum ha ht]
  simp only [get_zip s t (by omega), Int.natCast_add, Int.mul_add]
  rw [isum_add, isum_add]; omega
theorem euler_scale {ws : List Bool} {s : List Nat} (c : Nat) (hs : s.length = ws.length + 1) : eulerZ ws (s.map (c * ·)) (s.map (c * ·)) = c * c * eulerZ ws s s := by
  rw [euler_isum (by simp [hs]) (by simp [hs]), euler_isum hs hs]
  have e : ∀ x y : Nat, ((c * x : Nat) : Int) * ((c * y : Nat) : Int) = (c * c : Int) * ((x : Int) * y) := fun x y => by
    rw [Int.natCast_mul, Int.natCast_mul, Int.mul_assoc, Int.mul_assoc, Int.mul_left_comm (x : Int)]
  simp only [get_scale, e]
  rw [isum_mul, isum_mul, Int.mul_sub]
/-! one stretch -/
def oneM (b : Bar) : Mu := fun c => if c = b then 1 else 0
theorem tab_one {n : Nat} {b : Bar} (hb : b ∈ bars n) : tab n (oneM b) = [(b, 1)] := by
  have p : (raw (bars n) (oneM b)).Perm [(b, 1)] := perm_of (raw_nodup (bars_nodup n) _) (by simp) fun e => by
    obtain ⟨c, m⟩ := e
    rw [mem_raw, List.mem_singleton, Prod.mk.injEq]
    simp only [oneM]
    constructor
    · rintro ⟨_, h2, h3⟩
      split at h2
      · rename_i h; exact ⟨h, h2⟩
      · exact absurd h2 h3
    · rintro ⟨rfl, rfl⟩
      exact ⟨hb, by rw [if_pos rfl], by decide⟩
  rw [tab, sortT_congr p]
  exact List.perm_singleton.mp (sortT_perm _)
theorem hits_one {n : Nat} {b : Bar} (hb : b ∈ bars n) : Hits n (oneM b) (ind n b) := fun k hk => by
  have h7 : ((sums (bars n) (oneM b) k : Nat) : Int) = isum (bars n) fun c => if c = b then (if cov b k then 1 else 0) else 0 := by
    unfold sums
    rw [nsum]
    refine isum_congr fun c _ => ?_
    unfold oneM
    by_cases e : c = b
    · subst e; rw [if_pos rfl]; simp only [if_true]; split <;> rfl
    · rw [if_neg e]; simp [e]
  rw [isum_one (bars_nodup n) hb (fun _ => if cov b k then 1 else 0)] at h7
  rw [ind_get b hk]
  split at h7 <;> rename_i c
  · rw [if_pos c]; omega
  · rw [if_neg c]; omega
theorem M_one {ws : List Bool} {b : Bar} (hw : ws.length ≤ 4) (hb : b ∈ bars (ws.length + 1)) : Mz ws (oneM b) (oneM b) = 1 := by
  have e1 : ∀ f : Bar → Int, isum (bars (ws.length + 1)) (fun c => oneM b c * f c) = f b := fun f => by
    rw [isum_congr (g := fun c => if c = b then f c else 0), isum_one (bars_nodup _) hb]
    intro c _
    unfold oneM
    by_cases e : c = b
    · rw [if_pos e, if_pos e]; simp
    · rw [if_neg e, if_neg e]; simp
  unfold Mz Fz
  rw [e1, e1, Lz, (rk_fact hw hb hb).1]; rfl
end SR
end
section
/-! SrForm: the form of few places, by counting through them. -/
namespace SR
def fmOk (ws : List Bool) (d : List Nat) : Bool := (decide (eulerZ ws d d = 1) == (bars (ws.length + 1)).any fun b => ind (ws.length + 1) b == d) && (Nat.beq d.sum 0 || decide (1 ≤ eulerZ ws d d))
theorem fm_all {k : Nat} (h : ((allWs k).all fun ws => (szs (k + 1) 0).all (fmOk ws)) = true) : ∀ ws ∈ allWs k, ∀ d ∈ szs (k + 1) 0, fmOk ws d = true := fun ws hw => List.all_eq_true.mp (List.all_eq_true.mp h ws hw)
theorem fm4 : ((allWs 4).all fun ws => (szs 5 0).all (fmOk ws)) = true := by decide +kernel
theorem fm3 : ((allWs 3).all fun ws => (szs 4 0).all (fmOk ws)) = true := by decide +kernel
theorem fm_ok : ∀ k : Fin 5, ∀ ws ∈ allWs k.val, ∀ d ∈ szs (k.val + 1) 0, fmOk ws d = true := fun k => by
  match k with
  | 0 => exact fm_all (by decide +kernel)
  | 1 => exact fm_all (by decide +kernel)
  | 2 => exact fm_all (by decide +kernel)
  | 3 => exact fm_all fm3
  | 4 => exact fm_all fm4
end SR
end
section
/-! SrGen5: a table that falls to all others of its sizes, five places. -/
namespace SR
theorem mem_len : ∀ (k : Nat) (ws : List Bool), ws ∈ allWs k → ws.length = k
  | 0, ws, h => by
    have := List.mem_singleton.mp h
    rw [this]; rfl
  | k + 1, ws, h => by
    obtain ⟨w, hw, h⟩ := List.mem_flatMap.mp h
    have := mem_len k w hw
    simp only [List.mem_cons, List.not_mem_nil, or_false] at h
    rcases h with rfl | rfl <;> simp [this]
theorem mem_four {ws : List Bool} (h : ws ∈ allWs 4) : ws.length = 4 := mem_len 4 ws h
theorem g5_0 : ((szs 5 6).all fun d => Nat.blt 6 d.sum || gOk [false, false, false, false] d) = true := by decide +kernel
theorem g5_1 : ((szs 5 6).all fun d => Nat.blt 6 d.sum || gOk [false, false, false, true] d) = true := by decide +kernel
theorem g5_2 : ((szs 5 6).all fun d => Nat.blt 6 d.sum || gOk [false, false, true, false] d) = true := by decide +kernel
theorem g5_3 : ((szs 5 6).all fun d => Nat.blt 6 d.sum || gOk [false, false, true, true] d) = true := by decide +kernel
theorem g5_4 : ((szs 5 6).all fun d => Nat.blt 6 d.sum || gOk [false, true, false, false] d) = true := by decide +kernel
theorem g5_5 : ((szs 5 6).all fun d => Nat.blt 6 d.sum || gOk [false, true, false, true] d) = true := by decide +kernel
theorem g5_6 : ((szs 5 6).all fun d => Nat.blt 6 d.sum || gOk [false, true, true, false] d) = true := by decide +kernel
theorem g5_7 : ((szs 5 6).all fun d => Nat.blt 6 d.sum || gOk [false, true, true, true] d) = true := by decide +kernel
theorem g5_8 : ((szs 5 6).all fun d => Nat.blt 6 d.sum || gOk [true, false, false, false] d) = true := by decide +kernel
theorem g5_9 : ((szs 5 6).all fun d => Nat.blt 6 d.sum || gOk [true, false, false, true] d) = true := by decide +kernel
theorem g5_10 : ((szs 5 6).all fun d => Nat.blt 6 d.sum || gOk [true, false, true, false] d) = true := by decide +kernel
theorem g5_11 : ((szs 5 6).all fun d => Nat.blt 6 d.sum || gOk [true, false, true, true] d) = true := by decide +kernel
theorem g5_12 : ((szs 5 6).all fun d => Nat.blt 6 d.sum || gOk [true, true, false, false] d) = true := by decide +kernel
theorem g5_13 : ((szs 5 6).all fun d => Nat.blt 6 d.sum || gOk [true, true, false, true] d) = true := by decide +kernel
theorem g5_14 : ((szs 5 6).all fun d => Nat.blt 6 d.sum || gOk [true, true, true, false] d) = true := by decide +kernel
theorem g5_15 : ((szs 5 6).all fun d => Nat.blt 6 d.sum || gOk [true, true, true, true] d) = true := by decide +kernel
theorem gen_ok5 : ∀ ws ∈ allWs 4, ∀ d ∈ szs 5 6, (Nat.blt 6 d.sum || gOk ws d) = true := fun ws hw => by
  match ws, mem_four hw with
  | [false, false, false, false], _ => exact List.all_eq_true.mp g5_0
  | [false, false, false, true], _ => exact List.all_eq_true.mp g5_1
  | [false, false, true, false], _ => exact List.all_eq_true.mp g5_2
  | [false, false, true, true], _ => exact List.all_eq_true.mp g5_3
  | [false, true, false, false], _ => exact List.all_eq_true.mp g5_4
  | [false, true, false, true], _ => exact List.all_eq_true.mp g5_5
  | [false, true, true, false], _ => exact List.all_eq_true.mp g5_6
  | [false, true, true, true], _ => exact List.all_eq_true.mp g5_7
  | [true, false, false, false], _ => exact List.all_eq_true.mp g5_8
  | [true, false, false, true], _ => exact List.all_eq_true.mp g5_9
  | [true, false, true, false], _ => exact List.all_eq_true.mp g5_10
  | [true, false, true, true], _ => exact List.all_eq_true.mp g5_11
  | [true, true, false, false], _ => exact List.all_eq_true.mp g5_12
  | [true, true, false, true], _ => exact List.all_eq_true.mp g5_13
  | [true, true, true, false], _ => exact List.all_eq_true.mp g5_14
  | [true, true, true, true], _ => exact List.all_eq_true.mp g5_15
end SR
end
section
namespace K21
open PySem PySem.Spec PyProof.Rows L2 SR
def top (i : Nat) : Stmt := PySem.Challenge.pw_stretchrows_k21_whole_roots_of_the_form.main.body.getD i (.Pass ⟨0, 0, 0, 0⟩)
/-! arrow -/
abbrev s_arrow : Stmt := top 4
def n_arrow : List Str := ["shape", "k"]
theorem sc_arrow : FnScope n_arrow ["shape", "k"] (defScope s_arrow) := ⟨rfl, rfl, rfl, by decide +kernel, by decide +kernel, by decide +kernel, by decide +kernel⟩
theorem c_arrow : chkSL n_arrow (defScope s_arrow) i_arrow (defBody s_arrow) = true := by decide +kernel
/-! all_stretches -/
abbrev s_all_stretches : Stmt := top 5
def n_all_stretches : List Str := ["shape", "n", "found", "i", "j"]
theorem sc_all_stretches : FnScope n_all_stretches ["shape"] (defScope s_all_stretches) := ⟨rfl, rfl, rfl, by decide +kernel, by decide +kernel, by decide +kernel, by decide +kernel⟩
theorem c_all_stretches : chkSL n_all_stretches (defScope s_all_stretches) i_all_stretches (defBody s_all_stretches) = true := by decide +kernel
/-! leads_on -/
abbrev s_leads_on : Stmt := top 7
def n_leads_on : List Str := ["shape", "one", "two", "low", "high"]
theorem sc_leads_on : FnScope n_leads_on ["shape", "one", "two"] (defScope s_leads_on) := ⟨rfl, rfl, rfl, by decide +kernel, by decide +kernel, by decide +kernel, by decide +kernel⟩
theorem c_leads_on : chkSL n_leads_on (defScope s_leads_on) i_leads_on (defBody s_leads_on) = true := by decide +kernel
/-! maps_by -/
abbrev s_maps_by : Stmt := top 8
def n_maps_by : List Str := ["shape", "one", "two", "x", "a", "y", "b"]
theorem sc_maps_by : FnScope n_maps_by ["shape", "one", "two"] (defScope s_maps_by) := ⟨rfl, rfl, rfl, by decide +kernel, by decide +kernel, by decide +kernel, by decide +kernel⟩
theorem c_maps_by : chkSL n_maps_by (defScope s_maps_by) i_maps_by (defBody s_maps_by) = true := by decide +kernel
/-! sizes_by -/
abbrev s_sizes_by : Stmt := top 9
def n_sizes_by : List Str := ["shape", "table", "i", "j", "many", "k"]
theorem sc_sizes_by : FnScope n_sizes_by ["shape", "table"] (defScope s_sizes_by) := ⟨rfl, rfl, rfl, by decide +kernel, by decide +kernel, by decide +kernel, by decide +kernel⟩
theorem c_sizes_by : chkSL n_sizes_by (defScope s_sizes_by) i_sz (defBody s_sizes_by) = true := by decide +kernel
/-! euler -/
abbrev s_euler : Stmt := top 10
def n_euler : List Str := ["shape", "one", "two", "found", "a", "b", "k", "start", "end"]
theorem sc_euler : FnScope n_euler ["shape", "one", "two"] (defScope s_euler) := ⟨rfl, rfl, rfl, by decide +kernel, by decide +kernel, by decide +kernel, by decide +kernel⟩
theorem c_euler : chkSL n_euler (defScope s_euler) i_euler (defBody s_euler) = true := by decide +kernel
/-! square_form -/
abbrev s_square_form : Stmt := top 11
def n_square_form : List Str := ["shape", "one"]
theorem sc_square_form : FnScope n_square_form ["shape", "one"] (defScope s_square_form) := ⟨rfl, rfl, rfl, by decide +kernel, by decide +kernel, by decide +kernel, by decide +kernel⟩
theorem c_square_form : chkSL n_square_form (defScope s_square_form) i_square_form (defBody s_square_form) = true := by decide +kernel
/-! further_by -/
abbrev s_further_by : Stmt := top 12
def n_further_by : List Str := ["shape", "one", "two"]
theorem sc_further_by : FnScope n_further_by ["shape", "one", "two"] (defScope s_further_by) := ⟨rfl, rfl, rfl, by decide +kernel, by decide +kernel, by decide +kernel, by decide +kernel⟩
theorem c_further_by : chkSL n_further_by (defScope s_further_by) i_further_by (defBody s_further_by) = true := by decide +kernel
/-! is_rigid -/
abbrev s_is_rigid : Stmt := top 13
def n_is_rigid : List Str := ["shape", "table"]
theorem sc_is_rigid : FnScope n_is_rigid ["shape", "table"] (defScope s_is_rigid) := ⟨rfl, rfl, rfl, by decide +kernel, by decide +kernel, by decide +kernel, by decide +kernel⟩
theorem c_is_rigid : chkSL n_is_rigid (defScope s_is_rigid) i_is_rigid (defBody s_is_rigid) = true := by decide +kernel
/-! tables_with -/
abbrev s_tables_with : Stmt := top 15
def n_tables_with : List Str := ["sizes", "first", "k", "found", "last", "less", "size", "table", "numbers"]
theorem sc_tables_with : FnScope n_tables_with ["sizes"] (defScope s_tables_with) := ⟨rfl, rfl, rfl, by decide +kernel, by decide +kernel, by decide +kernel, by decide +kernel⟩
theorem c_tables_with (f : Fn) : chkSL n_tables_with (defScope s_tables_with) (i_tw f) (defBody s_tables_with) = true := by kernel_rfl
/-! maps_from -/
abbrev s_maps_from : Stmt := top 19
def n_maps_from : List Str := ["shape", "stretch", "table", "other", "many"]
theorem sc_maps_from : FnScope n_maps_from ["shape", "stretch", "table"] (defScope s_maps_from) := ⟨rfl, rfl, rfl, by decide +kernel, by decide +kernel, by decide +kernel, by decide +kernel⟩
theorem c_maps_from : chkSL n_maps_from (defScope s_maps_from) i_maps_from (defBody s_maps_from) = true := by decide +kernel
/-! falls_to -/
abbrev s_falls_to : Stmt := top 17
def n_falls_to : List Str := ["shape", "one", "two", "x"]
theorem sc_falls_to : FnScope n_falls_to ["shape", "one", "two"] (defScope s_falls_to) := ⟨rfl, rfl, rfl, by decide +kernel, by decide +kernel, by decide +kernel, by decide +kernel⟩
theorem c_falls_to : chkSL n_falls_to (defScope s_falls_to) i_falls_to (defBody s_falls_to) = true := by decide +kernel
/-! greatest_table -/
abbrev s_greatest_table : Stmt := top 18
def n_greatest_table : List Str := ["shape", "sizes", "table", "other"]
theorem sc_greatest_table : FnScope n_greatest_table ["shape", "sizes"] (defScope s_greatest_table) := ⟨rfl, rfl, rfl, by decide +kernel, by decide +kernel, by decide +kernel, by decide +kernel⟩
theorem c_greatest_table : chkSL n_greatest_table (defScope s_greatest_table) i_greatest_table (defBody s_greatest_table) = true := by decide +kernel
/-! _law_same -/
abbrev s__law_same : Stmt := top 21
def n__law_same : List Str := ["actual", "due", "k"]
theorem sc__law_same : FnScope n__law_same ["actual", "due"] (defScope s__law_same) := ⟨rfl, rfl, rfl, by decide +kernel, by decide +kernel, by decide +kernel, by decide +kernel⟩
theorem c__law_same (f : Fn) : chkSL n__law_same (defScope s__law_same) (i_same f) (defBody s__law_same) = true := by kernel_rfl
/-! _law_pool -/
abbrev s__law_pool : Stmt := top 22
def n__law_pool : List Str := ["script", "salt", "cell"]
theorem sc__law_pool : FnScope n__law_pool ["script"] (defScope s__law_pool) := ⟨rfl, rfl, rfl, by decide +kernel, by decide +kernel, by decide +kernel, by decide +kernel⟩
/-! _law_spread -/
abbrev s__law_spread : Stmt := top 23
def n__law_spread : List Str := ["cell", "mixed", "total", "k"]
theorem sc__law_spread : FnScope n__law_spread ["cell"] (defScope s__law_spread) := ⟨rfl, rfl, rfl, by decide +kernel, by decide +kernel, by decide +kernel, by decide +kernel⟩
theorem c__law_spread : chkSL n__law_spread (defScope s__law_spread) i_spread (defBody s__law_spread) = true := by decide +kernel
/-! _law_draw -/
abbrev s__law_draw : Stmt := top 24
def n__law_draw : List Str := ["pool", "many", "cell", "mixed", "value"]
theorem sc__law_draw : FnScope n__law_draw ["pool", "many"] (defScope s__law_draw) := ⟨rfl, rfl, rfl, by decide +kernel, by decide +kernel, by decide +kernel, by decide +kernel⟩
theorem c__law_draw : chkSL n__law_draw (defScope s__law_draw) i_draw (defBody s__law_draw) = true := by decide +kernel
/-! _law_pick -/
abbrev s__law_pick : Stmt := top 25
def n__law_pick : List Str := ["pool", "items"]
theorem sc__law_pick : FnScope n__law_pick ["pool", "items"] (defScope s__law_pick) := ⟨rfl, rfl, rfl, by decide +kernel, by decide +kernel, by decide +kernel, by decide +kernel⟩
theorem c__law_pick : chkSL n__law_pick (defScope s__law_pick) i__law_pick (defBody s__law_pick) = true := by decide +kernel
/-! _law_shape -/
abbrev s__law_shape : Stmt := top 26
def n__law_shape : List Str := ["pool", "most", "k"]
theorem sc__law_shape : FnScope n__law_shape ["pool", "most"] (defScope s__law_shape) := ⟨rfl, rfl, rfl, by decide +kernel, by decide +kernel, by decide +kernel, by decide +kernel⟩
theorem c__law_shape : chkSL n__law_shape (defScope s__law_shape) i_shape (defBody s__law_shape) = true := by decide +kernel
/-! _law_stretches -/
abbrev s__law_stretches : Stmt := top 27
def n__law_stretches : List Str := ["shape", "found", "i", "j"]
theorem sc__law_stretches : FnScope n__law_stretches ["shape"] (defScope s__law_stretches) := ⟨rfl, rfl, rfl, by decide +kernel, by decide +kernel, by decide +kernel, by decide +kernel⟩
theorem c__law_stretches : chkSL n__law_stretches (defScope s__law_stretches) i__law_stretches (defBody s__law_stretches) = true := by decide +kernel
/-! _law_sizes -/
abbrev s__law_sizes : Stmt := top 28
def n__law_sizes : List Str := ["shape", "table", "i", "j", "many", "k"]
theorem sc__law_sizes : FnScope n__law_sizes ["shape", "table"] (defScope s__law_sizes) := ⟨rfl, rfl, rfl, by decide +kernel, by decide +kernel, by decide +kernel, by decide +kernel⟩
theorem c__law_sizes : chkSL n__law_sizes (defScope s__law_sizes) i__law_sizes (defBody s__law_sizes) = true := by decide +kernel
/-! law -/
abbrev s_law : Stmt := top 29
def n_law : List Str := ["script", "pool", "shape", "sizes", "k", "i", "j", "roots", "pair", "form", "x", "other", "both", "a", "b", "table"]
theorem sc_law : FnScope n_law ["script"] (defScope s_law) := ⟨rfl, rfl, rfl, by decide +kernel, by decide +kernel, by decide +kernel, by decide +kernel⟩
def i_law : SL := (.cons (.asg (.v 2) (.callP 1 "_law_shape" f_shape (.cons (.k (.int 4)) .nil))) (.cons (.asg (.v 3) (.bi .tuple (.cons (.comp (.v 4) (.rng1 (.op2 .add (.bi .len (.cons (.var 2) .nil)) (.k (.int 1)))) .nil (.callP 1 "_law_draw" f_draw (.cons (.k (.int 3)) .nil)) [4]) .nil))) (.cons (.ife (.cmp .eq (.callP 1 "_law_draw" f_draw (.cons (.k (.int 2)) .nil)) (.k (.int 0))) (.cons (.asg (.t2 (.v 5) (.v 6)) (.callP 1 "_law_pick" f__law_pick (.cons (.call "_law_stretches" f__law_stretches (.cons (.var 2) .nil)) .nil))) (.cons (.asg (.v 3) (.call "_law_sizes" f__law_sizes (.cons (.var 2) (.cons (.tup (.cons (.tup (.cons (.tup (.cons (.var 5) (.cons (.var 6) .nil))) (.cons (.k (.int 1)) .nil))) .nil)) .nil)))) .nil)) .nil) (.cons (.asg (.v 7) (.comp (.v 8) (.call "_law_stretches" f__law_stretches (.cons (.var 2) .nil)) (.cons (.cmp .eq (.call "_law_sizes" f__law_sizes (.cons (.var 2) (.cons (.tup (.cons (.tup (.cons (.var 8) (.cons (.k (.int 1)) .nil))) .nil)) .nil))) (.var 3)) .nil) (.var 8) [8])) (.cons (.asg (.v 9) (.call "square_form" f_square_form (.cons (.var 2) (.cons (.var 3) .nil)))) (.cons (.ife (.or (.cmp .ne (.cmp .eq (.var 9) (.k (.int 1))) (.cmp .eq (.bi .len (.cons (.var 7) .nil)) (.k (.int 1)))) (.cmp .ne (.call "square_form" f_square_form (.cons (.var 2) (.cons (.bi .tuple (.cons (.comp (.v 10) (.var 3) .nil (.op2 .mul (.k (.int 2)) (.var 10)) [10]) .nil)) .nil))) (.op2 .mul (.k (.int 4)) (.var 9)))) (.cons (.ret (.k (.bool false))) .nil) .nil) (.cons (.ife (.or (.and (.cmp .gt (.bi .sum (.cons (.var 3) .nil)) (.k (.int 0))) (.cmp .lt (.var 9) (.k (.int 1)))) (.cmp .ne (.call "euler" f_euler (.cons (.var 2) (.cons (.var 3) (.cons (.var 3) .nil)))) (.var 9))) (.cons (.ret (.k (.bool false))) .nil) .nil) (.cons (.asg (.v 11) (.bi .tuple (.cons (.comp (.v 4) (.rng1 (.op2 .add (.bi .len (.cons (.var 2) .nil)) (.k (.int 1)))) .nil (.callP 1 "_law_draw" f_draw (.cons (.k (.int 3)) .nil)) [4]) .nil))) (.cons (.asg (.v 12) (.bi .tuple (.cons (.comp (.t2 (.v 13) (.v 14)) (.zip2 (.var 3) (.var 11)) .nil (.op2 .add (.var 13) (.var 14)) [13, 14]) .nil))) (.cons (.ife (.cmp .ne (.call "square_form" f_square_form (.cons (.var 2) (.cons (.var 12) .nil))) (.op2 .add (.op2 .add (.op2 .add (.var 9) (.call "square_form" f_square_form (.cons (.var 2) (.cons (.var 11) .nil)))) (.call "euler" f_euler (.cons (.var 2) (.cons (.var 3) (.cons (.var 11) .nil))))) (.call "euler" f_euler (.cons (.var 2) (.cons (.var 11) (.cons (.var 3) .nil)))))) (.cons (.ret (.k (.bool false))) .nil) .nil) (.cons (.ife (.cmp .eq (.bi .len (.cons (.var 7) .nil)) (.k (.int 1))) (.cons (.asg (.v 15) (.tup (.cons (.tup (.cons (.ix (.var 7) (.k (.int 0))) (.cons (.k (.int 1)) .nil))) .nil))) (.cons (.ret (.call "_law_same" (f_same 10) (.cons (.lst (.cons (.call "greatest_table" f_greatest_table (.cons (.var 2) (.cons (.var 3) .nil))) (.cons (.call "is_rigid" f_is_rigid (.cons (.var 2) (.cons (.var 15) .nil))) (.cons (.cmp .mem (.var 15) (.call "tables_with" (f_tw 12) (.cons (.var 3) .nil))) .nil)))) (.cons (.lst (.cons (.var 15) (.cons (.k (.bool true)) (.cons (.k (.bool true)) .nil)))) .nil)))) .nil)) .nil) (.cons (.ret (.or (.cmp .gt (.bi .sum (.cons (.var 3) .nil)) (.k (.int 6))) (.cmp .eq (.call "square_form" f_square_form (.cons (.var 2) (.cons (.var 3) .nil))) (.call "maps_by" f_maps_by (.cons (.var 2) (.cons (.call "greatest_table" f_greatest_table (.cons (.var 2) (.cons (.var 3) .nil))) (.cons (.call "greatest_table" f_greatest_table (.cons (.var 2) (.cons (.var 3) .nil))) .nil))))))) .nil))))))))))))
theorem c_law : chkSL n_law (defScope s_law) i_law ((defBody s_law).drop 1) = true := by decide +kernel
def d_arrow : He.DefD := ⟨("arrow", none), "arrow", "arrow", defArgs s_arrow, defBody s_arrow, defScope s_arrow, [], []⟩
def d_all_stretches : He.DefD := ⟨("all_stretches", none), "all_stretches", "all_stretches", defArgs s_all_stretches, defBody s_all_stretches, defScope s_all_stretches, [], []⟩
def d_leads_on : He.DefD := ⟨("leads_on", none), "leads_on", "leads_on", defArgs s_leads_on, defBody s_leads_on, defScope s_leads_on, [], []⟩
def d_maps_by : He.DefD := ⟨("maps_by", none), "maps_by", "maps_by", defArgs s_maps_by, defBody s_maps_by, defScope s_maps_by, [], []⟩
def d_sizes_by : He.DefD := ⟨("sizes_by", none), "sizes_by", "sizes_by", defArgs s_sizes_by, defBody s_sizes_by, defScope s_sizes_by, [], []⟩
def d_euler : He.DefD := ⟨("euler", none), "euler", "euler", defArgs s_euler, defBody s_euler, defScope s_euler, [], []⟩
def d_square_form : He.DefD := ⟨("square_form", none), "square_form", "square_form", defArgs s_square_form, defBody s_square_form, defScope s_square_form, [], []⟩
def d_further_by : He.DefD := ⟨("further_by", none), "further_by", "further_by", defArgs s_further_by, defBody s_further_by, defScope s_further_by, [], []⟩
def d_is_rigid : He.DefD := ⟨("is_rigid", none), "is_rigid", "is_rigid", defArgs s_is_rigid, defBody s_is_rigid, defScope s_is_rigid, [], []⟩
def d_tables_with : He.DefD := ⟨("tables_with", none), "tables_with", "tables_with", defArgs s_tables_with, defBody s_tables_with, defScope s_tables_with, [], []⟩
def d_maps_from : He.DefD := ⟨("maps_from", none), "maps_from", "maps_from", defArgs s_maps_from, defBody s_maps_from, defScope s_maps_from, [], []⟩
def d_falls_to : He.DefD := ⟨("falls_to", none), "falls_to", "falls_to", defArgs s_falls_to, defBody s_falls_to, defScope s_falls_to, [], []⟩
def d_greatest_table : He.DefD := ⟨("greatest_table", none), "greatest_table", "greatest_table", defArgs s_greatest_table, defBody s_greatest_table, defScope s_greatest_table, [], []⟩
def d__law_same : He.DefD := ⟨("_law_same", none), "_law_same", "_law_same", defArgs s__law_same, defBody s__law_same, defScope s__law_same, [], []⟩
def d__law_pool : He.DefD := ⟨("_law_pool", none), "_law_pool", "_law_pool", defArgs s__law_pool, defBody s__law_pool, defScope s__law_pool, [], []⟩
def d__law_spread : He.DefD := ⟨("_law_spread", none), "_law_spread", "_law_spread", defArgs s__law_spread, defBody s__law_spread, defScope s__law_spread, [], []⟩
def d__law_draw : He.DefD := ⟨("_law_draw", none), "_law_draw", "_law_draw", defArgs s__law_draw, defBody s__law_draw, defScope s__law_draw, [], []⟩
def d__law_pick : He.DefD := ⟨("_law_pick", none), "_law_pick", "_law_pick", defArgs s__law_pick, defBody s__law_pick, defScope s__law_pick, [], []⟩
def d__law_shape : He.DefD := ⟨("_law_shape", none), "_law_shape", "_law_shape", defArgs s__law_shape, defBody s__law_shape, defScope s__law_shape, [], []⟩
def d__law_stretches : He.DefD := ⟨("_law_stretches", none), "_law_stretches", "_law_stretches", defArgs s__law_stretches, defBody s__law_stretches, defScope s__law_stretches, [], []⟩
def d__law_sizes : He.DefD := ⟨("_law_sizes", none), "_law_sizes", "_law_sizes", defArgs s__law_sizes, defBody s__law_sizes, defScope s__law_sizes, [], []⟩
def d_law : He.DefD := ⟨("law", none), "law", "law", defArgs s_law, defBody s_law, defScope s_law, [], []⟩
def dfn : List He.DefD := [d_arrow, d_all_stretches, d_leads_on, d_maps_by, d_sizes_by, d_euler, d_square_form, d_further_by, d_is_rigid, d_tables_with, d_maps_from, d_falls_to, d_greatest_table, d__law_same, d__law_pool, d__law_spread, d__law_draw, d__law_pick, d__law_shape, d__law_stretches, d__law_sizes, d_law]
def gls : List He.Fa := [.glo "arrow", .glo "all_stretches", .glo "leads_on", .glo "maps_by", .glo "sizes_by", .glo "euler", .glo "square_form", .glo "further_by", .glo "is_rigid", .glo "tables_with", .glo "maps_from", .glo "falls_to", .glo "greatest_table", .glo "_law_same", .glo "_law_pool", .glo "_law_spread", .glo "_law_draw", .glo "_law_pick", .glo "_law_shape", .glo "_law_stretches", .glo "_law_sizes", .glo "law"]
abbrev dfa : List He.Fa := gls ++ frees.map .free
section
variable {P : Program} {w : World} {K : PySem.W.Frag} {h : Heap} {mg : Str → Option Value} {base : Heap}
theorem fn_arrow (X : K.In h) (G : h.Ns mainGlobals mg) (c : He.SaysD dfa dfn K) : Gn.fn ⟨P, w, K, mg, base⟩ 1 "arrow" f_arrow := by
  obtain ⟨fd, F⟩ := c.def_ 0 (d := d_arrow) rfl
  refine ⟨_, fd, ["shape", "k"], ok_def F sc_arrow (free_of X G c) i_arrow c_arrow ?_, (He.glo_ok X G (c.fact 0 (f := .glo "arrow") rfl)), F.kp, (F.bindsN fun _ _ _ _ _ _ us hl => match us, hl with | [_, _], _ => rfl)⟩
  simp only [i_arrow, SL.ok, S.ok, E.ok, EL.ok, and_true, true_and]
  try (repeat' apply And.intro)
  all_goals first | trivial | assumption
theorem fn_all_stretches (X : K.In h) (G : h.Ns mainGlobals mg) (c : He.SaysD dfa dfn K) : Gn.fn ⟨P, w, K, mg, base⟩ 1 "all_stretches" f_all_stretches := by
  obtain ⟨fd, F⟩ := c.def_ 1 (d := d_all_stretches) rfl
  refine ⟨_, fd, ["shape"], ok_def F sc_all_stretches (free_of X G c) i_all_stretches c_all_stretches ?_, (He.glo_ok X G (c.fact 1 (f := .glo "all_stretches") rfl)), F.kp, (F.bindsN fun _ _ _ _ _ _ us hl => match us, hl with | [_], _ => rfl)⟩
  simp only [i_all_stretches, SL.ok, S.ok, E.ok, EL.ok, and_true, true_and]
  try (repeat' apply And.intro)
  all_goals first | trivial | assumption
theorem fn_leads_on (X : K.In h) (G : h.Ns mainGlobals mg) (c : He.SaysD dfa dfn K) : Gn.fn ⟨P, w, K, mg, base⟩ 1 "leads_on" f_leads_on := by
  obtain ⟨fd, F⟩ := c.def_ 2 (d := d_leads_on) rfl
  refine ⟨_, fd, ["shape", "one", "two"], ok_def F sc_leads_on (free_of X G c) i_leads_on c_leads_on ?_, (He.glo_ok X G (c.fact 2 (f := .glo "leads_on") rfl)), F.kp, (F.bindsN fun _ _ _ _ _ _ us hl => match us, hl with | [_, _, _], _ => rfl)⟩
  simp only [i_leads_on, SL.ok, S.ok, E.ok, EL.ok, and_true, true_and]
  try (repeat' apply And.intro)
  all_goals first | trivial | assumption
theorem fn_maps_by (X : K.In h) (G : h.Ns mainGlobals mg) (c : He.SaysD dfa dfn K) : Gn.fn ⟨P, w, K, mg, base⟩ 2 "maps_by" f_maps_by := by
  obtain ⟨fd, F⟩ := c.def_ 3 (d := d_maps_by) rfl
  have h_leads_on := Gn.fn_mono (fn_leads_on (P := P) (w := w) (base := base) X G c) (show 1 ≤ 1 by omega)
  refine ⟨_, fd, ["shape", "one", "two"], ok_def F sc_maps_by (free_of X G c) i_maps_by c_maps_by ?_, (He.glo_ok X G (c.fact 3 (f := .glo "maps_by") rfl)), F.kp, (F.bindsN fun _ _ _ _ _ _ us hl => match us, hl with | [_, _, _], _ => rfl)⟩
  simp only [i_maps_by, SL.ok, S.ok, E.ok, EL.ok, and_true, true_and]
  try (repeat' apply And.intro)
  all_goals first | trivial | assumption
theorem fn_sizes_by (X : K.In h) (G : h.Ns mainGlobals mg) (c : He.SaysD dfa dfn K) : Gn.fn ⟨P, w, K, mg, base⟩ 1 "sizes_by" f_sz := by
  obtain ⟨fd, F⟩ := c.def_ 4 (d := d_sizes_by) rfl
  refine ⟨_, fd, ["shape", "table"], ok_def F sc_sizes_by (free_of X G c) i_sz c_sizes_by ?_, (He.glo_ok X G (c.fact 4 (f := .glo "sizes_by") rfl)), F.kp, (F.bindsN fun _ _ _ _ _ _ us hl => match us, hl with | [_, _], _ => rfl)⟩
  simp only [i_sz, SL.ok, S.ok, E.ok, EL.ok, and_true, true_and]
  try (repeat' apply And.intro)
  all_goals first | trivial | assumption
theorem fn_euler (X : K.In h) (G : h.Ns mainGlobals mg) (c : He.SaysD dfa dfn K) : Gn.fn ⟨P, w, K, mg, base⟩ 2 "euler" f_euler := by
  obtain ⟨fd, F⟩ := c.def_ 5 (d := d_euler) rfl
  have h_arrow := Gn.fn_mono (fn_arrow (P := P) (w := w) (base := base) X G c) (show 1 ≤ 1 by omega)
  refine ⟨_, fd, ["shape", "one", "two"], ok_def F sc_euler (free_of X G c) i_euler c_euler ?_, (He.glo_ok X G (c.fact 5 (f := .glo "euler") rfl)), F.kp, (F.bindsN fun _ _ _ _ _ _ us hl => match us, hl with | [_, _, _], _ => rfl)⟩
  simp only [i_euler, SL.ok, S.ok, E.ok, EL.ok, and_true, true_and]
  try (repeat' apply And.intro)
  all_goals first | trivial | assumption
theorem fn_square_form (X : K.In h) (G : h.Ns mainGlobals mg) (c : He.SaysD dfa dfn K) : Gn.fn ⟨P, w, K, mg, base⟩ 3 "square_form" f_square_form := by
  obtain ⟨fd, F⟩ := c.def_ 6 (d := d_square_form) rfl
  have h_euler := Gn.fn_mono (fn_euler (P := P) (w := w) (base := base) X G c) (show 2 ≤ 2 by omega)
  refine ⟨_, fd, ["shape", "one"], ok_def F sc_square_form (free_of X G c) i_square_form c_square_form ?_, (He.glo_ok X G (c.fact 6 (f := .glo "square_form") rfl)), F.kp, (F.bindsN fun _ _ _ _ _ _ us hl => match us, hl with | [_, _], _ => rfl)⟩
  simp only [i_square_form, SL.ok, S.ok, E.ok, EL.ok, and_true, true_and]
  try (repeat' apply And.intro)
  all_goals first | trivial | assumption
theorem fn_further_by (X : K.In h) (G : h.Ns mainGlobals mg) (c : He.SaysD dfa dfn K) : Gn.fn ⟨P, w, K, mg, base⟩ 3 "further_by" f_further_by := by
  obtain ⟨fd, F⟩ := c.def_ 7 (d := d_further_by) rfl
  have h_maps_by := Gn.fn_mono (fn_maps_by (P := P) (w := w) (base := base) X G c) (show 2 ≤ 2 by omega)
  have h_euler := Gn.fn_mono (fn_euler (P := P) (w := w) (base := base) X G c) (show 2 ≤ 2 by omega)
  have h_sizes_by := Gn.fn_mono (fn_sizes_by (P := P) (w := w) (base := base) X G c) (show 1 ≤ 2 by omega)
  refine ⟨_, fd, ["shape", "one", "two"], ok_def F sc_further_by (free_of X G c) i_further_by c_further_by ?_, (He.glo_ok X G (c.fact 7 (f := .glo "further_by") rfl)), F.kp, (F.bindsN fun _ _ _ _ _ _ us hl => match us, hl with | [_, _, _], _ => rfl)⟩
  simp only [i_further_by, SL.ok, S.ok, E.ok, EL.ok, and_true, true_and]
  try (repeat' apply And.intro)
  all_goals first | trivial | assumption
theorem fn_is_rigid (X : K.In h) (G : h.Ns mainGlobals mg) (c : He.SaysD dfa dfn K) : Gn.fn ⟨P, w, K, mg, base⟩ 4 "is_rigid" f_is_rigid := by
  obtain ⟨fd, F⟩ := c.def_ 8 (d := d_is_rigid) rfl
  have h_further_by := Gn.fn_mono (fn_further_by (P := P) (w := w) (base := base) X G c) (show 3 ≤ 3 by omega)
  refine ⟨_, fd, ["shape", "table"], ok_def F sc_is_rigid (free_of X G c) i_is_rigid c_is_rigid ?_, (He.glo_ok X G (c.fact 8 (f := .glo "is_rigid") rfl)), F.kp, (F.bindsN fun _ _ _ _ _ _ us hl => match us, hl with | [_, _], _ => rfl)⟩
  simp only [i_is_rigid, SL.ok, S.ok, E.ok, EL.ok, and_true, true_and]
  try (repeat' apply And.intro)
  all_goals first | trivial | assumption
theorem fn_tables_with (X : K.In h) (G : h.Ns mainGlobals mg) (c : He.SaysD dfa dfn K) : ∀ m : Nat, Gn.fn ⟨P, w, K, mg, base⟩ (0 + 1 + m) "tables_with" (f_tw m)
  | 0 => by
    obtain ⟨fd, F⟩ := c.def_ 9 (d := d_tables_with) rfl
    exact ⟨_, fd, ["sizes"], ok_none, (He.glo_ok X G (c.fact 9 (f := .glo "tables_with") rfl)), F.kp, (F.bindsN fun _ _ _ _ _ _ us hl => match us, hl with | [_], _ => rfl)⟩
  | m + 1 => by
    obtain ⟨fd, F⟩ := c.def_ 9 (d := d_tables_with) rfl
    have ih := fn_tables_with X G c m
    refine ⟨_, fd, ["sizes"], ok_def F sc_tables_with (free_of X G c) (i_tw (f_tw m)) (c_tables_with _) ?_, (He.glo_ok X G (c.fact 9 (f := .glo "tables_with") rfl)), F.kp, (F.bindsN fun _ _ _ _ _ _ us hl => match us, hl with | [_], _ => rfl)⟩
    simp only [i_tw, SL.ok, S.ok, E.ok, EL.ok, and_true, true_and]
    repeat' apply And.intro
    all_goals first | trivial | assumption
theorem fn_maps_from (X : K.In h) (G : h.Ns mainGlobals mg) (c : He.SaysD dfa dfn K) : Gn.fn ⟨P, w, K, mg, base⟩ 2 "maps_from" f_maps_from := by
  obtain ⟨fd, F⟩ := c.def_ 10 (d := d_maps_from) rfl
  have h_leads_on := Gn.fn_mono (fn_leads_on (P := P) (w := w) (base := base) X G c) (show 1 ≤ 1 by omega)
  refine ⟨_, fd, ["shape", "stretch", "table"], ok_def F sc_maps_from (free_of X G c) i_maps_from c_maps_from ?_, (He.glo_ok X G (c.fact 10 (f := .glo "maps_from") rfl)), F.kp, (F.bindsN fun _ _ _ _ _ _ us hl => match us, hl with | [_, _, _], _ => rfl)⟩
  simp only [i_maps_from, SL.ok, S.ok, E.ok, EL.ok, and_true, true_and]
  try (repeat' apply And.intro)
  all_goals first | trivial | assumption
theorem fn_falls_to (X : K.In h) (G : h.Ns mainGlobals mg) (c : He.SaysD dfa dfn K) : Gn.fn ⟨P, w, K, mg, base⟩ 3 "falls_to" f_falls_to := by
  obtain ⟨fd, F⟩ := c.def_ 11 (d := d_falls_to) rfl
  have h_sizes_by := Gn.fn_mono (fn_sizes_by (P := P) (w := w) (base := base) X G c) (show 1 ≤ 2 by omega)
  have h_all_stretches := Gn.fn_mono (fn_all_stretches (P := P) (w := w) (base := base) X G c) (show 1 ≤ 2 by omega)
  have h_maps_from := Gn.fn_mono (fn_maps_from (P := P) (w := w) (base := base) X G c) (show 2 ≤ 2 by omega)
  refine ⟨_, fd, ["shape", "one", "two"], ok_def F sc_falls_to (free_of X G c) i_falls_to c_falls_to ?_, (He.glo_ok X G (c.fact 11 (f := .glo "falls_to") rfl)), F.kp, (F.bindsN fun _ _ _ _ _ _ us hl => match us, hl with | [_, _, _], _ => rfl)⟩
  simp only [i_falls_to, SL.ok, S.ok, E.ok, EL.ok, and_true, true_and]
  try (repeat' apply And.intro)
  all_goals first | trivial | assumption
theorem fn_greatest_table (X : K.In h) (G : h.Ns mainGlobals mg) (c : He.SaysD dfa dfn K) : Gn.fn ⟨P, w, K, mg, base⟩ 14 "greatest_table" f_greatest_table := by
  obtain ⟨fd, F⟩ := c.def_ 12 (d := d_greatest_table) rfl
  have h_tables_with := Gn.fn_mono (fn_tables_with (P := P) (w := w) (base := base) X G c 12) (show 13 ≤ 13 by omega)
  have h_falls_to := Gn.fn_mono (fn_falls_to (P := P) (w := w) (base := base) X G c) (show 3 ≤ 13 by omega)
  refine ⟨_, fd, ["shape", "sizes"], ok_def F sc_greatest_table (free_of X G c) i_greatest_table c_greatest_table ?_, (He.glo_ok X G (c.fact 12 (f := .glo "greatest_table") rfl)), F.kp, (F.bindsN fun _ _ _ _ _ _ us hl => match us, hl with | [_, _], _ => rfl)⟩
  simp only [i_greatest_table, SL.ok, S.ok, E.ok, EL.ok, and_true, true_and]
  try (repeat' apply And.intro)
  all_goals first | trivial | assumption
theorem fn__law_same (X : K.In h) (G : h.Ns mainGlobals mg) (c : He.SaysD dfa dfn K) : ∀ m : Nat, Gn.fn ⟨P, w, K, mg, base⟩ (0 + 1 + m) "_law_same" (f_same m)
  | 0 => by
    obtain ⟨fd, F⟩ := c.def_ 13 (d := d__law_same) rfl
    exact ⟨_, fd, ["actual", "due"], ok_none, (He.glo_ok X G (c.fact 13 (f := .glo "_law_same") rfl)), F.kp, (F.bindsN fun _ _ _ _ _ _ us hl => match us, hl with | [_, _], _ => rfl)⟩
  | m + 1 => by
    obtain ⟨fd, F⟩ := c.def_ 13 (d := d__law_same) rfl
    have ih := fn__law_same X G c m
    refine ⟨_, fd, ["actual", "due"], ok_def F sc__law_same (free_of X G c) (i_same (f_same m)) (c__law_same _) ?_, (He.glo_ok X G (c.fact 13 (f := .glo "_law_same") rfl)), F.kp, (F.bindsN fun _ _ _ _ _ _ us hl => match us, hl with | [_, _], _ => rfl)⟩
    simp only [i_same, SL.ok, S.ok, E.ok, EL.ok, and_true, true_and]
    repeat' apply And.intro
    all_goals first | trivial | assumption
theorem fn__law_pool (X : K.In h) (G : h.Ns mainGlobals mg) (c : He.SaysD dfa dfn K) : FnSem P w K mg base 1 ("_law_pool" : Str) (spPool K) := by
  obtain ⟨fd, F⟩ := c.def_ 14 (d := d__law_pool) rfl
  exact ⟨_, fd, ["script"], ok_pool F sc__law_pool (free_of X G c) rfl (by decide +kernel) (by decide +kernel) (by decide +kernel) (by decide +kernel) (by decide +kernel), (He.glo_ok X G (c.fact 14 (f := .glo "_law_pool") rfl)), F.kp, (F.bindsN fun _ _ _ _ _ _ us hl => match us, hl with | [_], _ => rfl)⟩
theorem fn__law_spread (X : K.In h) (G : h.Ns mainGlobals mg) (c : He.SaysD dfa dfn K) : Gn.fn ⟨P, w, K, mg, base⟩ 1 "_law_spread" f_spread := by
  obtain ⟨fd, F⟩ := c.def_ 15 (d := d__law_spread) rfl
  refine ⟨_, fd, ["cell"], ok_def F sc__law_spread (free_of X G c) i_spread c__law_spread ?_, (He.glo_ok X G (c.fact 15 (f := .glo "_law_spread") rfl)), F.kp, (F.bindsN fun _ _ _ _ _ _ us hl => match us, hl with | [_], _ => rfl)⟩
  simp only [i_spread, SL.ok, S.ok, E.ok, EL.ok, and_true, true_and]
  try (repeat' apply And.intro)
  all_goals first | trivial | assumption
theorem fn__law_draw (X : K.In h) (G : h.Ns mainGlobals mg) (c : He.SaysD dfa dfn K) : Gn.fnP ⟨P, w, K, mg, base⟩ 2 "_law_draw" f_draw := by
  obtain ⟨fd, F⟩ := c.def_ 16 (d := d__law_draw) rfl
  have h__law_spread := Gn.fn_mono (fn__law_spread (P := P) (w := w) (base := base) X G c) (show 1 ≤ 1 by omega)
  refine ⟨_, fd, ["pool", "many"], ok_defP F sc__law_draw (free_of X G c) i_draw c__law_draw ?_, (He.glo_ok X G (c.fact 16 (f := .glo "_law_draw") rfl)), F.kp, (F.bindsN fun _ _ _ _ _ _ us hl => match us, hl with | [_, _], _ => rfl)⟩
  simp only [i_draw, SL.ok, S.ok, E.ok, EL.ok, and_true, true_and]
  try (repeat' apply And.intro)
  all_goals first | trivial | assumption
theorem fn__law_pick (X : K.In h) (G : h.Ns mainGlobals mg) (c : He.SaysD dfa dfn K) : Gn.fnP ⟨P, w, K, mg, base⟩ 3 "_law_pick" f__law_pick := by
  obtain ⟨fd, F⟩ := c.def_ 17 (d := d__law_pick) rfl
  have h__law_draw := Gn.fnP_mono (fn__law_draw (P := P) (w := w) (base := base) X G c) (show 2 ≤ 2 by omega)
  refine ⟨_, fd, ["pool", "items"], ok_defP F sc__law_pick (free_of X G c) i__law_pick c__law_pick ?_, (He.glo_ok X G (c.fact 17 (f := .glo "_law_pick") rfl)), F.kp, (F.bindsN fun _ _ _ _ _ _ us hl => match us, hl with | [_, _], _ => rfl)⟩
  simp only [i__law_pick, SL.ok, S.ok, E.ok, EL.ok, and_true, true_and]
  try (repeat' apply And.intro)
  all_goals first | trivial | assumption
theorem fn__law_shape (X : K.In h) (G : h.Ns mainGlobals mg) (c : He.SaysD dfa dfn K) : Gn.fnP ⟨P, w, K, mg, base⟩ 3 "_law_shape" f_shape := by
  obtain ⟨fd, F⟩ := c.def_ 18 (d := d__law_shape) rfl
  have h__law_draw := Gn.fnP_mono (fn__law_draw (P := P) (w := w) (base := base) X G c) (show 2 ≤ 2 by omega)
  refine ⟨_, fd, ["pool", "most"], ok_defP F sc__law_shape (free_of X G c) i_shape c__law_shape ?_, (He.glo_ok X G (c.fact 18 (f := .glo "_law_shape") rfl)), F.kp, (F.bindsN fun _ _ _ _ _ _ us hl => match us, hl with | [_, _], _ => rfl)⟩
  simp only [i_shape, SL.ok, S.ok, E.ok, EL.ok, and_true, true_and]
  try (repeat' apply And.intro)
  all_goals first | trivial | assumption
theorem fn__law_stretches (X : K.In h) (G : h.Ns mainGlobals mg) (c : He.SaysD dfa dfn K) : Gn.fn ⟨P, w, K, mg, base⟩ 1 "_law_stretches" f__law_stretches := by
  obtain ⟨fd, F⟩ := c.def_ 19 (d := d__law_stretches) rfl
  refine ⟨_, fd, ["shape"], ok_def F sc__law_stretches (free_of X G c) i__law_stretches c__law_stretches ?_, (He.glo_ok X G (c.fact 19 (f := .glo "_law_stretches") rfl)), F.kp, (F.bindsN fun _ _ _ _ _ _ us hl => match us, hl with | [_], _ => rfl)⟩
  simp only [i__law_stretches, SL.ok, S.ok, E.ok, EL.ok, and_true, true_and]
  try (repeat' apply And.intro)
  all_goals first | trivial | assumption
theorem fn__law_sizes (X : K.In h) (G : h.Ns mainGlobals mg) (c : He.SaysD dfa dfn K) : Gn.fn ⟨P, w, K, mg, base⟩ 1 "_law_sizes" f__law_sizes := by
  obtain ⟨fd, F⟩ := c.def_ 20 (d := d__law_sizes) rfl
  refine ⟨_, fd, ["shape", "table"], ok_def F sc__law_sizes (free_of X G c) i__law_sizes c__law_sizes ?_, (He.glo_ok X G (c.fact 20 (f := .glo "_law_sizes") rfl)), F.kp, (F.bindsN fun _ _ _ _ _ _ us hl => match us, hl with | [_, _], _ => rfl)⟩
  simp only [i__law_sizes, SL.ok, S.ok, E.ok, EL.ok, and_true, true_and]
  try (repeat' apply And.intro)
  all_goals first | trivial | assumption
theorem facts (hT : LawTrue 16 i_law) {f : Addr} (X : K.In h) (G : h.Ns mainGlobals mg) (hfa : mg ("law" : Str) = some (.ref f)) (c : He.SaysD dfa dfn K) :
    ∃ fd : FuncData, (∀ (s : Shared) (v : Value), BindsTo s fd ⟨[v], []⟩ [("script", v)]) ∧ ∀ base : Heap, K.In base → base.Ns mainGlobals mg → FnOk P w K mg base CX0 15 f fd ["script"] (spLaw K) := by
  obtain ⟨fd, F⟩ := c.def_ 21 (d := d_law) rfl
  have e := hfa.symm.trans (He.glo_ok X G (c.fact 21 (f := .glo "law") rfl))
  cases e
  have b := FunD.bindsA (ps := ["script"]) F fun _ _ _ _ _ _ us hl => match us, hl with | [_], _ => rfl
  refine ⟨fd, fun s v => b s [v] rfl, fun base _ _ => ?_⟩
  have h__law_shape := Gn.fnP_mono (fn__law_shape (P := P) (w := w) (base := base) X G c) (show 3 ≤ 14 by omega)
  have h__law_draw := Gn.fnP_mono (fn__law_draw (P := P) (w := w) (base := base) X G c) (show 2 ≤ 14 by omega)
  have h__law_pick := Gn.fnP_mono (fn__law_pick (P := P) (w := w) (base := base) X G c) (show 3 ≤ 14 by omega)
  have h__law_stretches := Gn.fn_mono (fn__law_stretches (P := P) (w := w) (base := base) X G c) (show 1 ≤ 14 by omega)
  have h__law_sizes := Gn.fn_mono (fn__law_sizes (P := P) (w := w) (base := base) X G c) (show 1 ≤ 14 by omega)
  have h_square_form := Gn.fn_mono (fn_square_form (P := P) (w := w) (base := base) X G c) (show 3 ≤ 14 by omega)
  have h_euler := Gn.fn_mono (fn_euler (P := P) (w := w) (base := base) X G c) (show 2 ≤ 14 by omega)
  have h__law_same := Gn.fn_mono (fn__law_same (P := P) (w := w) (base := base) X G c 10) (show 11 ≤ 14 by omega)
  have h_greatest_table := Gn.fn_mono (fn_greatest_table (P := P) (w := w) (base := base) X G c) (show 14 ≤ 14 by omega)
  have h_is_rigid := Gn.fn_mono (fn_is_rigid (P := P) (w := w) (base := base) X G c) (show 4 ≤ 14 by omega)
  have h_tables_with := Gn.fn_mono (fn_tables_with (P := P) (w := w) (base := base) X G c 12) (show 13 ≤ 14 by omega)
  have h_maps_by := Gn.fn_mono (fn_maps_by (P := P) (w := w) (base := base) X G c) (show 2 ≤ 14 by omega)
  have h_pool := sem_mono (fn__law_pool (P := P) (w := w) (base := base) X G c) (show 1 ≤ 14 by omega)
  refine ok_law (n := 14) (N := n_law) F sc_law (free_of X G c) h_pool rfl rfl rfl rfl (by decide +kernel) (by decide +kernel) (by decide +kernel) i_law c_law ?_ hT
  simp only [i_law, SL.ok, S.ok, E.ok, EL.ok, and_true, true_and]
  try (repeat' apply And.intro)
  all_goals first | trivial | assumption
end
abbrev R : PySem.W.OpenRow := PySem.W.OpenLaw.row PySem.Challenge.rw_stretchrows_k21_whole_roots_of_the_form
abbrev hk : PySem.W.Hook := He.hookD 4 dfa dfn
def ob (s : PySem.W.SharedT) : He.AlD := He.obsDG 4 dfa dfn (HandSHeadRun.getT s)
theorem ob_eq (s : PySem.W.SharedT) : ob s = hk.obs s.abs := He.obsDG_eq (HandSHeadRun.getT_eq s)
def loose : List Str := ["arrow", "all_stretches", "leads_on", "maps_by", "sizes_by", "euler", "square_form", "further_by", "is_rigid", "tables_with", "falls_to", "greatest_table", "maps_from", "_law_same", "_law_pool", "_law_spread", "_law_draw", "_law_pick", "_law_shape", "_law_stretches", "_law_sizes", "StretchError", "NotFitting"]
theorem run (w : World) : HandSHeadRun.RunEq R (PySem.W.view R.prog [29]) hk ob 4000 loose w := by
  intro os
  kernel_rfl
end K21
open PySem PySem.W PySem.Calls PyProof.Rows
theorem K21.holds_of (hT : SR.LawTrue 16 K21.i_law) : PySem.Challenge.rw_stretchrows_k21_whole_roots_of_the_form.Holds := by
  w_on; o_law
  refine HandSHeadRun.head_any (r := OpenLaw.row PySem.Challenge.rw_stretchrows_k21_whole_roots_of_the_form) (q := view (OpenLaw.row PySem.Challenge.rw_stretchrows_k21_whole_roots_of_the_form).prog [29]) (H := K21.hk) (ob := K21.ob) (M := 4000) (loose := K21.loose) (d := HandSHeadRun.topDef (OpenLaw.row PySem.Challenge.rw_stretchrows_k21_whole_roots_of_the_form).prog 29) (kwd := []) K21.ob_eq
    (by kernel_rfl) (fun s => by kernel_rfl) K21.run (by kernel_rfl) (by kernel_rfl) (by kernel_rfl) (by rfl) (by first | assumption | decide +kernel) (by decide +kernel) ⟨rfl, rfl, rfl, rfl, rfl, by decide +kernel⟩ ?hw ?hc
  case hw => w_witness2
  case hc =>
    refine L2.walk_ofE (l := PySem.Challenge.rw_stretchrows_k21_whole_roots_of_the_form) (n := 63) (k := 15) (x := "script") (CX := L2.CX0) rfl (by decide) (by kernel_rfl) ⟨rfl, by decide, by decide⟩ ?F (fun _ _ _ _ z => z)
    intro w mg fa h Y G hmg0
    obtain ⟨K, KX, c⟩ := Y
    have hmg : mg ("law" : PySem.Str) = some (.ref fa) := by
      have e : (HandSHeadRun.topDef (OpenLaw.row PySem.Challenge.rw_stretchrows_k21_whole_roots_of_the_form).prog 29).name = ("law" : PySem.Str) := by kernel_rfl
      rw [← e]
      exact hmg0
    obtain ⟨fd, hb, hF⟩ := K21.facts (P := (PySem.Challenge.rw_stretchrows_k21_whole_roots_of_the_form).prog) (w := w) hT KX G hmg c
    exact ⟨K, fd, SR.spLaw K, KX, hb, fun H a ns hl _ hS => ⟨a, ns, rfl, hS, hl, fun _ => rfl⟩, hF⟩
end
section
/-! K21b: the law of the roots of the form. -/
namespace K21
open PySem PySem.Spec L2 SR
variable [Wd]
def r12 : SL := .nil
def r11 : SL := .cons (.ret (.or (.cmp .gt (.bi .sum (.cons (.var 3) .nil)) (.k (.int 6))) (.cmp .eq (.call "square_form" f_square_form (.cons (.var 2) (.cons (.var 3) .nil))) (.call "maps_by" f_maps_by (.cons (.var 2) (.cons (.call "greatest_table" f_greatest_table (.cons (.var 2) (.cons (.var 3) .nil))) (.cons (.call "greatest_table" f_greatest_table (.cons (.var 2) (.cons (.var 3) .nil))) .nil))))))) r12
def r10 : SL := .cons (.ife (.cmp .eq (.bi .len (.cons (.var 7) .nil)) (.k (.int 1))) (.cons (.asg (.v 15) (.tup (.cons (.tup (.cons (.ix (.var 7) (.k (.int 0))) (.cons (.k (.int 1)) .nil))) .nil))) (.cons (.ret (.call "_law_same" (f_same 10) (.cons (.lst (.cons (.call "greatest_table" f_greatest_table (.cons (.var 2) (.cons (.var 3) .nil))) (.cons (.call "is_rigid" f_is_rigid (.cons (.var 2) (.cons (.var 15) .nil))) (.cons (.cmp .mem (.var 15) (.call "tables_with" (f_tw 12) (.cons (.var 3) .nil))) .nil)))) (.cons (.lst (.cons (.var 15) (.cons (.k (.bool true)) (.cons (.k (.bool true)) .nil)))) .nil)))) .nil)) .nil) r11
def r9 : SL := .cons (.ife (.cmp .ne (.call "square_form" f_square_form (.cons (.var 2) (.cons (.var 12) .nil))) (.op2 .add (.op2 .add (.op2 .add (.var 9) (.call "square_form" f_square_form (.cons (.var 2) (.cons (.var 11) .nil)))) (.call "euler" f_euler (.cons (.var 2) (.cons (.var 3) (.cons (.var 11) .nil))))) (.call "euler" f_euler (.cons (.var 2) (.cons (.var 11) (.cons (.var 3) .nil)))))) (.cons (.ret (.k (.bool false))) .nil) .nil) r10
def r8 : SL := .cons (.asg (.v 12) (.bi .tuple (.cons (.comp (.t2 (.v 13) (.v 14)) (.zip2 (.var 3) (.var 11)) .nil (.op2 .add (.var 13) (.var 14)) [13, 14]) .nil))) r9
def r7 : SL := .cons (.asg (.v 11) (.bi .tuple (.cons (.comp (.v 4) (.rng1 (.op2 .add (.bi .len (.cons (.var 2) .nil)) (.k (.int 1)))) .nil (.callP 1 "_law_draw" f_draw (.cons (.k (.int 3)) .nil)) [4]) .nil))) r8
def r6 : SL := .cons (.ife (.or (.and (.cmp .gt (.bi .sum (.cons (.var 3) .nil)) (.k (.int 0))) (.cmp .lt (.var 9) (.k (.int 1)))) (.cmp .ne (.call "euler" f_euler (.cons (.var 2) (.cons (.var 3) (.cons (.var 3) .nil)))) (.var 9))) (.cons (.ret (.k (.bool false))) .nil) .nil) r7
def r5 : SL := .cons (.ife (.or (.cmp .ne (.cmp .eq (.var 9) (.k (.int 1))) (.cmp .eq (.bi .len (.cons (.var 7) .nil)) (.k (.int 1)))) (.cmp .ne (.call "square_form" f_square_form (.cons (.var 2) (.cons (.bi .tuple (.cons (.comp (.v 10) (.var 3) .nil (.op2 .mul (.k (.int 2)) (.var 10)) [10]) .nil)) .nil))) (.op2 .mul (.k (.int 4)) (.var 9)))) (.cons (.ret (.k (.bool false))) .nil) .nil) r6
def r4 : SL := .cons (.asg (.v 9) (.call "square_form" f_square_form (.cons (.var 2) (.cons (.var 3) .nil)))) r5
def r3 : SL := .cons (.asg (.v 7) (.comp (.v 8) (.call "_law_stretches" f__law_stretches (.cons (.var 2) .nil)) (.cons (.cmp .eq (.call "_law_sizes" f__law_sizes (.cons (.var 2) (.cons (.tup (.cons (.tup (.cons (.var 8) (.cons (.k (.int 1)) .nil))) .nil)) .nil))) (.var 3)) .nil) (.var 8) [8])) r4
def r2 : SL := .cons (.ife (.cmp .eq (.callP 1 "_law_draw" f_draw (.cons (.k (.int 2)) .nil)) (.k (.int 0))) (.cons (.asg (.t2 (.v 5) (.v 6)) (.callP 1 "_law_pick" f__law_pick (.cons (.call "_law_stretches" f__law_stretches (.cons (.var 2) .nil)) .nil))) (.cons (.asg (.v 3) (.call "_law_sizes" f__law_sizes (.cons (.var 2) (.cons (.tup (.cons (.tup (.cons (.tup (.cons (.var 5) (.cons (.var 6) .nil))) (.cons (.k (.int 1)) .nil))) .nil)) .nil)))) .nil)) .nil) r3
def r1 : SL := .cons (.asg (.v 3) (.bi .tuple (.cons (.comp (.v 4) (.rng1 (.op2 .add (.bi .len (.cons (.var 2) .nil)) (.k (.int 1)))) .nil (.callP 1 "_law_draw" f_draw (.cons (.k (.int 3)) .nil)) [4]) .nil))) r2
def r0 : SL := .cons (.asg (.v 2) (.callP 1 "_law_shape" f_shape (.cons (.k (.int 4)) .nil))) r1
theorem r_eq : K21.i_law = r0 := rfl
abbrev st (a2 a3 a4 a5 a6 a7 a8 a9 a10 a11 a12 a13 a14 a15 : Slot) : Sl := [.no, .pool, a2, a3, a4, a5, a6, a7, a8, a9, a10, a11, a12, a13, a14, a15]
/-! plain facts -/
theorem mem_szs : ∀ (d : List Nat) (m : Nat), (∀ k, d.getD k 0 ≤ 2) → d ∈ szs d.length m
  | [], _, _ => .head _
  | a :: d, m, h => by
    refine List.mem_flatMap.mpr ⟨d, mem_szs d m fun k => by simpa using h (k + 1), ?_⟩
    exact List.mem_map.mpr ⟨a, List.mem_range.mpr (by have := h 0; simp at this; omega), rfl⟩
theorem gen_all {ws : List Bool} {d : List Nat} (hw : ws.length ≤ 4) (hd : d.length = ws.length + 1) (h2 : ∀ k, d.getD k 0 ≤ 2) (hs : d.sum ≤ 6) : gOk ws d = true := by
  have hm := mem_szs d 6 h2
  rw [hd] at hm
  rcases Nat.lt_or_ge ws.length 4 with h | h
  · exact gen_ok ⟨ws.length, h⟩ ws (mem_allWs ws) d hm
  · have h4 : ws.length = 4 := by omega
    have hw' := mem_allWs ws
    rw [h4] at hm hw'
    have := gen_ok5 ws hw' d hm
    rw [Bool.or_eq_true, Nat.blt_eq] at this
    rcases this with h | h
    · omega
    · exact h
theorem ind_inj {n : Nat} {a b : Bar} (ha : a ∈ bars n) (hb : b ∈ bars n) (h : ind n a = ind n b) : a = b := by
  have ha' := mem_bars.mp ha
  have hb' := mem_bars.mp hb
  have e : ∀ k < n, cov a k = cov b k := fun k hk => by
    have := congrArg (fun s : List Nat => s.getD k 0) h
    simp only [ind_get _ hk] at this
    cases h1 : cov a k <;> cases h2 : cov b k <;> simp_all
  have c1 := cov_iff.mp ((e a.1 (by omega)).symm.trans (cov_iff.mpr ⟨Nat.le_refl _, ha'.1⟩))
  have c2 := cov_iff.mp ((e a.2 (by omega)).symm.trans (cov_iff.mpr ⟨ha'.1, Nat.le_refl _⟩))
  have c3 := cov_iff.mp ((e b.1 (by omega)).trans (cov_iff.mpr ⟨Nat.le_refl _, hb'.1⟩))
  have c4 := cov_iff.mp ((e b.2 (by omega)).trans (cov_iff.mpr ⟨hb'.1, Nat.le_refl _⟩))
  exact Prod.ext (by omega) (by omega)
/-- the stretches of these sizes: none or one -/
theorem roots_or (n : Nat) (s : List Nat) : ((bars n).filter (fun b => decide (ind n b = s)) = [] ∧ (bars n).any (fun b => ind n b == s) = false) ∨ ∃ b ∈ bars n, ind n b = s ∧ (bars n).filter (fun b => decide (ind n b = s)) = [b] := by
  by_cases h : ∃ b ∈ bars n, ind n b = s
  · obtain ⟨b, hb, rfl⟩ := h
    refine .inr ⟨b, hb, rfl, ?_⟩
    refine List.perm_singleton.mp (perm_of ((bars_nodup n).sublist List.filter_sublist) (by simp) fun c => ?_)
    rw [List.mem_filter, List.mem_singleton, decide_eq_true_eq]
    constructor
    · rintro ⟨h1, h2⟩; exact ind_inj h1 hb h2
    · rintro rfl; exact ⟨hb, rfl⟩
  · refine .inl ⟨List.filter_eq_nil_iff.mpr fun b hb => by simpa using fun e => h ⟨b, hb, e⟩, ?_⟩
    rw [Bool.eq_false_iff]
    intro hh
    obtain ⟨b, hb, e⟩ := List.any_eq_true.mp hh
    exact h ⟨b, hb, by simpa using e⟩
theorem form_fact {ws : List Bool} {d : List Nat} (hw : ws.length ≤ 4) (hd : d.length = ws.length + 1) (h2 : ∀ k, d.getD k 0 ≤ 2) : decide (eulerZ ws d d = 1) = (bars (ws.length + 1)).any (fun b => ind (ws.length + 1) b == d) ∧ (d.sum = 0 ∨ 1 ≤ eulerZ ws d d) := by
  have hm := mem_szs d 0 h2
  rw [hd] at hm
  have := fm_ok ⟨ws.length, by omega⟩ ws (mem_allWs ws) d hm
  unfold fmOk at this
  rw [Bool.and_eq_true, beq_iff_eq, Bool.or_eq_true] at this
  refine ⟨this.1, ?_⟩
  rcases this.2 with h | h
  · exact .inl (Nat.eq_of_beq_eq_true h)
  · exact .inr (of_decide_eq_true h)
theorem two_lt {d : List Nat} (h : ∀ k, d.getD k 0 ≤ 2) : ∀ x ∈ d, x ≤ 2 := fun x hx => by
  obtain ⟨k, hk, rfl⟩ := List.getElem_of_mem hx
  have := h k
  rw [List.getD_eq_getElem?_getD, List.getElem?_eq_getElem hk] at this
  exact this
abbrev wS (ws : List Bool) : D := .str (wd ws)
section
variable {ws : List Bool} {s t : List Nat}
/-- the last row: no stretch has these sizes -/
theorem part5 (hw : ws.length ≤ 4) (hs : s.length = ws.length + 1) (h2 : ∀ k, s.getD k 0 ≤ 2) {a4 a5 a6 a7 a8 a9 a10 a11 a12 a13 a14 a15 : Slot} : Run (exs r11 (st (.dat (wS ws)) (.dat (szD s)) a4 a5 a6 a7 a8 a9 a10 a11 a12 a13 a14 a15)) fun o => o = .rt (.bool true) := by
  refine run_retE ?_
  have e1 : ev (.cmp .gt (.bi .sum (.cons (.var 3) .nil)) (.k (.int 6))) (st (.dat (wS ws)) (.dat (szD s)) a4 a5 a6 a7 a8 a9 a10 a11 a12 a13 a14 a15) = SR.ret (.bool (decide (6 < s.sum))) := ev_cmp' (y := intD 6) (ev_bi1 (ev_var (d := szD s) rfl) (q_sumN (ns := s) rfl)) rfl q_gtN
  by_cases h6 : 6 < s.sum
  · exact (ev_or e1 rfl).trans (by rw [decide_eq_true h6]; rfl)
  refine (ev_or e1 rfl).trans ?_
  rw [decide_eq_false h6, if_neg Bool.false_ne_true]
  obtain ⟨μ, hμ, hg, hmin, hM, key⟩ := greatest_at hw hs h2 (by omega) (gen_all hw hs h2 (by omega))
  have hb : Tb (ws.length + 1) (tab (ws.length + 1) μ) := by
    have := tb_tab (s := s) (μ := μ) (by rw [hs]; exact hμ) (by omega) fun k => by have := h2 k; omega
    rwa [hs] at this
  have e2 := ev_call2 (n := "greatest_table") (e := .var 2) (e1 := .var 3) (ρ := st (.dat (wS ws)) (.dat (szD s)) a4 a5 a6 a7 a8 a9 a10 a11 a12 a13 a14 a15) (ev_var rfl) (ev_var (d := szD s) rfl) hg
  refine (ev_cmp' (ev_call2 (ev_var rfl) (ev_var (d := szD s) rfl) (form_ok hs (fun x hx => by have := two_lt h2 x hx; omega) (by omega))) (ev_call3 (ev_var (d := wS ws) rfl) e2 e2 (maps_ok hb hb (by omega))) (q_eqI _ _)).trans ?_
  rw [decide_eq_true]
  rw [maps_z, hM]
theorem part4 (hw : ws.length ≤ 4) (hs : s.length = ws.length + 1) (h2 : ∀ k, s.getD k 0 ≤ 2) {a4 a5 a6 a8 a9 a10 a11 a12 a13 a14 a15 : Slot} : Run (exs r10 (st (.dat (wS ws)) (.dat (szD s)) a4 a5 a6 (.dat (.list (((bars (ws.length + 1)).filter fun b => decide (ind (ws.length + 1) b = s)).map barD))) a8 a9 a10 a11 a12 a13 a14 a15)) fun o => o = .rt (.bool true) := by
  have e1 : ev (.cmp .eq (.bi .len (.cons (.var 7) .nil)) (.k (.int 1))) (st (.dat (wS ws)) (.dat (szD s)) a4 a5 a6 (.dat (.list (((bars (ws.length + 1)).filter fun b => decide (ind (ws.length + 1) b = s)).map barD))) a8 a9 a10 a11 a12 a13 a14 a15) = SR.ret (.bool (decide (((bars (ws.length + 1)).filter fun b => decide (ind (ws.length + 1) b = s)).length = 1))) := by
    have := ev_lenL (i := 7) (ds := ((bars (ws.length + 1)).filter fun b => decide (ind (ws.length + 1) b = s)).map barD) (ρ := st (.dat (wS ws)) (.dat (szD s)) a4 a5 a6 (.dat (.list (((bars (ws.length + 1)).filter fun b => decide (ind (ws.length + 1) b = s)).map barD))) a8 a9 a10 a11 a12 a13 a14 a15) rfl
    rw [List.length_map] at this
    exact ev_cmp' (y := intD 1) this rfl (q_eqN _ _)
  rcases roots_or (ws.length + 1) s with ⟨h, _⟩ | ⟨b, hb, hbs, h⟩
  · rw [h] at e1 ⊢
    exact run_skip e1 rfl (part5 hw hs h2)
  rw [h] at e1 ⊢
  refine run_ife e1 rfl ?_
  show Run (exs _ _) _
  have l1 : s.sum ≤ 5 := by
    have : ∀ n : Fin 6, ∀ b ∈ bars n.val, (ind n.val b).sum ≤ 5 := by decide +kernel
    rw [← hbs]
    exact this ⟨ws.length + 1, by omega⟩ b hb
  obtain ⟨μ, hμ, hg, hmin, hM, key⟩ := greatest_at hw hs h2 (by omega) (gen_all hw hs h2 (by omega))
  have f1 : eulerZ ws s s = 1 := by
    have := (form_fact hw hs h2).1
    rw [List.any_eq_true.mpr ⟨b, hb, by rw [hbs]; exact beq_self_eq_true s⟩] at this
    exact of_decide_eq_true this
  have hone : Hits (ws.length + 1) (oneM b) s := hbs ▸ hits_one hb
  have hT : tab (ws.length + 1) μ = [(b, 1)] := by
    rw [← tab_one hb]
    refine tab_ext.mpr fun c hc => ?_
    rcases Decidable.em (μ c = oneM b c) with e | e
    · exact e
    · have := M_lt hw hs hμ hone (hmin _ hone) ⟨c, hc, e⟩
      rw [M_one hw hb, hM, f1] at this
      omega
  rw [hT] at hg
  have hmem : [(b, 1)] ∈ allT s := mem_allT.mpr ⟨oneM b, by rw [hs]; exact (tab_one hb).symm, by rw [hs]; exact hone⟩
  have s32 : ∀ x ∈ s, x < 2 ^ 32 := fun x hx => by have := two_lt h2 x hx; omega
  have hr := rigid_ok hs hmem s32 (by omega)
  have hm1 : (mapsN ws [(b, 1)] [(b, 1)] : Int) = 1 := by
    rw [← tab_one hb, maps_z]; exact M_one hw hb
  rw [hm1, f1] at hr
  refine run_set (d := tabD [(b, 1)]) (ev_tup1 (ev_tup2 (ev_ix' (ev_var (d := .list [barD b]) rfl) rfl (z := barD b) rfl) rfl)) ?_
  show Run (exs _ (st (.dat (wS ws)) (.dat (szD s)) a4 a5 a6 (.dat (.list [barD b])) a8 a9 a10 a11 a12 a13 a14 (.dat (tabD [(b, 1)])))) _
  have tw := tw_ok 12 s (by omega) (by omega) (room_small (by omega) h2)
  refine run_ret (.eq (ev_call2 (ev_lst3 (ev_call2 (ev_var rfl) (ev_var (d := szD s) rfl) hg) (ev_call2 (ev_var rfl) (ev_var (d := tabD [(b, 1)]) rfl) hr) (ev_cmp' (ev_var (d := tabD [(b, 1)]) rfl) (ev_call1 (ev_var (d := szD s) rfl) tw) (q_memT _ _))) (ev_lst3 (ev_var (d := tabD [(b, 1)]) rfl) rfl rfl) ?_) rfl)
  rw [decide_eq_true hmem]
  exact same_ok 9 _ (sm_lst3 _ (sm_tab 5 _ (by simp)) (.bool _ _) (.bool _ _))
/-- the form of a sum -/
theorem part3 (hw : ws.length ≤ 4) (hs : s.length = ws.length + 1) (h2 : ∀ k, s.getD k 0 ≤ 2) {a4 a5 a6 a8 a10 a11 a12 a13 a14 a15 : Slot} : Run (exs r7 (st (.dat (wS ws)) (.dat (szD s)) a4 a5 a6 (.dat (.list (((bars (ws.length + 1)).filter fun b => decide (ind (ws.length + 1) b = s)).map barD))) a8 (.dat (.int (eulerZ ws s s))) a10 a11 a12 a13 a14 a15)) fun o => o = .rt (.bool true) := by
  refine run_asg (run_bi1 ((run_draws (n := ws.length + 1) (m := 3) rfl (by decide) (ev_len1 (ws := ws) rfl (by omega)) (by omega) (by decide) (by decide)).mono ?_))
  rintro _ ⟨t, ht, hb, rfl⟩
  generalize hR : (((bars (ws.length + 1)).filter fun b => decide (ind (ws.length + 1) b = s)).map barD) = R
  refine ⟨szD t, rfl, st (.dat (wS ws)) (.dat (szD s)) a4 a5 a6 (.dat (.list R)) a8 (.dat (.int (eulerZ ws s s))) a10 (.dat (szD t)) a12 a13 a14 a15, rfl, ?_⟩
  have ht2 := getD_lt (m := 2) hb
  refine run_set (d := szD (List.zipWith (· + ·) s t)) (ev_bi1 (comp_all (tg := .t2 (.v 13) (.v 14)) (it := .zip2 (.var 3) (.var 11)) (xs := s.zip t) (en := fun p => .tuple [intD p.1, intD p.2]) (d := .list ((s.zip t).map fun p => .tuple [intD p.1, intD p.2])) (fun p => intD (p.1 + p.2)) ?_ rfl fun p hp => ⟨st (.dat (wS ws)) (.dat (szD s)) a4 a5 a6 (.dat (.list R)) a8 (.dat (.int (eulerZ ws s s))) a10 (.dat (szD t)) a12 (.dat (intD p.1)) (.dat (intD p.2)) a15, rfl, ?_⟩) ?_) ?_
  · have v1 : ev (.var 3) (st (.dat (wS ws)) (.dat (szD s)) a4 a5 a6 (.dat (.list R)) a8 (.dat (.int (eulerZ ws s s))) a10 (.dat (szD t)) a12 a13 a14 a15) = SR.ret (szD s) := rfl
    have v2 : ev (.var 11) (st (.dat (wS ws)) (.dat (szD s)) a4 a5 a6 (.dat (.list R)) a8 (.dat (.int (eulerZ ws s s))) a10 (.dat (szD t)) a12 a13 a14 a15) = SR.ret (szD t) := rfl
    rw [ev, v1, bnd_ret, v2, bnd_ret, zip2_nat, lift_some, bnd_ret]
  · exact ev_op2 (ev_var (d := intD p.1) rfl) (ev_var (d := intD p.2) rfl) q_add
  · show some (PyData.tuple _) = some (PyData.tuple _)
    congr 2
    rw [List.zip, List.map_zipWith, List.map_zipWith]
  show Run (exs r9 (st (.dat (wS ws)) (.dat (szD s)) a4 a5 a6 (.dat (.list R)) a8 (.dat (.int (eulerZ ws s s))) a10 (.dat (szD t)) (.dat (szD (List.zipWith (· + ·) s t))) a13 a14 a15)) _
  have hl : (List.zipWith (· + ·) s t).length = ws.length + 1 := by simp [hs, ht]
  have b1 : ∀ x ∈ s, x < 2 ^ 32 := fun x hx => by have := two_lt h2 x hx; omega
  have b2 : ∀ x ∈ t, x < 2 ^ 32 := fun x hx => by have := two_lt ht2 x hx; omega
  have b3 : ∀ x ∈ List.zipWith (· + ·) s t, x < 2 ^ 32 := fun x hx => by
    obtain ⟨k, hk, rfl⟩ := List.getElem_of_mem hx
    have e := get_zip s t (by omega) k
    rw [List.getD_eq_getElem?_getD, List.getElem?_eq_getElem hk] at e
    have := h2 k
    have := ht2 k
    show (some (List.zipWith (· + ·) s t)[k]).getD 0 < _
    omega
  refine run_skip (ev_cmp' (ev_call2 (ev_var rfl) (ev_var (i := 12) (d := szD (List.zipWith (· + ·) s t)) rfl) (form_ok hl b3 (by omega))) (ev_op2 (ev_op2 (ev_op2 (ev_var (i := 9) (d := .int (eulerZ ws s s)) rfl) (ev_call2 (ev_var (d := wS ws) rfl) (ev_var (d := szD t) rfl) (form_ok ht b2 (by omega))) q_add) (ev_call3 (ev_var (d := wS ws) rfl) (ev_var (d := szD s) rfl) (ev_var (d := szD t) rfl) (euler_ok hs ht b1 (by omega))) q_add) (ev_call3 (ev_var (d := wS ws) rfl) (ev_var (d := szD t) rfl) (ev_var (d := szD s) rfl) (euler_ok ht hs b2 (by omega))) q_add) (q_neI _ _)) ?_ ?_
  · rw [decide_eq_true]
    · rfl
    · rw [euler_addL hs ht hl, euler_addR hs ht hs, euler_addR hs ht ht]; omega
  · rw [← hR]
    exact part4 hw hs h2
theorem part2 (hw : ws.length ≤ 4) (hs : s.length = ws.length + 1) (h2 : ∀ k, s.getD k 0 ≤ 2) {a4 a5 a6 a7 a8 a9 a10 a11 a12 a13 a14 a15 : Slot} : Run (exs r3 (st (.dat (wS ws)) (.dat (szD s)) a4 a5 a6 a7 a8 a9 a10 a11 a12 a13 a14 a15)) fun o => o = .rt (.bool true) := by
  have b1 : ∀ x ∈ s, x < 2 ^ 32 := fun x hx => by have := two_lt h2 x hx; omega
  refine run_set (comp_map (tg := .v 8) (own := [8]) (it := .call "_law_stretches" f__law_stretches (.cons (.var 2) .nil)) (xs := bars (ws.length + 1)) (en := barD) (fun b => decide (ind (ws.length + 1) b = s)) barD (ev_call1 (ev_var (d := wS ws) rfl) (lawStretches_ok (by omega))) rfl fun b _ => ⟨st (.dat (wS ws)) (.dat (szD s)) a4 a5 a6 a7 (.dat (barD b)) a9 a10 a11 a12 a13 a14 a15, rfl, ?_, fun _ => ev_var rfl⟩) ?_
  · have c := ev_cmp' (c := .eq) (ev_call2 (n := "_law_sizes") (f := f__law_sizes) (ρ := st (.dat (wS ws)) (.dat (szD s)) a4 a5 a6 a7 (.dat (barD b)) a9 a10 a11 a12 a13 a14 a15) (ev_var (i := 2) (d := wS ws) rfl) (ev_tup1 (ev_tup2 (b := .k (.int 1)) (ev_var (i := 8) (d := barD b) rfl) rfl)) (lawSizes_ok ws [(b, 1)] (by omega))) (ev_var (i := 3) (d := szD s) rfl) (q_eqS _ _)
    rw [evC]
    have := congrArg (fun m => bnd m truthM) c
    refine this.trans ?_
    rw [szT_one]; rfl
  show Run (exs r4 (st (.dat (wS ws)) (.dat (szD s)) a4 a5 a6 (.dat (.list (((bars (ws.length + 1)).filter fun b => decide (ind (ws.length + 1) b = s)).map barD))) a8 a9 a10 a11 a12 a13 a14 a15)) _
  generalize hR : (((bars (ws.length + 1)).filter fun b => decide (ind (ws.length + 1) b = s)).map barD) = R
  refine run_set (ev_call2 (ev_var rfl) (ev_var (i := 3) (d := szD s) rfl) (form_ok hs b1 (by omega))) ?_
  show Run (exs r5 (st (.dat (wS ws)) (.dat (szD s)) a4 a5 a6 (.dat (.list R)) a8 (.dat (.int (eulerZ ws s s))) a10 a11 a12 a13 a14 a15)) _
  obtain ⟨f1, f2⟩ := form_fact hw hs h2
  have lr : ev (.bi .len (.cons (.var 7) .nil)) (st (.dat (wS ws)) (.dat (szD s)) a4 a5 a6 (.dat (.list R)) a8 (.dat (.int (eulerZ ws s s))) a10 a11 a12 a13 a14 a15) = SR.ret (intD R.length) := ev_lenL rfl
  have hRl : decide (R.length = 1) = decide (eulerZ ws s s = 1) := by
    rw [f1, ← hR, List.length_map]
    rcases roots_or (ws.length + 1) s with ⟨h, h'⟩ | ⟨b, hb, hbs, h⟩
    · rw [h, h']; rfl
    · rw [h, List.any_eq_true.mpr ⟨b, hb, by rw [hbs]; exact beq_self_eq_true s⟩]; rfl
  have b4 : ∀ x ∈ s.map (2 * ·), x < 2 ^ 32 := fun x hx => by
    obtain ⟨y, hy, rfl⟩ := List.mem_map.mp hx
    have := two_lt h2 y hy; omega
  refine run_skip (or_ok (p := false) (q := false) ?_ fun _ => ?_) rfl ?_
  · refine (ev_cmp' (ev_cmp' (ev_var (i := 9) (d := .int (eulerZ ws s s)) rfl) (y := .int 1) rfl (q_eqI _ _)) (ev_cmp' (y := intD 1) lr rfl (q_eqN _ _)) (q_neB _ _)).trans ?_
    rw [hRl]; simp
  · refine (ev_cmp' (ev_call2 (ev_var rfl) (ev_bi1 (comp_all (tg := .v 10) (own := [10]) (it := .var 3) (xs := s) (en := intD) (fun x => intD (2 * x)) (ev_var (d := szD s) rfl) rfl fun x _ => ⟨st (.dat (wS ws)) (.dat (szD s)) a4 a5 a6 (.dat (.list R)) a8 (.dat (.int (eulerZ ws s s))) (.dat (intD x)) a11 a12 a13 a14 a15, rfl, ev_op2 (x := intD 2) rfl (ev_var (d := intD x) rfl) (q_mulN (.inl (by decide)))⟩) (y := szD (s.map (2 * ·))) ?_) (form_ok (by simpa using hs) b4 (by omega))) (ev_op2 (y := .int (eulerZ ws s s)) (z := .int (4 * eulerZ ws s s)) rfl (ev_var rfl) ?_) (q_neI _ _)).trans ?_
    · show some (PyData.tuple _) = some (PyData.tuple _)
      rw [List.map_map]; rfl
    · exact q_mul rfl
    · rw [euler_scale 2 hs, decide_eq_true]
      · rfl
      · rfl
  refine run_skip (or_ok (p := false) (q := false) ?_ fun _ => ?_) rfl ?_
  · refine (side_ok (p := decide (0 < s.sum)) (q := decide (eulerZ ws s s < 1)) (ev_cmp' (y := intD 0) (ev_bi1 (ev_var (i := 3) (d := szD s) rfl) (q_sumN (ns := s) rfl)) rfl q_gtN) fun _ => ev_cmp' (ev_var (i := 9) (d := .int (eulerZ ws s s)) rfl) (y := .int 1) rfl q_lt).trans ?_
    rcases f2 with h | h
    · rw [h]; rfl
    · rw [decide_eq_false (show ¬ eulerZ ws s s < 1 by omega)]; simp
  · refine (ev_cmp' (ev_call3 (ev_var rfl) (ev_var (d := szD s) rfl) (ev_var (d := szD s) rfl) (euler_ok hs hs b1 (by omega))) (ev_var (i := 9) (d := .int (eulerZ ws s s)) rfl) (q_neI _ _)).trans ?_
    rw [decide_eq_true rfl]; rfl
  rw [← hR]
  exact part3 hw hs h2
end
theorem bars_pos (n : Nat) (h : 0 < n) : 0 < (bars n).length := List.length_pos_of_mem (mem_bars (b := (0, 0)).mpr ⟨Nat.le_refl _, h⟩)
theorem bars_len {n : Nat} (h : n ≤ 10) : (bars n).length ≤ 100 := by
  have : ∀ n : Fin 11, (bars n.val).length ≤ 100 := by decide
  exact this ⟨n, by omega⟩
theorem law21 : LawTrue 16 K21.i_law := run_law <| by
  rw [r_eq]
  show Run (exs r0 (st .no .no .no .no .no .no .no .no .no .no .no .no .no .no)) _
  refine run_asg ((run_shape (m := 4) rfl (by decide)).mono ?_)
  rintro _ ⟨ws, hw, rfl⟩
  refine ⟨st (.dat (.str (wd ws))) .no .no .no .no .no .no .no .no .no .no .no .no .no, rfl, ?_⟩
  refine run_asg (run_bi1 ((run_draws (n := ws.length + 1) (m := 3) rfl (by decide) (ev_len1 (ws := ws) rfl (by omega)) (by omega) (by decide) (by decide)).mono ?_))
  rintro _ ⟨s, hs, hb, rfl⟩
  refine ⟨szD s, rfl, st (.dat (wS ws)) (.dat (szD s)) .no .no .no .no .no .no .no .no .no .no .no .no, rfl, ?_⟩
  refine run_ifeR (run_cmpR (y := intD 0) rfl ((run_draw (m := 2) rfl rfl (by decide) (by decide)).mono ?_))
  rintro _ ⟨v, hv, rfl⟩
  refine ⟨_, q_eqN v 0, _, rfl, ?_⟩
  by_cases h0 : v = 0
  · rw [decide_eq_true h0, if_pos rfl]
    refine run_asg ((run_pick (xs := bars (ws.length + 1)) (en := barD) rfl (ev_call1 (ev_var (d := wS ws) rfl) (lawStretches_ok (by omega))) (bars_pos _ (by omega)) (by have := bars_len (n := ws.length + 1) (by omega); omega)).mono ?_)
    rintro _ ⟨b, hbb, rfl⟩
    refine ⟨st (.dat (wS ws)) (.dat (szD s)) .no (.dat (intD b.1)) (.dat (intD b.2)) .no .no .no .no .no .no .no .no .no, rfl, ?_⟩
    refine run_set (ev_call2 (ev_var (d := wS ws) rfl) (ev_tup1 (ev_tup2 (b := .k (.int 1)) (ev_tup2 (ev_var (d := intD b.1) rfl) (ev_var (d := intD b.2) rfl)) rfl)) (lawSizes_ok ws [(b, 1)] (by omega))) (run_nil ?_)
    rw [szT_one]
    refine part2 hw (ind_len _ _) fun k => ?_
    rw [ind, List.getD_eq_getElem?_getD, List.getElem?_map]
    cases (List.range (ws.length + 1))[k]? with
    | none => exact Nat.zero_le _
    | some x =>
      show (if cov b x then 1 else 0) ≤ 2
      split <;> omega
  · rw [decide_eq_false h0, if_neg Bool.false_ne_true]
    exact run_nil (part2 hw hs (getD_lt (m := 2) hb))
end K21
theorem PySem.Challenge.cw_stretchrows_k21_whole_roots_of_the_form_holds : PySem.Challenge.rw_stretchrows_k21_whole_roots_of_the_form.Holds :=
  K21.holds_of (@K21.law21 (SR.wd0 PySem.Challenge.rw_stretchrows_k21_whole_roots_of_the_form.prog))
end
