import PyProof.Rows.All
import Wide.All
import OpenK.AllK
import Wide.FinOn
import HandS.ForMost
import HandS.ForExc
import HandS.IsInst
import HandS.TupAny
import HandS.Wide
import KE.KDictCopyH
import KE.KDictKeyed
import HandS.Walk
import HandS.CallSlots
import HandS.Defaults
import HandS.WordsExc
import HandS.Deep
import KE.SortData
import HandS.SortOrd
import PyProof.TupleOfSeq
import HandS.Zip
import KE.GoesEnum
import HandS.Style
import HandS.ExcInit
import HandS.ExcField
import HandS.ExcIs
import HandS.Words
import HandS.HeadHook2
import HandS.Ends
import HandS.HeadEnd
import HandS.HeadHook1
import HandS.Head0
import HandS.Head1
import HandS.Head2
import HandS.Property
import HandS.OwnEq
import HandS.ClsMeth
import HandS.CallLocal
import KE.KCallOwn
import HandS.Strs
import HandS.Conv
import KE.KTupSum
import HandS.FStr
import HandS.Iter
import HandS.More
import HandS.Star
import HandS.Flt
import PySem.Challenge.RW_sparerows_k04_nets_of_links
set_option Elab.async false
set_option linter.all false
set_option maxRecDepth 100000
set_option maxHeartbeats 1000000
namespace DL
open PySem PySem.Spec PyProof.Rows L2

/-! ### data -/
inductive Dat where
  | non | bl (b : Bool) | int (i : Int) | str (x : Str)
  | tup (xs : List Dat) | lst (xs : List Dat) | dct (kvs : List (Dat × Dat))
  | ins (c : Nat) (xs : List Dat) | obj (k : Nat) | ref (a : Addr) | ty (n : String) | cls (c : Nat)
  deriving Inhabited

/-- classes by number: where they stand, their fields in the order of storing -/
structure Ct where
  addr : Nat → Addr
  flds : Nat → List Str
  /-- plain classes of instances -/
  own : Nat → Bool := fun _ => false
  /-- of which kind: class and class, class and built-in type, built-in type and class -/
  isaI : Nat → Nat → Option Bool := fun _ _ => none
  isaB : Nat → String → Option Bool := fun _ _ => none
  isaT : String → Nat → Option Bool := fun _ _ => none

/-- a dict by its entries -/
def dxo (a : Addr) (es : Array DictEntry) : HO := .ext fun h => ∃ o ep, h.get? a = some o ∧ o.ExactDict ∧ o.data = .dict es ep

mutual
def keyN : Dat → Option NestedKey
  | .non => some .none
  | .bl b => some (.num (if b = true then 1 else 0))
  | .int i => some (.num i)
  | .str x => some (.text x)
  | .tup xs => (keyNs xs).map .tup
  | _ => none
def keyNs : List Dat → Option (List NestedKey)
  | [] => some []
  | x :: xs => match keyN x, keyNs xs with
    | some k, some ks => some (k :: ks)
    | _, _ => none
end
def hashD (w : World) (k : Dat) : Int := match keyN k with
  | some n => n.hash w
  | none => 0

mutual
/-- the value v shows the datum, by objects that do not change any more -/
inductive Fz (C : Ct) (w : World) (K : PySem.W.Frag) (al : List Addr) (G : Hp) : V → Dat → Prop
  | non : Fz C w K al G .non .non
  | bl (b : Bool) : Fz C w K al G (.bl b) (.bl b)
  | int (i : Int) : Fz C w K al G (.int i) (.int i)
  | str (x : Str) : Fz C w K al G (.str x) (.str x)
  | ty (n : String) : Fz C w K al G (.ty n) (.ty n)
  | ref (a : Addr) : Fz C w K al G (.ref a) (.ref a)
  | cls (c : Nat) : Fz C w K al G (.ref (C.addr c)) (.cls c)
  | tup {a vs ds} : SqT K G a vs → FzAll C w K al G vs ds → Fz C w K al G (.ref a) (.tup ds)
  | lst {a vs ds} : Rd G a (.lst vs) → FzAll C w K al G vs ds → Fz C w K al G (.ref a) (.lst ds)
  | dct {a es kvs} : G a = some (dxo a es) → (a == sysModules) = false → FzEs C w K al G es.toList kvs → Fz C w K al G (.ref a) (.dct kvs)
  | ins {a dx c vs ds} : G a = some (.ins (C.addr c) dx ((C.flds c).zip vs)) → vs.length = (C.flds c).length → FzAll C w K al G vs ds → Fz C w K al G (.ref a) (.ins c ds)
  | obj {k a} : al[k]? = some a → Fz C w K al G (.ref a) (.obj k)
inductive FzAll (C : Ct) (w : World) (K : PySem.W.Frag) (al : List Addr) (G : Hp) : List V → List Dat → Prop
  | nil : FzAll C w K al G [] []
  | cons {v vs d ds} : Fz C w K al G v d → FzAll C w K al G vs ds → FzAll C w K al G (v :: vs) (d :: ds)
inductive FzEs (C : Ct) (w : World) (K : PySem.W.Frag) (al : List Addr) (G : Hp) : List DictEntry → List (Dat × Dat) → Prop
  | nil : FzEs C w K al G [] []
  | cons {e es kv vv k v r} : RelV kv e.key → Fz C w K al G kv k → RelV vv e.val → Fz C w K al G vv v → e.hash = hashD w k → FzEs C w K al G es r → FzEs C w K al G (e :: es) ((k, v) :: r)
end

section
variable {C : Ct} {w : World} {K : PySem.W.Frag} {al al' : List Addr} {G G' : Hp}
theorem Rd.keep {a : Addr} {u : HO} (h : ∀ a o, G a = some o → G' a = some o) (r : Rd G a u) : Rd G' a u := by
  rcases r with r | ⟨o, r⟩
  · exact .inl (h _ _ r)
  · exact .inr ⟨o, h _ _ r⟩
theorem SqL.keep {a : Addr} {xs : List V} (h : ∀ a o, G a = some o → G' a = some o) (r : SqL K G a xs) : SqL K G' a xs := by
  rcases r with r | r
  · exact .inl (Rd.keep h r)
  · exact .inr r
theorem SqT.keep {a : Addr} {xs : List V} (h : ∀ a o, G a = some o → G' a = some o) (r : SqT K G a xs) : SqT K G' a xs := by
  rcases r with r | r
  · exact .inl (Rd.keep h r)
  · exact .inr r
mutual
theorem Fz.keep (h : ∀ a o, G a = some o → G' a = some o) (ha : ∀ (k : Nat) a, al[k]? = some a → al'[k]? = some a) : ∀ {v d}, Fz C w K al G v d → Fz C w K al' G' v d
  | _, _, .non => .non
  | _, _, .bl b => .bl b
  | _, _, .int i => .int i
  | _, _, .str x => .str x
  | _, _, .ty n => .ty n
  | _, _, .ref a => .ref a
  | _, _, .cls c => .cls c
  | _, _, .tup s r => .tup (SqT.keep h s) (FzAll.keep h ha r)
  | _, _, .lst s r => .lst (Rd.keep h s) (FzAll.keep h ha r)
  | _, _, .dct e s r => .dct (h _ _ e) s (FzEs.keep h ha r)
  | _, _, .ins e l r => .ins (h _ _ e) l (FzAll.keep h ha r)
  | _, _, .obj e => .obj (ha _ _ e)
theorem FzAll.keep (h : ∀ a o, G a = some o → G' a = some o) (ha : ∀ (k : Nat) a, al[k]? = some a → al'[k]? = some a) : ∀ {v d}, FzAll C w K al G v d → FzAll C w K al' G' v d
  | _, _, .nil => .nil
  | _, _, .cons x r => .cons (Fz.keep h ha x) (FzAll.keep h ha r)
theorem FzEs.keep (h : ∀ a o, G a = some o → G' a = some o) (ha : ∀ (k : Nat) a, al[k]? = some a → al'[k]? = some a) : ∀ {v d}, FzEs C w K al G v d → FzEs C w K al' G' v d
  | _, _, .nil => .nil
  | _, _, .cons r1 x r2 y e r => .cons r1 (Fz.keep h ha x) r2 (Fz.keep h ha y) e (FzEs.keep h ha r)
end
theorem FzAll.length {vs ds} : FzAll C w K al G vs ds → vs.length = ds.length := by
  intro h
  induction ds generalizing vs with
  | nil => cases h; rfl
  | cons d ds ih =>
    cases h with
    | cons x r => simp [ih r]
theorem FzAll.get {vs ds} {i : Nat} {d : Dat} (h : FzAll C w K al G vs ds) (e : ds[i]? = some d) : ∃ v, vs[i]? = some v ∧ Fz C w K al G v d := by
  induction ds generalizing vs i with
  | nil => simp at e
  | cons x ds ih =>
    cases h with
    | cons y r =>
      cases i with
      | zero => simp at e; subst e; exact ⟨_, rfl, y⟩
      | succ i => simp at e; obtain ⟨v, h1, h2⟩ := ih r e; exact ⟨v, by simpa using h1, h2⟩
theorem FzAll.get' {vs ds} {i : Nat} {v : V} (h : FzAll C w K al G vs ds) (e : vs[i]? = some v) : ∃ d, ds[i]? = some d ∧ Fz C w K al G v d := by
  have hl := h.length
  have hi : i < vs.length := (List.getElem?_eq_some_iff.mp e).1
  have hd : ds[i]? = some ds[i] := List.getElem?_eq_getElem (by omega)
  obtain ⟨v', h1, h2⟩ := h.get hd
  rw [e] at h1; cases h1
  exact ⟨_, hd, h2⟩
theorem FzAll.append {vs ds us es} (h : FzAll C w K al G vs ds) (h' : FzAll C w K al G us es) : FzAll C w K al G (vs ++ us) (ds ++ es) := by
  induction ds generalizing vs with
  | nil => cases h; exact h'
  | cons d ds ih => cases h with | cons x r => exact .cons x (ih r)
theorem FzAll.take {vs ds} (n : Nat) (h : FzAll C w K al G vs ds) : FzAll C w K al G (vs.take n) (ds.take n) := by
  induction ds generalizing vs n with
  | nil => cases h; simp; exact .nil
  | cons d ds ih =>
    cases h with
    | cons x r =>
      cases n with
      | zero => exact .nil
      | succ n => exact .cons x (ih n r)
theorem FzAll.drop {vs ds} (n : Nat) (h : FzAll C w K al G vs ds) : FzAll C w K al G (vs.drop n) (ds.drop n) := by
  induction ds generalizing vs n with
  | nil => cases h; simp; exact .nil
  | cons d ds ih =>
    cases h with
    | cons x r =>
      cases n with
      | zero => exact .cons x r
      | succ n => exact ih n r
theorem FzAll.reverse {vs ds} (h : FzAll C w K al G vs ds) : FzAll C w K al G vs.reverse ds.reverse := by
  induction ds generalizing vs with
  | nil => cases h; exact .nil
  | cons d ds ih =>
    cases h with
    | cons x r => rw [List.reverse_cons, List.reverse_cons]; exact (ih r).append (.cons x .nil)
theorem FzAll.set {vs ds v d} (n : Nat) (h : FzAll C w K al G vs ds) (x : Fz C w K al G v d) : FzAll C w K al G (vs.set n v) (ds.set n d) := by
  induction ds generalizing vs n with
  | nil => cases h; exact .nil
  | cons e ds ih =>
    cases h with
    | cons y r =>
      cases n with
      | zero => exact .cons x r
      | succ n => exact .cons y (ih n r)
theorem FzAll.eraseIdx {vs ds} (n : Nat) (h : FzAll C w K al G vs ds) : FzAll C w K al G (vs.eraseIdx n) (ds.eraseIdx n) := by
  induction ds generalizing vs n with
  | nil => cases h; exact .nil
  | cons e ds ih =>
    cases h with
    | cons y r =>
      cases n with
      | zero => exact r
      | succ n => exact .cons y (ih n r)
end

/-! ### what a body holds: slots, its own objects, the shared ones -/
/-- an object that may change -/
inductive Mo where
  | lst (xs : List Dat)
  | ins (c : Nat) (xs : List Dat)
  | dct (kvs : List (Dat × Dat))
/-- a slot: a datum that does not change; an object of the body's own that no one else holds -/
inductive Sl where
  | f (d : Dat)
  | own (x : Mo)
/-- a value: a datum; the own object of slot i -/
inductive Lv where
  | f (d : Dat)
  | o (i : Nat)
abbrev Mem := List Mo
abbrev Env' := List (Option Sl)

/-- a heap H, what does not change any more in it, where the shared objects stand -/
structure Nw where
  G : Hp
  al : List Addr
  H : Hp
structure Nw.le (a b : Nw) : Prop where
  g : ∀ p o, a.G p = some o → b.G p = some o
  keep : ∀ p o, a.H p = some o → p ∉ a.al → b.H p = some o
  there : ∀ p, a.H p ≠ none → b.H p ≠ none
  gnew : ∀ p, a.H p ≠ none → b.G p = a.G p
  ale : a.al <+: b.al
  anew : ∀ (k : Nat) p, a.al.length ≤ k → b.al[k]? = some p → a.H p = none
theorem Nw.le.refl (a : Nw) : a.le a := ⟨fun _ _ h => h, fun _ _ h _ => h, fun _ h => h, fun _ _ => rfl, List.prefix_rfl, fun k p h e => by
  rw [List.getElem?_eq_none h] at e; cases e⟩
theorem pre_get {α : Type} {a b : List α} (h : a <+: b) (k : Nat) (x : α) (e : a[k]? = some x) : b[k]? = some x := by
  obtain ⟨t, rfl⟩ := h
  rw [List.getElem?_append_left (List.getElem?_eq_some_iff.mp e).1]; exact e
theorem pre_back {α : Type} {a b : List α} (h : a <+: b) {k : Nat} {x : α} (e : b[k]? = some x) (hk : k < a.length) : a[k]? = some x := by
  obtain ⟨t, rfl⟩ := h
  rw [List.getElem?_append_left hk] at e; exact e
/-- an object that stood and was not shared is not shared later -/
theorem Nw.le.nal {a b : Nw} (h : a.le b) {p : Addr} (e : a.H p ≠ none) (n : p ∉ a.al) : p ∉ b.al := fun z => by
  obtain ⟨k, hk⟩ := List.getElem?_of_mem z
  by_cases hl : k < a.al.length
  · exact n (List.mem_of_getElem? (pre_back h.ale hk hl))
  · exact e (h.anew k p (by omega) hk)
theorem Nw.le.trans {a b c : Nw} (h : a.le b) (h' : b.le c) : a.le c where
  g := fun p o e => h'.g p o (h.g p o e)
  keep := fun p o e n => h'.keep p o (h.keep p o e n) (h.nal (by rw [e]; simp) n)
  there := fun p e => h'.there p (h.there p e)
  gnew := fun p e => (h'.gnew p (h.there p e)).trans (h.gnew p e)
  ale := h.ale.trans h'.ale
  anew := fun k p hk e => by
    by_cases hl : k < b.al.length
    · exact h.anew k p hk (pre_back h'.ale e hl)
    · have q := h'.anew k p (by omega) e
      cases z : a.H p with
      | none => rfl
      | some o => exact absurd q (h.there p (by rw [z]; simp))

section
variable (C : Ct) (w : World) (K : PySem.W.Frag)
abbrev FzN (n : Nw) : V → Dat → Prop := Fz C w K n.al n.G
abbrev FzAllN (n : Nw) : List V → List Dat → Prop := FzAll C w K n.al n.G
def MoOk (n : Nw) (a : Addr) : Mo → Prop
  | .lst xs => ∃ vs, n.H a = some (.lst vs) ∧ FzAllN C w K n vs xs
  | .ins c xs => ∃ dx vs, n.H a = some (.ins (C.addr c) dx ((C.flds c).zip vs)) ∧ vs.length ≤ (C.flds c).length ∧ FzAllN C w K n vs xs
  | .dct kvs => ∃ es, n.H a = some (dxo a es) ∧ (a == sysModules) = false ∧ FzEs C w K n.al n.G es.toList kvs
/-- a good state: what is frozen stands; the shared objects stand as told, apart from one another and from what is frozen -/
structure Good (n : Nw) (m : Mem) : Prop where
  sub : ∀ p o, n.G p = some o → n.H p = some o
  nd : n.al.Nodup
  len : m.length = n.al.length
  at_ : ∀ (k : Nat) x a, m[k]? = some x → n.al[k]? = some a → MoOk C w K n a x ∧ n.G a = none
/-- a body's own object at a -/
structure OwnAt (B n : Nw) (a : Addr) (x : Mo) : Prop where
  ok : MoOk C w K n a x
  g : n.G a = none
  al : a ∉ n.al
  new : B.H a = none
structure EnvOk (B n : Nw) (env : Env') (σ : L2.St) : Prop where
  len : env.length = σ.length
  fz : ∀ (i : Nat) d, env[i]? = some (some (.f d)) → ∃ v, σ[i]? = some (some v) ∧ FzN C w K n v d
  own : ∀ (i : Nat) x, env[i]? = some (some (.own x)) → ∃ a, σ[i]? = some (some (.ref a)) ∧ OwnAt C w K B n a x
  apart : ∀ (i j : Nat) x y a, env[i]? = some (some (.own x)) → env[j]? = some (some (.own y)) → σ[i]? = some (some (.ref a)) → σ[j]? = some (some (.ref a)) → i = j
structure Ok (B n : Nw) (env : Env') (m : Mem) (σ : L2.St) : Prop where
  good : Good C w K n m
  base : B.le n
  env : EnvOk C w K B n env σ
def LvOk (n : Nw) (env : Env') (σ : L2.St) (v : V) : Lv → Prop
  | .f d => FzN C w K n v d
  | .o i => σ[i]? = some (some v) ∧ ∃ x, env[i]? = some (some (.own x))
end

section
variable {C : Ct} {w : World} {K : PySem.W.Frag} {B n n' : Nw} {m m' : Mem} {env : Env'} {σ : L2.St}
theorem FzN.le {v d} (h : FzN C w K n v d) (l : n.le n') : FzN C w K n' v d := Fz.keep l.g (pre_get l.ale) h
theorem FzAllN.le {v d} (h : FzAllN C w K n v d) (l : n.le n') : FzAllN C w K n' v d := FzAll.keep l.g (pre_get l.ale) h
theorem MoOk.there {a : Addr} {x : Mo} (h : MoOk C w K n a x) : n.H a ≠ none := by
  cases x with
  | lst xs => obtain ⟨vs, e, r⟩ := h; rw [e]; simp
  | ins c xs => obtain ⟨dx, vs, e, z, r⟩ := h; rw [e]; simp
  | dct kvs => obtain ⟨es, e, z, r⟩ := h; rw [e]; simp
theorem MoOk.imp {a : Addr} {x : Mo} (hg : ∀ p o, n.G p = some o → n'.G p = some o) (ha : ∀ (k : Nat) a, n.al[k]? = some a → n'.al[k]? = some a) (hH : ∀ u, n.H a = some u → n'.H a = some u) (h : MoOk C w K n a x) : MoOk C w K n' a x := by
  cases x with
  | lst xs => obtain ⟨vs, e, r⟩ := h; exact ⟨vs, hH _ e, FzAll.keep hg ha r⟩
  | ins c xs => obtain ⟨dx, vs, e, z, r⟩ := h; exact ⟨dx, vs, hH _ e, z, FzAll.keep hg ha r⟩
  | dct kvs => obtain ⟨es, e, z, r⟩ := h; exact ⟨es, hH _ e, z, FzEs.keep hg ha r⟩
theorem OwnAt.le {a : Addr} {x : Mo} (h : OwnAt C w K B n a x) (l : n.le n') : OwnAt C w K B n' a x :=
  ⟨h.ok.imp l.g (pre_get l.ale) fun u e => l.keep a u e h.al, (l.gnew a h.ok.there).trans h.g, l.nal h.ok.there h.al, h.new⟩
theorem EnvOk.le (h : EnvOk C w K B n env σ) (l : n.le n') : EnvOk C w K B n' env σ :=
  ⟨h.len, fun i d e => let ⟨v, e1, h1⟩ := h.fz i d e; ⟨v, e1, FzN.le h1 l⟩, fun i x e => let ⟨a, e1, h1⟩ := h.own i x e; ⟨a, e1, h1.le l⟩, h.apart⟩
theorem Ok.go (o : Ok C w K B n env m σ) (g : Good C w K n' m') (l : n.le n') : Ok C w K B n' env m' σ := ⟨g, o.base.trans l, o.env.le l⟩
theorem LvOk.le {v x} (h : LvOk C w K n env σ v x) (l : n.le n') : LvOk C w K n' env σ v x := by
  cases x with
  | f d => exact FzN.le (n := n) h l
  | o k => exact h
theorem Good.free (o : Good C w K n m) {p : Addr} (h : n.H p = none) : n.G p = none ∧ p ∉ n.al := by
  refine ⟨?_, fun z => ?_⟩
  · cases e : n.G p with
    | none => rfl
    | some u => have := o.sub p u e; rw [h] at this; cases this
  · obtain ⟨k, hk⟩ := List.getElem?_of_mem z
    have hk2 : k < m.length := by rw [o.len]; exact (List.getElem?_eq_some_iff.mp hk).1
    exact (o.at_ k _ p (List.getElem?_eq_getElem hk2) hk).1.there h
theorem Nw.le.base {p : Addr} (l : B.le n) (h : n.H p = none) : B.H p = none := by
  cases e : B.H p with
  | none => rfl
  | some u => exact absurd h (l.there p (by rw [e]; simp))
/-- a new object that will not change -/
theorem Good.freeze {p : Addr} {o : HO} (g : Good C w K n m) (hp : n.H p = none) : Good C w K ⟨upd n.G p o, n.al, upd n.H p o⟩ m ∧ n.le ⟨upd n.G p o, n.al, upd n.H p o⟩ := by
  obtain ⟨b2, b4⟩ := g.free hp
  have ne : ∀ a u, n.H a = some u → a ≠ p := fun a u e z => by subst z; rw [hp] at e; cases e
  have neg : ∀ a u, n.G a = some u → a ≠ p := fun a u e z => by subst z; rw [b2] at e; cases e
  have l : n.le ⟨upd n.G p o, n.al, upd n.H p o⟩ := ⟨fun a u e => by
    show upd n.G p o a = some u
    rw [upd_ne (neg a u e)]; exact e, fun a u e _ => by
    show upd n.H p o a = some u
    rw [upd_ne (ne a u e)]; exact e, fun a e => by
    show upd n.H p o a ≠ none
    rw [upd_ne (fun z => by subst z; exact e hp)]; exact e, fun a e => by
    show upd n.G p o a = _
    rw [upd_ne (fun z => by subst z; exact e hp)], List.prefix_rfl, fun k a hk e => by
    have e' : n.al[k]? = some a := e
    rw [List.getElem?_eq_none hk] at e'; cases e'⟩
  refine ⟨⟨fun a u e => ?_, g.nd, g.len, fun k x a e1 e2 => ?_⟩, l⟩
  · have e' : upd n.G p o a = some u := e
    show upd n.H p o a = some u
    by_cases z : a = p
    · subst z; rw [upd_same] at e'; rw [upd_same]; exact e'
    · rw [upd_ne z] at e'; rw [upd_ne z]; exact g.sub a u e'
  · obtain ⟨h1, h2⟩ := g.at_ k x a e1 e2
    have na : a ≠ p := fun z => b4 (z ▸ List.mem_of_getElem? e2)
    refine ⟨h1.imp l.g (pre_get l.ale) fun u e => ?_, ?_⟩
    · show upd n.H p o a = some u
      rw [upd_ne na]; exact e
    · show upd n.G p o a = none
      rw [upd_ne na]; exact h2
/-- a heap that grew by p or changed at p alone, where p is neither frozen nor shared -/
theorem Good.at {p : Addr} {o : HO} (g : Good C w K n m) (hg : n.G p = none) (ha : p ∉ n.al) : Good C w K ⟨n.G, n.al, upd n.H p o⟩ m :=
  ⟨fun a u e => by
    show upd n.H p o a = some u
    rw [upd_ne (fun z => by subst z; have e' : n.G a = some u := e; rw [hg] at e'; cases e')]; exact g.sub a u e, g.nd, g.len, fun k x a e1 e2 => by
    obtain ⟨h1, h2⟩ := g.at_ k x a e1 e2
    have na : a ≠ p := fun z => ha (z ▸ List.mem_of_getElem? e2)
    refine ⟨h1.imp (n := n) (fun _ _ e => e) (fun _ _ e => e) fun u e => ?_, h2⟩
    show upd n.H p o a = some u
    rw [upd_ne na]; exact e⟩
theorem Nw.le.at {p : Addr} {o : HO} (l : B.le n) (hb : B.H p = none) : B.le ⟨n.G, n.al, upd n.H p o⟩ :=
  ⟨l.g, fun a u e k => by
    show upd n.H p o a = some u
    rw [upd_ne (fun z => by subst z; rw [hb] at e; cases e)]; exact l.keep a u e k, fun a e => by
    show upd n.H p o a ≠ none
    rw [upd_ne (fun z => by subst z; exact e hb)]; exact l.there a e, l.gnew, l.ale, l.anew⟩
theorem OwnAt.at {p a : Addr} {o : HO} {x : Mo} (h : OwnAt C w K B n a x) (ne : a ≠ p) : OwnAt C w K B ⟨n.G, n.al, upd n.H p o⟩ a x :=
  ⟨h.ok.imp (n := n) (fun _ _ e => e) (fun _ _ e => e) fun u e => by
    show upd n.H p o a = some u
    rw [upd_ne ne]; exact e, h.g, h.al, h.new⟩
/-- slot i holds a datum -/
theorem EnvOk.setF {i : Nat} {v : V} {d : Dat} (h : EnvOk C w K B n env σ) (hx : FzN C w K n v d) : EnvOk C w K B n (env.set i (some (.f d))) (σ.set i (some v)) := by
  refine ⟨by simp [h.len], fun j y e => ?_, fun j y e => ?_, fun j k x y a e1 e2 f1 f2 => ?_⟩
  · by_cases hj : i = j
    · subst hj
      have hlt : i < env.length := by
        have := (List.getElem?_eq_some_iff.mp e).1
        simpa using this
      rw [List.getElem?_set_self hlt] at e
      cases e
      exact ⟨v, List.getElem?_set_self (by rw [← h.len]; exact hlt), hx⟩
    · rw [List.getElem?_set_ne hj] at e
      rw [List.getElem?_set_ne hj]
      exact h.fz j y e
  · by_cases hj : i = j
    · subst hj
      have hlt : i < env.length := by
        have := (List.getElem?_eq_some_iff.mp e).1
        simpa using this
      rw [List.getElem?_set_self hlt] at e
      cases e
    · rw [List.getElem?_set_ne hj] at e
      rw [List.getElem?_set_ne hj]
      exact h.own j y e
  · by_cases hj : i = j
    · subst hj
      have hlt : i < env.length := by
        have := (List.getElem?_eq_some_iff.mp e1).1
        simpa using this
      rw [List.getElem?_set_self hlt] at e1
      cases e1
    · by_cases hk : i = k
      · subst hk
        have hlt : i < env.length := by
          have := (List.getElem?_eq_some_iff.mp e2).1
          simpa using this
        rw [List.getElem?_set_self hlt] at e2
        cases e2
      · rw [List.getElem?_set_ne hj] at e1 f1
        rw [List.getElem?_set_ne hk] at e2 f2
        exact h.apart j k x y a e1 e2 f1 f2
/-- slot i holds an object of the body's own, at a place that no other slot's object has -/
theorem EnvOk.setO {i : Nat} {a : Addr} {z : Mo} (h : EnvOk C w K B n env σ) (hx : OwnAt C w K B n a z) (ha : ∀ (j : Nat) y, j ≠ i → env[j]? = some (some (.own y)) → σ[j]? ≠ some (some (.ref a))) :
    EnvOk C w K B n (env.set i (some (.own z))) (σ.set i (some (.ref a))) := by
  refine ⟨by simp [h.len], fun j y e => ?_, fun j y e => ?_, fun j k x y b e1 e2 f1 f2 => ?_⟩
  · by_cases hj : i = j
    · subst hj
      have hlt : i < env.length := by
        have := (List.getElem?_eq_some_iff.mp e).1
        simpa using this
      rw [List.getElem?_set_self hlt] at e
      cases e
    · rw [List.getElem?_set_ne hj] at e
      rw [List.getElem?_set_ne hj]
      exact h.fz j y e
  · by_cases hj : i = j
    · subst hj
      have hlt : i < env.length := by
        have := (List.getElem?_eq_some_iff.mp e).1
        simpa using this
      rw [List.getElem?_set_self hlt] at e
      cases e
      exact ⟨a, List.getElem?_set_self (by rw [← h.len]; exact hlt), hx⟩
    · rw [List.getElem?_set_ne hj] at e
      rw [List.getElem?_set_ne hj]
      exact h.own j y e
  · have hi : ∀ {j : Nat} {y : Mo}, i = j → (env.set i (some (.own z)))[j]? = some (some (.own y)) → (σ.set i (some (V.ref a)))[j]? = some (some (.ref a)) := by
      intro j y q e
      subst q
      have hlt : i < env.length := by
        have := (List.getElem?_eq_some_iff.mp e).1
        simpa using this
      exact List.getElem?_set_self (by rw [← h.len]; exact hlt)
    by_cases hj : i = j
    · by_cases hk : i = k
      · exact hj.symm.trans hk
      · have q := hi hj e1
        rw [q] at f1
        cases f1
        rw [List.getElem?_set_ne hk] at e2 f2
        exact absurd f2 (ha k y (Ne.symm hk) e2)
    · by_cases hk : i = k
      · have q := hi hk e2
        rw [q] at f2
        cases f2
        rw [List.getElem?_set_ne hj] at e1 f1
        exact absurd f1 (ha j x (Ne.symm hj) e1)
      · rw [List.getElem?_set_ne hj] at e1 f1
        rw [List.getElem?_set_ne hk] at e2 f2
        exact h.apart j k x y b e1 e2 f1 f2
theorem Ok.setF {i : Nat} {v : V} {d : Dat} (h : Ok C w K B n env m σ) (hx : FzN C w K n v d) : Ok C w K B n (env.set i (some (.f d))) m (σ.set i (some v)) := ⟨h.good, h.base, h.env.setF hx⟩
/-- a new object of the body's own goes to slot i -/
theorem Ok.newO {i : Nat} {p : Addr} {o : HO} {z : Mo} (h : Ok C w K B n env m σ) (hp : n.H p = none) (hz : MoOk C w K ⟨n.G, n.al, upd n.H p o⟩ p z) :
    Ok C w K B ⟨n.G, n.al, upd n.H p o⟩ (env.set i (some (.own z))) m (σ.set i (some (.ref p))) := by
  obtain ⟨b2, b4⟩ := h.good.free hp
  have bn := h.base.base hp
  have ne : ∀ a u, n.H a = some u → a ≠ p := fun a u e z => by subst z; rw [hp] at e; cases e
  have e1 : EnvOk C w K B ⟨n.G, n.al, upd n.H p o⟩ env σ := ⟨h.env.len, h.env.fz, fun j y e => by
    obtain ⟨a, f, q⟩ := h.env.own j y e
    exact ⟨a, f, q.at (fun z => q.ok.there (z ▸ hp))⟩, h.env.apart⟩
  refine ⟨h.good.at b2 b4, h.base.at bn, e1.setO ⟨hz, b2, b4, bn⟩ fun j y hj e f => ?_⟩
  obtain ⟨a, f', q⟩ := h.env.own j y e
  rw [f] at f'; cases f'
  exact q.ok.there hp
/-- the own object of slot i is changed -/
theorem Ok.chgO {i : Nat} {a : Addr} {o : HO} {x z : Mo} (h : Ok C w K B n env m σ) (hi : env[i]? = some (some (.own x))) (ha : σ[i]? = some (some (.ref a))) (hz : MoOk C w K ⟨n.G, n.al, upd n.H a o⟩ a z) :
    Ok C w K B ⟨n.G, n.al, upd n.H a o⟩ (env.set i (some (.own z))) m σ := by
  obtain ⟨a', f', q⟩ := h.env.own i x hi
  rw [ha] at f'; cases f'
  have e1 : EnvOk C w K B ⟨n.G, n.al, upd n.H a o⟩ (env.set i (some (.own z))) (σ.set i (some (.ref a))) := by
    have hlt : i < env.length := (List.getElem?_eq_some_iff.mp hi).1
    refine ⟨by simp [h.env.len], fun j y e => ?_, fun j y e => ?_, fun j k x' y b e1 e2 f1 f2 => ?_⟩
    · by_cases hj : i = j
      · subst hj; rw [List.getElem?_set_self hlt] at e; cases e
      · rw [List.getElem?_set_ne hj] at e; rw [List.getElem?_set_ne hj]; exact h.env.fz j y e
    · by_cases hj : i = j
      · subst hj
        rw [List.getElem?_set_self hlt] at e; cases e
        exact ⟨a, List.getElem?_set_self (by rw [← h.env.len]; exact hlt), hz, q.g, q.al, q.new⟩
      · rw [List.getElem?_set_ne hj] at e
        rw [List.getElem?_set_ne hj]
        obtain ⟨b, f, q'⟩ := h.env.own j y e
        exact ⟨b, f, q'.at fun z => hj (h.env.apart i j x y a hi e ha (z ▸ f))⟩
    · have tr : ∀ {j : Nat} {y : Mo}, (env.set i (some (.own z)))[j]? = some (some (.own y)) → ∃ y', env[j]? = some (some (.own y')) := by
        intro j y e
        by_cases hj : i = j
        · subst hj; exact ⟨x, hi⟩
        · rw [List.getElem?_set_ne hj] at e; exact ⟨y, e⟩
      have ts : ∀ {j : Nat}, (σ.set i (some (V.ref a)))[j]? = some (some (.ref b)) → σ[j]? = some (some (.ref b)) := by
        intro j e
        by_cases hj : i = j
        · subst hj
          rw [List.getElem?_set_self (by rw [← h.env.len]; exact hlt)] at e
          rw [ha]; exact e
        · rw [List.getElem?_set_ne hj] at e; exact e
      obtain ⟨y1, g1⟩ := tr e1
      obtain ⟨y2, g2⟩ := tr e2
      exact h.env.apart j k y1 y2 b g1 g2 (ts f1) (ts f2)
  have eσ : σ.set i (some (V.ref a)) = σ := by
    have hs : i < σ.length := (List.getElem?_eq_some_iff.mp ha).1
    have : σ[i] = some (V.ref a) := (List.getElem?_eq_some_iff.mp ha).2
    rw [← this]; exact List.set_getElem_self hs
  rw [eσ] at e1
  exact ⟨h.good.at q.g q.al, h.base.at q.new, e1⟩
/-- the own object of slot i changes no more -/
theorem Ok.kill {i : Nat} {a : Addr} {o : HO} {x : Mo} {d : Dat} (h : Ok C w K B n env m σ) (hi : env[i]? = some (some (.own x))) (ha : σ[i]? = some (some (.ref a))) (ho : n.H a = some o) (hd : FzN C w K ⟨upd n.G a o, n.al, n.H⟩ (.ref a) d) :
    Ok C w K B ⟨upd n.G a o, n.al, n.H⟩ (env.set i (some (.f d))) m σ := by
  obtain ⟨a', f', q⟩ := h.env.own i x hi
  rw [ha] at f'; cases f'
  have neg : ∀ b u, n.G b = some u → b ≠ a := fun b u e z => by subst z; rw [q.g] at e; cases e
  have hg : ∀ b u, n.G b = some u → (upd n.G a o) b = some u := fun b u e => by rw [upd_ne (neg b u e)]; exact e
  have hs : i < σ.length := (List.getElem?_eq_some_iff.mp ha).1
  have eσ : σ.set i (some (V.ref a)) = σ := by
    have : σ[i] = some (V.ref a) := (List.getElem?_eq_some_iff.mp ha).2
    rw [← this]; exact List.set_getElem_self hs
  have hlt : i < env.length := (List.getElem?_eq_some_iff.mp hi).1
  refine ⟨⟨fun b u e => ?_, h.good.nd, h.good.len, fun k y b e1 e2 => ?_⟩, ⟨fun b u e => hg b u (h.base.g b u e), h.base.keep, h.base.there, fun b e => ?_, h.base.ale, h.base.anew⟩, ⟨by simp [h.env.len], fun j y e => ?_, fun j y e => ?_, fun j k x' y b e1 e2 f1 f2 => ?_⟩⟩
  · have e' : upd n.G a o b = some u := e
    show n.H b = some u
    by_cases z : b = a
    · subst z; rw [upd_same] at e'; cases e'; exact ho
    · rw [upd_ne z] at e'; exact h.good.sub b u e'
  · obtain ⟨h1, h2⟩ := h.good.at_ k y b e1 e2
    refine ⟨h1.imp hg (fun _ _ e => e) fun u e => e, ?_⟩
    show upd n.G a o b = none
    rw [upd_ne (fun z => by subst z; exact q.al (List.mem_of_getElem? e2))]; exact h2
  · show upd n.G a o b = _
    rw [upd_ne (fun z => by subst z; exact e q.new)]; exact h.base.gnew b e
  · by_cases hj : i = j
    · subst hj; rw [List.getElem?_set_self hlt] at e; cases e; exact ⟨_, ha, hd⟩
    · rw [List.getElem?_set_ne hj] at e
      obtain ⟨v, f, z⟩ := h.env.fz j y e
      exact ⟨v, f, Fz.keep hg (fun _ _ e => e) z⟩
  · by_cases hj : i = j
    · subst hj; rw [List.getElem?_set_self hlt] at e; cases e
    · rw [List.getElem?_set_ne hj] at e
      obtain ⟨b, f, z⟩ := h.env.own j y e
      refine ⟨b, f, z.ok.imp hg (fun _ _ e => e) fun u e => e, ?_, z.al, z.new⟩
      show upd n.G a o b = none
      rw [upd_ne (fun y' => hj (h.env.apart i j x y a hi e ha (by rw [← y']; exact f)))]; exact z.g
  · by_cases hj : i = j
    · subst hj; rw [List.getElem?_set_self hlt] at e1; cases e1
    · by_cases hk : i = k
      · subst hk; rw [List.getElem?_set_self hlt] at e2; cases e2
      · rw [List.getElem?_set_ne hj] at e1
        rw [List.getElem?_set_ne hk] at e2
        exact h.env.apart j k x' y b e1 e2 f1 f2
/-- a shared object is changed -/
theorem Good.chgM {k : Nat} {a : Addr} {o : HO} {x y : Mo} (g : Good C w K n m) (hk : n.al[k]? = some a) (hx : m[k]? = some x) (hy : MoOk C w K ⟨n.G, n.al, upd n.H a o⟩ a y) :
    Good C w K ⟨n.G, n.al, upd n.H a o⟩ (m.set k y) ∧ n.le ⟨n.G, n.al, upd n.H a o⟩ := by
  have hg := (g.at_ k x a hx hk).2
  have hm : a ∈ n.al := List.mem_of_getElem? hk
  refine ⟨⟨fun b u e => ?_, g.nd, by simp [g.len], fun j z b e1 e2 => ?_⟩, ⟨fun b u e => e, fun b u e hn => ?_, fun b e => ?_, fun _ _ => rfl, List.prefix_rfl, fun j b hj e => ?_⟩⟩
  · show upd n.H a o b = some u
    rw [upd_ne (fun z => by subst z; have e' : n.G b = some u := e; rw [hg] at e'; cases e')]; exact g.sub b u e
  · by_cases hj : k = j
    · subst hj
      have e2' : n.al[k]? = some b := e2
      rw [hk] at e2'; cases e2'
      rw [List.getElem?_set_self (List.getElem?_eq_some_iff.mp hx).1] at e1
      cases e1
      exact ⟨hy, hg⟩
    · rw [List.getElem?_set_ne hj] at e1
      obtain ⟨h1, h2⟩ := g.at_ j z b e1 e2
      have nb : b ≠ a := fun q => hj (by
        subst q
        exact (List.getElem?_inj (List.getElem?_eq_some_iff.mp hk).1 g.nd).mp (hk.trans (Eq.symm e2)))
      refine ⟨h1.imp (n := n) (fun _ _ e => e) (fun _ _ e => e) fun u e => ?_, h2⟩
      show upd n.H a o b = some u
      rw [upd_ne nb]; exact e
  · show upd n.H a o b = some u
    rw [upd_ne (fun z => by subst z; exact hn hm)]; exact e
  · show upd n.H a o b ≠ none
    by_cases z : b = a
    · subst z; rw [upd_same]; simp
    · rw [upd_ne z]; exact e
  · have e' : n.al[j]? = some b := e
    rw [List.getElem?_eq_none hj] at e'; cases e'
/-- a new shared object -/
theorem Good.newM {p : Addr} {o : HO} {x : Mo} (g : Good C w K n m) (hp : n.H p = none) (hx : MoOk C w K ⟨n.G, n.al ++ [p], upd n.H p o⟩ p x) :
    Good C w K ⟨n.G, n.al ++ [p], upd n.H p o⟩ (m ++ [x]) ∧ n.le ⟨n.G, n.al ++ [p], upd n.H p o⟩ := by
  obtain ⟨b2, b4⟩ := g.free hp
  have pre : n.al <+: n.al ++ [p] := List.prefix_append _ _
  refine ⟨⟨fun b u e => ?_, ?_, by simp [g.len], fun j z b e1 e2 => ?_⟩, ⟨fun b u e => e, fun b u e hn => ?_, fun b e => ?_, fun _ _ => rfl, pre, fun j b hj e => ?_⟩⟩
  · show upd n.H p o b = some u
    rw [upd_ne (fun z => by subst z; have e' : n.G b = some u := e; rw [b2] at e'; cases e')]; exact g.sub b u e
  · show (n.al ++ [p]).Nodup
    rw [List.nodup_append]
    refine ⟨g.nd, by simp, fun a ha b hb z => ?_⟩
    have : b = p := by simpa using hb
    subst this; subst z; exact b4 ha
  · have e2' : (n.al ++ [p])[j]? = some b := e2
    by_cases hj : j < m.length
    · rw [List.getElem?_append_left hj] at e1
      rw [List.getElem?_append_left (by rw [← g.len]; exact hj)] at e2'
      obtain ⟨h1, h2⟩ := g.at_ j z b e1 e2'
      have nb : b ≠ p := fun q => h1.there (q ▸ hp)
      refine ⟨h1.imp (n := n) (fun _ _ e => e) (pre_get (a := n.al) pre) fun u e => ?_, h2⟩
      show upd n.H p o b = some u
      rw [upd_ne nb]; exact e
    · have hk2 : j = m.length := by
        have := (List.getElem?_eq_some_iff.mp e1).1
        rw [List.length_append] at this
        simp at this; omega
      rw [hk2, List.getElem?_append_right (Nat.le_refl _)] at e1
      rw [hk2, g.len, List.getElem?_append_right (Nat.le_refl _)] at e2'
      simp at e1 e2'
      subst e1; subst e2'
      exact ⟨hx, b2⟩
  · show upd n.H p o b = some u
    rw [upd_ne (fun z => by subst z; rw [hp] at e; cases e)]; exact e
  · show upd n.H p o b ≠ none
    rw [upd_ne (fun z => by subst z; exact e hp)]; exact e
  · have e' : (n.al ++ [p])[j]? = some b := e
    rw [List.getElem?_append_right hj] at e'
    have : b = p := by
      cases q : j - n.al.length with
      | zero => rw [q] at e'; simpa using e'.symm
      | succ r => rw [q] at e'; simp at e'
    subst this; exact hp
end
end DL

set_option maxHeartbeats 1000000
namespace DL
open PySem PySem.Spec PyProof.Rows L2

/-! ### readings over data -/
abbrev QL := Lv → Mem → Prop
abbrev QD := Dat → Mem → Prop
abbrev TD := Env' → Mem → QL → Prop
abbrev TB := Env' → Mem → (Bool → Mem → Prop) → Prop
abbrev TAd := Env' → Mem → (List Lv → Mem → Prop) → Prop
structure En where
  nx : Env' → Mem → Prop
  rt : Dat → Mem → Prop
  bk : Env' → Mem → Prop := fun _ _ => False
  ct : Env' → Mem → Prop := fun _ _ => False
abbrev TSd := En → Env' → Mem → Prop
/-- by values -/
abbrev Op1 := Env' → Mem → Lv → QD → Prop
abbrev Op2 := Env' → Mem → Lv → Lv → QD → Prop
abbrev OpN := Env' → Mem → List Lv → QD → Prop

inductive LvsOk (C : Ct) (w : World) (K : PySem.W.Frag) (n : Nw) (env : Env') (σ : L2.St) : List V → List Lv → Prop
  | nil : LvsOk C w K n env σ [] []
  | cons {v vs x xs} : LvOk C w K n env σ v x → LvsOk C w K n env σ vs xs → LvsOk C w K n env σ (v :: vs) (x :: xs)
/-- what is wanted of a value, behind the state n -/
abbrev AftL (C : Ct) (w : World) (K : PySem.W.Frag) (n : Nw) (env : Env') (σ : L2.St) (Q : VK) : QL := fun x m' => ∀ n' v, Good C w K n' m' → n.le n' → LvOk C w K n' env σ v x → Q v n'.H
abbrev AftD (C : Ct) (w : World) (K : PySem.W.Frag) (n : Nw) (Q : VK) : QD := fun x m' => ∀ n' v, Good C w K n' m' → n.le n' → FzN C w K n' v x → Q v n'.H
def lE (C : Ct) (B : Nw) (w : World) (K : PySem.W.Frag) (d : TD) : TE := fun σ H Q => ∃ n env m, n.H = H ∧ Ok C w K B n env m σ ∧ d env m (AftL C w K n env σ Q)
def lB (C : Ct) (B : Nw) (w : World) (K : PySem.W.Frag) (d : TB) : TT := fun σ H Q => ∃ n env m, n.H = H ∧ Ok C w K B n env m σ ∧ d env m fun b m' => ∀ n', Good C w K n' m' → n.le n' → Q b n'.H
def lA (C : Ct) (B : Nw) (w : World) (K : PySem.W.Frag) (d : TAd) : TA := fun σ H Q => ∃ n env m, n.H = H ∧ Ok C w K B n env m σ ∧ d env m fun xs m' => ∀ n' vs, Good C w K n' m' → n.le n' → LvsOk C w K n' env σ vs xs → Q vs n'.H
/-- what does not change in a does not change in b -/
structure Nw.sub (a b : Nw) : Prop where
  g : ∀ p o, a.G p = some o → b.G p = some o
  l : a.al <+: b.al
theorem Nw.sub.refl (a : Nw) : a.sub a := ⟨fun _ _ h => h, List.prefix_rfl⟩
theorem Nw.sub.trans {a b c : Nw} (h : a.sub b) (h' : b.sub c) : a.sub c := ⟨fun p o e => h'.g p o (h.g p o e), h.l.trans h'.l⟩
theorem Nw.le.sub {a b : Nw} (h : a.le b) : a.sub b := ⟨h.g, h.ale⟩
/-- the ends of a statement -/
def lD (C : Ct) (B : Nw) (w : World) (K : PySem.W.Frag) (n₀ : Nw) (D : Ends) : En :=
  ⟨fun env m => ∀ n σ, n₀.sub n → Ok C w K B n env m σ → D.nx σ n.H, fun x m => ∀ n v, B.le n → Good C w K n m → FzN C w K n v x → D.rt v n.H,
    fun env m => ∀ n σ, n₀.sub n → Ok C w K B n env m σ → D.bk σ n.H, fun env m => ∀ n σ, n₀.sub n → Ok C w K B n env m σ → D.ct σ n.H⟩
def lS (C : Ct) (B : Nw) (w : World) (K : PySem.W.Frag) (d : TSd) : TS := fun D σ H => ∃ n env m, n.H = H ∧ Ok C w K B n env m σ ∧ d (lD C B w K n D) env m
structure En.le (D D' : En) : Prop where
  nx : ∀ e m, D.nx e m → D'.nx e m
  rt : ∀ x m, D.rt x m → D'.rt x m
  bk : ∀ e m, D.bk e m → D'.bk e m
  ct : ∀ e m, D.ct e m → D'.ct e m
theorem lD.le {C : Ct} {B : Nw} {w : World} {K : PySem.W.Frag} {n n' : Nw} (l : n.sub n') (D : Ends) : En.le (lD C B w K n D) (lD C B w K n' D) :=
  ⟨fun _ _ h n1 σ1 l1 => h n1 σ1 (l.trans l1), fun _ _ h => h, fun _ _ h n1 σ1 l1 => h n1 σ1 (l.trans l1), fun _ _ h n1 σ1 l1 => h n1 σ1 (l.trans l1)⟩
theorem En.le.refl (D : En) : En.le D D := ⟨fun _ _ h => h, fun _ _ h => h, fun _ _ h => h, fun _ _ h => h⟩

section
variable {C : Ct} {w : World} {K : PySem.W.Frag} {B n n' : Nw} {m m' : Mem} {env : Env'} {σ : L2.St}
theorem LvsOk.le {vs xs} (h : LvsOk C w K n env σ vs xs) (l : n.le n') : LvsOk C w K n' env σ vs xs := by
  induction h with
  | nil => exact .nil
  | cons a _ ih => exact .cons (a.le l) ih
theorem LvsOk.length {vs xs} (h : LvsOk C w K n env σ vs xs) : vs.length = xs.length := by
  induction h with
  | nil => rfl
  | cons _ _ ih => simp [ih]
end

section
variable {X : Cx}
theorem imp {e : Expr} {t t' : TE} (h : PE X e t) (i : ∀ σ H Q, t' σ H Q → t σ H Q) : PE X e t' := ⟨fun pins s σ H Q I q => h.run pins s σ H Q I (i σ H Q q)⟩
theorem impT {e : Expr} {t t' : TT} (h : PT X e t) (i : ∀ σ H Q, t' σ H Q → t σ H Q) : PT X e t' := ⟨fun pins s σ H Q I q => h.run pins s σ H Q I (i σ H Q q)⟩
theorem impW {e : Expr} {t t' : TT} (h : PW X e t) (i : ∀ σ H Q, t' σ H Q → t σ H Q) : PW X e t' := ⟨fun wh pins s σ H Q I q => h.run wh pins s σ H Q I (i σ H Q q)⟩
theorem impA {es : List Expr} {t t' : TA} (h : PA X es t) (i : ∀ σ H Q, t' σ H Q → t σ H Q) : PA X es t' := ⟨fun pos pins s σ H Q I q => h.run pos pins s σ H Q I (i σ H Q q)⟩
theorem impS {st : Stmt} {t t' : TS} (h : PS X st t) (i : ∀ D σ H, t' D σ H → t D σ H) : PS X st t' := ⟨fun pins s σ H D I q => h.run pins s σ H D I (i D σ H q)⟩
theorem impSs {st : List Stmt} {t t' : TS} (h : PSs X st t) (i : ∀ D σ H, t' D σ H → t D σ H) : PSs X st t' := ⟨fun pins s σ H D I q => h.run pins s σ H D I (i D σ H q)⟩
end

def MonoD (d : TD) : Prop := ∀ env m (Q Q' : QL), (∀ x m', Q x m' → Q' x m') → d env m Q → d env m Q'
def MonoB (d : TB) : Prop := ∀ env m (Q Q' : Bool → Mem → Prop), (∀ x m', Q x m' → Q' x m') → d env m Q → d env m Q'
def MonoA (d : TAd) : Prop := ∀ env m (Q Q' : List Lv → Mem → Prop), (∀ x m', Q x m' → Q' x m') → d env m Q → d env m Q'
def MonoS (d : TSd) : Prop := ∀ env m D D', En.le D D' → d D env m → d D' env m
def Mono1 (f : Op1) : Prop := ∀ env m x (Q Q' : QD), (∀ x m', Q x m' → Q' x m') → f env m x Q → f env m x Q'
def Mono2 (f : Op2) : Prop := ∀ env m x y (Q Q' : QD), (∀ x m', Q x m' → Q' x m') → f env m x y Q → f env m x y Q'
def MonoN (f : OpN) : Prop := ∀ env m xs (Q Q' : QD), (∀ x m', Q x m' → Q' x m') → f env m xs Q → f env m xs Q'

structure DE (X : Cx) (C : Ct) (B : Nw) (e : Expr) (d : TD) : Prop where
  mono : MonoD d
  run : PE X e (lE C B X.w X.K d)
structure DT (X : Cx) (C : Ct) (B : Nw) (e : Expr) (d : TB) : Prop where
  mono : MonoB d
  run : PT X e (lB C B X.w X.K d)
structure DW (X : Cx) (C : Ct) (B : Nw) (e : Expr) (d : TB) : Prop where
  mono : MonoB d
  run : PW X e (lB C B X.w X.K d)
structure DA (X : Cx) (C : Ct) (B : Nw) (es : List Expr) (d : TAd) : Prop where
  mono : MonoA d
  run : PA X es (lA C B X.w X.K d)
structure DS (X : Cx) (C : Ct) (B : Nw) (st : Stmt) (d : TSd) : Prop where
  mono : MonoS d
  run : PS X st (lS C B X.w X.K d)
structure DSs (X : Cx) (C : Ct) (B : Nw) (st : List Stmt) (d : TSd) : Prop where
  mono : MonoS d
  run : PSs X st (lS C B X.w X.K d)

/-! ### by values -/
def r1 (C : Ct) (w : World) (K : PySem.W.Frag) (f : Op1) : V → Hp → VK → Prop := fun v H Q => ∃ B n env m σ x, n.H = H ∧ Ok C w K B n env m σ ∧ LvOk C w K n env σ v x ∧ f env m x (AftD C w K n Q)
def r2 (C : Ct) (w : World) (K : PySem.W.Frag) (f : Op2) : R2 := fun v u H Q => ∃ B n env m σ x y, n.H = H ∧ Ok C w K B n env m σ ∧ LvOk C w K n env σ v x ∧ LvOk C w K n env σ u y ∧ f env m x y (AftD C w K n Q)
def rN (C : Ct) (w : World) (K : PySem.W.Frag) (f : OpN) : List V → Hp → VK → Prop := fun vs H Q => ∃ B n env m σ xs, n.H = H ∧ Ok C w K B n env m σ ∧ LvsOk C w K n env σ vs xs ∧ f env m xs (AftD C w K n Q)
structure OpD (X : Cx) (C : Ct) (F : Value → Value → Sem Value) (f : Op2) : Prop where
  mono : Mono2 f
  run : OpR X F (r2 C X.w X.K f)
structure UnD (X : Cx) (C : Ct) (F : Value → Sem Value) (f : Op1) : Prop where
  mono : Mono1 f
  run : UnR X F (r1 C X.w X.K f)
structure CallD (X : Cx) (C : Ct) (F : Value) (f : OpN) : Prop where
  mono : MonoN f
  run : CallR X F (rN C X.w X.K f)
structure IxD (X : Cx) (C : Ct) (f : Op2) : Prop where
  mono : Mono2 f
  run : IxR X (r2 C X.w X.K f)

def dBin (f : Op2) (da db : TD) : TD := fun env m Q => da env m fun x m1 => db env m1 fun y m2 => f env m2 x y fun z m3 => Q (.f z) m3
def dUn (f : Op1) (da : TD) : TD := fun env m Q => da env m fun x m1 => f env m1 x fun z m3 => Q (.f z) m3
theorem dBin.mono {f : Op2} {da db : TD} (hf : Mono2 f) (ha : MonoD da) (hb : MonoD db) : MonoD (dBin f da db) := fun env m Q Q' i h =>
  ha env m _ _ (fun x m1 h1 => hb env m1 _ _ (fun y m2 h2 => hf env m2 x y _ _ (fun z m3 => i _ _) h2) h1) h
theorem dUn.mono {f : Op1} {da : TD} (hf : Mono1 f) (ha : MonoD da) : MonoD (dUn f da) := fun env m Q Q' i h => ha env m _ _ (fun x m1 h1 => hf env m1 x _ _ (fun z m3 => i _ _) h1) h

section
variable {X : Cx} {C : Ct} {B : Nw} {a b e : Expr} {da db d : TD} {pos : Pos}
/-- the two readings of a binary rule -/
theorem bin_imp {f : Op2} (hf : Mono2 f) (ha : MonoD da) (hb : MonoD db) : ∀ σ H Q, lE C B X.w X.K (dBin f da db) σ H Q → tOp (r2 C X.w X.K f) (lE C B X.w X.K da) (lE C B X.w X.K db) σ H Q := by
  rintro σ H Q ⟨n, env, m, rfl, ok, h⟩
  refine ⟨n, env, m, rfl, ok, ha _ _ _ _ (fun x m1 h1 n1 v ok1 l1 lx => ?_) h⟩
  refine ⟨n1, env, m1, rfl, ok.go ok1 l1, hb _ _ _ _ (fun y m2 h2 n2 u ok2 l2 ly => ?_) h1⟩
  exact ⟨B, n2, env, m2, σ, x, y, rfl, ok.go ok2 (l1.trans l2), lx.le l2, ly, hf _ _ _ _ _ _ (fun z m3 h3 n3 v3 ok3 l3 lz => h3 n3 v3 ok3 (l1.trans (l2.trans l3)) lz) h2⟩
theorem un_imp {f : Op1} (hf : Mono1 f) (ha : MonoD da) : ∀ σ H Q, lE C B X.w X.K (dUn f da) σ H Q → tUn (r1 C X.w X.K f) (lE C B X.w X.K da) σ H Q := by
  rintro σ H Q ⟨n, env, m, rfl, ok, h⟩
  refine ⟨n, env, m, rfl, ok, ha _ _ _ _ (fun x m1 h1 n1 v ok1 l1 lx => ?_) h⟩
  exact ⟨B, n1, env, m1, σ, x, rfl, ok.go ok1 l1, lx, hf _ _ _ _ _ (fun z m3 h3 n3 v3 ok3 l3 lz => h3 n3 v3 ok3 (l1.trans l3) lz) h1⟩
theorem de_bin {op : Operator} {f : Op2} (ho : OpD X C (binaryOp op) f) (ha : DE X C B a da) (hb : DE X C B b db) : DE X C B (.BinOp a op b pos) (dBin f da db) :=
  ⟨dBin.mono ho.mono ha.mono hb.mono, imp (pe_op ho.run ha.run hb.run) (bin_imp ho.mono ha.mono hb.mono)⟩
theorem de_un {op : UnaryOp} {f : Op1} (ho : UnD X C (unaryOp op) f) (ha : DE X C B a da) : DE X C B (.UnaryOp op a pos) (dUn f da) :=
  ⟨dUn.mono ho.mono ha.mono, imp (pe_un ho.run ha.run) (un_imp ho.mono ha.mono)⟩
theorem de_cmp {op : CmpOp} {f : Op2} (ho : OpD X C (compareOp op) f) (ha : DE X C B a da) (hb : DE X C B b db) (hm : behindInMarks op b = false := by first | exact nomark _ | rfl) : DE X C B (.Compare a [op] [b] pos) (dBin f da db) :=
  ⟨dBin.mono ho.mono ha.mono hb.mono, imp (pe_cmpR ho.run ha.run hb.run hm) (bin_imp ho.mono ha.mono hb.mono)⟩
theorem de_ix {f : Op2} (ho : IxD X C f) (ha : DE X C B a da) (hb : DE X C B b db) (hs : PlainIx b := by exact fun _ _ => rfl) : DE X C B (.Subscript a b pos) (dBin f da db) :=
  ⟨dBin.mono ho.mono ha.mono hb.mono, imp (pe_ix ho.run ha.run hb.run hs) (bin_imp ho.mono ha.mono hb.mono)⟩

/-! ### names, constants -/
def dVar (i : Nat) : TD := fun env m Q => match env[i]? with
  | some (some (.f d)) => Q (.f d) m
  | some (some (.own _)) => Q (.o i) m
  | _ => False
def dC (d : Dat) : TD := fun _ m Q => Q (.f d) m
theorem dVar.mono (i : Nat) : MonoD (dVar i) := fun env m Q Q' h => by
  unfold dVar
  split
  · exact h _ _
  · exact h _ _
  · exact id
theorem dC.mono (d : Dat) : MonoD (dC d) := fun env m Q Q' h => h _ _
theorem de_var (i : Nat) {x : Str} {pos : Pos} (hN : X.N[i]? = some x := by rfl) (hv : Vis X.env.scope x := by first | exact Or.inl rfl | exact Or.inr (Or.inl rfl) | exact Or.inr (Or.inr rfl)) (hd : (x == ("__debug__" : Str)) = false := by decide)
    (hcd : (x == ("__classdict__" : Str)) = false := by decide) : DE X C B (.Name x pos) (dVar i) := by
  refine ⟨dVar.mono i, imp (pe_var hN hv hd hcd) ?_⟩
  rintro σ H Q ⟨n, env, m, rfl, ok, h⟩
  unfold dVar at h
  split at h
  · rename_i d hx
    obtain ⟨v, e1, h1⟩ := ok.env.fz i d hx
    exact ⟨v, e1, h n v ok.good (.refl _) h1⟩
  · rename_i x hx
    obtain ⟨a, e1, h1⟩ := ok.env.own i x hx
    exact ⟨_, e1, h n _ ok.good (.refl _) ⟨e1, x, hx⟩⟩
  · exact h.elim
theorem const_imp {d : Dat} {v : V} (hz : ∀ C w K al G, Fz C w K al G v d) : ∀ σ H Q, lE C B X.w X.K (dC d) σ H Q → tC v σ H Q := by
  rintro σ H Q ⟨n, env, m, rfl, ok, h⟩
  exact h n v ok.good (.refl _) (hz ..)
theorem de_int {i j} {pos : Pos} : DE X C B (.Constant (.int i) j pos) (dC (.int i)) := ⟨dC.mono _, imp pe_int (const_imp fun _ _ _ _ _ => .int _)⟩
theorem de_bl {i j} {pos : Pos} : DE X C B (.Constant (.bool i) j pos) (dC (.bl i)) := ⟨dC.mono _, imp pe_bl (const_imp fun _ _ _ _ _ => .bl _)⟩
theorem de_non {j} {pos : Pos} : DE X C B (.Constant .none j pos) (dC .non) := ⟨dC.mono _, imp pe_non (const_imp fun _ _ _ _ _ => .non)⟩
theorem de_str {i j} {pos : Pos} : DE X C B (.Constant (.str i) j pos) (dC (.str i)) := ⟨dC.mono _, imp pe_str (const_imp fun _ _ _ _ _ => .str _)⟩
/-- a module's constant, a class, a function -/
theorem de_glob {x : Str} {v : V} {d : Dat} {u : Value} {pos : Pos} (hg : Gl X x) (hm : X.mg x = some u) (r : RelV v u) (hz : ∀ C w K al G, Fz C w K al G v d) (hd : (x == ("__debug__" : Str)) = false := by decide) : DE X C B (.Name x pos) (dC d) :=
  ⟨dC.mono _, imp (pe_glob hg hm r hd) (const_imp hz)⟩
theorem de_bltn {x : Str} {v : V} {d : Dat} {u : Value} {pos : Pos} (hg : Gl X x) (hm : X.mg x = none) (hv : bootBuiltins x = some u) (r : RelV v u) (hz : ∀ C w K al G, Fz C w K al G v d) (hn : x ≠ "__name__" := by decide) (hd : (x == ("__debug__" : Str)) = false := by decide) :
    DE X C B (.Name x pos) (dC d) := ⟨dC.mono _, imp (pe_bltn hg hm hv r hn hd) (const_imp hz)⟩

/-! ### tests -/
def dTst (d : TD) : TB := fun env m Q => d env m fun x m1 => match x with
  | .f (.bl b) => Q b m1
  | _ => False
theorem dTst.mono (h : MonoD d) : MonoB (dTst d) := fun env m Q Q' i => h env m _ _ fun x m1 => by
  cases x with
  | o k => exact id
  | f y => cases y <;> first | exact id | exact i _ _
theorem tst_imp {f : Op2} (hf : Mono2 f) (ha : MonoD da) (hb : MonoD db) : ∀ σ H Q, lB C B X.w X.K (dTst (dBin f da db)) σ H Q → tTest (tOp (r2 C X.w X.K f) (lE C B X.w X.K da) (lE C B X.w X.K db)) σ H Q := by
  rintro σ H Q ⟨n, env, m, rfl, ok, h⟩
  refine bin_imp (B := B) hf ha hb σ _ _ ⟨n, env, m, rfl, ok, dBin.mono hf ha hb _ _ _ _ (fun x m1 h1 n1 v ok1 l1 lx => ?_) h⟩
  cases x with
  | o k => exact h1.elim
  | f y =>
    cases y with
    | bl c => cases lx; exact ⟨c, rfl, h1 n1 ok1 l1⟩
    | _ => exact h1.elim
theorem dt_cmp {op : CmpOp} {f : Op2} (ho : OpD X C (compareOp op) f) (ha : DE X C B a da) (hb : DE X C B b db) (hm : behindInMarks op b = false := by first | exact nomark _ | rfl) : DT X C B (.Compare a [op] [b] pos) (dTst (dBin f da db)) :=
  ⟨dTst.mono (dBin.mono ho.mono ha.mono hb.mono), impT (pt_cmpR ho.run ha.run hb.run hm) (tst_imp ho.mono ha.mono hb.mono)⟩
theorem dt_val (h : DE X C B e d) (he : ∀ whole, isTrue e X.env whole = (do let v ← whole; standAt e.pos; holding [v] (truthy v)) := by intro _; rfl) : DT X C B e (dTst d) := by
  refine ⟨dTst.mono h.mono, impT (pt_val h.run he) ?_⟩
  rintro σ H Q ⟨n, env, m, rfl, ok, q⟩
  refine ⟨n, env, m, rfl, ok, h.mono _ _ _ _ (fun x m1 h1 n1 v ok1 l1 lx => ?_) q⟩
  cases x with
  | o k => exact h1.elim
  | f y =>
    cases y with
    | bl c => cases lx; exact ⟨c, rfl, h1 n1 ok1 l1⟩
    | _ => exact h1.elim
def dAnd (p q : TB) : TB := fun env m Q => p env m fun b m1 => if b = true then q env m1 Q else Q false m1
def dOr (p q : TB) : TB := fun env m Q => p env m fun b m1 => if b = true then Q true m1 else q env m1 Q
def dNot (p : TB) : TB := fun env m Q => p env m fun b m1 => Q (!b) m1
theorem dAnd.mono {p q : TB} (hp : MonoB p) (hq : MonoB q) : MonoB (dAnd p q) := fun env m Q Q' i => hp env m _ _ fun b m1 => by
  cases b with
  | true => exact hq env m1 _ _ i
  | false => exact i _ _
theorem dOr.mono {p q : TB} (hp : MonoB p) (hq : MonoB q) : MonoB (dOr p q) := fun env m Q Q' i => hp env m _ _ fun b m1 => by
  cases b with
  | true => exact i _ _
  | false => exact hq env m1 _ _ i
theorem dNot.mono {p : TB} (hp : MonoB p) : MonoB (dNot p) := fun env m Q Q' i => hp env m _ _ fun b m1 => i _ _
variable {p q : TB} {rest : List Expr}
theorem DW.dt {e : Expr} (h : DW X C B e p) : DT X C B e p := ⟨h.mono, h.run.pt⟩
theorem dw_and1 (ha : DT X C B a p) : DW X C B (.BoolOp .And [a] pos) p := ⟨ha.mono, pw_and1 ha.run⟩
theorem dw_or1 (ha : DT X C B a p) : DW X C B (.BoolOp .Or [a] pos) p := ⟨ha.mono, pw_or1 ha.run⟩
theorem dw_and (ha : DT X C B a p) (hb : DW X C B (.BoolOp .And (b :: rest) pos) q) : DW X C B (.BoolOp .And (a :: b :: rest) pos) (dAnd p q) := by
  refine ⟨dAnd.mono ha.mono hb.mono, impW (pw_and ha.run hb.run) ?_⟩
  rintro σ H Q ⟨n, env, m, rfl, ok, h⟩
  refine ⟨n, env, m, rfl, ok, ha.mono _ _ _ _ (fun c m1 h1 n1 ok1 l1 => ?_) h⟩
  cases c with
  | true => exact ⟨n1, env, m1, rfl, ok.go ok1 l1, hb.mono _ _ _ _ (fun c m2 h2 n2 ok2 l2 => h2 n2 ok2 (l1.trans l2)) h1⟩
  | false => exact h1 n1 ok1 l1
theorem dw_or (ha : DT X C B a p) (hb : DW X C B (.BoolOp .Or (b :: rest) pos) q) : DW X C B (.BoolOp .Or (a :: b :: rest) pos) (dOr p q) := by
  refine ⟨dOr.mono ha.mono hb.mono, impW (pw_or ha.run hb.run) ?_⟩
  rintro σ H Q ⟨n, env, m, rfl, ok, h⟩
  refine ⟨n, env, m, rfl, ok, ha.mono _ _ _ _ (fun c m1 h1 n1 ok1 l1 => ?_) h⟩
  cases c with
  | true => exact h1 n1 ok1 l1
  | false => exact ⟨n1, env, m1, rfl, ok.go ok1 l1, hb.mono _ _ _ _ (fun c m2 h2 n2 ok2 l2 => h2 n2 ok2 (l1.trans l2)) h1⟩
theorem dt_not (ha : DT X C B a p) : DT X C B (.UnaryOp .Not a pos) (dNot p) := by
  refine ⟨dNot.mono ha.mono, impT (pt_not ha.run) ?_⟩
  rintro σ H Q ⟨n, env, m, rfl, ok, h⟩
  exact ⟨n, env, m, rfl, ok, ha.mono _ _ _ _ (fun c m1 h1 n1 ok1 l1 => h1 n1 ok1 l1) h⟩
/-- and, or, not as values: all but the last are bools -/
def dAndV (da db : TD) : TD := fun env m Q => da env m fun x m1 => match x with
  | .f (.bl true) => db env m1 Q
  | .f (.bl false) => Q (.f (.bl false)) m1
  | _ => False
def dOrV (da db : TD) : TD := fun env m Q => da env m fun x m1 => match x with
  | .f (.bl true) => Q (.f (.bl true)) m1
  | .f (.bl false) => db env m1 Q
  | _ => False
def dNotV (da : TD) : TD := fun env m Q => da env m fun x m1 => match x with
  | .f (.bl b) => Q (.f (.bl (!b))) m1
  | _ => False
theorem dAndV.mono (ha : MonoD da) (hb : MonoD db) : MonoD (dAndV da db) := fun env m Q Q' i => ha env m _ _ fun x m1 => by
  cases x with
  | o k => exact id
  | f y =>
    cases y with
    | bl c => cases c with
      | true => exact hb env m1 _ _ i
      | false => exact i _ _
    | _ => exact id
theorem dOrV.mono (ha : MonoD da) (hb : MonoD db) : MonoD (dOrV da db) := fun env m Q Q' i => ha env m _ _ fun x m1 => by
  cases x with
  | o k => exact id
  | f y =>
    cases y with
    | bl c => cases c with
      | false => exact hb env m1 _ _ i
      | true => exact i _ _
    | _ => exact id
theorem dNotV.mono (ha : MonoD da) : MonoD (dNotV da) := fun env m Q Q' i => ha env m _ _ fun x m1 => by
  cases x with
  | o k => exact id
  | f y => cases y <;> first | exact id | exact i _ _
theorem de_one {op} (h : DE X C B a d) : DE X C B (.BoolOp op [a] pos) d := ⟨h.mono, pe_one h.run⟩
theorem de_and (ha : DE X C B a da) (hb : DE X C B (.BoolOp .And (b :: rest) pos) db) : DE X C B (.BoolOp .And (a :: b :: rest) pos) (dAndV da db) := by
  refine ⟨dAndV.mono ha.mono hb.mono, imp (pe_and ha.run hb.run) ?_⟩
  rintro σ H Q ⟨n, env, m, rfl, ok, h⟩
  refine ⟨n, env, m, rfl, ok, ha.mono _ _ _ _ (fun x m1 h1 n1 v ok1 l1 lx => ?_) h⟩
  cases x with
  | o k => exact h1.elim
  | f y =>
    cases y with
    | bl c =>
      cases lx
      refine ⟨c, rfl, ?_⟩
      cases c with
      | true => exact ⟨n1, env, m1, rfl, ok.go ok1 l1, hb.mono _ _ _ _ (fun z m2 h2 n2 v ok2 l2 lz => h2 n2 v ok2 (l1.trans l2) lz) h1⟩
      | false => exact h1 n1 (.bl false) ok1 l1 (.bl false)
    | _ => exact h1.elim
theorem de_or (ha : DE X C B a da) (hb : DE X C B (.BoolOp .Or (b :: rest) pos) db) : DE X C B (.BoolOp .Or (a :: b :: rest) pos) (dOrV da db) := by
  refine ⟨dOrV.mono ha.mono hb.mono, imp (pe_or ha.run hb.run) ?_⟩
  rintro σ H Q ⟨n, env, m, rfl, ok, h⟩
  refine ⟨n, env, m, rfl, ok, ha.mono _ _ _ _ (fun x m1 h1 n1 v ok1 l1 lx => ?_) h⟩
  cases x with
  | o k => exact h1.elim
  | f y =>
    cases y with
    | bl c =>
      cases lx
      refine ⟨c, rfl, ?_⟩
      cases c with
      | false => exact ⟨n1, env, m1, rfl, ok.go ok1 l1, hb.mono _ _ _ _ (fun z m2 h2 n2 v ok2 l2 lz => h2 n2 v ok2 (l1.trans l2) lz) h1⟩
      | true => exact h1 n1 (.bl true) ok1 l1 (.bl true)
    | _ => exact h1.elim
theorem de_not (ha : DE X C B a da) : DE X C B (.UnaryOp .Not a pos) (dNotV da) := by
  refine ⟨dNotV.mono ha.mono, imp (pe_not ha.run) ?_⟩
  rintro σ H Q ⟨n, env, m, rfl, ok, h⟩
  refine ⟨n, env, m, rfl, ok, ha.mono _ _ _ _ (fun x m1 h1 n1 v ok1 l1 lx => ?_) h⟩
  cases x with
  | o k => exact h1.elim
  | f y =>
    cases y with
    | bl c => cases lx; exact ⟨c, rfl, h1 n1 (.bl (!c)) ok1 l1 (.bl _)⟩
    | _ => exact h1.elim
def dIf (p : TB) (da db : TD) : TD := fun env m Q => p env m fun b m1 => if b = true then da env m1 Q else db env m1 Q
theorem dIf.mono (hp : MonoB p) (ha : MonoD da) (hb : MonoD db) : MonoD (dIf p da db) := fun env m Q Q' i => hp env m _ _ fun b m1 => by
  cases b with
  | true => exact ha env m1 _ _ i
  | false => exact hb env m1 _ _ i
theorem de_ifExp {c : Expr} (hc : DT X C B c p) (ha : DE X C B a da) (hb : DE X C B b db) : DE X C B (.IfExp c a b pos) (dIf p da db) := by
  refine ⟨dIf.mono hc.mono ha.mono hb.mono, imp (pe_ifExp hc.run ha.run hb.run) ?_⟩
  rintro σ H Q ⟨n, env, m, rfl, ok, h⟩
  refine ⟨n, env, m, rfl, ok, hc.mono _ _ _ _ (fun c m1 h1 n1 ok1 l1 => ?_) h⟩
  cases c with
  | true => exact ⟨n1, env, m1, rfl, ok.go ok1 l1, ha.mono _ _ _ _ (fun z m2 h2 n2 v ok2 l2 lz => h2 n2 v ok2 (l1.trans l2) lz) h1⟩
  | false => exact ⟨n1, env, m1, rfl, ok.go ok1 l1, hb.mono _ _ _ _ (fun z m2 h2 n2 v ok2 l2 lz => h2 n2 v ok2 (l1.trans l2) lz) h1⟩

/-! ### argument lists, displays -/
def dNil : TAd := fun _ m Q => Q [] m
def dCons (d : TD) (r : TAd) : TAd := fun env m Q => d env m fun x m1 => r env m1 fun xs m2 => Q (x :: xs) m2
theorem dCons.mono {r : TAd} (h : MonoD d) (hr : MonoA r) : MonoA (dCons d r) := fun env m Q Q' i => h env m _ _ fun x m1 => hr env m1 _ _ fun xs m2 => i _ _
theorem da_nil : DA X C B [] dNil := ⟨fun _ _ _ _ i => i _ _, impA pa_nil (by
  rintro σ H Q ⟨n, env, m, rfl, ok, h⟩
  exact h n [] ok.good (.refl _) .nil)⟩
theorem da_cons {es : List Expr} {r : TAd} (he : DE X C B e d) (hr : DA X C B es r) (hs : starEach (e :: es) X.env = (false, eval e X.env) :: starEach es X.env := by rfl) : DA X C B (e :: es) (dCons d r) := by
  refine ⟨dCons.mono he.mono hr.mono, impA (pa_cons he.run hr.run hs) ?_⟩
  rintro σ H Q ⟨n, env, m, rfl, ok, h⟩
  refine ⟨n, env, m, rfl, ok, he.mono _ _ _ _ (fun x m1 h1 n1 v ok1 l1 lx => ?_) h⟩
  exact ⟨n1, env, m1, rfl, ok.go ok1 l1, hr.mono _ _ _ _ (fun xs m2 h2 n2 vs ok2 l2 lxs => h2 n2 (v :: vs) ok2 (l1.trans l2) (.cons (lx.le l2) lxs)) h1⟩
/-- all are data that do not change -/
def frs : List Lv → Option (List Dat)
  | [] => some []
  | .f d :: r => match frs r with
    | some ds => some (d :: ds)
    | none => none
  | .o _ :: _ => none
theorem frs_ok {w : World} {K : PySem.W.Frag} {n : Nw} {env : Env'} {σ : L2.St} : ∀ {xs : List Lv} {vs : List V} {ds : List Dat}, LvsOk C w K n env σ vs xs → frs xs = some ds → FzAllN C w K n vs ds
  | [], _, ds, h, e => by cases h; cases e; exact .nil
  | .o k :: r, _, ds, h, e => by cases e
  | .f d :: r, _, ds, h, e => by
    cases h with
    | cons a b =>
      unfold frs at e
      split at e
      · rename_i ds' h1
        cases e
        exact .cons a (frs_ok b h1)
      · cases e
def oTup : OpN := fun _ m xs Q => match frs xs with
  | some ds => ds.length ≤ sizeLine ∧ Q (.tup ds) m
  | none => False
theorem oTup.mono : MonoN oTup := fun env m xs Q Q' i => by
  unfold oTup
  split
  · exact fun z => ⟨z.1, i _ _ z.2⟩
  · exact id
def dN (f : OpN) (d : TAd) : TD := fun env m Q => d env m fun xs m1 => f env m1 xs fun z m2 => Q (.f z) m2
theorem dN.mono {f : OpN} {d : TAd} (hf : MonoN f) (h : MonoA d) : MonoD (dN f d) := fun env m Q Q' i => h env m _ _ fun xs m1 => hf env m1 xs _ _ fun z m2 => i _ _
theorem de_tup {es : List Expr} {x1} {d : TAd} (h : DA X C B es d) : DE X C B (.Tuple es x1 pos) (dN oTup d) := by
  refine ⟨dN.mono oTup.mono h.mono, imp (pe_tup h.run) ?_⟩
  rintro σ H Q ⟨n, env, m, rfl, ok, q⟩
  refine ⟨n, env, m, rfl, ok, h.mono _ _ _ _ (fun xs m1 h1 n1 vs ok1 l1 lxs => ?_) q⟩
  unfold oTup at h1
  split at h1
  · rename_i ds hd
    have hz := frs_ok lxs hd
    refine ⟨by rw [hz.length]; exact h1.1, fun p hp => ?_⟩
    obtain ⟨ok3, l3⟩ := ok1.freeze (o := .tup vs) hp
    exact h1.2 _ _ ok3 (l1.trans l3) (.tup (SqT.of upd_same) (FzAllN.le hz l3))
  · exact h1.elim

/-! ### expressions that make a new list -/
abbrev TN := Env' → Mem → (List Dat → Mem → Prop) → Prop
def MonoN' (d : TN) : Prop := ∀ env m (Q Q' : List Dat → Mem → Prop), (∀ x m', Q x m' → Q' x m') → d env m Q → d env m Q'
def lN (C : Ct) (B : Nw) (w : World) (K : PySem.W.Frag) (d : TN) : TE := fun σ H Q => ∃ n env m, n.H = H ∧ Ok C w K B n env m σ ∧
  d env m fun ds m' => ∀ n' p vs, Good C w K n' m' → n.le n' → n'.H p = none → FzAllN C w K n' vs ds → Q (.ref p) (upd n'.H p (.lst vs))
structure DN (X : Cx) (C : Ct) (B : Nw) (e : Expr) (d : TN) : Prop where
  mono : MonoN' d
  run : PE X e (lN C B X.w X.K d)
/-- the new list will not change -/
def dNew (d : TN) : TD := fun env m Q => d env m fun ds m1 => Q (.f (.lst ds)) m1
theorem DN.de {d : TN} (h : DN X C B e d) : DE X C B e (dNew d) := by
  refine ⟨fun env m Q Q' i => h.mono env m _ _ fun ds m1 => i _ _, imp h.run ?_⟩
  rintro σ H Q ⟨n, env, m, rfl, ok, q⟩
  refine ⟨n, env, m, rfl, ok, h.mono _ _ _ _ (fun ds m1 h1 n1 p vs ok1 l1 hp hz => ?_) q⟩
  obtain ⟨ok3, l3⟩ := ok1.freeze (o := .lst vs) hp
  exact h1 _ _ ok3 (l1.trans l3) (.lst (Rd.of upd_same) (FzAllN.le hz l3))
def nLst (d : TAd) : TN := fun env m Q => d env m fun xs m1 => match frs xs with
  | some ds => ds.length ≤ sizeLine ∧ Q ds m1
  | none => False
theorem dn_lst {es : List Expr} {d : TAd} (h : DA X C B es d) : DN X C B (.List es pos) (nLst d) := by
  refine ⟨fun env m Q Q' i => h.mono env m _ _ fun xs m1 => ?_, imp (pe_lst h.run) ?_⟩
  · split
    · exact fun z => ⟨z.1, i _ _ z.2⟩
    · exact id
  rintro σ H Q ⟨n, env, m, rfl, ok, q⟩
  refine ⟨n, env, m, rfl, ok, h.mono _ _ _ _ (fun xs m1 h1 n1 vs ok1 l1 lxs => ?_) q⟩
  split at h1
  · rename_i ds hd
    have hz := frs_ok lxs hd
    exact ⟨by rw [hz.length]; exact h1.1, fun p hp => h1.2 n1 p vs ok1 l1 hp hz⟩
  · exact h1.elim
end
end DL

set_option maxHeartbeats 1000000
namespace DL
open PySem PySem.Spec PyProof.Rows L2

/-! ### targets: a name, a tuple of names -/
inductive Tg where
  | nm (i : Nat)
  | tp (is : List Nat)
def Tg.ids : Tg → List Nat
  | .nm i => [i]
  | .tp is => is
def setAll : List Nat → List Dat → Env' → Env'
  | i :: is, d :: ds, env => setAll is ds (env.set i (some (.f d)))
  | _, _, env => env
def bind (tg : Tg) (x : Lv) (env : Env') : Option Env' := match tg, x with
  | .nm i, .f d => some (env.set i (some (.f d)))
  | .tp is, .f (.tup ds) => if ds.length = is.length then some (setAll is ds env) else none
  | _, _ => none
def gsOf : List Nat → TGs
  | [] => gNil
  | i :: is => gCons (gName i) (gsOf is)
def gOf (K : PySem.W.Frag) : Tg → TG
  | .nm i => gName i
  | .tp is => gTup K is.length (gsOf is)
theorem wipe_set : ∀ (vs : List Nat) (σ : L2.St) (i : Nat) (v : Option V), i ∈ vs → wipe (σ.set i v) vs = wipe σ vs
  | vs, σ, i, v, h => by
    apply List.ext_getElem?
    intro j
    by_cases hj : j ∈ vs
    · have key : ∀ (τ : L2.St), j ∈ vs → (wipe τ vs)[j]? = if j < τ.length then some none else none := by
        intro τ hj
        have hl := wipe_length τ vs
        by_cases hlt : j < τ.length
        · rw [if_pos hlt]
          have : j < (wipe τ vs).length := by rw [hl]; exact hlt
          rw [List.getElem?_eq_getElem this]
          cases e : (wipe τ vs)[j] with
          | none => rfl
          | some x =>
            have e2 : (wipe τ vs)[j]? = some (some x) := by rw [List.getElem?_eq_getElem this, e]
            exact absurd hj (wipe_some e2).2
        · rw [if_neg hlt]
          exact List.getElem?_eq_none (by rw [hl]; omega)
      rw [key _ hj, key _ hj]
      simp
    · rw [wipe_out hj, wipe_out hj]
      exact List.getElem?_set_ne (fun e => hj (by rw [← e]; exact h))
section
variable {C : Ct} {w : World} {K : PySem.W.Frag} {B n : Nw} {m : Mem}
theorem sets_ok {Q : L2.St → Hp → Prop} : ∀ (is : List Nat) (ds : List Dat) (vs : List V) (env : Env') (σ : L2.St), ds.length = is.length → FzAllN C w K n vs ds → Ok C w K B n env m σ →
    (∀ σ2, Ok C w K B n (setAll is ds env) m σ2 → (∀ ws, (∀ i ∈ is, i ∈ ws) → wipe σ2 ws = wipe σ ws) → Q σ2 n.H) → gsOf is vs σ n.H Q
  | [], [], vs, env, σ, _, hv, ok, h => by
    cases hv
    exact ⟨rfl, h σ ok fun _ _ => rfl⟩
  | i :: is, d :: ds, vs, env, σ, hl, hv, ok, h => by
    cases hv with
    | cons a r =>
      refine ⟨_, _, rfl, ?_⟩
      refine sets_ok is ds _ _ _ (by simpa using hl) r (ok.setF (i := i) a) fun σ2 ok2 hw => ?_
      refine h σ2 ok2 fun ws hws => ?_
      rw [hw ws fun j hj => hws j (List.mem_cons_of_mem _ hj)]
      exact wipe_set ws σ i _ (hws i List.mem_cons_self)
  | [], _ :: _, _, _, _, hl, _, _, _ => by cases hl
  | _ :: _, [], _, _, _, hl, _, _, _ => by cases hl
theorem bind_ok {Q : L2.St → Hp → Prop} {tg : Tg} {x : Lv} {v : V} {env env2 : Env'} {σ : L2.St} (hv : LvOk C w K n env σ v x) (ok : Ok C w K B n env m σ) (e : bind tg x env = some env2)
    (h : ∀ σ2, Ok C w K B n env2 m σ2 → (∀ ws, (∀ i ∈ tg.ids, i ∈ ws) → wipe σ2 ws = wipe σ ws) → Q σ2 n.H) : gOf K tg v σ n.H Q := by
  unfold bind at e
  split at e
  · cases e
    rename_i i d
    exact h _ (ok.setF hv) fun ws hws => wipe_set ws σ i _ (hws i (by simp [Tg.ids]))
  · rename_i is ds
    split at e
    · rename_i hl
      cases e
      have hv : FzN C w K n v (.tup ds) := hv
      cases hv with
      | tup hs ha =>
        refine ⟨_, _, rfl, SqT.keep ok.good.sub hs, by rw [ha.length]; exact hl, ?_⟩
        exact sets_ok is ds _ env σ hl ha ok h
    · cases e
  · cases e
end
/-- a target of the text as told -/
structure TgOk (X : Cx) (e : Expr) (tg : Tg) : Prop where
  run : PG X e (gOf X.K tg)
section
variable {X : Cx} {pos : Pos}
theorem tg_nm {i : Nat} {x : Str} (hN : X.N.Nodup) (hi : X.N[i]? = some x) (hx : Loc X.env.scope x) (hf : X.fn x = true ∨ X.env.scope.names.lookup x = some .local := by first | exact .inl rfl | exact .inr rfl | assumption) : TgOk X (.Name x pos) (.nm i) := ⟨pg_name hN hi hx hf⟩
structure TgsOk (X : Cx) (es : List Expr) (is : List Nat) : Prop where
  run : PGs X es (gsOf is)
theorem tgs_nil : TgsOk X [] [] := ⟨pgs_nil⟩
theorem tgs_cons {i : Nat} {x : Str} {es : List Expr} {is : List Nat} (hN : X.N.Nodup) (hi : X.N[i]? = some x) (hx : Loc X.env.scope x) (r : TgsOk X es is) (hf : X.fn x = true ∨ X.env.scope.names.lookup x = some .local := by first | exact .inl rfl | exact .inr rfl | assumption)
    (hs : (assignEach (.Name x pos :: es) X.env).map (·.2) = assign (.Name x pos) X.env :: (assignEach es X.env).map (·.2) := by rfl) : TgsOk X (.Name x pos :: es) (i :: is) := ⟨pgs_cons (pg_name hN hi hx hf) r.run hs⟩
theorem tg_tp {es : List Expr} {is : List Nat} {k : Nat} (hc : X.calm = true) (h : TgsOk X es is) (hn : (assignEach es X.env).length = is.length := by rfl) (hst : (assignEach es X.env).findIdx? (·.1) = none := by rfl) : TgOk X (.Tuple es k pos) (.tp is) := ⟨pg_tup hc h.run hn hst⟩
end

/-! ### statements -/
section
variable {X : Cx} {C : Ct} {B : Nw} {st : Stmt} {rest : List Stmt} {d u : TSd} {e : Expr} {de : TD} {pos : Pos}
def sNext : TSd := fun D env m => D.nx env m
def sSeq (d u : TSd) : TSd := fun D env m => d { D with nx := u D } env m
theorem sSeq.mono (hd : MonoS d) (hu : MonoS u) : MonoS (sSeq d u) := fun env m D D' l h => hd env m { D with nx := u D } { D' with nx := u D' } ⟨fun e m' h' => hu e m' D D' l h', l.rt, l.bk, l.ct⟩ h
theorem dss_nil : DSs X C B [] sNext := ⟨fun env m D D' l h => l.nx _ _ h, impSs pss_nil (by
  rintro D σ H ⟨n, env, m, rfl, ok, h⟩
  exact h n σ (.refl _) ok)⟩
theorem dss_one (h : DS X C B st d) : DSs X C B [st] d := ⟨h.mono, pss_one h.run⟩
theorem dss_cons (h1 : DS X C B st d) (h2 : DSs X C B rest u) : DSs X C B (st :: rest) (sSeq d u) := by
  refine ⟨sSeq.mono h1.mono h2.mono, impSs (pss_cons h1.run h2.run) ?_⟩
  rintro D σ H ⟨n, env, m, rfl, ok, h⟩
  refine ⟨n, env, m, rfl, ok, h1.mono _ _ { lD C B X.w X.K n D with nx := u (lD C B X.w X.K n D) } _ ⟨fun e1 m1 h' => ?_, fun _ _ h' => h', fun _ _ h' => h', fun _ _ h' => h'⟩ h⟩
  intro n1 σ1 s1 ok1
  exact ⟨n1, e1, m1, rfl, ok1, h2.mono _ _ _ _ (lD.le s1 D) h'⟩
def sBreak : TSd := fun D env m => D.bk env m
def sCont : TSd := fun D env m => D.ct env m
theorem ds_pass : DS X C B (.Pass pos) sNext := ⟨fun env m D D' l h => l.nx _ _ h, impS ps_pass (by
  rintro D σ H ⟨n, env, m, rfl, ok, h⟩
  exact h n σ (.refl _) ok)⟩
theorem ds_break : DS X C B (.Break pos) sBreak := ⟨fun env m D D' l h => l.bk _ _ h, impS ps_break (by
  rintro D σ H ⟨n, env, m, rfl, ok, h⟩
  exact h n σ (.refl _) ok)⟩
theorem ds_continue : DS X C B (.Continue pos) sCont := ⟨fun env m D D' l h => l.ct _ _ h, impS ps_continue (by
  rintro D σ H ⟨n, env, m, rfl, ok, h⟩
  exact h n σ (.refl _) ok)⟩
def sDrop (de : TD) : TSd := fun D env m => de env m fun _ m1 => D.nx env m1
theorem ds_expr (he : DE X C B e de) (hs : swapsWith e none pos.line X.env = pure false := by rfl) : DS X C B (.Expr e pos) (sDrop de) := by
  refine ⟨fun env m D D' l h => he.mono _ _ _ _ (fun _ _ h' => l.nx _ _ h') h, impS (ps_expr he.run hs) ?_⟩
  rintro D σ H ⟨n, env, m, rfl, ok, h⟩
  exact ⟨n, env, m, rfl, ok, he.mono _ _ _ _ (fun x m1 h1 n1 v g1 l1 _ => h1 n1 σ l1.sub (ok.go g1 l1)) h⟩
def sRet (de : TD) : TSd := fun D env m => de env m fun x m1 => match x with
  | .f d => D.rt d m1
  | .o _ => False
theorem sRet.mono (h : MonoD de) : MonoS (sRet de) := fun env m D D' l => h _ _ _ _ fun x m1 => by
  cases x with
  | f d => exact l.rt _ _
  | o k => exact id
theorem ds_ret (he : DE X C B e de) : DS X C B (.Return (some e) pos) (sRet de) := by
  refine ⟨sRet.mono he.mono, impS (ps_ret he.run) ?_⟩
  rintro D σ H ⟨n, env, m, rfl, ok, h⟩
  refine ⟨n, env, m, rfl, ok, he.mono _ _ _ _ (fun x m1 h1 n1 v g1 l1 lx => ?_) h⟩
  cases x with
  | f d => exact h1 n1 v (ok.base.trans l1) g1 lx
  | o k => exact h1.elim
def sRetN : TSd := fun D _ m => D.rt .non m
theorem ds_retN : DS X C B (.Return none pos) sRetN := ⟨fun env m D D' l h => l.rt _ _ h, impS ps_retN (by
  rintro D σ H ⟨n, env, m, rfl, ok, h⟩
  exact h n .non ok.base ok.good .non)⟩
def sIf (c : TB) (d u : TSd) : TSd := fun D env m => c env m fun b m1 => if b = true then d D env m1 else u D env m1
theorem sIf.mono {c : TB} (hc : MonoB c) (hd : MonoS d) (hu : MonoS u) : MonoS (sIf c d u) := fun env m D D' l => hc _ _ _ _ fun b m1 => by
  cases b with
  | true => exact hd _ _ _ _ l
  | false => exact hu _ _ _ _ l
theorem ds_if {c : Expr} {a b : List Stmt} {dc : TB} (hc : DT X C B c dc) (ha : DSs X C B a d) (hb : DSs X C B b u) : DS X C B (.If c a b pos) (sIf dc d u) := by
  refine ⟨sIf.mono hc.mono ha.mono hb.mono, impS (ps_if hc.run ha.run hb.run) ?_⟩
  rintro D σ H ⟨n, env, m, rfl, ok, h⟩
  refine ⟨n, env, m, rfl, ok, hc.mono _ _ _ _ (fun b m1 h1 n1 g1 l1 => ?_) h⟩
  cases b with
  | true => exact ⟨n1, env, m1, rfl, ok.go g1 l1, ha.mono _ _ _ _ (lD.le l1.sub D) h1⟩
  | false => exact ⟨n1, env, m1, rfl, ok.go g1 l1, hb.mono _ _ _ _ (lD.le l1.sub D) h1⟩
/-- target = e -/
def sAsg (tg : Tg) (de : TD) : TSd := fun D env m => de env m fun x m1 => match bind tg x env with
  | some env2 => D.nx env2 m1
  | none => False
theorem sAsg.mono {tg : Tg} (h : MonoD de) : MonoS (sAsg tg de) := fun env m D D' l => h _ _ _ _ fun x m1 => by
  split
  · exact l.nx _ _
  · exact id
theorem asg_imp {tg : Tg} (he : MonoD de) : ∀ D σ H, lS C B X.w X.K (sAsg tg de) D σ H → tAsg (lE C B X.w X.K de) (gOf X.K tg) D σ H := by
  rintro D σ H ⟨n, env, m, rfl, ok, h⟩
  refine ⟨n, env, m, rfl, ok, he _ _ _ _ (fun x m1 h1 n1 v g1 l1 lx => ?_) h⟩
  split at h1
  · rename_i env2 hb
    exact bind_ok lx (ok.go g1 l1) hb fun σ2 ok2 _ => h1 n1 σ2 l1.sub ok2
  · exact h1.elim
theorem ds_asg {te : Expr} {tg : Tg} (he : DE X C B e de) (ht : TgOk X te tg) (hs : swapsWithSole [te] e pos.line X.env = pure false := by rfl) (hw : swappedStores [te] e X.env = pure none := by rfl)
    (h1 : (assignEach [te] X.env).map (·.2) = [assign te X.env] := by rfl) : DS X C B (.Assign [te] e pos) (sAsg tg de) :=
  ⟨sAsg.mono he.mono, impS (ps_asg he.run ht.run hs hw h1) (asg_imp he.mono)⟩
theorem ds_set {i : Nat} {x : Str} {pos' : Pos} (hN : X.N.Nodup) (hi : X.N[i]? = some x) (hx : Loc X.env.scope x) (he : DE X C B e de) (hs : swapsWith e (some (.Name x pos')) pos.line X.env = pure false := by rfl)
    (hf : X.fn x = true ∨ X.env.scope.names.lookup x = some .local := by first | exact .inl rfl | exact .inr rfl | assumption) : DS X C B (.Assign [.Name x pos'] e pos) (sAsg (.nm i) de) :=
  ⟨sAsg.mono he.mono, impS (ps_set hN hi hx he.run hs hf) (asg_imp (tg := .nm i) he.mono)⟩
/-- name = a new list of the body's own -/
def sSetN (i : Nat) (dn : TN) : TSd := fun D env m => dn env m fun ds m1 => D.nx (env.set i (some (.own (.lst ds)))) m1
theorem setN_imp {i : Nat} {dn : TN} (he : MonoN' dn) : ∀ D σ H, lS C B X.w X.K (sSetN i dn) D σ H → tAsg (lN C B X.w X.K dn) (gName i) D σ H := by
  rintro D σ H ⟨n, env, m, rfl, ok, h⟩
  refine ⟨n, env, m, rfl, ok, he _ _ _ _ (fun ds m1 h1 n1 p vs g1 l1 hp hz => ?_) h⟩
  have ok1 := ok.go g1 l1
  have ok2 := ok1.newO (i := i) (o := .lst vs) (z := .lst ds) hp ⟨vs, upd_same, hz⟩
  exact h1 ⟨n1.G, n1.al, upd n1.H p (.lst vs)⟩ _ ⟨l1.g, l1.ale⟩ ok2
theorem ds_setN {i : Nat} {x : Str} {dn : TN} {pos' : Pos} (hN : X.N.Nodup) (hi : X.N[i]? = some x) (hx : Loc X.env.scope x) (he : DN X C B e dn) (hs : swapsWith e (some (.Name x pos')) pos.line X.env = pure false := by rfl)
    (hf : X.fn x = true ∨ X.env.scope.names.lookup x = some .local := by first | exact .inl rfl | exact .inr rfl | assumption) : DS X C B (.Assign [.Name x pos'] e pos) (sSetN i dn) :=
  ⟨fun env m D D' l => he.mono _ _ _ _ fun ds m1 => l.nx _ _, impS (ps_set hN hi hx he.run hs hf) (setN_imp he.mono)⟩
/-- from here on slot i does not change -/
def sKeep (i : Nat) (d : TSd) : TSd := fun D env m => match env[i]? with
  | some (some (.own (.lst xs))) => d D (env.set i (some (.f (.lst xs)))) m
  | some (some (.own (.dct xs))) => d D (env.set i (some (.f (.dct xs)))) m
  | _ => d D env m
theorem sKeep.mono {i : Nat} (h : MonoS d) : MonoS (sKeep i d) := fun env m D D' l => by
  unfold sKeep
  split <;> exact h _ _ _ _ l
theorem keep_ok {i : Nat} (h : MonoS d) {D : Ends} {σ : L2.St} {H : Hp} (q : lS C B X.w X.K (sKeep i d) D σ H) : lS C B X.w X.K d D σ H := by
  obtain ⟨n, env, m, rfl, ok, q⟩ := q
  unfold sKeep at q
  split at q
  · rename_i xs hx
    obtain ⟨a, ha, ho⟩ := ok.env.own i _ hx
    obtain ⟨vs, e1, hz⟩ := ho.ok
    have neg : ∀ b u, n.G b = some u → b ≠ a := fun b u e z => by subst z; rw [ho.g] at e; cases e
    have hg : ∀ b u, n.G b = some u → (upd n.G a (.lst vs)) b = some u := fun b u e => by rw [upd_ne (neg b u e)]; exact e
    have ok2 := ok.kill (d := .lst xs) hx ha e1 (.lst (Rd.of upd_same) (FzAll.keep hg (fun _ _ e => e) hz))
    exact ⟨⟨upd n.G a (.lst vs), n.al, n.H⟩, _, m, rfl, ok2, h _ _ _ _ (lD.le (n := n) (n' := ⟨upd n.G a (.lst vs), n.al, n.H⟩) ⟨hg, List.prefix_rfl⟩ D) q⟩
  · rename_i xs hx
    obtain ⟨a, ha, ho⟩ := ok.env.own i _ hx
    obtain ⟨es, e1, hs, hz⟩ := ho.ok
    have neg : ∀ b u, n.G b = some u → b ≠ a := fun b u e z => by subst z; rw [ho.g] at e; cases e
    have hg : ∀ b u, n.G b = some u → (upd n.G a (dxo a es)) b = some u := fun b u e => by rw [upd_ne (neg b u e)]; exact e
    have ok2 := ok.kill (d := .dct xs) hx ha e1 (.dct upd_same hs (FzEs.keep hg (fun _ _ e => e) hz))
    exact ⟨⟨upd n.G a (dxo a es), n.al, n.H⟩, _, m, rfl, ok2, h _ _ _ _ (lD.le (n := n) (n' := ⟨upd n.G a (dxo a es), n.al, n.H⟩) ⟨hg, List.prefix_rfl⟩ D) q⟩
  · exact ⟨n, env, m, rfl, ok, q⟩
theorem ds_keep (i : Nat) (h : DS X C B st d) : DS X C B st (sKeep i d) := ⟨sKeep.mono h.mono, impS h.run fun _ _ _ q => keep_ok h.mono q⟩
/-- code that is never come to -/
def sNever : TSd := fun _ _ _ => False
theorem ds_never : DS X C B st sNever := ⟨fun _ _ _ _ _ h => h.elim, impS ps_never (by
  rintro D σ H ⟨n, env, m, rfl, ok, h⟩
  exact h)⟩

/-! ### while -/
def whGo (c : TB) (tb : TSd) (D : En) : Nat → Env' → Mem → Prop
  | 0, _, _ => False
  | k + 1, env, m => c env m fun b m1 => if b = true then tb { D with nx := whGo c tb D k, ct := whGo c tb D k, bk := D.nx } env m1 else D.nx env m1
def sWhile (c : TB) (tb : TSd) : TSd := fun D env m => ∃ k, whGo c tb D k env m
theorem whGo.mono {c : TB} {tb : TSd} (hc : MonoB c) (hb : MonoS tb) {D D' : En} (l : En.le D D') : ∀ k env m, whGo c tb D k env m → whGo c tb D' k env m
  | 0, _, _, h => h
  | k + 1, env, m, h => by
    refine hc _ _ _ _ (fun b m1 h1 => ?_) h
    cases b with
    | true => exact hb env m1 { D with nx := whGo c tb D k, ct := whGo c tb D k, bk := D.nx } { D' with nx := whGo c tb D' k, ct := whGo c tb D' k, bk := D'.nx } ⟨fun e m h => whGo.mono hc hb l k e m h, l.rt, fun e m h => l.nx e m h, fun e m h => whGo.mono hc hb l k e m h⟩ h1
    | false => exact l.nx _ _ h1
theorem ds_while {c : Expr} {body : List Stmt} {dc : TB} {db : TSd} (hp : PassesOwn (model X.prog X.w) X.A X.env X.xe) (hc : DT X C B c dc) (hb : DSs X C B body db) : DS X C B (.While c body [] pos) (sWhile dc db) := by
  refine ⟨fun env m D D' l ⟨k, h⟩ => ⟨k, whGo.mono hc.mono hb.mono l k env m h⟩, impS (ps_while hp hc.run hb.run) ?_⟩
  rintro D σ H ⟨n, env, m, rfl, ok, k, h⟩
  refine ⟨fun k σ H => ∃ n1 env m, n1.H = H ∧ n.sub n1 ∧ Ok C X.w X.K B n1 env m σ ∧ whGo dc db (lD C B X.w X.K n D) k env m, ⟨k, n, env, m, rfl, .refl _, ok, h⟩, ?_⟩
  rintro k σ H ⟨n1, env, m, rfl, s1, ok1, h⟩
  cases k with
  | zero => exact h.elim
  | succ k =>
    refine ⟨n1, env, m, rfl, ok1, hc.mono _ _ _ _ (fun b m1 h1 n2 g2 l2 => ?_) h⟩
    cases b with
    | true =>
      refine ⟨fun σ' H' => ∃ n3 env m, n3.H = H' ∧ n.sub n3 ∧ Ok C X.w X.K B n3 env m σ' ∧ whGo dc db (lD C B X.w X.K n D) k env m, fun σ' H' q => ⟨k, Nat.lt_succ_self _, q⟩, ?_⟩
      refine ⟨n2, env, m1, rfl, ok1.go g2 l2, hb.mono _ _ { lD C B X.w X.K n D with nx := whGo dc db (lD C B X.w X.K n D) k, ct := whGo dc db (lD C B X.w X.K n D) k, bk := (lD C B X.w X.K n D).nx } _ ⟨fun e3 m3 h3 n3 σ3 s3 ok3 => ⟨n3, e3, m3, rfl, (s1.trans l2.sub).trans s3, ok3, h3⟩, fun _ _ h3 => h3, fun e3 m3 h3 n3 σ3 s3 ok3 => h3 n3 σ3 ((s1.trans l2.sub).trans s3) ok3,
        fun e3 m3 h3 n3 σ3 s3 ok3 => ⟨n3, e3, m3, rfl, (s1.trans l2.sub).trans s3, ok3, h3⟩⟩ h1⟩
    | false => exact h1 n2 _ (s1.trans l2.sub) (ok1.go g2 l2)

/-! ### what is walked -/
abbrev TId := Env' → Mem → (List Dat → Mem → Prop) → Prop
def MonoI (d : TId) : Prop := ∀ env m (Q Q' : List Dat → Mem → Prop), (∀ x m', Q x m' → Q' x m') → d env m Q → d env m Q'
/-- the walk J gives xs, one behind another, as long as what does not change in n does not -/
def WalkD (C : Ct) (w : World) (K : PySem.W.Frag) (n : Nw) (J : It) (xs : List Dat) : Prop := ∃ Gp Y, Walk J xs.length Gp Y ∧ ∀ n' m', n.sub n' → Good C w K n' m' → Gp n'.H ∧
  ∀ i x H', i < xs.length → Y i n'.H x H' → ∃ n'' d, n''.H = H' ∧ Good C w K n'' m' ∧ n'.le n'' ∧ xs[i]? = some d ∧ FzN C w K n'' x d
def lI (C : Ct) (B : Nw) (w : World) (K : PySem.W.Frag) (d : TId) : TI := fun σ H R => ∃ n env m, n.H = H ∧ Ok C w K B n env m σ ∧ d env m fun xs m' => ∀ n' J, Good C w K n' m' → n.le n' → WalkD C w K n' J xs → R J n'.H
structure DI (X : Cx) (C : Ct) (B : Nw) (tg iter : Expr) (d : TId) : Prop where
  mono : MonoI d
  run : PI X tg iter (lI C B X.w X.K d)
def forGo (tg : Tg) (tb : TSd) (D : En) : List Dat → Env' → Mem → Prop
  | [], env, m => D.nx env m
  | x :: xs, env, m => match bind tg (.f x) env with
    | some env2 => tb { D with nx := forGo tg tb D xs, ct := forGo tg tb D xs, bk := D.nx } env2 m
    | none => False
def sFor (tg : Tg) (di : TId) (tb : TSd) : TSd := fun D env m => di env m fun xs m1 => forGo tg tb D xs env m1
theorem forGo.mono {tg : Tg} {tb : TSd} (hb : MonoS tb) {D D' : En} (l : En.le D D') : ∀ xs env m, forGo tg tb D xs env m → forGo tg tb D' xs env m
  | [], _, _, h => l.nx _ _ h
  | x :: xs, env, m, h => by
    unfold forGo at h ⊢
    split
    · rename_i e2 he
      rw [he] at h
      exact hb e2 m { D with nx := forGo tg tb D xs, ct := forGo tg tb D xs, bk := D.nx } { D' with nx := forGo tg tb D' xs, ct := forGo tg tb D' xs, bk := D'.nx } ⟨fun e m h => forGo.mono hb l xs e m h, l.rt, fun e m h => l.nx e m h, fun e m h => forGo.mono hb l xs e m h⟩ h
    · rename_i he
      rw [he] at h
      exact h
theorem ds_for {te iter : Expr} {body : List Stmt} {di : TId} {db : TSd} {tg : Tg} (hp : PassesOwn (model X.prog X.w) X.A X.env X.xe) (hc : X.calm = true) (hi : DI X C B te iter di) (hg : TgOk X te tg) (hb : DSs X C B body db)
    (hs : ∀ x, foldedSetIterable iter X.env x = pure x := by intro _; rfl) : DS X C B (.For te iter body [] pos) (sFor tg di db) := by
  refine ⟨fun env m D D' l h => hi.mono _ _ _ _ (fun xs m1 h1 => forGo.mono hb.mono l xs env m1 h1) h, impS (ps_for hp hc hi.run hg.run hb.run hs) ?_⟩
  rintro D σ H ⟨n, env, m, rfl, ok, h⟩
  refine ⟨n, env, m, rfl, ok, hi.mono _ _ _ _ (fun xs m1 h1 n1 J g1 l1 wk => ?_) h⟩
  obtain ⟨Gp, Y, wk, st⟩ := wk
  refine for_it wk (fun i σ H => ∃ n2 env m, n2.H = H ∧ n1.sub n2 ∧ Ok C X.w X.K B n2 env m σ ∧ forGo tg db (lD C B X.w X.K n D) (xs.drop i) env m) ⟨n1, env, m1, rfl, .refl _, ok.go g1 l1, h1⟩ ?_ ?_ ?_
  · rintro i σ H hi ⟨n2, env, m, rfl, s2, ok2, h2⟩
    exact (st n2 m s2 ok2.good).1
  · rintro i x σ H H' hi ⟨n2, env, m, rfl, s2, ok2, h2⟩ hy
    obtain ⟨n3, d, rfl, g3, l3, hd, hz⟩ := (st n2 m s2 ok2.good).2 i x _ hi hy
    have hdr : xs.drop i = d :: xs.drop (i + 1) := by
      rw [List.drop_eq_getElem_cons hi]
      rw [List.getElem?_eq_getElem hi] at hd
      rw [Option.some.inj hd]
    rw [hdr] at h2
    unfold forGo at h2
    split at h2
    · rename_i env2 hb2
      refine bind_ok (x := .f d) hz (ok2.go g3 l3) hb2 fun σ2 ok3 _ => ?_
      exact ⟨n3, env2, m, rfl, ok3, hb.mono _ _ { lD C B X.w X.K n D with nx := forGo tg db (lD C B X.w X.K n D) (xs.drop (i + 1)), ct := forGo tg db (lD C B X.w X.K n D) (xs.drop (i + 1)), bk := (lD C B X.w X.K n D).nx } _ ⟨fun e4 m4 h4 n4 σ4 s4 ok4 => ⟨n4, e4, m4, rfl, (s2.trans l3.sub).trans s4, ok4, h4⟩, fun _ _ h4 => h4,
        fun e4 m4 h4 n4 σ4 s4 ok4 => h4 n4 σ4 (((l1.sub.trans s2).trans l3.sub).trans s4) ok4, fun e4 m4 h4 n4 σ4 s4 ok4 => ⟨n4, e4, m4, rfl, (s2.trans l3.sub).trans s4, ok4, h4⟩⟩ h2⟩
    · exact h2.elim
  · rintro σ H ⟨n2, env, m, rfl, s2, ok2, h2⟩
    rw [List.drop_length] at h2
    exact h2 n2 σ (l1.sub.trans s2) ok2
end
end DL

set_option maxHeartbeats 1000000
namespace DL
open PySem PySem.Spec PyProof.Rows L2

/-! ### list comprehensions -/
def wipeE (env : Env') : List Nat → Env'
  | [] => env
  | v :: vs => (wipeE env vs).set v none
section
variable {C : Ct} {w : World} {K : PySem.W.Frag} {B n n' : Nw} {m m' : Mem}
theorem EnvOk.set0 {env : Env'} {σ : L2.St} {i : Nat} (h : EnvOk C w K B n env σ) : EnvOk C w K B n (env.set i none) (σ.set i none) := by
  have back : ∀ {j : Nat} {x : Sl}, (env.set i none)[j]? = some (some x) → i ≠ j ∧ env[j]? = some (some x) := by
    intro j x e
    by_cases hj : i = j
    · subst hj
      have hlt : i < env.length := by
        have := (List.getElem?_eq_some_iff.mp e).1
        simpa using this
      rw [List.getElem?_set_self hlt] at e
      cases e
    · rw [List.getElem?_set_ne hj] at e
      exact ⟨hj, e⟩
  refine ⟨by simp [h.len], fun j d e => ?_, fun j x e => ?_, fun j k x y a e1 e2 f1 f2 => ?_⟩
  · obtain ⟨hj, e⟩ := back e
    rw [List.getElem?_set_ne hj]; exact h.fz j d e
  · obtain ⟨hj, e⟩ := back e
    rw [List.getElem?_set_ne hj]; exact h.own j x e
  · obtain ⟨hj, e1⟩ := back e1
    obtain ⟨hk, e2⟩ := back e2
    rw [List.getElem?_set_ne hj] at f1
    rw [List.getElem?_set_ne hk] at f2
    exact h.apart j k x y a e1 e2 f1 f2
theorem EnvOk.wipe {env : Env'} {σ : L2.St} (h : EnvOk C w K B n env σ) : ∀ vs, EnvOk C w K B n (wipeE env vs) (wipe σ vs)
  | [] => h
  | v :: vs => (EnvOk.wipe h vs).set0
theorem Ok.wipe {env : Env'} {σ : L2.St} (h : Ok C w K B n env m σ) (vs : List Nat) : Ok C w K B n (wipeE env vs) m (L2.wipe σ vs) := ⟨h.good, h.base, h.env.wipe vs⟩
end
theorem wipe_idem (σ : L2.St) (vs : List Nat) : wipe (wipe σ vs) vs = wipe σ vs := by
  apply List.ext_getElem?
  intro j
  by_cases hj : j ∈ vs
  · have key : ∀ (τ : L2.St), (wipe τ vs)[j]? = if j < τ.length then some none else none := by
      intro τ
      have hl := wipe_length τ vs
      by_cases hlt : j < τ.length
      · rw [if_pos hlt]
        have : j < (wipe τ vs).length := by rw [hl]; exact hlt
        rw [List.getElem?_eq_getElem this]
        cases e : (wipe τ vs)[j] with
        | none => rfl
        | some x =>
          have e2 : (wipe τ vs)[j]? = some (some x) := by rw [List.getElem?_eq_getElem this, e]
          exact absurd hj (wipe_some e2).2
      · rw [if_neg hlt]
        exact List.getElem?_eq_none (by rw [hl]; omega)
    rw [key, key, wipe_length]
  · rw [wipe_out hj]
/-- a heap without what stands at D -/
def del (H : Hp) (D : Addr) : Hp := fun a => if a = D then none else H a
theorem del_same {H : Hp} {D : Addr} : del H D D = none := by simp [del]
theorem del_ne {H : Hp} {a D : Addr} (h : a ≠ D) : del H D a = H a := by simp [del, h]
theorem upd_del {H : Hp} {D : Addr} {o : HO} (h : H D = some o) : upd (del H D) D o = H := by
  funext a
  by_cases e : a = D
  · subst e; rw [upd_same, h]
  · rw [upd_ne e, del_ne e]

def lcGo (tg : Tg) (dt : TB) (de : TD) (env : Env') : List Dat → Mem → (List Dat → Mem → Prop) → Prop
  | [], m, Q => Q [] m
  | x :: xs, m, Q => match bind tg (.f x) env with
    | some env2 => dt env2 m fun b m1 => if b = true then de env2 m1 fun y m2 => match y with
        | .f d => lcGo tg dt de env xs m2 fun ds m3 => Q (d :: ds) m3
        | .o _ => False
      else lcGo tg dt de env xs m1 Q
    | none => False
theorem lcGo.mono {tg : Tg} {dt : TB} {de : TD} (ht : MonoB dt) (hd : MonoD de) (env : Env') : ∀ xs m (Q Q' : List Dat → Mem → Prop), (∀ x m', Q x m' → Q' x m') → lcGo tg dt de env xs m Q → lcGo tg dt de env xs m Q'
  | [], m, Q, Q', i, h => i _ _ h
  | x :: xs, m, Q, Q', i, h => by
    unfold lcGo at h ⊢
    split
    · rename_i e2 he
      rw [he] at h
      refine ht _ _ _ _ (fun b m1 h1 => ?_) h
      cases b with
      | true =>
        refine hd _ _ _ _ (fun y m2 h2 => ?_) h1
        cases y with
        | f d => exact lcGo.mono ht hd env xs m2 _ _ (fun ds m3 h3 => i _ _ h3) h2
        | o k => exact h2
      | false => exact lcGo.mono ht hd env xs m1 _ _ i h1
    · rename_i he
      rw [he] at h
      exact h
def nLc (tg : Tg) (dt : TB) (de : TD) (vs : List Nat) (di : TId) : TN := fun env m Q => di env m fun xs m1 => xs.length ≤ sizeLine ∧ lcGo tg dt de (wipeE env vs) xs m1 Q
theorem nLc.mono {tg : Tg} {dt : TB} {de : TD} {vs : List Nat} {di : TId} (hi : MonoI di) (ht : MonoB dt) (hd : MonoD de) : MonoN' (nLc tg dt de vs di) := fun env m Q Q' i h =>
  hi _ _ _ _ (fun xs m1 h1 => ⟨h1.1, lcGo.mono ht hd _ _ _ _ _ i h1.2⟩) h
section
variable {X : Cx} {C : Ct} {B : Nw}
theorem lc_imp {tg : Tg} {dt : TB} {de : TD} {vs : List Nat} {di : TId} (hi : MonoI di) (ht : MonoB dt) (hd : MonoD de) (htg : ∀ i ∈ tg.ids, i ∈ vs) :
    ∀ σ H Q, lN C B X.w X.K (nLc tg dt de vs di) σ H Q → tLc (lI C B X.w X.K di) (gOf X.K tg) (lB C B X.w X.K dt) (lE C B X.w X.K de) vs σ H Q := by
  rintro σ H Q ⟨n, env, m, rfl, ok, h⟩
  refine ⟨n, env, m, rfl, ok, hi _ _ _ _ (fun xs m1 h1 n1 J g1 l1 wk => ?_) h⟩
  obtain ⟨Gp, Y, wk, st⟩ := wk
  intro D hD
  have ok1 := (ok.go g1 l1).wipe vs
  obtain ⟨f1, f2⟩ := g1.free hD
  refine lc_it wk (fun i H => ∃ n2 m2 aV acc, n2.H = H ∧ n1.le n2 ∧ Good C X.w X.K n2 m2 ∧ n2.H D = some (.lst aV) ∧ n2.G D = none ∧ D ∉ n2.al ∧ FzAllN C X.w X.K n2 aV acc ∧ acc.length ≤ i ∧ i ≤ xs.length ∧
    lcGo tg dt de (wipeE env vs) (xs.drop i) m2 (fun ds m' => ∀ n' p us, Good C X.w X.K n' m' → n.le n' → n'.H p = none → FzAllN C X.w X.K n' us (acc ++ ds) → Q (.ref p) (upd n'.H p (.lst us)))) ?_ ?_ ?_ ?_
  · exact ⟨⟨n1.G, n1.al, upd n1.H D (.lst [])⟩, m1, [], [], rfl, (Nw.le.refl n1).at hD, g1.at f1 f2, upd_same, f1, f2, .nil, Nat.le_refl _, Nat.zero_le _, h1.2⟩
  · rintro i H hi ⟨n2, m2, aV, acc, rfl, l2, g2, _⟩
    exact (st n2 m2 l2.sub g2).1
  · rintro i x H H' hi ⟨n2, m2, aV, acc, rfl, l2, g2, hD2, hG2, ha2, hz2, hl2, hi2, h2⟩ hy
    obtain ⟨n3, d, rfl, g3, l3, hd3, hz3⟩ := (st n2 m2 l2.sub g2).2 i x _ hi hy
    have hdr : xs.drop i = d :: xs.drop (i + 1) := by
      rw [List.drop_eq_getElem_cons hi]
      rw [List.getElem?_eq_getElem hi] at hd3
      rw [Option.some.inj hd3]
    rw [hdr] at h2
    unfold lcGo at h2
    split at h2
    · rename_i env2 hb2
      have D2 : n2.H D ≠ none := by rw [hD2]; simp
      refine bind_ok (x := .f d) hz3 (ok1.go g3 (l2.trans l3)) hb2 fun σ2 ok3 hw => ⟨?_, ?_⟩
      · rw [hw vs htg, wipe_idem]
      · refine ⟨n3, env2, m2, rfl, ok3, ht _ _ _ _ (fun b m4 h4 n4 g4 l4 => ?_) h2⟩
        have l24 := l3.trans l4
        cases b with
        | false =>
          exact ⟨n4, m4, aV, acc, rfl, l2.trans l24, g4, l24.keep D _ hD2 ha2, (l24.gnew D D2).trans hG2, l24.nal D2 ha2, FzAllN.le hz2 l24, by omega, by omega, h4⟩
        | true =>
          refine ⟨n4, env2, m4, rfl, ok3.go g4 l4, hd _ _ _ _ (fun y m5 h5 n5 v g5 l5 ly => ?_) h4⟩
          have l25 := l24.trans l5
          have e5 := l25.keep D _ hD2 ha2
          have hG5 := (l25.gnew D D2).trans hG2
          have ha5 := l25.nal D2 ha2
          refine ⟨aV, e5, ?_, ?_⟩
          · rw [hz2.length]
            have := h1.1
            omega
          · cases y with
            | o k => exact h5.elim
            | f d5 =>
              have ly : FzN C X.w X.K n5 v d5 := ly
              refine ⟨⟨n5.G, n5.al, upd n5.H D (.lst (aV ++ [v]))⟩, m5, aV ++ [v], acc ++ [d5], rfl, (l2.trans l25).at hD, g5.at hG5 ha5, upd_same, hG5, ha5, ?_, by simp; omega, by omega, ?_⟩
              · exact FzAll.append (FzAllN.le (n' := n5) hz2 l25) (.cons ly .nil)
              · refine lcGo.mono ht hd _ _ _ _ _ (fun ds m6 h6 n' p us g' l' hp hu => ?_) h5
                refine h6 n' p us g' l' hp ?_
                rw [List.append_assoc] at hu
                exact hu
    · exact h2.elim
  · rintro H ⟨n2, m2, aV, acc, rfl, l2, g2, hD2, hG2, ha2, hz2, hl2, hi2, h2⟩
    rw [List.drop_length] at h2
    have ne : ∀ {a u}, n1.H a = some u → a ≠ D := fun e z => by subst z; rw [hD] at e; cases e
    have h3 := h2 ⟨n2.G, n2.al, del n2.H D⟩ D aV ⟨fun p o e => ?_, g2.nd, g2.len, fun k y a e1 e2 => ?_⟩ ⟨fun p o e => l2.g p o (l1.g p o e), fun p o e hn => ?_, fun p e => ?_, fun p e => ?_, l1.ale.trans l2.ale, fun k p hk e => ?_⟩ del_same (by rw [List.append_nil]; exact hz2)
    · have : upd (del n2.H D) D (.lst aV) = n2.H := upd_del hD2
      rw [← this]; exact h3
    · show del n2.H D p = some o
      rw [del_ne (fun z => by subst z; have e' : n2.G p = some o := e; rw [hG2] at e'; cases e')]; exact g2.sub p o e
    · obtain ⟨q1, q2⟩ := g2.at_ k y a e1 e2
      refine ⟨q1.imp (n := n2) (fun _ _ e => e) (fun _ _ e => e) fun u e => ?_, q2⟩
      show del n2.H D a = some u
      rw [del_ne (fun z => by subst z; exact ha2 (List.mem_of_getElem? e2))]; exact e
    · have e1 := l1.keep p o e hn
      have e2 := l2.keep p o e1 (l1.nal (by rw [e]; simp) hn)
      show del n2.H D p = some o
      rw [del_ne (ne e1)]; exact e2
    · have e1 := l1.there p e
      have e2 := l2.there p e1
      show del n2.H D p ≠ none
      rw [del_ne (fun z => by subst z; exact e1 hD)]; exact e2
    · exact (l2.gnew p (l1.there p e)).trans (l1.gnew p e)
    · exact (l1.trans l2).anew k p hk e
variable {elt te iter : Expr} {ifs : List Expr} {scope : Scope} {own : List (Str × Nat)} {pos : Pos} {tg : Tg} {dt : TB} {de : TD} {di : TId}
structure DTs (X : Cx) (C : Ct) (B : Nw) (ifs : List Expr) (d : TB) : Prop where
  mono : MonoB d
  run : PTs X ifs (lB C B X.w X.K d)
def dYes : TB := fun _ m Q => Q true m
theorem dts_nil : DTs X C B [] dYes := ⟨fun _ _ _ _ i => i _ _, ⟨fun pins s σ H Q I h => pts_nil.run pins s σ H Q I (by
  obtain ⟨n, env, m, rfl, ok, h⟩ := h
  exact h n ok.good (.refl _))⟩⟩
theorem dts_one {c : Expr} {d : TB} (h : DT X C B c d) : DTs X C B [c] d := ⟨h.mono, pts_one h.run⟩
abbrev Blk (X : Cx) (scope : Scope) (P : Cx → Prop) : Prop := ∀ (s : Shared) (H : Hp) (C : Addr) (cl : List (Str × Addr)) (fp : List Addr), P (X.blk s H scope (compEnvC scope cl C X.env) fp)
theorem dn_lc (hc : X.calm = true) (hN : X.N.Nodup) (hi : DI X C B te iter di) (ok : BlkOk X.N X.env.scope scope own) (mt : MonoB dt) (md : MonoD de) (hg : Blk X scope fun Y => TgOk Y te tg) (ht : Blk X scope fun Y => DTs Y C B ifs dt) (he : Blk X scope fun Y => DE Y C B elt de)
    (htg : ∀ i ∈ tg.ids, i ∈ own.map (·.2)) (hs : ∀ x, foldedSetIterable iter X.env x = pure x := by intro _; rfl) : DN X C B (.ListComp elt [⟨te, iter, ifs, 0⟩] scope pos) (nLc tg dt de (own.map (·.2)) di) :=
  ⟨nLc.mono hi.mono mt md, imp (pe_lc hc hN hi.run ok (fun s H C cl fp => (hg s H C cl fp).run) (fun s H C cl fp => (ht s H C cl fp).run) (fun s H C cl fp => (he s H C cl fp).run) hs) (lc_imp hi.mono mt md htg)⟩
/-- name = [..] on one line: a list that does not change, one of the body's own -/
theorem ds_setLc {i : Nat} {y : Str} {py spos : Pos} (hc : X.calm = true) (hN : X.N.Nodup) (hy : X.N[i]? = some y) (hyl : X.env.scope.names.lookup y = some .local) (hsw : swapsWith (.ListComp elt [⟨te, iter, ifs, 0⟩] scope pos) (some (.Name y py)) spos.line X.env = pure true)
    (hi : DI X C B te iter di) (ok : BlkOk X.N X.env.scope scope own) (mt : MonoB dt) (md : MonoD de) (hg : Blk X scope fun Y => TgOk Y te tg) (ht : Blk X scope fun Y => DTs Y C B ifs dt) (he : Blk X scope fun Y => DE Y C B elt de)
    (htg : ∀ i ∈ tg.ids, i ∈ own.map (·.2)) (hs : ∀ x, foldedSetIterable iter X.env x = pure x := by intro _; rfl) : DS X C B (.Assign [.Name y py] (.ListComp elt [⟨te, iter, ifs, 0⟩] scope pos) spos) (sAsg (.nm i) (dNew (nLc tg dt de (own.map (·.2)) di))) := by
  have mm := nLc.mono (tg := tg) (vs := own.map (·.2)) hi.mono mt md
  refine ⟨sAsg.mono (fun env m Q Q' i h => mm _ _ _ _ (fun ds m1 => i _ _) h), impS (ps_setLc (g := gOf X.K tg) (tt := lB C B X.w X.K dt) (te := lE C B X.w X.K de) hc hN hy hyl hsw hi.run ok (fun s H C cl fp => (hg s H C cl fp).run) (fun s H C cl fp => (ht s H C cl fp).run) (fun s H C cl fp => (he s H C cl fp).run) hs) ?_⟩
  rintro D σ H ⟨n, env, m, rfl, ok, h⟩
  refine lc_imp hi.mono mt md htg σ _ _ ⟨n, env, m, rfl, ok, mm _ _ _ _ (fun ds m1 h1 n1 p vs g1 l1 hp hz => ?_) h⟩
  obtain ⟨g2, l2⟩ := g1.freeze (o := .lst vs) hp
  exact h1 _ _ (l1.trans l2).sub ((ok.go g2 (l1.trans l2)).setF (.lst (Rd.of upd_same) (FzAllN.le hz l2)))
theorem ds_setLcN {i : Nat} {y : Str} {py spos : Pos} (hc : X.calm = true) (hN : X.N.Nodup) (hy : X.N[i]? = some y) (hyl : X.env.scope.names.lookup y = some .local) (hsw : swapsWith (.ListComp elt [⟨te, iter, ifs, 0⟩] scope pos) (some (.Name y py)) spos.line X.env = pure true)
    (hi : DI X C B te iter di) (ok : BlkOk X.N X.env.scope scope own) (mt : MonoB dt) (md : MonoD de) (hg : Blk X scope fun Y => TgOk Y te tg) (ht : Blk X scope fun Y => DTs Y C B ifs dt) (he : Blk X scope fun Y => DE Y C B elt de)
    (htg : ∀ i ∈ tg.ids, i ∈ own.map (·.2)) (hs : ∀ x, foldedSetIterable iter X.env x = pure x := by intro _; rfl) : DS X C B (.Assign [.Name y py] (.ListComp elt [⟨te, iter, ifs, 0⟩] scope pos) spos) (sSetN i (nLc tg dt de (own.map (·.2)) di)) := by
  have mm := nLc.mono (tg := tg) (vs := own.map (·.2)) hi.mono mt md
  refine ⟨fun env m D D' l => mm _ _ _ _ fun ds m1 => l.nx _ _, impS (ps_setLc (g := gOf X.K tg) (tt := lB C B X.w X.K dt) (te := lE C B X.w X.K de) hc hN hy hyl hsw hi.run ok (fun s H C cl fp => (hg s H C cl fp).run) (fun s H C cl fp => (ht s H C cl fp).run) (fun s H C cl fp => (he s H C cl fp).run) hs) ?_⟩
  rintro D σ H ⟨n, env, m, rfl, ok, h⟩
  refine lc_imp hi.mono mt md htg σ _ _ ⟨n, env, m, rfl, ok, mm _ _ _ _ (fun ds m1 h1 n1 p vs g1 l1 hp hz => ?_) h⟩
  have ok2 := (ok.go g1 l1).newO (i := i) (o := .lst vs) (z := .lst ds) hp ⟨vs, upd_same, hz⟩
  exact h1 ⟨n1.G, n1.al, upd n1.H p (.lst vs)⟩ _ ⟨l1.g, l1.ale⟩ ok2
end

/-! ### promises of defs, calls -/
/-- an exception over data: its class, its fields -/
abbrev QX := Nat → List Dat → Mem → Prop
abbrev QXe := Nat → List Dat → Env' → Mem → Prop
abbrev DSp := List Dat → Mem → QD → QX → Prop
def MonoP (p : DSp) : Prop := ∀ ds m (Q Q' : QD) (E E' : QX), (∀ x m', Q x m' → Q' x m') → (∀ c xs m', E c xs m' → E' c xs m') → p ds m Q E → p ds m Q' E'
/-- an exception of class c, its own dict dx, its fields vs -/
def XAt (C : Ct) (B n : Nw) (c : Nat) (dx : Option Addr) (vs : List V) : Prop := vs.length = (C.flds c).length ∧ ((dx = none ∧ vs = []) ∨ ∃ a, dx = some a ∧ B.H a = none ∧ n.H a = some (.xd ((C.flds c).zip vs)))
def AftX (C : Ct) (w : World) (K : PySem.W.Frag) (n : Nw) (E : XK) : QX := fun c xs m' => ∀ n' dx vs, Good C w K n' m' → n.le n' → XAt C n n' c dx vs → FzAllN C w K n' vs xs → E (.ref (C.addr c)) dx n'.H
def spD (C : Ct) (w : World) (K : PySem.W.Frag) (k : Nat) (p : DSp) : Sp := fun vs H Q E => vs.length = k ∧ ∃ n m ds, n.H = H ∧ Good C w K n m ∧ FzAllN C w K n vs ds ∧ p ds m (AftD C w K n Q) (AftX C w K n E)
structure DF (P : Program) (w : World) (K : PySem.W.Frag) (mg : Str → Option Value) (base : Heap) (C : Ct) (k : Nat) (f : Addr) (fd : FuncData) (ps : List Str) (p : DSp) : Prop where
  mono : MonoP p
  ok : FnOk P w K mg base (L2.CX P w) k f fd ps (spD C w K ps.length p)
theorem XAt.base {C : Ct} {B n n' : Nw} {c : Nat} {dx : Option Addr} {vs : List V} (l : B.le n) (h : XAt C n n' c dx vs) : XAt C B n' c dx vs := by
  obtain ⟨h1, h2⟩ := h
  refine ⟨h1, ?_⟩
  rcases h2 with h2 | ⟨a, h3, h4, h5⟩
  · exact .inl h2
  · exact .inr ⟨a, h3, l.base h4, h5⟩
/-- what is wanted of an exception at the slots σ -/
def atX (C : Ct) (B : Nw) (w : World) (K : PySem.W.Frag) (EX : QXe) (σ : L2.St) : XK := fun cls dx H => ∃ n env m c xs vs, n.H = H ∧ Ok C w K B n env m σ ∧ cls = .ref (C.addr c) ∧ XAt C B n c dx vs ∧ FzAllN C w K n vs xs ∧ EX c xs env m
/-- the context takes what EX tells -/
def TakesD (X : Cx) (C : Ct) (B : Nw) (EX : QXe) : Prop := Takes X (fun cls dx σ H => atX C B X.w X.K EX σ cls dx H)
def PassD (X : Cx) (C : Ct) (B : Nw) (EX : QXe) : Prop := ∀ σ, PassesAt (L2.CX X.prog X.w) X σ (atX C B X.w X.K EX σ)
theorem TakesD.pass {X : Cx} {C : Ct} {B : Nw} {EX : QXe} (t : TakesD X C B EX) : PassD X C B EX := fun σ => passAt t σ
def EX0 : QXe := fun _ _ _ _ => False
theorem passD0 {X : Cx} {C : Ct} {B : Nw} : PassD X C B EX0 := fun σ pins H s e s' I h => by
  obtain ⟨_, _, _, _, _, _, _, _, _, _, _, _, z⟩ := h
  obtain ⟨_, _, _, _, _, _, _, _, _, _, _, z⟩ := z
  exact z.elim
def dCall (p : DSp) (EX : QXe) (da : TAd) : TD := fun env m Q => da env m fun xs m1 => match frs xs with
  | some ds => p ds m1 (fun d m2 => Q (.f d) m2) (fun c ys m2 => EX c ys env m2)
  | none => False
theorem dCall.mono {p : DSp} {EX : QXe} {da : TAd} (hp : MonoP p) (ha : MonoA da) : MonoD (dCall p EX da) := fun env m Q Q' i => ha _ _ _ _ fun xs m1 => by
  split
  · exact hp _ _ _ _ _ _ (fun d m2 => i _ _) fun _ _ _ h => h
  · exact id
section
variable {X : Cx} {C : Ct} {B : Nw} {k : Nat} {f : Addr} {fd : FuncData} {ps : List Str} {p : DSp} {EX : QXe} {x : Str} {p1 pos : Pos} {e : Expr} {es : List Expr} {da : TAd}
theorem call_imp (hp : MonoP p) (ha : MonoA da) {n' : Nat} (hn : ∀ {vs ds n}, FzAllN C X.w X.K n vs ds → (∃ m Q E, p ds m Q E) → vs.length = n') : ∀ σ H Q, lE C B X.w X.K (dCall p EX da) σ H Q → tCallSD (spD C X.w X.K n' p) [] (atX C B X.w X.K EX) (lA C B X.w X.K da) σ H Q := by
  rintro σ H Q ⟨n, env, m, rfl, ok, h⟩
  refine ⟨n, env, m, rfl, ok, ha _ _ _ _ (fun xs m1 h1 n1 vs g1 l1 lx => ?_) h⟩
  split at h1
  · rename_i ds hd
    have hz := frs_ok lx hd
    refine ⟨by rw [List.append_nil]; exact hn hz ⟨_, _, _, h1⟩, n1, m1, ds, rfl, g1, by rw [List.append_nil]; exact hz, hp _ _ _ _ _ _ (fun d m2 h2 n2 v g2 l2 hv => h2 n2 v g2 (l1.trans l2) hv) (fun c ys m2 h2 n2 dx us g2 l2 hx hu => ?_) h1⟩
    exact ⟨n2, env, m2, c, ys, us, rfl, ok.go g2 (l1.trans l2), rfl, hx.base (ok.go g1 l1).base, hu, h2⟩
  · exact h1.elim
theorem de_call (F : DF X.prog X.w X.K X.mg X.base C k f fd ps p) (hl : ∀ ds m Q E, p ds m Q E → ds.length = ps.length) (hr : Room k X.A) (hg : Gl X x) (hm : X.mg x = some (.ref f)) (hk : PySem.W.keepIn X.K (.ref f) = true) (hb : Binds X.K fd ps []) (hx : PassD X C B EX) (ha : DA X C B (e :: es) da)
    (hdb : (x == ("__debug__" : Str)) = false := by decide) (he : starEach (e :: es) X.env = (false, eval e X.env) :: starEach es X.env := by rfl) (hpl : (backTo pos (starEach es X.env)).any (·.1) = false := by rfl) :
    DE X C B (.Call (.Name x p1) (e :: es) [] pos) (dCall p EX da) :=
  ⟨dCall.mono F.mono ha.mono, imp (pe_callSD F.ok hr hg hm hk hb .nil hx ha.run hdb he hpl) (call_imp F.mono ha.mono fun hz ⟨m, Q, E, h⟩ => hz.length.trans (hl _ _ _ _ h))⟩
end
/-- the slots at a def's entry -/
def env0 (N : Nat) (ds : List Dat) : Env' := ds.map (fun d => some (.f d)) ++ List.replicate (N - ds.length) none
section
variable {P : Program} {w : World} {K : PySem.W.Frag} {mg : Str → Option Value} {base : Heap} {C : Ct} {x qual : Str} {params : Arguments} {body : List Stmt} {scope : Scope} {f : Addr} {fd : FuncData} {N ps : List Str} {k : Nat} {p : DSp}
theorem env_start {n : Nw} {vs : List V} {ds : List Dat} (h : FzAllN C w K n vs ds) : EnvOk C w K n n (env0 N.length ds) (L2.start N vs) := by
  have hl := h.length
  have key : ∀ {i : Nat} {y : Sl}, (env0 N.length ds)[i]? = some (some y) → ∃ d, ds[i]? = some d ∧ y = .f d := by
    intro i y e
    unfold env0 at e
    by_cases hi : i < ds.length
    · rw [List.getElem?_append_left (by simpa using hi), List.getElem?_map] at e
      rw [List.getElem?_eq_getElem hi] at e
      simp only [Option.map_some, Option.some.injEq] at e
      exact ⟨_, List.getElem?_eq_getElem hi, e.symm⟩
    · rw [List.getElem?_append_right (by simpa using hi), List.getElem?_replicate] at e
      split at e <;> cases e
  refine ⟨?_, fun i d e => ?_, fun i y e => ?_, fun i j y z a e => ?_⟩
  · unfold env0 L2.start
    simp [hl]
  · obtain ⟨d', h1, h2⟩ := key e
    cases h2
    obtain ⟨v, h3, h4⟩ := h.get h1
    refine ⟨v, ?_, h4⟩
    unfold L2.start
    have hi := (List.getElem?_eq_some_iff.mp h3).1
    rw [List.getElem?_append_left (by simpa using hi), List.getElem?_map, h3]
    rfl
  · obtain ⟨d', h1, h2⟩ := key e
    cases h2
  · obtain ⟨d', h1, h2⟩ := key e
    cases h2
/-- THE RULE: the body's reading meets the promise -/
theorem df_of {d : QXe → TSd} (F : FunD K x qual params body scope [] [] f fd) (S : FnScope N ps scope) (mono : MonoP p) (len : ∀ ds m Q E, p ds m Q E → ds.length = ps.length)
    (walk : ∀ (cdv : Value) (A : Around) (outer : List Env) (s : Shared) (H : Hp) (E : XK) (B : Nw) (EX : QXe), Room k (A.deeper (envOfC qual scope s.heap.objs.size f cdv)) → TakesD (cxOf (L2.CX P w) P w K mg base N qual scope f cdv A outer s H E) C B EX →
      DSs (cxOf (L2.CX P w) P w K mg base N qual scope f cdv A outer s H E) C B body (d EX))
    (law : ∀ ds m (Q : QD) (E : QX), p ds m Q E → d (fun c xs _ m => E c xs m) { nx := fun _ m => Q .non m, rt := Q } (env0 N.length ds) m) : DF P w K mg base C (k + 1) f fd ps p := by
  refine ⟨mono, F.ok S (fun vs H Q E h => h.1) fun cdv A outer s H vs Q E hr h => ?_⟩
  obtain ⟨hl, n, m, ds, rfl, g, hz, h⟩ := h
  let X := cxOf (L2.CX P w) P w K mg base N qual scope f cdv A outer s n.H E
  have ok : Ok C w K n n (env0 N.length ds) m (L2.start N vs) := ⟨g, .refl _, env_start hz⟩
  have tk : Takes X (fun cls dx _ H => E cls dx H) := takes_of rfl rfl rfl rfl
  have pd : TakesD X C n (fun c xs _ m' => AftX C w K n E c xs m') := tk.imp (fun cls dx σ' H' hq => by
    obtain ⟨n', env', m', c, xs, us, rfl, ok', rfl, hx, hu, hE⟩ := hq
    exact hE n' dx us ok'.good ok'.base hx hu)
  have W := walk cdv A outer s n.H E n (fun c xs _ m' => AftX C w K n E c xs m') hr pd
  refine ⟨_, W.run, n, _, m, rfl, ok, ?_⟩
  refine W.mono _ _ { nx := fun _ m => AftD C w K n Q .non m, rt := AftD C w K n Q } _ ⟨fun e1 m1 h1 n1 σ1 _ ok1 => ?_, fun d1 m1 h1 n1 v1 l1 g1 hv => ?_, fun _ _ h1 => h1.elim, fun _ _ h1 => h1.elim⟩ (law ds m (AftD C w K n Q) (AftX C w K n E) h)
  · exact h1 n1 .non ok1.good ok1.base .non
  · exact h1 n1 v1 g1 l1 hv
end
end DL

set_option maxHeartbeats 1000000
namespace DL
open PySem PySem.Spec PyProof.Rows L2

/-! ### == of data -/
mutual
def py : Dat → PyData
  | .bl b => .bool b
  | .int i => .int i
  | .str x => .str x
  | .tup xs => .tuple (pys xs)
  | .lst xs => .list (pys xs)
  | .dct kvs => .dict (pyk kvs)
  | _ => .none
def pys : List Dat → List PyData
  | [] => []
  | x :: xs => py x :: pys xs
def pyk : List (Dat × Dat) → List (PyData × PyData)
  | [] => []
  | (k, x) :: r => (py k, py x) :: pyk r
end
/-- plain data, at most k deep -/
def okN : Nat → Dat → Bool
  | _, .non => true
  | _, .bl _ => true
  | _, .int _ => true
  | _, .str x => PyData.strOk x
  | k + 1, .tup xs => xs.all (okN k)
  | k + 1, .lst xs => xs.all (okN k)
  | _, _ => false
mutual
def eqd : Dat → Dat → Bool
  | .non, .non => true
  | .bl a, .bl b => a == b
  | .bl a, .int j => (if a = true then 1 else 0) == j
  | .int i, .bl b => i == (if b = true then 1 else 0)
  | .int i, .int j => i == j
  | .str x, .str y => x == y
  | .tup xs, .tup ys => eqds xs ys
  | .lst xs, .lst ys => eqds xs ys
  | _, _ => false
def eqds : List Dat → List Dat → Bool
  | [], [] => true
  | x :: xs, y :: ys => eqd x y && eqds xs ys
  | _, _ => false
end
theorem pys_eq : ∀ xs, pys xs = xs.map py
  | [] => rfl
  | x :: xs => by rw [pys, pys_eq xs]; rfl
theorem okN_lay : ∀ (k : Nat) (d : Dat), okN k d = true → (py d).canLay0 = true ∧ (py d).depth ≤ k
  | k, .non, _ => by cases k <;> exact ⟨rfl, Nat.zero_le _⟩
  | k, .bl b, _ => by cases k <;> exact ⟨rfl, Nat.zero_le _⟩
  | k, .int i, _ => by cases k <;> exact ⟨rfl, Nat.zero_le _⟩
  | k, .str x, h => by
    have h : PyData.strOk x = true := by cases k <;> exact h
    exact ⟨by rw [py, PyData.canLay0]; exact h, by rw [py, PyData.depth]; exact Nat.zero_le _⟩
  | 0, .tup xs, h => by cases h
  | 0, .lst xs, h => by cases h
  | k + 1, .tup xs, h => by
    have h : xs.all (okN k) = true := h
    have key : ∀ ys : List Dat, ys.all (okN k) = true → PyData.canLayAll0 (pys ys) = true ∧ PyData.depthAll (pys ys) ≤ k := by
      intro ys
      induction ys with
      | nil => intro _; rw [pys]; exact ⟨by rw [PyData.canLayAll0], by rw [PyData.depthAll]; exact Nat.zero_le _⟩
      | cons y ys ih =>
        intro hy
        rw [List.all_cons, Bool.and_eq_true] at hy
        obtain ⟨h1, h2⟩ := okN_lay k y hy.1
        obtain ⟨h3, h4⟩ := ih hy.2
        rw [pys, PyData.canLayAll0, PyData.depthAll, h1, h3]
        exact ⟨rfl, by omega⟩
    obtain ⟨h1, h2⟩ := key xs h
    rw [py, PyData.canLay0, PyData.depth]
    exact ⟨h1, by omega⟩
  | k + 1, .lst xs, h => by
    have h : xs.all (okN k) = true := h
    have key : ∀ ys : List Dat, ys.all (okN k) = true → PyData.canLayAll0 (pys ys) = true ∧ PyData.depthAll (pys ys) ≤ k := by
      intro ys
      induction ys with
      | nil => intro _; rw [pys]; exact ⟨by rw [PyData.canLayAll0], by rw [PyData.depthAll]; exact Nat.zero_le _⟩
      | cons y ys ih =>
        intro hy
        rw [List.all_cons, Bool.and_eq_true] at hy
        obtain ⟨h1, h2⟩ := okN_lay k y hy.1
        obtain ⟨h3, h4⟩ := ih hy.2
        rw [pys, PyData.canLayAll0, PyData.depthAll, h1, h3]
        exact ⟨rfl, by omega⟩
    obtain ⟨h1, h2⟩ := key xs h
    rw [py, PyData.canLay0, PyData.depth]
    exact ⟨h1, by omega⟩
  | k, .dct _, h => by cases k <;> cases h
  | k, .ins _ _, h => by cases k <;> cases h
  | k, .obj _, h => by cases k <;> cases h
  | k, .ref _, h => by cases k <;> cases h
  | k, .ty _, h => by cases k <;> cases h
  | k, .cls _, h => by cases k <;> cases h
theorem okN_shaped {k : Nat} {d : Dat} (hk : k ≤ 64) (h : okN k d = true) : SeqAt.shaped (py d) = true := by
  obtain ⟨h1, h2⟩ := okN_lay k d h
  unfold SeqAt.shaped
  rw [h1, decide_eq_true (Nat.le_trans h2 hk)]
  rfl
/-- a datum without dicts, instances -/
theorem eqv_eqd : ∀ (k j : Nat) (a b : Dat), okN k a = true → okN j b = true → PyData.eqv (py a) (py b) = eqd a b := by
  intro k
  induction k with
  | zero =>
    intro j a b ha hb
    cases a with
    | tup xs => cases ha
    | lst xs => cases ha
    | dct _ => cases ha
    | ins _ _ => cases ha
    | obj _ => cases ha
    | ref _ => cases ha
    | ty _ => cases ha
    | cls _ => cases ha
    | _ => cases b <;> first | (cases j <;> cases hb; done) | rfl | (simp only [py, PyData.eqv, eqd])
  | succ k ih =>
    intro j a b ha hb
    have key : ∀ (j : Nat) (xs ys : List Dat), xs.all (okN k) = true → ys.all (okN j) = true → PyData.eqvAll (pys xs) (pys ys) = eqds xs ys := by
      intro j xs
      induction xs with
      | nil => intro ys _ _; cases ys <;> simp [pys, PyData.eqvAll, eqds]
      | cons x xs ihx =>
        intro ys hx hy
        cases ys with
        | nil => simp [pys, PyData.eqvAll, eqds]
        | cons y ys =>
          rw [List.all_cons, Bool.and_eq_true] at hx hy
          simp only [pys, PyData.eqvAll, eqds]
          rw [ih j x y hx.1 hy.1, ihx ys hx.2 hy.2]
    cases a with
    | tup xs =>
      cases b with
      | tup ys =>
        cases j with
        | zero => cases hb
        | succ j => simp only [py, PyData.eqv, eqd]; exact key j xs ys ha hb
      | dct _ => cases j <;> cases hb
      | ins _ _ => cases j <;> cases hb
      | obj _ => cases j <;> cases hb
      | ref _ => cases j <;> cases hb
      | ty _ => cases j <;> cases hb
      | cls _ => cases j <;> cases hb
      | _ => simp only [py, PyData.eqv, eqd]
    | lst xs =>
      cases b with
      | lst ys =>
        cases j with
        | zero => cases hb
        | succ j => simp only [py, PyData.eqv, eqd]; exact key j xs ys ha hb
      | dct _ => cases j <;> cases hb
      | ins _ _ => cases j <;> cases hb
      | obj _ => cases j <;> cases hb
      | ref _ => cases j <;> cases hb
      | ty _ => cases j <;> cases hb
      | cls _ => cases j <;> cases hb
      | _ => simp only [py, PyData.eqv, eqd]
    | dct _ => cases ha
    | ins _ _ => cases ha
    | obj _ => cases ha
    | ref _ => cases ha
    | ty _ => cases ha
    | cls _ => cases ha
    | _ => cases b <;> first | (cases j <;> cases hb; done) | rfl | (simp only [py, PyData.eqv, eqd])

/-! ### what a value holds now -/
def moD : Mo → Option Dat
  | .lst xs => some (.lst xs)
  | .dct kvs => some (.dct kvs)
  | .ins _ _ => none
def der (env : Env') (m : Mem) : Lv → Option Dat
  | .f (.obj k) => match m[k]? with
    | some x => moD x
    | none => none
  | .f d => some d
  | .o i => match env[i]? with
    | some (some (.own x)) => moD x
    | _ => none
/-- a datum, or an own list as it stands now -/
inductive Nowv (C : Ct) (w : World) (K : PySem.W.Frag) (n : Nw) : V → Dat → Prop
  | fz {v d} : FzN C w K n v d → Nowv C w K n v d
  | lst {a vs xs} : n.H a = some (.lst vs) → FzAllN C w K n vs xs → Nowv C w K n (.ref a) (.lst xs)
  | dct {a es kvs} : n.H a = some (dxo a es) → (a == sysModules) = false → FzEs C w K n.al n.G es.toList kvs → Nowv C w K n (.ref a) (.dct kvs)
section
variable {C : Ct} {w : World} {K : PySem.W.Frag} {B n : Nw} {m : Mem} {env : Env'} {σ : L2.St}
theorem mo_now {a : Addr} {x : Mo} {d : Dat} (h : MoOk C w K n a x) (e : moD x = some d) : Nowv C w K n (.ref a) d := by
  cases x with
  | lst xs => cases e; obtain ⟨vs, h1, h2⟩ := h; exact .lst h1 h2
  | dct kvs => cases e; obtain ⟨es, h1, h3, h2⟩ := h; exact .dct h1 h3 h2
  | ins c xs => cases e
theorem der_ok {v : V} {x : Lv} {d : Dat} (ok : Ok C w K B n env m σ) (h : LvOk C w K n env σ v x) (e : der env m x = some d) : Nowv C w K n v d := by
  cases x with
  | o i =>
    obtain ⟨h1, y, h2⟩ := h
    have e' : (match env[i]? with
      | some (some (.own x)) => moD x
      | _ => none) = some d := e
    rw [h2] at e'
    obtain ⟨a, h3, h4⟩ := ok.env.own i y h2
    rw [h1] at h3
    cases h3
    exact mo_now h4.ok e'
  | f y =>
    by_cases hy : ∃ k, y = .obj k
    · obtain ⟨k, rfl⟩ := hy
      have e' : (match m[k]? with
        | some x => moD x
        | none => none) = some d := e
      have h : FzN C w K n v (.obj k) := h
      cases h with
      | obj hk =>
        cases q : m[k]? with
        | none => rw [q] at e'; cases e'
        | some x => rw [q] at e'; exact mo_now (ok.good.at_ k x _ q hk).1 e'
    · have e' : some y = some d := by
        cases y with
        | obj k => exact absurd ⟨k, rfl⟩ hy
        | _ => exact e
      cases e'
      exact .fz h
def lstOf (env : Env') (m : Mem) (x : Lv) : Option (List Dat) := match der env m x with
  | some (.lst xs) => some xs
  | _ => none
def tupOf (env : Env') (m : Mem) (x : Lv) : Option (List Dat) := match der env m x with
  | some (.tup xs) => some xs
  | _ => none
theorem rdUp {a : Addr} {u : HO} (g : Good C w K n m) (h : Rd n.G a u) : Rd n.H a u := Rd.keep g.sub h
theorem lst_ok {v : V} {x : Lv} {xs : List Dat} (ok : Ok C w K B n env m σ) (h : LvOk C w K n env σ v x) (e : lstOf env m x = some xs) : ∃ a vs, v = .ref a ∧ Rd n.H a (.lst vs) ∧ FzAllN C w K n vs xs := by
  unfold lstOf at e
  split at e
  · rename_i ys hd
    cases e
    cases der_ok ok h hd with
    | fz z => cases z with | lst z1 z2 => exact ⟨_, _, rfl, rdUp ok.good z1, z2⟩
    | lst z1 z2 => exact ⟨_, _, rfl, .inl z1, z2⟩
  · cases e
theorem tup_ok {v : V} {x : Lv} {xs : List Dat} (ok : Ok C w K B n env m σ) (h : LvOk C w K n env σ v x) (e : tupOf env m x = some xs) : ∃ a vs, v = .ref a ∧ SqT K n.H a vs ∧ FzAllN C w K n vs xs := by
  unfold tupOf at e
  split at e
  · rename_i ys hd
    cases e
    cases der_ok ok h hd with
    | fz z => cases z with | tup z1 z2 => exact ⟨_, _, rfl, SqT.keep ok.good.sub z1, z2⟩
  · cases e
def seqOf (env : Env') (m : Mem) (x : Lv) : Option (List Dat) := match der env m x with
  | some (.lst xs) => some xs
  | some (.tup xs) => some xs
  | _ => none
theorem seq_ok {v : V} {x : Lv} {xs : List Dat} (ok : Ok C w K B n env m σ) (h : LvOk C w K n env σ v x) (e : seqOf env m x = some xs) : ∃ a vs, v = .ref a ∧ (SqL K n.H a vs ∨ SqT K n.H a vs) ∧ FzAllN C w K n vs xs := by
  unfold seqOf at e
  split at e
  · rename_i ys hd
    cases e
    obtain ⟨a, vs, h1, h2, h3⟩ := lst_ok ok h (xs := xs) (by unfold lstOf; rw [hd])
    exact ⟨a, vs, h1, .inl (.inl h2), h3⟩
  · rename_i ys hd
    cases e
    obtain ⟨a, vs, h1, h2, h3⟩ := tup_ok ok h (xs := xs) (by unfold tupOf; rw [hd])
    exact ⟨a, vs, h1, .inr h2, h3⟩
  · cases e
mutual
theorem fz_dp (g : Good C w K n m) : ∀ (k : Nat) {v : V} {d : Dat}, FzN C w K n v d → okN k d = true → Dp K n.H v (py d)
  | k, _, .non, h, _ => by cases h; exact .non
  | k, _, .bl b, h, _ => by cases h; exact .bl b
  | k, _, .int i, h, _ => by cases h; exact .int i
  | k, _, .str x, h, _ => by cases h; exact .str x
  | 0, _, .tup xs, h, e => by cases e
  | 0, _, .lst xs, h, e => by cases e
  | k + 1, _, .tup xs, h, e => by
    cases h with
    | tup h1 h2 => rw [py]; exact .tup (SqT.keep g.sub h1) (fzs_dp g k h2 e)
  | k + 1, _, .lst xs, h, e => by
    cases h with
    | lst h1 h2 => rw [py]; exact .lst (.inl (rdUp g h1)) (fzs_dp g k h2 e)
  | k, _, .dct _, h, e => by cases k <;> cases e
  | k, _, .ins _ _, h, e => by cases k <;> cases e
  | k, _, .obj _, h, e => by cases k <;> cases e
  | k, _, .ref _, h, e => by cases k <;> cases e
  | k, _, .ty _, h, e => by cases k <;> cases e
  | k, _, .cls _, h, e => by cases k <;> cases e
theorem fzs_dp (g : Good C w K n m) : ∀ (k : Nat) {vs : List V} {ds : List Dat}, FzAllN C w K n vs ds → ds.all (okN k) = true → DpAll K n.H vs (pys ds)
  | k, _, [], h, _ => by cases h; rw [pys]; exact .nil
  | k, _, d :: ds, h, e => by
    rw [List.all_cons, Bool.and_eq_true] at e
    cases h with
    | cons a b => rw [pys]; exact .cons (fz_dp g k a e.1) (fzs_dp g k b e.2)
end
theorem now_dp (g : Good C w K n m) {k : Nat} {v : V} {d : Dat} (h : Nowv C w K n v d) (e : okN k d = true) : Dp K n.H v (py d) := by
  cases h with
  | fz z => exact fz_dp g k z e
  | lst h1 h2 =>
    cases k with
    | zero => cases e
    | succ k => rw [py]; exact .lst (.inl (.inl h1)) (fzs_dp g k h2 e)
  | dct h1 h2 h3 => cases k <;> cases e
end
section
variable {X : Cx} {C : Ct}
def oEq (f : Bool → Bool) : Op2 := fun env m x y Q => match der env m x, der env m y with
  | some a, some b => okN 60 a = true ∧ okN 60 b = true ∧ Q (.bl (f (eqd a b))) m
  | _, _ => False
theorem oEq.mono {f : Bool → Bool} : Mono2 (oEq f) := fun env m x y Q Q' i => by
  unfold oEq
  split
  · exact fun h => ⟨h.1, h.2.1, i _ _ h.2.2⟩
  · exact id
theorem op_eqd (hu : X.A.units + 64 < cLine) : OpD X C (compareOp .Eq) (oEq id) := by
  refine ⟨oEq.mono, fun pins s σ H x y v u Q I rx ry h => ?_⟩
  obtain ⟨B, n, env, m, σ', a, b, rfl, ok, la, lb, h⟩ := h
  unfold oEq at h
  split at h
  · rename_i da db ha hb
    obtain ⟨h1, h2, h3⟩ := h
    exact op_eqD hu pins s σ n.H x y v u Q I rx ry ⟨_, _, now_dp ok.good (der_ok ok la ha) h1, now_dp ok.good (der_ok ok lb hb) h2, okN_shaped (by decide) h1, okN_shaped (by decide) h2, by rw [eqv_eqd _ _ _ _ h1 h2]; exact h3 n _ ok.good (.refl _) (.bl _)⟩
  · exact h.elim
theorem op_ned (hu : X.A.units + 64 < cLine) : OpD X C (compareOp .NotEq) (oEq not) := by
  refine ⟨oEq.mono, fun pins s σ H x y v u Q I rx ry h => ?_⟩
  obtain ⟨B, n, env, m, σ', a, b, rfl, ok, la, lb, h⟩ := h
  unfold oEq at h
  split at h
  · rename_i da db ha hb
    obtain ⟨h1, h2, h3⟩ := h
    exact op_neD hu pins s σ n.H x y v u Q I rx ry ⟨_, _, now_dp ok.good (der_ok ok la ha) h1, now_dp ok.good (der_ok ok lb hb) h2, okN_shaped (by decide) h1, okN_shaped (by decide) h2, by rw [eqv_eqd _ _ _ _ h1 h2]; exact h3 n _ ok.good (.refl _) (.bl _)⟩
  · exact h.elim
/-- x in xs, x not in xs -/
def oIn (f : Bool → Bool) : Op2 := fun env m x y Q => match der env m x, seqOf env m y with
  | some a, some bs => okN 60 a = true ∧ bs.all (okN 59) = true ∧ Q (.bl (f (bs.any fun b => eqd b a))) m
  | _, _ => False
theorem oIn.mono {f : Bool → Bool} : Mono2 (oIn f) := fun env m x y Q Q' i => by
  unfold oIn
  split
  · exact fun h => ⟨h.1, h.2.1, i _ _ h.2.2⟩
  · exact id
theorem any_eqv {a : Dat} (ha : okN 60 a = true) : ∀ bs : List Dat, bs.all (okN 59) = true → ((pys bs).any fun y => PyData.eqv y (py a)) = bs.any fun b => eqd b a
  | [], _ => rfl
  | b :: bs, h => by
    rw [List.all_cons, Bool.and_eq_true] at h
    rw [pys, List.any_cons, List.any_cons, eqv_eqd _ _ _ _ h.1 ha, any_eqv ha bs h.2]
theorem op_ind {op : CmpOp} {f : Bool → Bool} (hu : X.A.units + 65 < cLine)
    (hl : ∀ {s : Shared} {c x : Value} {xs : List PyData} {d : PyData} {as bs : List Addr} {Q : Value → Shared → Prop}, Reads s.heap c (.list xs) as → Reads s.heap x d bs → PyData.canLayAll0 xs = true → d.canLay0 = true → X.A.units + 1 + min (PyData.depthAll xs) d.depth < cLine →
      Q (.bool (f (xs.any fun y => PyData.eqv y d))) s → wpAny (model X.prog X.w) X.A (compareOp op x c) Q X.xe s)
    (ht : ∀ {s : Shared} {c x : Value} {xs : List PyData} {d : PyData} {as bs : List Addr} {Q : Value → Shared → Prop}, Reads s.heap c (.tuple xs) as → Reads s.heap x d bs → PyData.canLayAll0 xs = true → d.canLay0 = true → X.A.units + 1 + min (PyData.depthAll xs) d.depth < cLine →
      Q (.bool (f (xs.any fun y => PyData.eqv y d))) s → wpAny (model X.prog X.w) X.A (compareOp op x c) Q X.xe s) : OpD X C (compareOp op) (oIn f) := by
  refine ⟨oIn.mono, fun pins s σ H x y v u Q I rx ry h => ?_⟩
  obtain ⟨B, n, env, m, σ', a, b, rfl, ok, la, lb, h⟩ := h
  unfold oIn at h
  split at h
  · rename_i da bs ha hb
    obtain ⟨h1, h2, h3⟩ := h
    obtain ⟨as, r1⟩ := Dp.reads I _ x v (now_dp ok.good (der_ok ok la ha) h1) rx
    have fin := any_eqv h1 bs h2
    unfold seqOf at hb
    split at hb
    · rename_i ys hd
      cases hb
      have h2' : okN 60 (.lst bs) = true := h2
      obtain ⟨cs, r2⟩ := Dp.reads I _ y u (now_dp ok.good (der_ok ok lb hd) h2') ry
      rw [py] at r2
      have sh := okN_shaped (by decide) h2'
      rw [py] at sh
      have cl := SeqAt.canLay_of_shaped sh
      rw [PyData.canLay0] at cl
      exact hl r2 r1 cl (SeqAt.canLay_of_shaped (okN_shaped (by decide) h1)) (room_in_shaped (okN_shaped (by decide) h1) hu) ⟨.bl _, _, I, rfl, by rw [fin]; exact h3 n _ ok.good (.refl _) (.bl _)⟩
    · rename_i ys hd
      cases hb
      have h2' : okN 60 (.tup bs) = true := h2
      obtain ⟨cs, r2⟩ := Dp.reads I _ y u (now_dp ok.good (der_ok ok lb hd) h2') ry
      rw [py] at r2
      have sh := okN_shaped (by decide) h2'
      rw [py] at sh
      have cl := SeqAt.canLay_of_shaped sh
      rw [PyData.canLay0] at cl
      exact ht r2 r1 cl (SeqAt.canLay_of_shaped (okN_shaped (by decide) h1)) (room_in_shaped (okN_shaped (by decide) h1) hu) ⟨.bl _, _, I, rfl, by rw [fin]; exact h3 n _ ok.good (.refl _) (.bl _)⟩
    · cases hb
  · exact h.elim
theorem op_inS (hu : X.A.units + 65 < cLine) : OpD X C (compareOp .In) (oIn id) := op_ind hu (fun a b c d e f => SeqAt.in_list_reads a b c d e f) fun a b c d e f => SeqAt.in_tuple_reads a b c d e f
theorem op_notInS (hu : X.A.units + 65 < cLine) : OpD X C (compareOp .NotIn) (oIn not) := op_ind hu (fun a b c d e f => SeqAt.notIn_list_reads a b c d e f) fun a b c d e f => SeqAt.notIn_tuple_reads a b c d e f
/-- is None -/
def isN : Lv → Bool
  | .f .non => true
  | _ => false
def oIsN (f : Bool → Bool) : Op2 := fun env m x y Q => match y with
  | .f .non => Q (.bl (f (isN x))) m
  | _ => False
theorem oIsN.mono {f : Bool → Bool} : Mono2 (oIsN f) := fun env m x y Q Q' i => by
  unfold oIsN
  split
  · exact i _ _
  · exact id
theorem isN_ok {w : World} {K : PySem.W.Frag} {n : Nw} {env : Env'} {σ : L2.St} {B : Nw} {m : Mem} {v : V} {x : Lv} (ok : Ok C w K B n env m σ) (h : LvOk C w K n env σ v x) : decide (v = .non) = isN x := by
  cases x with
  | o i =>
    obtain ⟨h1, y, h2⟩ := h
    obtain ⟨a, h3, h4⟩ := ok.env.own i y h2
    rw [h1] at h3; cases h3
    rfl
  | f d =>
    have h : FzN C w K n v d := h
    cases h <;> rfl
theorem op_isNd : OpD X C (compareOp .Is) (oIsN id) := by
  refine ⟨oIsN.mono, fun pins s σ H x y v u Q I rx ry h => ?_⟩
  obtain ⟨B, n, env, m, σ', a, b, rfl, ok, la, lb, h⟩ := h
  unfold oIsN at h
  split at h
  · have lb : FzN C X.w X.K n y .non := lb
    cases lb
    exact op_isN pins s σ n.H x .non v u Q I rx ry ⟨rfl, by rw [isN_ok ok la]; exact h n _ ok.good (.refl _) (.bl _)⟩
  · exact h.elim
theorem op_notNd : OpD X C (compareOp .IsNot) (oIsN not) := by
  refine ⟨oIsN.mono, fun pins s σ H x y v u Q I rx ry h => ?_⟩
  obtain ⟨B, n, env, m, σ', a, b, rfl, ok, la, lb, h⟩ := h
  unfold oIsN at h
  split at h
  · have lb : FzN C X.w X.K n y .non := lb
    cases lb
    exact op_notN pins s σ n.H x .non v u Q I rx ry ⟨rfl, by rw [isN_ok ok la]; exact h n _ ok.good (.refl _) (.bl _)⟩
  · exact h.elim
/-! ### ints -/
def oI (c : Int → Int → Prop) (g : Int → Int → Dat) : Op2 := fun _ m x y Q => match x, y with
  | .f (.int i), .f (.int j) => c i j ∧ Q (g i j) m
  | _, _ => False
theorem oI.mono {c : Int → Int → Prop} {g : Int → Int → Dat} : Mono2 (oI c g) := fun env m x y Q Q' i => by
  unfold oI
  split
  · exact fun h => ⟨h.1, i _ _ h.2⟩
  · exact id
theorem op_I {F : Value → Value → Sem Value} {c : Int → Int → Prop} {g : Int → Int → V} {g' : Int → Int → Dat} (h : OpR X F (rI c g)) (hg : ∀ i j C w K al G, Fz C w K al G (g i j) (g' i j)) : OpD X C F (oI c g') := by
  refine ⟨oI.mono, fun pins s σ H x y v u Q I rx ry q => ?_⟩
  obtain ⟨B, n, env, m, σ', a, b, rfl, ok, la, lb, q⟩ := q
  unfold oI at q
  split at q
  · rename_i i j
    have la : FzN C X.w X.K n x (.int i) := la
    have lb : FzN C X.w X.K n y (.int j) := lb
    cases la
    cases lb
    exact h pins s σ n.H _ _ v u Q I rx ry ⟨i, j, rfl, rfl, q.1, q.2 n _ ok.good (.refl _) (hg ..)⟩
  · exact q.elim
def oI0 (g : Int → Int → Dat) : Op2 := oI (fun _ _ => True) g
theorem op_I0 {F : Value → Value → Sem Value} {g : Int → Int → V} {g' : Int → Int → Dat} (h : OpR X F (rI0 g)) (hg : ∀ i j C w K al G, Fz C w K al G (g i j) (g' i j)) : OpD X C F (oI0 g') :=
  op_I (c := fun _ _ => True) (g := g) (fun pins s σ H x y v u Q I rx ry ⟨i, j, e1, e2, _, q⟩ => h pins s σ H x y v u Q I rx ry ⟨i, j, e1, e2, q⟩) hg
theorem op_subD : OpD X C (binaryOp .Sub) (oI0 fun i j => .int (i - j)) := op_I0 op_sub fun _ _ _ _ _ _ _ => .int _
theorem op_mulD : OpD X C (binaryOp .Mult) (oI CMul fun i j => .int (i * j)) := op_I op_mul fun _ _ _ _ _ _ _ => .int _
theorem op_mulWD : OpD X C (binaryOp .Mult) (oI CMulW fun i j => .int (i * j)) := op_I op_mulW fun _ _ _ _ _ _ _ => .int _
theorem op_fdivD : OpD X C (binaryOp .FloorDiv) (oI CDiv fun i j => .int (i / j)) := op_I op_fdiv fun _ _ _ _ _ _ _ => .int _
theorem op_fdivWD : OpD X C (binaryOp .FloorDiv) (oI CDivW fun i j => .int (i / j)) := op_I op_fdivW fun _ _ _ _ _ _ _ => .int _
theorem op_modD : OpD X C (binaryOp .Mod) (oI (fun _ j => 0 < j) fun i j => .int (i % j)) := op_I op_mod fun _ _ _ _ _ _ _ => .int _
theorem op_powD : OpD X C (binaryOp .Pow) (oI CPow fun i j => .int (i ^ j.toNat)) := op_I op_pow fun _ _ _ _ _ _ _ => .int _
theorem op_shlD : OpD X C (binaryOp .LShift) (oI CPow fun i j => .int (i * 2 ^ j.toNat)) := op_I op_shl fun _ _ _ _ _ _ _ => .int _
theorem op_shrD : OpD X C (binaryOp .RShift) (oI (fun _ j => 0 ≤ j) fun i j => .int (i / 2 ^ j.toNat)) := op_I op_shr fun _ _ _ _ _ _ _ => .int _
theorem op_andD : OpD X C (binaryOp .BitAnd) (oI0 fun i j => .int (Builtin.bitAnd i j)) := op_I0 op_and fun _ _ _ _ _ _ _ => .int _
theorem op_ltD : OpD X C (compareOp .Lt) (oI0 fun i j => .bl (decide (i < j))) := op_I0 op_lt fun _ _ _ _ _ _ _ => .bl _
theorem op_leD : OpD X C (compareOp .LtE) (oI0 fun i j => .bl (decide (i ≤ j))) := op_I0 op_le fun _ _ _ _ _ _ _ => .bl _
theorem op_gtD : OpD X C (compareOp .Gt) (oI0 fun i j => .bl (decide (j < i))) := op_I0 op_gt fun _ _ _ _ _ _ _ => .bl _
theorem op_geD : OpD X C (compareOp .GtE) (oI0 fun i j => .bl (decide (j ≤ i))) := op_I0 op_ge fun _ _ _ _ _ _ _ => .bl _
def oU (g : Int → Int) : Op1 := fun _ m x Q => match x with
  | .f (.int i) => Q (.int (g i)) m
  | _ => False
theorem un_negD : UnD X C (unaryOp .USub) (oU fun i => -i) := by
  refine ⟨fun env m x Q Q' i => by unfold oU; split <;> first | exact i _ _ | exact id, fun pins s σ H x v Q I rx q => ?_⟩
  obtain ⟨B, n, env, m, σ', a, rfl, ok, la, q⟩ := q
  unfold oU at q
  split at q
  · rename_i i
    have la : FzN C X.w X.K n x (.int i) := la
    cases la
    exact un_neg pins s σ n.H _ v Q I rx ⟨i, rfl, q n _ ok.good (.refl _) (.int _)⟩
  · exact q.elim
/-- chains a < b < c -/
def dChain (f g : Op2) (da db dc : TD) : TD := fun env m Q => da env m fun x m1 => db env m1 fun y m2 => f env m2 x y fun z m3 => match z with
  | .bl true => dc env m3 fun u m4 => g env m4 y u fun r m5 => Q (.f r) m5
  | .bl false => Q (.f (.bl false)) m3
  | _ => False
/-! ### + -/
def oAdd : Op2 := fun env m x y Q => match der env m x, der env m y with
  | some (.int i), some (.int j) => Q (.int (i + j)) m
  | some (.str a), some (.str b) => a.length + b.length ≤ sizeLine ∧ Q (.str (a ++ b)) m
  | some (.tup xs), some (.tup ys) => xs.length + ys.length ≤ sizeLine ∧ Q (.tup (xs ++ ys)) m
  | some (.lst xs), some (.lst ys) => xs.length + ys.length ≤ sizeLine ∧ Q (.lst (xs ++ ys)) m
  | _, _ => False
theorem oAdd.mono : Mono2 oAdd := fun env m x y Q Q' i => by
  unfold oAdd
  split <;> first | exact i _ _ | exact fun h => ⟨h.1, i _ _ h.2⟩ | exact id
end
theorem Rd.lstM {X : Cx} {pins : List (Addr × Obj)} {σ : L2.St} {H : Hp} {s : Shared} {l : Addr} {xs : List V} (I : Inv X pins σ H s) (h : Rd H l (.lst xs)) : xs.length ≤ sizeLine ∧ ∃ (its : List Value) (n : Nat), Vals xs its ∧ xs.length = its.length ∧ s.heap.get? l = some { cls := .type "list", data := .seq its.toArray n } := by
  obtain ⟨z, its, n, r, e⟩ := h.ok I.hok
  exact ⟨z, its, n, r, r.length, e⟩
section
variable {X : Cx} {C : Ct}
def rCatL : R2 := fun x y H Q => ∃ l b xs zs, x = .ref l ∧ y = .ref b ∧ Rd H l (.lst xs) ∧ Rd H b (.lst zs) ∧ xs.length + zs.length ≤ sizeLine ∧ ∀ p, H p = none → Q (.ref p) (upd H p (.lst (xs ++ zs)))
theorem op_catL : OpR X (binaryOp .Add) rCatL := by
  intro pins s σ H x y v u Q I rx ry h
  obtain ⟨l, b, xs, zs, rfl, rfl, hH, hB, hz, q⟩ := h
  cases rx
  cases ry
  obtain ⟨z, its, n, r, hl, e⟩ := Rd.lstM I hH
  obtain ⟨z2, its2, n2, r2, hl2, e2⟩ := Rd.lstM I hB
  refine PySem.P.add_list e e2 ?_ (by rw [List.size_toArray, List.size_toArray]; omega)
  have ea : its.toArray ++ its2.toArray = (its ++ its2).toArray := by simp
  rw [ea]
  exact ⟨.ref _, _, I.lnew (t' := s.toks) (r.append r2) (by rw [List.length_append]; omega), rfl, q _ I.fresh⟩
theorem now_fz {w : World} {K : PySem.W.Frag} {n : Nw} {v : V} {d : Dat} (h : Nowv C w K n v d) (hl : ∀ xs, d ≠ .lst xs) (hd : ∀ xs, d ≠ .dct xs) : FzN C w K n v d := by
  cases h with
  | fz z => exact z
  | lst _ _ => exact absurd rfl (hl _)
  | dct _ _ _ => exact absurd rfl (hd _)
theorem op_addD : OpD X C (binaryOp .Add) oAdd := by
  refine ⟨oAdd.mono, fun pins s σ H x y v u Q I rx ry q => ?_⟩
  obtain ⟨B, n, env, m, σ', a, b, rfl, ok, la, lb, q⟩ := q
  unfold oAdd at q
  split at q
  · rename_i i j h1 h2
    have z1 := now_fz (der_ok ok la h1) (by simp) (by simp)
    have z2 := now_fz (der_ok ok lb h2) (by simp) (by simp)
    cases z1
    cases z2
    exact op_add pins s σ n.H _ _ v u Q I rx ry ⟨i, j, rfl, rfl, q n _ ok.good (.refl _) (.int _)⟩
  · rename_i i j h1 h2
    have z1 := now_fz (der_ok ok la h1) (by simp) (by simp)
    have z2 := now_fz (der_ok ok lb h2) (by simp) (by simp)
    cases z1
    cases z2
    exact op_add_str pins s σ n.H _ _ v u Q I rx ry ⟨i, j, rfl, rfl, q.1, q.2 n _ ok.good (.refl _) (.str _)⟩
  · rename_i xs ys h1 h2
    obtain ⟨p, vs, rfl, s1, z1⟩ := tup_ok ok la (xs := xs) (by unfold tupOf; rw [h1])
    obtain ⟨r, us, rfl, s2, z2⟩ := tup_ok ok lb (xs := ys) (by unfold tupOf; rw [h2])
    have f1 := now_fz (der_ok ok la h1) (by simp) (by simp)
    have f2 := now_fz (der_ok ok lb h2) (by simp) (by simp)
    refine op_catA pins s σ n.H _ _ v u Q I rx ry ⟨p, r, vs, us, rfl, rfl, s1, s2, by rw [z1.length, z2.length]; exact q.1, fun e => ?_, fun _ e => ?_, fun _ _ p' hp => ?_⟩
    · subst e
      cases xs with
      | nil => exact q.2 n _ ok.good (.refl _) f2
      | cons _ _ => cases z1
    · subst e
      cases ys with
      | nil => exact q.2 n _ ok.good (.refl _) (by rw [List.append_nil]; exact f1)
      | cons _ _ => cases z2
    · obtain ⟨g2, l2⟩ := ok.good.freeze (o := .tup (vs ++ us)) hp
      exact q.2 _ _ g2 l2 (.tup (SqT.of upd_same) (FzAllN.le (z1.append z2) l2))
  · rename_i xs ys h1 h2
    obtain ⟨p, vs, rfl, s1, z1⟩ := lst_ok ok la (xs := xs) (by unfold lstOf; rw [h1])
    obtain ⟨r, us, rfl, s2, z2⟩ := lst_ok ok lb (xs := ys) (by unfold lstOf; rw [h2])
    refine op_catL pins s σ n.H _ _ v u Q I rx ry ⟨p, r, vs, us, rfl, rfl, s1, s2, by rw [z1.length, z2.length]; exact q.1, fun p' hp => ?_⟩
    obtain ⟨g2, l2⟩ := ok.good.freeze (o := .lst (vs ++ us)) hp
    exact q.2 _ _ g2 l2 (.lst (Rd.of upd_same) (FzAllN.le (z1.append z2) l2))
  · exact q.elim
/-- list + list, a new list -/
def nCat (da db : TD) : TN := fun env m Q => da env m fun x m1 => db env m1 fun y m2 => match lstOf env m2 x, lstOf env m2 y with
  | some xs, some ys => xs.length + ys.length ≤ sizeLine ∧ Q (xs ++ ys) m2
  | _, _ => False
theorem dn_cat {B : Nw} {a b : Expr} {da db : TD} {pos : Pos} (ha : DE X C B a da) (hb : DE X C B b db) : DN X C B (.BinOp a .Add b pos) (nCat da db) := by
  refine ⟨fun env m Q Q' i h => ha.mono _ _ _ _ (fun x m1 h1 => hb.mono _ _ _ _ (fun y m2 h2 => ?_) h1) h, imp (pe_op op_catL ha.run hb.run) ?_⟩
  · split at h2
    · exact ⟨h2.1, i _ _ h2.2⟩
    · exact h2.elim
  rintro σ H Q ⟨n, env, m, rfl, ok, h⟩
  refine ⟨n, env, m, rfl, ok, ha.mono _ _ _ _ (fun x m1 h1 n1 v g1 l1 lx => ?_) h⟩
  refine ⟨n1, env, m1, rfl, ok.go g1 l1, hb.mono _ _ _ _ (fun y m2 h2 n2 u g2 l2 ly => ?_) h1⟩
  have ok2 := ok.go g2 (l1.trans l2)
  split at h2
  · rename_i xs ys e1 e2
    obtain ⟨p, vs, rfl, s1, z1⟩ := lst_ok ok2 (lx.le l2) e1
    obtain ⟨r, us, rfl, s2, z2⟩ := lst_ok ok2 ly e2
    exact ⟨p, r, vs, us, rfl, rfl, s1, s2, by rw [z1.length, z2.length]; exact h2.1, fun p' hp => h2.2 n2 p' _ g2 (l1.trans l2) hp (z1.append z2)⟩
  · exact h2.elim
/-! ### items, slices, len -/
def oIx : Op2 := fun env m x y Q => match der env m x, y with
  | some (.lst xs), .f (.int i) => match atI xs i with
    | some d => Q d m
    | none => False
  | some (.tup xs), .f (.int i) => match atI xs i with
    | some d => Q d m
    | none => False
  | some (.str z), .f (.int i) => z.length ≤ sizeLine ∧ match atI z.cps.toList i with
    | some c => Q (.str ⟨#[c]⟩) m
    | none => False
  | _, _ => False
theorem oIx.mono : Mono2 oIx := fun env m x y Q Q' i => by
  unfold oIx
  split
  · split <;> first | exact i _ _ | exact id
  · split <;> first | exact i _ _ | exact id
  · split <;> first | exact fun h => ⟨h.1, i _ _ h.2⟩ | exact id
  · exact id
theorem atI_fz {w : World} {K : PySem.W.Frag} {n : Nw} {vs : List V} {xs : List Dat} {i : Int} {d : Dat} (z : FzAllN C w K n vs xs) (h : atI xs i = some d) : ∃ v, atI vs i = some v ∧ FzN C w K n v d := by
  unfold atI at h ⊢
  rw [z.length]
  cases e : ixN xs.length i with
  | none => rw [e] at h; cases h
  | some j =>
    rw [e] at h
    exact z.get h
theorem ix_D : IxD X C oIx := by
  refine ⟨oIx.mono, fun value slice pins s σ H x y v u Q I rx ry q hs => ?_⟩
  obtain ⟨B, n, env, m, σ', a, b, rfl, ok, la, lb, q⟩ := q
  unfold oIx at q
  split at q
  · rename_i xs i h1
    have lb : FzN C X.w X.K n y (.int i) := lb
    cases lb
    obtain ⟨p, vs, rfl, s1, z1⟩ := lst_ok ok la (xs := xs) (by unfold lstOf; rw [h1])
    split at q
    · rename_i d hd
      obtain ⟨z, hz, fz⟩ := atI_fz z1 hd
      exact ix_list value slice pins s σ n.H _ _ v u Q I rx ry ⟨p, vs, i, z, rfl, rfl, .inl s1, hz, q n _ ok.good (.refl _) fz⟩ hs
    · exact q.elim
  · rename_i xs i h1
    have lb : FzN C X.w X.K n y (.int i) := lb
    cases lb
    obtain ⟨p, vs, rfl, s1, z1⟩ := tup_ok ok la (xs := xs) (by unfold tupOf; rw [h1])
    split at q
    · rename_i d hd
      obtain ⟨z, hz, fz⟩ := atI_fz z1 hd
      exact ix_tup value slice pins s σ n.H _ _ v u Q I rx ry ⟨p, vs, i, z, rfl, rfl, s1, hz, q n _ ok.good (.refl _) fz⟩ hs
    · exact q.elim
  · rename_i z i h1
    have lb : FzN C X.w X.K n y (.int i) := lb
    cases lb
    have z1 := now_fz (der_ok ok la h1) (by simp) (by simp)
    cases z1
    obtain ⟨q1, q⟩ := q
    split at q
    · rename_i c hc
      exact ix_str value slice pins s σ n.H _ _ v u Q I rx ry ⟨z, i, c, rfl, rfl, q1, hc, q n _ ok.good (.refl _) (.str _)⟩ hs
    · exact q.elim
  · exact q.elim
def oLen : OpN := fun env m xs Q => match xs with
  | [x] => match der env m x with
    | some (.lst ys) => Q (.int ys.length) m
    | some (.tup ys) => Q (.int ys.length) m
    | some (.str z) => z.length ≤ sizeLine ∧ Q (.int z.length) m
    | _ => False
  | _ => False
theorem call_lenD : CallD X C (.builtin "len") oLen := by
  refine ⟨fun env m xs Q Q' i => ?_, fun pins s σ H xs us Q I r q => ?_⟩
  · unfold oLen
    split
    · split <;> first | exact i _ _ | exact fun h => ⟨h.1, i _ _ h.2⟩ | exact id
    · exact id
  obtain ⟨B, n, env, m, σ', ls, rfl, ok, la, q⟩ := q
  unfold oLen at q
  split at q
  · rename_i x
    cases la with
    | cons l1 l2 =>
      cases l2
      split at q
      · rename_i ys h1
        obtain ⟨p, vs, rfl, s1, z1⟩ := lst_ok ok l1 (xs := ys) (by unfold lstOf; rw [h1])
        exact call_len_seq pins s σ n.H _ us Q I r ⟨p, vs, rfl, .inl (.inl s1), by rw [z1.length]; exact q n _ ok.good (.refl _) (.int _)⟩
      · rename_i ys h1
        obtain ⟨p, vs, rfl, s1, z1⟩ := tup_ok ok l1 (xs := ys) (by unfold tupOf; rw [h1])
        exact call_len_seq pins s σ n.H _ us Q I r ⟨p, vs, rfl, .inr s1, by rw [z1.length]; exact q n _ ok.good (.refl _) (.int _)⟩
      · rename_i z h1
        have z1 := now_fz (der_ok ok l1 h1) (by simp) (by simp)
        cases z1
        exact call_len_str pins s σ n.H _ us Q I r ⟨z, rfl, q.1, q.2 n _ ok.good (.refl _) (.int _)⟩
      · exact q.elim
  · exact q.elim
end
end DL

set_option maxHeartbeats 1000000
namespace DL
open PySem PySem.Spec PyProof.Rows L2

/-! ### calls of built-ins by name -/
section
variable {X : Cx} {C : Ct} {B : Nw} {e : Expr} {es : List Expr} {da : TAd} {f : OpN} {x : Str} {p pos : Pos} {id T : String}
theorem nar_imp (hf : MonoN f) (ha : MonoA da) : ∀ σ H Q, lE C B X.w X.K (dN f da) σ H Q → tCB (rN C X.w X.K f) (lA C B X.w X.K da) σ H Q := by
  rintro σ H Q ⟨n, env, m, rfl, ok, h⟩
  refine ⟨n, env, m, rfl, ok, ha _ _ _ _ (fun xs m1 h1 n1 vs g1 l1 lx => ?_) h⟩
  exact ⟨B, n1, env, m1, σ, xs, rfl, ok.go g1 l1, lx, hf _ _ _ _ _ (fun z m2 h2 n2 v g2 l2 hz => h2 n2 v g2 (l1.trans l2) hz) h1⟩
theorem de_callB (hc : CallD X C (.builtin id) f) (hg : Gl X x) (hm : X.mg x = none) (hv : bootBuiltins x = some (.builtin id)) (ha : DA X C B (e :: es) da) (hn : x ≠ "__name__" := by decide) (hdb : (x == ("__debug__" : Str)) = false := by decide)
    (he : starEach (e :: es) X.env = (false, eval e X.env) :: starEach es X.env := by rfl) (hpl : (backTo pos (starEach es X.env)).any (·.1) = false := by rfl) : DE X C B (.Call (.Name x p) (e :: es) [] pos) (dN f da) :=
  ⟨dN.mono hc.mono ha.mono, imp (pe_callB hc.run hg hm hv ha.run hn hdb he hpl) (nar_imp hc.mono ha.mono)⟩
theorem de_callTy (hc : CallD X C (.type T) f) (hg : Gl X x) (hm : X.mg x = none) (hv : bootBuiltins x = some (.type T)) (ha : DA X C B (e :: es) da) (hn : x ≠ "__name__" := by decide) (hdb : (x == ("__debug__" : Str)) = false := by decide)
    (he : starEach (e :: es) X.env = (false, eval e X.env) :: starEach es X.env := by rfl) (hpl : (backTo pos (starEach es X.env)).any (·.1) = false := by rfl) : DE X C B (.Call (.Name x p) (e :: es) [] pos) (dN f da) :=
  ⟨dN.mono hc.mono ha.mono, imp (pe_callTy hc.run hg hm hv ha.run hn hdb he hpl) (nar_imp hc.mono ha.mono)⟩
end
/-! ### all, any, sum, min, max -/
def bools : List Dat → Option (List Bool)
  | [] => some []
  | .bl b :: r => (bools r).map (b :: ·)
  | _ => none
def intsD : List Dat → Option (List Int)
  | [] => some []
  | .int b :: r => (intsD r).map (b :: ·)
  | _ => none
section
variable {C : Ct} {w : World} {K : PySem.W.Frag} {B n : Nw} {m : Mem} {env : Env'} {σ : L2.St}
theorem bools_eq : ∀ {xs : List Dat} {bs : List Bool} {vs : List V}, bools xs = some bs → FzAllN C w K n vs xs → vs = bs.map V.bl
  | [], bs, vs, h, z => by cases h; cases z; rfl
  | x :: r, bs, vs, h, z => by
    cases z with
    | cons a b =>
      cases x with
      | bl c =>
        have h : (bools r).map (c :: ·) = some bs := h
        cases e : bools r with
        | none => rw [e] at h; cases h
        | some cs =>
          rw [e] at h
          cases h
          cases a
          rw [bools_eq e b]
          rfl
      | _ => cases h
theorem ints_eq : ∀ {xs : List Dat} {bs : List Int} {vs : List V}, intsD xs = some bs → FzAllN C w K n vs xs → vs = bs.map V.int
  | [], bs, vs, h, z => by cases h; cases z; rfl
  | x :: r, bs, vs, h, z => by
    cases z with
    | cons a b =>
      cases x with
      | int c =>
        have h : (intsD r).map (c :: ·) = some bs := h
        cases e : intsD r with
        | none => rw [e] at h; cases h
        | some cs =>
          rw [e] at h
          cases h
          cases a
          rw [ints_eq e b]
          rfl
      | _ => cases h
theorem LvsOk.one {vs x} (h : LvsOk C w K n env σ vs [x]) : ∃ v, vs = [v] ∧ LvOk C w K n env σ v x := by
  cases h with
  | cons a b => cases b; exact ⟨_, rfl, a⟩
theorem LvsOk.two {vs x y} (h : LvsOk C w K n env σ vs [x, y]) : ∃ v u, vs = [v, u] ∧ LvOk C w K n env σ v x ∧ LvOk C w K n env σ u y := by
  cases h with
  | cons a b => cases b with | cons c d => cases d; exact ⟨_, _, rfl, a, c⟩
end
/-- by one list of bools -/
def oBs (f : List Bool → Bool) : OpN := fun env m xs Q => match xs with
  | [x] => match lstOf env m x with
    | some ys => match bools ys with
      | some bs => Q (.bl (f bs)) m
      | none => False
    | none => False
  | _ => False
theorem oBs.mono {f} : MonoN (oBs f) := fun env m xs Q Q' i => by
  unfold oBs
  split
  · split
    · split <;> first | exact i _ _ | exact id
    · exact id
  · exact id
def oIs (f : List Int → Int) (c : List Int → Prop) : OpN := fun env m xs Q => match xs with
  | [x] => match seqOf env m x with
    | some ys => match intsD ys with
      | some ns => c ns ∧ Q (.int (f ns)) m
      | none => False
    | none => False
  | _ => False
theorem oIs.mono {f c} : MonoN (oIs f c) := fun env m xs Q Q' i => by
  unfold oIs
  split
  · split
    · split <;> first | exact fun h => ⟨h.1, i _ _ h.2⟩ | exact id
    · exact id
  · exact id
section
variable {X : Cx} {C : Ct}
theorem call_bs {id : String} {f : List Bool → Bool} (h : CallR X (.builtin id) (fun vs H Q => ∃ (a : Addr) (bs : List Bool), vs = [V.ref a] ∧ SqL X.K H a (bs.map V.bl) ∧ Q (.bl (f bs)) H)) : CallD X C (.builtin id) (oBs f) := by
  refine ⟨oBs.mono, fun pins s σ H xs us Q I r q => ?_⟩
  obtain ⟨B, n, env, m, σ', ls, rfl, ok, la, q⟩ := q
  unfold oBs at q
  split at q
  · obtain ⟨v, rfl, l1⟩ := la.one
    split at q
    · rename_i ys hy
      obtain ⟨p, vs, rfl, s1, z1⟩ := lst_ok ok l1 hy
      split at q
      · rename_i bs hb
        have e := bools_eq hb z1
        subst e
        exact h pins s σ n.H _ us Q I r ⟨p, bs, rfl, .inl s1, q n _ ok.good (.refl _) (.bl _)⟩
      · exact q.elim
    · exact q.elim
  · exact q.elim
theorem call_allD (hc : X.calm = true) : CallD X C (.builtin "all") (oBs fun bs => bs.all id) := call_bs (cr_all hc)
theorem call_anyD (hc : X.calm = true) : CallD X C (.builtin "any") (oBs fun bs => bs.any id) := call_bs (cr_any hc)
end
theorem iter_intTup {prog : Program} {w : World} {A : Around} {E : Value → Shared → Prop} {s : Shared} {l : Addr} {xs : Array (Int × Tok)} {Q : Value → Shared → Prop} (hl : s.heap.IsTuple l (intItems xs))
    (h : ∀ s₂ : Shared, s₂ = { s with heap := s.heap.push { cls := .type "tuple_iterator", data := .fields #[.ref l, .int 0 0] } } → (s₂.heap.IsTupleIter s.heap.objs.size l 0 ∧ s₂.heap.IsTuple l (intItems xs)) →
      (∀ b ∈ [s.heap.objs.size, l], b < s₂.heap.objs.size) → l ≠ s.heap.objs.size → Q (.ref s.heap.objs.size) s₂) : wpAny (model prog w) A (pyIter (.ref l)) Q E s := by
  refine wpAny_pyIter_tuple hl (h _ rfl ⟨⟨_, Heap.get?_push_size _ rfl, rfl, rfl⟩, ?_⟩ (fun b hb => ?_) ?_)
  · obtain ⟨o, ho, r⟩ := hl
    exact ⟨o, Heap.get?_push_of_some _ ho, r⟩
  · obtain ⟨o, ho, _⟩ := hl
    have hlt := Heap.lt_size ho
    have hb : b = s.heap.objs.size ∨ b = l := by simpa using hb
    show b < (s.heap.push _).objs.size
    rw [size_push']
    rcases hb with rfl | rfl
    · exact Nat.lt_succ_self _
    · exact Nat.lt_succ_of_lt hlt
  · obtain ⟨o, ho, _⟩ := hl
    exact Nat.ne_of_lt (Heap.lt_size ho)
section
variable {prog : Program} {w : World} {A : Around} {E : Value → Shared → Prop} {s : Shared} {l : Addr} {its : List Value} {ns : List Int} {Q : Value → Shared → Prop}
theorem kept_push {o : Obj} {wr : Addr} {h' : Heap} (hw : wr = s.heap.objs.size) (hk : ∀ b ob, b ∉ [wr] → (s.heap.push o).get? b = some ob → h'.get? b = some ob) : ∀ b ob, s.heap.get? b = some ob → h'.get? b = some ob := fun b ob e => by
  refine hk b ob ?_ (Heap.get?_push_of_some _ e)
  have := Heap.lt_size e
  subst hw
  simpa using Nat.ne_of_lt this
theorem max_rawT (hh : A.handled = none) (hl : IsTup s.heap l its.toArray) (hi : IntsAre its ns) (hne : 0 < ns.length)
    (h : ∀ h' tk M t', (∀ b o, s.heap.get? b = some o → h'.get? b = some o) → M ∈ ns → (∀ a, a ∈ ns → a ≤ M) → Q (.int M t') { s with heap := h', toks := tk }) : wpAny (model prog w) A (call (.builtin "max") [.ref l]) Q E s := by
  obtain ⟨xs, e⟩ := hi.allInts.items
  have hn : numsOf (intItems xs).toList = ns := by rw [← e]; exact hi.numsOf
  rw [nums_intItems] at hn
  subst hn
  rw [e] at hl
  have hsz : 0 < xs.size := by simpa using hne
  refine call_max_walk (iter_intTup hl fun s₂ e st hfp hlI => ?_)
  subst e
  refine ⟨_, _, _, _, _, _, _, rfl, Walks.tuple (A := A.in1) hh _ l hlI (intItems xs), st, hfp, by simpa [intItems] using hsz, CmpOf.ints_gt (numAt xs) (fun _ _ => intItems_at), fun v h' tk hP hk => ?_⟩
  have hv : (intItems xs)[argBest (fun i j => decide (numAt xs i > numAt xs j)) (xs.size - 1)]? = some v := by simpa [intItems] using hP
  obtain ⟨t, rfl⟩ := intItems_at hv
  obtain ⟨h1, h2⟩ := argBest_gt (numAt xs) (xs.size - 1)
  refine h h' tk _ t (kept_push rfl hk) ?_ fun a ha => ?_
  · rw [numAt_eq]; exact PySem.getD_mem (by rw [List.length_map, Array.length_toList]; omega)
  · obtain ⟨j, hj, rfl⟩ := mem_getD ha
    rw [List.length_map, Array.length_toList] at hj
    rw [← numAt_eq]; exact h2 j (by omega)
theorem min_rawT (hh : A.handled = none) (hl : IsTup s.heap l its.toArray) (hi : IntsAre its ns) (hne : 0 < ns.length)
    (h : ∀ h' tk M t', (∀ b o, s.heap.get? b = some o → h'.get? b = some o) → M ∈ ns → (∀ a, a ∈ ns → M ≤ a) → Q (.int M t') { s with heap := h', toks := tk }) : wpAny (model prog w) A (call (.builtin "min") [.ref l]) Q E s := by
  obtain ⟨xs, e⟩ := hi.allInts.items
  have hn : numsOf (intItems xs).toList = ns := by rw [← e]; exact hi.numsOf
  rw [nums_intItems] at hn
  subst hn
  rw [e] at hl
  have hsz : 0 < xs.size := by simpa using hne
  refine call_min_walk (iter_intTup hl fun s₂ e st hfp hlI => ?_)
  subst e
  refine ⟨_, _, _, _, _, _, _, rfl, Walks.tuple (A := A.in1) hh _ l hlI (intItems xs), st, hfp, by simpa [intItems] using hsz, CmpOf.ints_lt (numAt xs) (fun _ _ => intItems_at), fun v h' tk hP hk => ?_⟩
  have hv : (intItems xs)[argBest (fun i j => decide (numAt xs i < numAt xs j)) (xs.size - 1)]? = some v := by simpa [intItems] using hP
  obtain ⟨t, rfl⟩ := intItems_at hv
  obtain ⟨h1, h2⟩ := argBest_lt (numAt xs) (xs.size - 1)
  refine h h' tk _ t (kept_push rfl hk) ?_ fun a ha => ?_
  · rw [numAt_eq]; exact PySem.getD_mem (by rw [List.length_map, Array.length_toList]; omega)
  · obtain ⟨j, hj, rfl⟩ := mem_getD ha
    rw [List.length_map, Array.length_toList] at hj
    rw [← numAt_eq]; exact h2 j (by omega)
end
/-- the greatest, the least of a list (0 of none) -/
def maxI : List Int → Int
  | [] => 0
  | [x] => x
  | x :: y :: r => max x (maxI (y :: r))
def minI : List Int → Int
  | [] => 0
  | [x] => x
  | x :: y :: r => min x (minI (y :: r))
theorem maxI_ge : ∀ {ns : List Int} {a : Int}, a ∈ ns → a ≤ maxI ns
  | [], a, h => by cases h
  | [x], a, h => by simp at h; subst h; exact Int.le_refl _
  | x :: y :: r, a, h => by
    rw [maxI]
    rcases List.mem_cons.mp h with rfl | h
    · omega
    · have := maxI_ge h; omega
theorem maxI_mem : ∀ {ns : List Int}, 0 < ns.length → maxI ns ∈ ns
  | [x], _ => by simp [maxI]
  | x :: y :: r, _ => by
    have := maxI_mem (ns := y :: r) (by simp)
    rw [maxI]
    by_cases h : maxI (y :: r) ≤ x
    · rw [Int.max_eq_left h]; simp
    · rw [Int.max_eq_right (by omega)]; exact List.mem_cons_of_mem _ this
theorem minI_le : ∀ {ns : List Int} {a : Int}, a ∈ ns → minI ns ≤ a
  | [], a, h => by cases h
  | [x], a, h => by simp at h; subst h; exact Int.le_refl _
  | x :: y :: r, a, h => by
    rw [minI]
    rcases List.mem_cons.mp h with rfl | h
    · omega
    · have := minI_le h; omega
theorem minI_mem : ∀ {ns : List Int}, 0 < ns.length → minI ns ∈ ns
  | [x], _ => by simp [minI]
  | x :: y :: r, _ => by
    have := minI_mem (ns := y :: r) (by simp)
    rw [minI]
    by_cases h : x ≤ minI (y :: r)
    · rw [Int.min_eq_left h]; simp
    · rw [Int.min_eq_right (by omega)]; exact List.mem_cons_of_mem _ this
section
variable {X : Cx} {C : Ct}
theorem call_isI {id : String} {f : List Int → Int} {c : List Int → Prop} (hl : CallR X (.builtin id) (fun vs H Q => ∃ (a : Addr) (ns : List Int), vs = [V.ref a] ∧ SqL X.K H a (ns.map V.int) ∧ c ns ∧ Q (.int (f ns)) H))
    (ht : CallR X (.builtin id) (fun vs H Q => ∃ (a : Addr) (ns : List Int), vs = [V.ref a] ∧ SqT X.K H a (ns.map V.int) ∧ c ns ∧ Q (.int (f ns)) H)) : CallD X C (.builtin id) (oIs f c) := by
  refine ⟨oIs.mono, fun pins s σ H xs us Q I r q => ?_⟩
  obtain ⟨B, n, env, m, σ', ls, rfl, ok, la, q⟩ := q
  unfold oIs at q
  split at q
  · obtain ⟨v, rfl, l1⟩ := la.one
    split at q
    · rename_i ys hy
      obtain ⟨p, vs, rfl, s1, z1⟩ := seq_ok ok l1 hy
      split at q
      · rename_i bs hb
        have e := ints_eq hb z1
        subst e
        rcases s1 with s1 | s1
        · exact hl pins s σ n.H _ us Q I r ⟨p, bs, rfl, s1, q.1, q.2 n _ ok.good (.refl _) (.int _)⟩
        · exact ht pins s σ n.H _ us Q I r ⟨p, bs, rfl, s1, q.1, q.2 n _ ok.good (.refl _) (.int _)⟩
      · exact q.elim
    · exact q.elim
  · exact q.elim
theorem max_uniq {ns : List Int} {M : Int} (h1 : M ∈ ns) (h2 : ∀ a, a ∈ ns → a ≤ M) : M = maxI ns := Int.le_antisymm (maxI_ge h1) (h2 _ (maxI_mem (List.length_pos_of_mem h1)))
theorem min_uniq {ns : List Int} {M : Int} (h1 : M ∈ ns) (h2 : ∀ a, a ∈ ns → M ≤ a) : M = minI ns := Int.le_antisymm (h2 _ (minI_mem (List.length_pos_of_mem h1))) (minI_le h1)
theorem call_maxD (hc : X.calm = true) : CallD X C (.builtin "max") (oIs maxI fun ns => 0 < ns.length) := by
  refine call_isI (fun pins s σ H xs us Q I r ⟨a, ns, e, hs, hl, q⟩ => cr_max hc pins s σ H xs us Q I r ⟨a, ns, e, hs, hl, fun M h1 h2 => by rw [max_uniq h1 h2]; exact q⟩) fun pins s σ H xs us Q I r ⟨a, ns, e, hs, hl, q⟩ => ?_
  subst e
  obtain ⟨its, rv, p, _⟩ := I.tuple hs
  rw [Vals.ref1 r]
  exact max_rawT (I.ok.hd hc) p rv.ints hl fun h' tk M t' hk h1 h2 => ⟨.int _, H, I.kept hk, ⟨_, rfl⟩, by rw [max_uniq h1 h2]; exact q⟩
theorem call_minD (hc : X.calm = true) : CallD X C (.builtin "min") (oIs minI fun ns => 0 < ns.length) := by
  refine call_isI (fun pins s σ H xs us Q I r ⟨a, ns, e, hs, hl, q⟩ => cr_min hc pins s σ H xs us Q I r ⟨a, ns, e, hs, hl, fun M h1 h2 => by rw [min_uniq h1 h2]; exact q⟩) fun pins s σ H xs us Q I r ⟨a, ns, e, hs, hl, q⟩ => ?_
  subst e
  obtain ⟨its, rv, p, _⟩ := I.tuple hs
  rw [Vals.ref1 r]
  exact min_rawT (I.ok.hd hc) p rv.ints hl fun h' tk M t' hk h1 h2 => ⟨.int _, H, I.kept hk, ⟨_, rfl⟩, by rw [min_uniq h1 h2]; exact q⟩
/-- by one int -/
def oN1 (f : Lv → Option Dat) : OpN := fun _ m xs Q => match xs with
  | [x] => match f x with
    | some d => Q d m
    | none => False
  | _ => False
theorem oN1.mono {f} : MonoN (oN1 f) := fun env m xs Q Q' i => by
  unfold oN1
  split
  · split <;> first | exact i _ _ | exact id
  · exact id
def fAbs : Lv → Option Dat
  | .f (.int i) => some (.int (if i < 0 then -i else i))
  | _ => none
def fInt : Lv → Option Dat
  | .f (.int i) => some (.int i)
  | .f (.bl b) => some (.int (if b = true then 1 else 0))
  | _ => none
theorem call_absD : CallD X C (.builtin "abs") (oN1 fAbs) := by
  refine ⟨oN1.mono, fun pins s σ H xs us Q I r q => ?_⟩
  obtain ⟨B, n, env, m, σ', ls, rfl, ok, la, q⟩ := q
  unfold oN1 at q
  split at q
  · obtain ⟨v, rfl, l1⟩ := la.one
    rename_i x
    cases x with
    | o k => exact q.elim
    | f d =>
      cases d with
      | int i =>
        have l1 : FzN C X.w X.K n v (.int i) := l1
        cases l1
        exact call_abs pins s σ n.H _ us Q I r ⟨i, rfl, q n _ ok.good (.refl _) (.int _)⟩
      | _ => exact q.elim
  · exact q.elim
theorem call_intD : CallD X C (.type "int") (oN1 fInt) := by
  refine ⟨oN1.mono, fun pins s σ H xs us Q I r q => ?_⟩
  obtain ⟨B, n, env, m, σ', ls, rfl, ok, la, q⟩ := q
  unfold oN1 at q
  split at q
  · obtain ⟨v, rfl, l1⟩ := la.one
    rename_i x
    cases x with
    | o k => exact q.elim
    | f d =>
      cases d with
      | int i =>
        have l1 : FzN C X.w X.K n v (.int i) := l1
        cases l1
        exact call_int1 pins s σ n.H _ us Q I r (.inl ⟨i, rfl, q n _ ok.good (.refl _) (.int _)⟩)
      | bl i =>
        have l1 : FzN C X.w X.K n v (.bl i) := l1
        cases l1
        exact call_int1 pins s σ n.H _ us Q I r (.inr ⟨i, rfl, q n _ ok.good (.refl _) (.int _)⟩)
      | _ => exact q.elim
  · exact q.elim
/-- tuple(x), list(x) -/
def oTuple : OpN := fun env m xs Q => match xs with
  | [x] => match seqOf env m x with
    | some ys => Q (.tup ys) m
    | none => False
  | _ => False
theorem call_tupleD : CallD X C (.type "tuple") oTuple := by
  refine ⟨fun env m xs Q Q' i => ?_, fun pins s σ H xs us Q I r q => ?_⟩
  · unfold oTuple
    split
    · split <;> first | exact i _ _ | exact id
    · exact id
  obtain ⟨B, n, env, m, σ', ls, rfl, ok, la, q⟩ := q
  unfold oTuple at q
  split at q
  · obtain ⟨v, rfl, l1⟩ := la.one
    split at q
    · rename_i ys hy
      unfold seqOf at hy
      split at hy
      · rename_i zs hd
        cases hy
        obtain ⟨p, vs, rfl, s1, z1⟩ := lst_ok ok l1 (xs := ys) (by unfold lstOf; rw [hd])
        refine call_tuple_of pins s σ n.H _ us Q I r ⟨p, vs, rfl, .inl ⟨.inl s1, fun l hl => ?_⟩⟩
        obtain ⟨g2, l2⟩ := ok.good.freeze (o := .tup vs) hl
        exact q _ _ g2 l2 (.tup (SqT.of upd_same) (FzAllN.le z1 l2))
      · rename_i zs hd
        cases hy
        obtain ⟨p, vs, rfl, s1, z1⟩ := tup_ok ok l1 (xs := ys) (by unfold tupOf; rw [hd])
        exact call_tuple_of pins s σ n.H _ us Q I r ⟨p, vs, rfl, .inr ⟨s1, q n _ ok.good (.refl _) (now_fz (der_ok ok l1 hd) (by simp) (by simp))⟩⟩
      · cases hy
    · exact q.elim
  · exact q.elim
def nList (da : TD) : TN := fun env m Q => da env m fun x m1 => match seqOf env m1 x with
  | some ys => Q ys m1
  | none => False
theorem dn_list {B : Nw} {a : Expr} {da : TD} {p pos : Pos} (hg : Gl X "list") (hm : X.mg "list" = none) (hv : bootBuiltins "list" = some (.type "list")) (ha : DE X C B a da)
    (he : starEach [a] X.env = (false, eval a X.env) :: starEach [] X.env := by rfl) (hpl : (backTo pos (starEach [] X.env)).any (·.1) = false := by rfl) : DN X C B (.Call (.Name "list" p) [a] [] pos) (nList da) := by
  refine ⟨fun env m Q Q' i h => ha.mono _ _ _ _ (fun x m1 h1 => ?_) h, imp (pe_callTy call_list_of hg hm hv (pa_cons ha.run pa_nil he) (by decide) (by decide) he hpl) ?_⟩
  · split at h1
    · exact i _ _ h1
    · exact h1.elim
  rintro σ H Q ⟨n, env, m, rfl, ok, h⟩
  refine ⟨n, env, m, rfl, ok, ha.mono _ _ _ _ (fun x m1 h1 n1 v g1 l1 lx => ?_) h⟩
  split at h1
  · rename_i ys hy
    obtain ⟨p, vs, rfl, s1, z1⟩ := seq_ok (ok.go g1 l1) lx hy
    exact ⟨p, vs, rfl, s1, fun l hl => h1 n1 l vs g1 l1 hl z1⟩
  · exact h1.elim
/-! ### slices -/
def cutD {α : Type} (xs : List α) (lo hi : Option Int) : List α := (xs.drop (HT.sIx xs.length 0 lo)).take (HT.sIx xs.length xs.length hi - HT.sIx xs.length 0 lo)
abbrev TOd := Env' → Mem → (Option Int → Mem → Prop) → Prop
def lO (C : Ct) (B : Nw) (w : World) (K : PySem.W.Frag) (d : TOd) : TO := fun σ H Q => ∃ n env m, n.H = H ∧ Ok C w K B n env m σ ∧ d env m fun i m' => ∀ n', Good C w K n' m' → n.le n' → Q i n'.H
structure DO (X : Cx) (C : Ct) (B : Nw) (e : Option Expr) (d : TOd) : Prop where
  mono : ∀ env m (Q Q' : Option Int → Mem → Prop), (∀ x m', Q x m' → Q' x m') → d env m Q → d env m Q'
  run : PO X e (lO C B X.w X.K d)
def dNo : TOd := fun _ m Q => Q none m
def dPart (d : TD) : TOd := fun env m Q => d env m fun x m1 => match x with
  | .f (.int i) => Q (some i) m1
  | _ => False
theorem impO {e : Option Expr} {t t' : TO} (h : PO X e t) (i : ∀ σ H Q, t' σ H Q → t σ H Q) : PO X e t' := ⟨fun pins s σ H Q I q => h.run pins s σ H Q I (i σ H Q q)⟩
theorem do_none {B : Nw} : DO X C B none dNo := ⟨fun _ _ _ _ i => i _ _, impO po_none (by
  rintro σ H Q ⟨n, env, m, rfl, ok, h⟩
  exact h n ok.good (.refl _))⟩
theorem do_some {B : Nw} {e : Expr} {d : TD} (h : DE X C B e d) : DO X C B (some e) (dPart d) := by
  refine ⟨fun env m Q Q' i q => h.mono _ _ _ _ (fun x m1 h1 => ?_) q, impO (po_some h.run) ?_⟩
  · cases x with
    | o k => exact h1
    | f y => cases y <;> first | exact i _ _ h1 | exact h1
  rintro σ H Q ⟨n, env, m, rfl, ok, q⟩
  refine ⟨n, env, m, rfl, ok, h.mono _ _ _ _ (fun x m1 h1 n1 v g1 l1 lx => ?_) q⟩
  cases x with
  | o k => exact h1.elim
  | f y =>
    cases y with
    | int i => cases lx; exact ⟨i, rfl, h1 n1 g1 l1⟩
    | _ => exact h1.elim
def dSl (d : TD) (lo hi : TOd) : TD := fun env m Q => d env m fun x m1 => lo env m1 fun a m2 => hi env m2 fun b m3 => match der env m3 x with
  | some (.lst xs) => Q (.f (.lst (cutD xs a b))) m3
  | some (.tup xs) => Q (.f (.tup (cutD xs a b))) m3
  | _ => False
theorem FzAll.cut {w : World} {K : PySem.W.Frag} {n : Nw} {vs : List V} {ds : List Dat} (z : FzAllN C w K n vs ds) (a b : Option Int) : FzAllN C w K n (cutV vs a b) (cutD ds a b) := by
  unfold cutV cutD
  rw [z.length]
  exact (z.drop _).take _
theorem cut_whole {w : World} {K : PySem.W.Frag} {n : Nw} {vs : List V} {ds : List Dat} (z : FzAllN C w K n vs ds) {a b : Option Int} (h : HT.sIx vs.length 0 a = 0 ∧ HT.sIx vs.length vs.length b = vs.length) : cutD ds a b = ds := by
  unfold cutD
  rw [← z.length, h.1, h.2]
  simp [z.length]
def rSlD (C : Ct) (w : World) (K : PySem.W.Frag) : V → Option Int → Option Int → Hp → VK → Prop := fun v a b H Q => (∃ p vs, v = .ref p ∧ Rd H p (.lst vs) ∧ ∀ q, H q = none → Q (.ref q) (upd H q (.lst (cutV vs a b)))) ∨ rSlA K v a b H Q
theorem sl_D : SlR X (rSlD C X.w X.K) := SlR.or (r := fun v a b H Q => ∃ p vs, v = .ref p ∧ Rd H p (.lst vs) ∧ ∀ q, H q = none → Q (.ref q) (upd H q (.lst (cutV vs a b))))
  (fun pins s σ H x v vl vu lo hi sl Q I rx hs pl pu ⟨p, vs, e, hr, h⟩ => sl_list pins s σ H x v vl vu lo hi sl Q I rx hs pl pu ⟨p, vs, e, .inl hr, h⟩) sl_tupA
theorem de_sl {B : Nw} {e : Expr} {lo hi : Option Expr} {d : TD} {dl dh : TOd} {p2 pos : Pos} (he : DE X C B e d) (hl : DO X C B lo dl) (hh : DO X C B hi dh) : DE X C B (.Subscript e (.Slice lo hi none p2) pos) (dSl d dl dh) := by
  refine ⟨fun env m Q Q' i q => he.mono _ _ _ _ (fun x m1 h1 => hl.mono _ _ _ _ (fun a m2 h2 => hh.mono _ _ _ _ (fun b m3 h3 => ?_) h2) h1) q, imp (pe_slice (sl_D (C := C)) he.run hl.run hh.run) ?_⟩
  · split at h3 <;> first | exact i _ _ h3 | exact h3.elim
  rintro σ H Q ⟨n, env, m, rfl, ok, q⟩
  refine ⟨n, env, m, rfl, ok, he.mono _ _ _ _ (fun x m1 h1 n1 v g1 l1 lx => ?_) q⟩
  refine ⟨n1, env, m1, rfl, ok.go g1 l1, hl.mono _ _ _ _ (fun a m2 h2 n2 g2 l2 => ?_) h1⟩
  have l12 := l1.trans l2
  refine ⟨n2, env, m2, rfl, ok.go g2 l12, hh.mono _ _ _ _ (fun b m3 h3 n3 g3 l3 => ?_) h2⟩
  have l13 := l12.trans l3
  have ok3 := ok.go g3 l13
  have lx3 := (lx.le l2).le l3
  split at h3
  · rename_i xs hd
    obtain ⟨p, vs, rfl, s1, z1⟩ := lst_ok ok3 lx3 (xs := xs) (by unfold lstOf; rw [hd])
    refine .inl ⟨p, vs, rfl, s1, fun q hq => ?_⟩
    obtain ⟨g4, l4⟩ := g3.freeze (o := .lst (cutV vs a b)) hq
    exact h3 _ _ g4 (l13.trans l4) (.lst (Rd.of upd_same) (FzAllN.le (z1.cut a b) l4))
  · rename_i xs hd
    obtain ⟨p, vs, rfl, s1, z1⟩ := tup_ok ok3 lx3 (xs := xs) (by unfold tupOf; rw [hd])
    refine .inr ⟨p, vs, rfl, s1, fun hw => ?_, fun hw q hq => ?_⟩
    · rw [cut_whole z1 hw] at h3
      exact h3 n3 _ g3 l13 (now_fz (der_ok ok3 lx3 hd) (by simp) (by simp))
    · obtain ⟨g4, l4⟩ := g3.freeze (o := .tup (cutV vs a b)) hq
      exact h3 _ _ g4 (l13.trans l4) (.tup (SqT.of upd_same) (FzAllN.le (z1.cut a b) l4))
  · exact h3.elim
end
end DL

set_option maxHeartbeats 1000000
namespace DL
open PySem PySem.Spec PyProof.Rows L2

/-! ### isinstance -/
structure CtOk (C : Ct) (K : PySem.W.Frag) : Prop where
  ii : ∀ c d b, C.isaI c d = some b → PySem.W.kitOne K (.ref (C.addr c)) (.ref (C.addr d)) = some b
  ib : ∀ c T b, C.isaB c T = some b → PySem.W.kitOne K (.ref (C.addr c)) (.type T) = some b
  it : ∀ T d b, C.isaT T d = some b → PySem.W.kitOne K (.type T) (.ref (C.addr d)) = some b
  cls : ∀ c, C.own c = true → Cls K (C.addr c) ∧ PySem.W.findIn K (.ref (C.addr c)) "__class__" = some (some (.builtin "object.__class__")) ∧ PySem.W.specialIn K (.builtin "object.__class__") "__get__" = some (some (.builtin "getset_descriptor.__get__")) ∧
    PySem.W.takesIn K (.builtin "object.__class__") = some true ∧ PySem.W.mroIn K (C.addr c) (.type "object") = some true
def tyN : Dat → Option String
  | .non => some "NoneType"
  | .bl _ => some "bool"
  | .int _ => some "int"
  | .str _ => some "str"
  | .tup _ => some "tuple"
  | .lst _ => some "list"
  | .dct _ => some "dict"
  | _ => none
def isT (t T : String) : Option Bool := if T = "int" then some (t = "int" || t = "bool") else if T = "bool" ∨ T = "str" ∨ T = "tuple" ∨ T = "list" ∨ T = "dict" then some (t == T) else none
def isa1 (C : Ct) (x c : Dat) : Option Bool := match c with
  | .ty T => match tyN x with
    | some t => isT t T
    | none => match x with
      | .ins c _ => if C.own c = true then C.isaB c T else none
      | _ => none
  | .cls d => match tyN x with
    | some t => C.isaT t d
    | none => match x with
      | .ins c _ => if C.own c = true then C.isaI c d else none
      | _ => none
  | _ => none
def isaL (C : Ct) (x : Dat) : List Dat → Option Bool
  | [] => some false
  | c :: r => match isa1 C x c with
    | some true => some true
    | some false => isaL C x r
    | none => none
def isaD (C : Ct) (x c : Dat) : Option Bool := match c with
  | .tup cs => if cs.isEmpty = true then none else isaL C x cs
  | c => isa1 C x c
def derI (env : Env') (m : Mem) (x : Lv) : Option Dat := match x with
  | .f (.obj k) => match m[k]? with
    | some (.ins c xs) => some (.ins c xs)
    | _ => der env m x
  | .o i => match env[i]? with
    | some (some (.own (.ins c xs))) => some (.ins c xs)
    | _ => der env m x
  | _ => der env m x
def oIsi (C : Ct) : OpN := fun env m xs Q => match xs with
  | [x, .f c] => match derI env m x with
    | some d => match isaD C d c with
      | some b => Q (.bl b) m
      | none => False
    | none => False
  | _ => False
theorem oIsi.mono {C : Ct} : MonoN (oIsi C) := fun env m xs Q Q' i => by
  unfold oIsi
  split
  · split
    · split <;> first | exact i _ _ | exact id
    · exact id
  · exact id
theorem isT_ok {K : PySem.W.Frag} {d : Dat} {t T : String} {b : Bool} (h : tyN d = some t) (e : isT t T = some b) : PySem.W.kitOne K (.type t) (.type T) = some b := by
  have ht : t = "NoneType" ∨ t = "bool" ∨ t = "int" ∨ t = "str" ∨ t = "tuple" ∨ t = "list" ∨ t = "dict" := by
    cases d <;> first | cases h; simp | cases h
  have hT : T = "int" ∨ T = "bool" ∨ T = "str" ∨ T = "tuple" ∨ T = "list" ∨ T = "dict" := by
    unfold isT at e
    split at e
    · exact .inl ‹_›
    · split at e
      · exact .inr ‹_›
      · cases e
  apply kit_ty
  rcases ht with rfl | rfl | rfl | rfl | rfl | rfl | rfl <;> rcases hT with rfl | rfl | rfl | rfl | rfl | rfl <;> (rw [← e]; decide +kernel)
section
variable {X : Cx} {C : Ct}
/-- the type of a value as the library asks for it -/
theorem kit_dat {B n : Nw} {env : Env'} {m : Mem} {σ σ' : L2.St} {pins : List (Addr × Obj)} {s : Shared} {v : V} {u : Value} {x : Lv} {d : Dat} (T : CtOk C X.K) (I : Inv X pins σ n.H s) (ok : Ok C X.w X.K B n env m σ') (lx : LvOk C X.w X.K n env σ' v x)
    (hd : derI env m x = some d) (rx : RelV v u) : (∀ t, tyN d = some t → ∃ P, PySem.W.KitX X.K u (.type t) P ∧ P s.heap ∧ u ≠ .builtin "__main__.__loader__#opaque") ∧
      (∀ c xs, d = .ins c xs → C.own c = true → ∃ P, PySem.W.KitX X.K u (.ref (C.addr c)) P ∧ P s.heap ∧ u ≠ .builtin "__main__.__loader__#opaque") := by
  have viaIns : ∀ {a : Addr} {c : Nat} {dx : Addr} {fs : List (Str × V)}, C.own c = true → v = .ref a → n.H a = some (.ins (C.addr c) dx fs) → ∃ P, PySem.W.KitX X.K u (.ref (C.addr c)) P ∧ P s.heap ∧ u ≠ .builtin "__main__.__loader__#opaque" := by
    intro a c dx fs ho hv he
    subst hv
    obtain ⟨c1, c2, c3, c4, c5⟩ := T.cls c ho
    exact kit_of I rx (.base (.ins he c1 c2 c3 c4 c5))
  have viaNow : ∀ {d : Dat}, Nowv C X.w X.K n v d → ∀ t, tyN d = some t → ∃ P, PySem.W.KitX X.K u (.type t) P ∧ P s.heap ∧ u ≠ .builtin "__main__.__loader__#opaque" := by
    intro d hz t ht
    cases hz with
    | lst h1 h2 => cases ht; exact kit_of I rx (.base (.lst h1))
    | @dct a es kvs h1 h2 h3 =>
      cases ht
      cases (show u = Value.ref a from rx)
      have q := I.hok a _ h1
      obtain ⟨⟨o, ep, e1, e2, _⟩, _⟩ := (show _ ∧ _ from q)
      exact ⟨_, PySem.W.kitx_dict, ⟨o, e1, e2.1⟩, fun z => nomatch z⟩
    | fz z =>
      cases z with
      | non => cases ht; exact kit_of I rx (.base .non)
      | bl b => cases ht; exact kit_of I rx (.base (.bl b))
      | int i => cases ht; exact kit_of I rx (.base (.int i))
      | str y => cases ht; exact kit_of I rx (.base (.str y))
      | tup h1 h2 =>
        cases ht
        rename_i a vs ds
        cases (show u = Value.ref a from rx)
        obtain ⟨its, r, ⟨o, e1, e2, _⟩, _⟩ := I.tuple (SqT.keep ok.good.sub h1)
        exact ⟨_, PySem.W.kitx_tuple, ⟨o, e1, e2⟩, fun z => nomatch z⟩
      | lst h1 h2 =>
        cases ht
        rename_i a vs ds
        cases (show u = Value.ref a from rx)
        obtain ⟨_, its, k, _, _, e1⟩ := Rd.lstM I (rdUp ok.good h1)
        exact ⟨_, PySem.W.kitx_list, ⟨_, e1, rfl⟩, fun z => nomatch z⟩
      | @dct a es kvs h1 h2 h3 =>
        cases ht
        cases (show u = Value.ref a from rx)
        have q := I.hok a _ (ok.good.sub _ _ h1)
        obtain ⟨⟨o, ep, e1, e2, _⟩, _⟩ := (show _ ∧ _ from q)
        exact ⟨_, PySem.W.kitx_dict, ⟨o, e1, e2.1⟩, fun z => nomatch z⟩
      | _ => cases ht
  have viaDer : der env m x = some d → (∀ t, tyN d = some t → ∃ P, PySem.W.KitX X.K u (.type t) P ∧ P s.heap ∧ u ≠ .builtin "__main__.__loader__#opaque") ∧
      (∀ c xs, d = .ins c xs → C.own c = true → ∃ P, PySem.W.KitX X.K u (.ref (C.addr c)) P ∧ P s.heap ∧ u ≠ .builtin "__main__.__loader__#opaque") := by
    intro hd
    have hz := der_ok ok lx hd
    refine ⟨viaNow hz, fun c xs e ho => ?_⟩
    subst e
    cases hz with
    | fz z => cases z with | ins h1 h2 h3 => exact viaIns ho rfl (ok.good.sub _ _ h1)
  cases x with
  | f y =>
    by_cases hy : ∃ k, y = .obj k
    · obtain ⟨k, rfl⟩ := hy
      have hd' : (match m[k]? with
        | some (.ins c xs) => some (.ins c xs)
        | _ => der env m (.f (.obj k))) = some d := hd
      split at hd'
      · rename_i c xs hk
        cases hd'
        have lx : FzN C X.w X.K n v (.obj k) := lx
        cases lx with
        | obj ha =>
          obtain ⟨⟨dx, vs, e, _⟩, _⟩ := ok.good.at_ k _ _ hk ha
          exact ⟨(fun t ht => by cases ht), fun c' xs' e' ho => by cases e'; exact viaIns ho rfl e⟩
      · exact viaDer hd'
    · refine viaDer ?_
      cases y with
      | obj k => exact absurd ⟨k, rfl⟩ hy
      | _ => exact hd
  | o i =>
    have hd' : (match env[i]? with
      | some (some (.own (.ins c xs))) => some (.ins c xs)
      | _ => der env m (.o i)) = some d := hd
    split at hd'
    · rename_i c xs hk
      cases hd'
      obtain ⟨h1, _⟩ := lx
      obtain ⟨a, h2, h3⟩ := ok.env.own i _ hk
      rw [h1] at h2; cases h2
      obtain ⟨dx, vs, e, _⟩ := h3.ok
      exact ⟨(fun t ht => by cases ht), fun c' xs' e' ho => by cases e'; exact viaIns ho rfl e⟩
    · exact viaDer hd'
/-- a class as a value -/
def clV (C : Ct) : Dat → Option Value
  | .ty T => some (.type T)
  | .cls d => some (.ref (C.addr d))
  | _ => none
theorem isa1_ok {K : PySem.W.Frag} {d c : Dat} {b : Bool} (T : CtOk C K) (h : isa1 C d c = some b) : ∃ u, clV C c = some u ∧ ((∃ t, tyN d = some t ∧ PySem.W.kitOne K (.type t) u = some b) ∨ ∃ k xs, d = .ins k xs ∧ C.own k = true ∧ PySem.W.kitOne K (.ref (C.addr k)) u = some b) := by
  unfold isa1 at h
  split at h
  · split at h
    · rename_i t ht
      exact ⟨_, rfl, .inl ⟨t, ht, isT_ok ht h⟩⟩
    · split at h
      · rename_i k xs _
        split at h
        · exact ⟨_, rfl, .inr ⟨k, xs, rfl, ‹_›, T.ib _ _ _ h⟩⟩
        · cases h
      · cases h
  · split at h
    · rename_i t ht
      exact ⟨_, rfl, .inl ⟨t, ht, T.it _ _ _ h⟩⟩
    · split at h
      · rename_i k xs _
        split at h
        · exact ⟨_, rfl, .inr ⟨k, xs, rfl, ‹_›, T.ii _ _ _ h⟩⟩
        · cases h
      · cases h
  · cases h
theorem clV_fz {w : World} {K : PySem.W.Frag} {n : Nw} {v : V} {c : Dat} {u x : Value} (h : FzN C w K n v c) (e : clV C c = some u) (r : RelV v x) : x = u := by
  cases c with
  | ty T => cases h; cases e; exact r
  | cls d => cases h; cases e; exact r
  | _ => cases e
theorem isaL_ok {K : PySem.W.Frag} {d : Dat} (T : CtOk C K) {t : Value} (ht : (∃ s, tyN d = some s ∧ t = .type s) ∨ ∃ k xs, d = .ins k xs ∧ t = .ref (C.addr k)) : ∀ {cs : List Dat} {b : Bool}, isaL C d cs = some b → ∀ {w : World} {n : Nw} {vs : List V} {us : List Value}, FzAllN C w K n vs cs → Vals vs us → PySem.W.kitAny K t us = some b
  | [], b, h, w, n, vs, us, hz, r => by cases hz; cases r; exact h
  | c :: cs, b, h, w, n, vs, us, hz, r => by
    cases hz with
    | cons z1 z2 =>
      cases r with
      | cons r1 r2 =>
        unfold isaL at h
        rename_i v0 vs0 u0 us0
        have key : ∀ {b'}, isa1 C d c = some b' → PySem.W.kitOne K t u0 = some b' := by
          intro b' h'
          obtain ⟨u, e1, e2⟩ := isa1_ok T h'
          have := clV_fz z1 e1 r1
          subst this
          rcases ht with ⟨s, h1, rfl⟩ | ⟨k, xs, rfl, rfl⟩
          · rcases e2 with ⟨s', h2, h3⟩ | ⟨k, xs, rfl, _, _⟩
            · rw [h1] at h2; cases h2; exact h3
            · cases h1
          · rcases e2 with ⟨s', h2, h3⟩ | ⟨k', xs', h2, _, h3⟩
            · cases h2
            · cases h2; exact h3
        unfold PySem.W.kitAny
        split at h
        · rename_i h1
          cases h
          rw [key h1]
        · rename_i h1
          rw [key h1]
          exact isaL_ok T ht h z2 r2
        · cases h
theorem call_isiD (T : CtOk C X.K) : CallD X C (.builtin "isinstance") (oIsi C) := by
  refine ⟨oIsi.mono, fun pins s σ H xs us Q I r q => ?_⟩
  obtain ⟨B, n, env, m, σ', ls, rfl, ok, la, q⟩ := q
  unfold oIsi at q
  split at q
  · rename_i x c
    obtain ⟨v1, v2, rfl, l1, l2⟩ := la.two
    have l2 : FzN C X.w X.K n v2 c := l2
    split at q
    · rename_i d hd
      obtain ⟨u1, u2, rfl, r1, r2⟩ := vals2 r
      obtain ⟨k1, k2⟩ := kit_dat T I ok l1 hd r1
      split at q
      · rename_i b hb
        have fin : ∀ tk, EP X pins σ Q (.bool b) { s with toks := tk } := fun tk => ⟨.bl b, n.H, I.tok tk, rfl, q n _ ok.good (.refl _) (.bl _)⟩
        unfold isaD at hb
        split at hb
        · rename_i cs _
          split at hb
          · cases hb
          rename_i hne
          cases l2 with
          | tup h1 h2 =>
            rename_i a vs
            cases (show u2 = Value.ref a from r2)
            obtain ⟨its, rv, ⟨o, e1, e2, nn, e3⟩, _⟩ := I.tuple (SqT.keep ok.good.sub h1)
            obtain ⟨oc, od, dt, sl⟩ := o
            simp only at e2 e3
            subst e2 e3
            have go : ∀ {t : Value} {P : Heap → Prop}, ((∃ s, tyN d = some s ∧ t = .type s) ∨ ∃ k xs, d = .ins k xs ∧ t = .ref (C.addr k)) → PySem.W.KitX X.K u1 t P → P s.heap → u1 ≠ .builtin "__main__.__loader__#opaque" → _ := fun {t P} ht Z p hx =>
              PySem.W.kia_tup (E := X.xe) (A := X.A) (prog := X.prog) (w := X.w) Z I.kIn p e1 (isaL_ok T ht hb h2 rv) hx fin
            cases hN : tyN d with
            | some t =>
              obtain ⟨P, Z, p, hx⟩ := k1 t hN
              exact go (.inl ⟨t, hN, rfl⟩) Z p hx
            | none =>
              by_cases hi : ∃ k xs, d = .ins k xs ∧ C.own k = true
              · obtain ⟨k, xs, e, ho⟩ := hi
                obtain ⟨P, Z, p, hx⟩ := k2 k xs e ho
                exact go (.inr ⟨k, xs, e, rfl⟩) Z p hx
              · exfalso
                cases cs with
                | nil => exact hne rfl
                | cons c1 cs1 =>
                  unfold isaL at hb
                  cases h1 : isa1 C d c1 with
                  | none => rw [h1] at hb; cases hb
                  | some b' =>
                    obtain ⟨u, _, e2⟩ := isa1_ok T h1
                    rcases e2 with ⟨t, h3, _⟩ | ⟨k, xs, h3, h4, _⟩
                    · rw [hN] at h3; cases h3
                    · exact hi ⟨k, xs, h3, h4⟩
        · obtain ⟨u, e1, e2⟩ := isa1_ok T hb
          have := clV_fz l2 e1 r2
          subst this
          rcases e2 with ⟨t, h3, h4⟩ | ⟨k, xs, h3, h5, h4⟩
          · obtain ⟨P, Z, p, hx⟩ := k1 t h3
            exact PySem.W.kia_one Z I.kIn p h4 hx fin
          · obtain ⟨P, Z, p, hx⟩ := k2 k xs h3 h5
            exact PySem.W.kia_one Z I.kIn p h4 hx fin
      · exact q.elim
    · exact q.elim
  · exact q.elim
end
end DL

set_option maxHeartbeats 1000000
namespace DL
open PySem PySem.Spec PyProof.Rows L2

/-! ### objects that change -/
def moOf (env : Env') (m : Mem) : Lv → Option Mo
  | .o i => match env[i]? with
    | some (some (.own x)) => some x
    | _ => none
  | .f (.obj k) => m[k]?
  | _ => none
def setE (x : Lv) (z : Mo) (env : Env') : Env' := match x with
  | .o i => env.set i (some (.own z))
  | _ => env
def setM (x : Lv) (z : Mo) (m : Mem) : Mem := match x with
  | .f (.obj k) => m.set k z
  | _ => m
section
variable {C : Ct} {w : World} {K : PySem.W.Frag} {B n : Nw} {m : Mem} {env : Env'} {σ : L2.St}
theorem mut_ok {v : V} {x : Lv} {y : Mo} (ok : Ok C w K B n env m σ) (h : LvOk C w K n env σ v x) (e : moOf env m x = some y) : ∃ a, v = .ref a ∧ MoOk C w K n a y ∧
    ∀ o z, MoOk C w K ⟨n.G, n.al, upd n.H a o⟩ a z → Ok C w K B ⟨n.G, n.al, upd n.H a o⟩ (setE x z env) (setM x z m) σ := by
  cases x with
  | o i =>
    obtain ⟨h1, y', h2⟩ := h
    have e' : (match env[i]? with
      | some (some (.own x)) => some x
      | _ => none) = some y := e
    rw [h2] at e'
    cases e'
    obtain ⟨a, h3, h4⟩ := ok.env.own i _ h2
    rw [h1] at h3; cases h3
    exact ⟨a, rfl, h4.ok, fun o z hz => ok.chgO h2 h1 hz⟩
  | f d =>
    cases d with
    | obj k =>
      have h : FzN C w K n v (.obj k) := h
      cases h with
      | obj hk =>
        rename_i a
        have hx : m[k]? = some y := e
        refine ⟨a, rfl, (ok.good.at_ k y a hx hk).1, fun o z hz => ?_⟩
        obtain ⟨g2, l2⟩ := ok.good.chgM hk hx hz
        exact ok.go g2 l2
    | _ => cases e
theorem sub_upd {n : Nw} {a : Addr} {o : HO} : n.sub ⟨n.G, n.al, upd n.H a o⟩ := ⟨fun _ _ h => h, List.prefix_rfl⟩
end
section
variable {X : Cx} {C : Ct} {B : Nw} {e o i : Expr} {d de di : TD} {pos apos cpos : Pos}
/-- xs.append(e) -/
def sApp (d de : TD) : TSd := fun D env m => d env m fun x m1 => match moOf env m1 x with
  | some (.lst _) => de env m1 fun y m2 => match moOf env m2 x, y with
    | some (.lst xs), .f z => xs.length < sizeLine ∧ D.nx (setE x (.lst (xs ++ [z])) env) (setM x (.lst (xs ++ [z])) m2)
    | _, _ => False
  | _ => False
theorem sApp.mono (hd : MonoD d) (he : MonoD de) : MonoS (sApp d de) := fun env m D D' l h => hd _ _ _ _ (fun x m1 h1 => by
  try dsimp only at h1 ⊢
  split at h1
  · refine he _ _ _ _ (fun y m2 h2 => ?_) h1
    try dsimp only at h2 ⊢
    split at h2
    · exact ⟨h2.1, l.nx _ _ h2.2⟩
    · exact h2
  · exact h1) h
theorem tyL {K : PySem.W.Frag} {H : Hp} {a : Addr} {vs : List V} (h : H a = some (.lst vs)) : tyV K "list" (.ref a) H := .inl ⟨rfl, vs, .inl (.inl h)⟩
theorem ds_app (ho : DE X C B o d) (he : DE X C B e de) (hbase : attributeBase o "append" X.env (eval o X.env) = eval o X.env := by rfl)
    (hfew : ((backTo cpos (starEach [e] X.env)).all (fun x => !x.1) && (backToKw cpos (keywordEach [] X.env)).all (fun x => x.1.isSome)
      && decide (([e]).length + ([] : List Keyword).length + (if ([] : List Keyword).isEmpty then 0 else 1) < 30)) = true := by rfl)
    (hline : (apos.endLine == cpos.line) = true := by rfl) (hs : starEach [e] X.env = (false, eval e X.env) :: starEach [] X.env := by rfl) (hplain : (backTo cpos (starEach [] X.env)).any (·.1) = false := by rfl)
    (hsw : swapsWith (.Call (.Attribute o "append" apos) [e] [] cpos) none pos.line X.env = pure false := by rfl) : DS X C B (.Expr (.Call (.Attribute o "append" apos) [e] [] cpos) pos) (sApp d de) := by
  refine ⟨sApp.mono ho.mono he.mono, impS (ps_expr (pe_bm PySem.F.plainAttrs_list PySem.F.slot_list_append PySem.F.type_list_append mt_append ho.run (pa_cons he.run pa_nil hs) hbase hfew hline hs hplain) hsw) ?_⟩
  rintro D σ H ⟨n, env, m, rfl, ok, q⟩
  refine ⟨n, env, m, rfl, ok, ho.mono _ _ _ _ (fun x m1 h1 n1 v g1 l1 lx => ?_) q⟩
  have ok1 := ok.go g1 l1
  split at h1
  · rename_i xs0 hx0
    obtain ⟨a0, rfl, ⟨vs0, e0, _⟩, _⟩ := mut_ok ok1 lx hx0
    refine ⟨tyL e0, n1, env, m1, rfl, ok1, he.mono _ _ _ _ (fun y m2 h2 n2 u g2 l2 ly => ?_) h1⟩
    have ok2 := ok1.go g2 l2
    split at h2
    · rename_i xs z hx
      obtain ⟨a, ea, ⟨vs, e1, z1⟩, hset⟩ := mut_ok ok2 (lx.le l2) hx
      cases ea
      refine ⟨a0, vs, u, rfl, rfl, e1, by rw [z1.length]; exact h2.1, ?_⟩
      have ly : FzN C X.w X.K n2 u z := ly
      have ok3 := hset (.lst (vs ++ [u])) (.lst (xs ++ [z])) ⟨vs ++ [u], upd_same, FzAll.append (FzAll.keep (fun _ _ e => e) (fun _ _ e => e) z1) (.cons (Fz.keep (fun _ _ e => e) (fun _ _ e => e) ly) .nil)⟩
      exact h2.2 ⟨n2.G, n2.al, upd n2.H a0 (.lst (vs ++ [u]))⟩ σ ((l1.trans l2).sub.trans sub_upd) ok3
    · exact h2.elim
  · exact h1.elim
/-- xs.extend(e), e a list -/
theorem mt_extendR : MtR X "list.extend" (fun x vs H Q => ∃ l b xs zs, x = .ref l ∧ vs = [.ref b] ∧ H l = some (.lst xs) ∧ Rd H b (.lst zs) ∧ xs.length + zs.length ≤ sizeLine ∧ Q .non (upd H l (.lst (xs ++ zs)))) := by
  intro pins s σ H x vs v us Q I rx rv h
  obtain ⟨l, b, xs, zs, rfl, rfl, hH, hB, hz, q⟩ := h
  cases rx
  obtain ⟨u, rfl, ru⟩ := rv.one
  cases ru
  obtain ⟨z, its, n, r, hl, e⟩ := I.lstM hH
  obtain ⟨z2, its2, n2, r2, hl2, e2⟩ := Rd.lstM I hB
  have hsz : its.toArray.size + its2.toArray.size ≤ sizeLine := by rw [List.size_toArray, List.size_toArray]; omega
  have hlong : ¬ (!its.toArray.isEmpty && Builtin.List.listTooLong (its.toArray.size + its2.toArray.size)) = true := by
    rw [notLongL hsz, Bool.and_false]
    exact Bool.false_ne_true
  refine call_meets F.slot_list_extend ⟨_, e, rfl⟩ F.entry_list_extend (F.args_list_extend_2 _ _)
    (AutoSeq1.list_extend_list_list_0 l its.toArray n b its2.toArray n2 hlong (by rw [List.size_toArray]; omega) (by omega)) ⟨e, e2, ?_⟩
  refine ⟨.non, _, I.lset (its' := its ++ its2) hH e (by simp) (r.append r2) ?_, rfl, q⟩
  rw [List.length_append]
  omega
def sExt (d de : TD) : TSd := fun D env m => d env m fun x m1 => match moOf env m1 x with
  | some (.lst _) => de env m1 fun y m2 => match moOf env m2 x, lstOf env m2 y with
    | some (.lst xs), some ys => xs.length + ys.length ≤ sizeLine ∧ D.nx (setE x (.lst (xs ++ ys)) env) (setM x (.lst (xs ++ ys)) m2)
    | _, _ => False
  | _ => False
theorem sExt.mono (hd : MonoD d) (he : MonoD de) : MonoS (sExt d de) := fun env m D D' l h => hd _ _ _ _ (fun x m1 h1 => by
  try dsimp only at h1 ⊢
  split at h1
  · refine he _ _ _ _ (fun y m2 h2 => ?_) h1
    try dsimp only at h2 ⊢
    split at h2
    · exact ⟨h2.1, l.nx _ _ h2.2⟩
    · exact h2
  · exact h1) h
theorem ds_ext (ho : DE X C B o d) (he : DE X C B e de) (hbase : attributeBase o "extend" X.env (eval o X.env) = eval o X.env := by rfl)
    (hfew : ((backTo cpos (starEach [e] X.env)).all (fun x => !x.1) && (backToKw cpos (keywordEach [] X.env)).all (fun x => x.1.isSome)
      && decide (([e]).length + ([] : List Keyword).length + (if ([] : List Keyword).isEmpty then 0 else 1) < 30)) = true := by rfl)
    (hline : (apos.endLine == cpos.line) = true := by rfl) (hs : starEach [e] X.env = (false, eval e X.env) :: starEach [] X.env := by rfl) (hplain : (backTo cpos (starEach [] X.env)).any (·.1) = false := by rfl)
    (hsw : swapsWith (.Call (.Attribute o "extend" apos) [e] [] cpos) none pos.line X.env = pure false := by rfl) : DS X C B (.Expr (.Call (.Attribute o "extend" apos) [e] [] cpos) pos) (sExt d de) := by
  refine ⟨sExt.mono ho.mono he.mono, impS (ps_expr (pe_bm PySem.F.plainAttrs_list PySem.F.slot_list_extend PySem.F.type_list_extend mt_extendR ho.run (pa_cons he.run pa_nil hs) hbase hfew hline hs hplain) hsw) ?_⟩
  rintro D σ H ⟨n, env, m, rfl, ok, q⟩
  refine ⟨n, env, m, rfl, ok, ho.mono _ _ _ _ (fun x m1 h1 n1 v g1 l1 lx => ?_) q⟩
  have ok1 := ok.go g1 l1
  split at h1
  · rename_i xs0 hx0
    obtain ⟨a0, rfl, ⟨vs0, e0, _⟩, _⟩ := mut_ok ok1 lx hx0
    refine ⟨tyL e0, n1, env, m1, rfl, ok1, he.mono _ _ _ _ (fun y m2 h2 n2 u g2 l2 ly => ?_) h1⟩
    have ok2 := ok1.go g2 l2
    split at h2
    · rename_i xs ys hx hy
      obtain ⟨a, ea, ⟨vs, e1, z1⟩, hset⟩ := mut_ok ok2 (lx.le l2) hx
      cases ea
      obtain ⟨b, us, rfl, r2, z2⟩ := lst_ok ok2 ly hy
      refine ⟨a0, b, vs, us, rfl, rfl, e1, r2, by rw [z1.length, z2.length]; exact h2.1, ?_⟩
      have ok3 := hset (.lst (vs ++ us)) (.lst (xs ++ ys)) ⟨vs ++ us, upd_same, FzAll.append (FzAll.keep (fun _ _ e => e) (fun _ _ e => e) z1) (FzAll.keep (fun _ _ e => e) (fun _ _ e => e) z2)⟩
      exact h2.2 ⟨n2.G, n2.al, upd n2.H a0 (.lst (vs ++ us))⟩ σ ((l1.trans l2).sub.trans sub_upd) ok3
    · exact h2.elim
  · exact h1.elim
/-- xs.pop(0), the item is dropped -/
def sPop0 (d : TD) : TSd := fun D env m => d env m fun x m1 => match moOf env m1 x with
  | some (.lst (_ :: xs)) => D.nx (setE x (.lst xs) env) (setM x (.lst xs) m1)
  | _ => False
theorem ds_pop0 {j c} (ho : DE X C B o d) (hbase : attributeBase o "pop" X.env (eval o X.env) = eval o X.env := by rfl)
    (hfew : ((backTo cpos (starEach [.Constant (.int 0) j c] X.env)).all (fun x => !x.1) && (backToKw cpos (keywordEach [] X.env)).all (fun x => x.1.isSome)
      && decide (([Expr.Constant (.int 0) j c]).length + ([] : List Keyword).length + (if ([] : List Keyword).isEmpty then 0 else 1) < 30)) = true := by rfl)
    (hline : (apos.endLine == cpos.line) = true := by rfl) (hs : starEach [.Constant (.int 0) j c] X.env = (false, eval (.Constant (.int 0) j c) X.env) :: starEach [] X.env := by rfl) (hplain : (backTo cpos (starEach [] X.env)).any (·.1) = false := by rfl)
    (hsw : swapsWith (.Call (.Attribute o "pop" apos) [.Constant (.int 0) j c] [] cpos) none pos.line X.env = pure false := by rfl) : DS X C B (.Expr (.Call (.Attribute o "pop" apos) [.Constant (.int 0) j c] [] cpos) pos) (sPop0 d) := by
  refine ⟨fun env m D D' l h => ho.mono _ _ _ _ (fun x m1 h1 => ?_) h, impS (ps_expr (pe_bm PySem.F.plainAttrs_list PySem.F.slot_list_pop PySem.F.type_list_pop mt_popAt ho.run (pa_cons pe_int pa_nil hs) hbase hfew hline hs hplain) hsw) ?_⟩
  · try dsimp only at h1 ⊢
    split at h1
    · exact l.nx _ _ h1
    · exact h1
  rintro D σ H ⟨n, env, m, rfl, ok, q⟩
  refine ⟨n, env, m, rfl, ok, ho.mono _ _ _ _ (fun x m1 h1 n1 v g1 l1 lx => ?_) q⟩
  have ok1 := ok.go g1 l1
  split at h1
  · rename_i y xs hx0
    obtain ⟨a, rfl, ⟨vs, e1, z1⟩, hset⟩ := mut_ok ok1 lx hx0
    refine ⟨tyL e1, ?_⟩
    cases z1 with
    | cons c1 c2 =>
      rename_i u us
      refine ⟨a, u :: us, 0, 0, u, rfl, rfl, e1, by decide, by decide, ?_, rfl, ?_⟩
      · rw [seqIndex_of (by decide) (by simp)]
        rfl
      · have ok3 := hset (.lst us) (.lst xs) ⟨us, upd_same, FzAll.keep (fun _ _ e => e) (fun _ _ e => e) c2⟩
        exact h1 ⟨n1.G, n1.al, upd n1.H a (.lst us)⟩ σ (l1.sub.trans sub_upd) ok3
  · exact h1.elim
/-- o[i] = e, o a list -/
def sSetI (de d di : TD) : TSd := fun D env m => de env m fun y m1 => d env m1 fun x m2 => di env m2 fun i m3 => match moOf env m3 x, i, y with
  | some (.lst xs), .f (.int k), .f z => match ixN xs.length k with
    | some j => D.nx (setE x (.lst (xs.set j z)) env) (setM x (.lst (xs.set j z)) m3)
    | none => False
  | _, _, _ => False
theorem sSetI.mono (he : MonoD de) (hd : MonoD d) (hi : MonoD di) : MonoS (sSetI de d di) := fun env m D D' l h => he _ _ _ _ (fun y m1 h1 => hd _ _ _ _ (fun x m2 h2 => hi _ _ _ _ (fun i m3 h3 => by
  try dsimp only at h3 ⊢
  split at h3
  · split at h3
    · exact l.nx _ _ h3
    · exact h3
  · exact h3) h2) h1) h
theorem ds_setI {sp : Pos} (he : DE X C B e de) (ho : DE X C B o d) (hi : DE X C B i di)
    (ha : ∀ v, assign (.Subscript o i sp) X.env v = (do
      let ov ← holding [v] (eval o X.env)
      let iv ← holding [v, ov] (eval i X.env)
      standAt sp
      holding [v, ov, iv] (setItem ov iv v)
      release [v, ov, iv] []) := by intro _; rfl) (hs : swapsWithSole [.Subscript o i sp] e pos.line X.env = pure false := by rfl) (hw : swappedStores [.Subscript o i sp] e X.env = pure none := by rfl)
    (h1 : (assignEach [.Subscript o i sp] X.env).map (·.2) = [assign (.Subscript o i sp) X.env] := by rfl) : DS X C B (.Assign [.Subscript o i sp] e pos) (sSetI de d di) := by
  refine ⟨sSetI.mono he.mono ho.mono hi.mono, impS (ps_asg he.run (pg_sub ho.run hi.run set_list ha) hs hw h1) ?_⟩
  rintro D σ H ⟨n, env, m, rfl, ok, q⟩
  refine ⟨n, env, m, rfl, ok, he.mono _ _ _ _ (fun y m1 h1 n1 u g1 l1 ly => ?_) q⟩
  have ok1 := ok.go g1 l1
  refine ⟨n1, env, m1, rfl, ok1, ho.mono _ _ _ _ (fun x m2 h2 n2 v g2 l2 lx => ?_) h1⟩
  have ok2 := ok1.go g2 l2
  refine ⟨n2, env, m2, rfl, ok2, hi.mono _ _ _ _ (fun i m3 h3 n3 iv g3 l3 li => ?_) h2⟩
  have ok3 := ok2.go g3 l3
  split at h3
  · rename_i xs k z hx
    split at h3
    · rename_i j hj
      have li : FzN C X.w X.K n3 iv (.int k) := li
      cases li
      have ly3 : FzN C X.w X.K n3 u z := FzN.le (FzN.le (n := n1) ly l2) l3
      obtain ⟨a, rfl, ⟨vs, e1, z1⟩, hset⟩ := mut_ok ok3 (lx.le l3) hx
      refine ⟨a, vs, k, j, rfl, rfl, e1, by rw [z1.length]; exact hj, ?_⟩
      have ok4 := hset (.lst (vs.set j u)) (.lst (xs.set j z)) ⟨vs.set j u, upd_same, FzAll.set j (FzAll.keep (fun _ _ e => e) (fun _ _ e => e) z1) (Fz.keep (fun _ _ e => e) (fun _ _ e => e) ly3)⟩
      exact h3 ⟨n3.G, n3.al, upd n3.H a (.lst (vs.set j u))⟩ σ (((l1.trans l2).trans l3).sub.trans sub_upd) ok4
    · exact h3.elim
  · exact h3.elim
/-! ### what is walked -/
/-- a list, a tuple -/
def iVal (d : TD) : TId := fun env m Q => d env m fun x m1 => match x with
  | .f (.lst xs) => Q xs m1
  | .f (.tup xs) => Q xs m1
  | _ => False
theorem iVal.mono (h : MonoD d) : MonoI (iVal d) := fun env m Q Q' i => h _ _ _ _ fun x m1 => by
  try dsimp only
  split <;> first | exact i _ _ | exact id
theorem at_fz {w : World} {K : PySem.W.Frag} {n n' : Nw} {vs : List V} {xs : List Dat} (z : FzAllN C w K n vs xs) {i : Nat} {x : V} (hi : i < xs.length) (h : vs[i]? = some x) : ∃ d, xs[i]? = some d ∧ FzN C w K n x d := z.get' h
theorem walkL {w : World} {K : PySem.W.Frag} {n : Nw} {m : Mem} {a : Addr} {vs : List V} {xs : List Dat} (h : Rd n.G a (.lst vs)) (z : FzAllN C w K n vs xs) : WalkD C w K n (Itl K a) xs := by
  have e := z.length
  refine ⟨_, _, by rw [← e]; exact walk_list (xs := vs), fun n' m' s g => ⟨Or.inl (rdUp g (Rd.keep s.g h)), fun i x H' hi hy => ?_⟩⟩
  obtain ⟨rfl, hx⟩ := hy
  obtain ⟨d, h1, h2⟩ := z.get' hx
  exact ⟨n', d, rfl, g, .refl _, h1, Fz.keep s.g (pre_get s.l) h2⟩
theorem walkT {w : World} {K : PySem.W.Frag} {n : Nw} {m : Mem} {a : Addr} {vs : List V} {xs : List Dat} (h : SqT K n.G a vs) (z : FzAllN C w K n vs xs) : WalkD C w K n (Itt K a) xs := by
  have e := z.length
  refine ⟨_, _, by rw [← e]; exact walk_tup (xs := vs), fun n' m' s g => ⟨SqT.keep g.sub (SqT.keep s.g h), fun i x H' hi hy => ?_⟩⟩
  obtain ⟨rfl, hx⟩ := hy
  obtain ⟨d, h1, h2⟩ := z.get' hx
  exact ⟨n', d, rfl, g, .refl _, h1, Fz.keep s.g (pre_get s.l) h2⟩
theorem pi_any {tg l : Expr} {tl : TE} (hl : PE X l tl) : PI X tg l (fun σ H R => tl σ H fun x H1 => ∃ a, x = .ref a ∧ (((∃ xs, SqL X.K H1 a xs) ∧ R (Itl X.K a) H1) ∨ ((∃ xs, SqT X.K H1 a xs) ∧ R (Itt X.K a) H1))) := by
  refine ⟨fun pins s σ H R I h => ?_⟩
  refine thn (hl.run pins s σ H _ I h) fun v s1 ⟨x, H1, I1, r1, q1⟩ => ?_
  obtain ⟨a, e, q⟩ := q1
  subst e
  cases r1
  rcases q with ⟨⟨xs, hq⟩, q⟩ | ⟨⟨xs, hq⟩, q⟩
  · obtain ⟨its, rv, p, hz⟩ := I1.list hq
    refine wpAny_pyIter_list p.isList ?_
    refine ⟨s1.heap.objs.size, [s1.heap.objs.size], _, _, H1, rfl, I1.kept (t' := s1.toks) fun b o e => Heap.get?_push_of_some _ e, turn_list a _, ⟨_, Heap.get?_push_size _ rfl, rfl, rfl⟩, fun b hb => ?_, q⟩
    have e : b = s1.heap.objs.size := by simpa using hb
    subst e
    exact I1.fpOk (Nat.le_refl _) (I1.hok.fresh (Nat.le_refl _))
  · obtain ⟨its, rv, p, hz⟩ := I1.tuple hq
    refine wpAny_pyIter_tuple (show s1.heap.IsTuple a its.toArray from p) ?_
    refine ⟨s1.heap.objs.size, [s1.heap.objs.size], _, _, H1, rfl, I1.kept (t' := s1.toks) fun b o e => Heap.get?_push_of_some _ e, turn_tuple a _, ⟨_, Heap.get?_push_size _ rfl, rfl, rfl⟩, fun b hb => ?_, q⟩
    have e : b = s1.heap.objs.size := by simpa using hb
    subst e
    exact I1.fpOk (Nat.le_refl _) (I1.hok.fresh (Nat.le_refl _))
theorem impI {tg l : Expr} {t t' : TI} (h : PI X tg l t) (i : ∀ σ H R, t' σ H R → t σ H R) : PI X tg l t' := ⟨fun pins s σ H R I q => h.run pins s σ H R I (i σ H R q)⟩
theorem di_val {tg : Expr} (h : DE X C B e d) : DI X C B tg e (iVal d) := by
  refine ⟨iVal.mono h.mono, impI (pi_any h.run) ?_⟩
  rintro σ H R ⟨n, env, m, rfl, ok, q⟩
  refine ⟨n, env, m, rfl, ok, h.mono _ _ _ _ (fun x m1 h1 n1 v g1 l1 lx => ?_) q⟩
  split at h1
  · rename_i xs
    have lx : FzN C X.w X.K n1 v (.lst xs) := lx
    cases lx with
    | lst r z => exact ⟨_, rfl, .inl ⟨⟨_, .inl (rdUp g1 r)⟩, h1 n1 _ g1 l1 (walkL (m := m1) r z)⟩⟩
  · rename_i xs
    have lx : FzN C X.w X.K n1 v (.tup xs) := lx
    cases lx with
    | tup r z => exact ⟨_, rfl, .inr ⟨⟨_, SqT.keep g1.sub r⟩, h1 n1 _ g1 l1 (walkT (m := m1) r z)⟩⟩
  · exact h1.elim
/-- range(a), range(a, b) -/
def rangeD (lo : Int) (k : Nat) : List Dat := (List.range k).map fun i => .int (lo + (i : Nat))
def iRg1 (d : TD) : TId := fun env m Q => d env m fun x m1 => match x with
  | .f (.int j) => -(2 ^ 62) ≤ j ∧ j < 2 ^ 62 ∧ Q (rangeD 0 j.toNat) m1
  | _ => False
def iRg2 (d de : TD) : TId := fun env m Q => d env m fun x m1 => de env m1 fun y m2 => match x, y with
  | .f (.int i), .f (.int j) => (-(2 ^ 62) ≤ i ∧ i < 2 ^ 62 ∧ -(2 ^ 62) ≤ j ∧ j < 2 ^ 62) ∧ Q (rangeD i (j - i).toNat) m2
  | _, _ => False
theorem walkR {w : World} {K : PySem.W.Frag} {n : Nw} {lo : Int} {k : Nat} : WalkD C w K n (Itr lo k) (rangeD lo k) := by
  refine ⟨_, _, by rw [show (rangeD lo k).length = k by simp [rangeD]]; exact walk_range, fun n' m' s g => ⟨trivial, fun i x H' hi hy => ?_⟩⟩
  obtain ⟨rfl, rfl⟩ := hy
  have hi' : i < k := by simpa [rangeD] using hi
  exact ⟨n', _, rfl, g, .refl _, by simp [rangeD, hi'], .int _⟩
theorem di_range1 {tg a : Expr} {p pos : Pos} (hg : Gl X "range") (hm : X.mg "range" = none) (ha : DE X C B a d) (hs : starEach [a] X.env = [(false, eval a X.env)] := by rfl) : DI X C B tg (.Call (.Name "range" p) [a] [] pos) (iRg1 d) := by
  refine ⟨fun env m Q Q' i h => ha.mono _ _ _ _ (fun x m1 h1 => ?_) h, impI (pi_range1 hg hm (pa_cons ha.run pa_nil hs) hs) ?_⟩
  · try dsimp only at h1 ⊢
    split at h1
    · exact ⟨h1.1, h1.2.1, i _ _ h1.2.2⟩
    · exact h1
  rintro σ H R ⟨n, env, m, rfl, ok, q⟩
  refine ⟨n, env, m, rfl, ok, ha.mono _ _ _ _ (fun x m1 h1 n1 v g1 l1 lx => ?_) q⟩
  split at h1
  · rename_i j
    have lx : FzN C X.w X.K n1 v (.int j) := lx
    cases lx
    exact ⟨j, rfl, h1.1, h1.2.1, h1.2.2 n1 _ g1 l1 walkR⟩
  · exact h1.elim
theorem di_range2 {tg a b : Expr} {p pos : Pos} (hg : Gl X "range") (hm : X.mg "range" = none) (ha : DE X C B a d) (hb : DE X C B b de) (hs : starEach [a, b] X.env = [(false, eval a X.env), (false, eval b X.env)] := by rfl) (hs2 : starEach [b] X.env = [(false, eval b X.env)] := by rfl)
    (hs3 : starEach [a, b] X.env = (false, eval a X.env) :: starEach [b] X.env := by rfl) : DI X C B tg (.Call (.Name "range" p) [a, b] [] pos) (iRg2 d de) := by
  refine ⟨fun env m Q Q' i h => ha.mono _ _ _ _ (fun x m1 h1 => hb.mono _ _ _ _ (fun y m2 h2 => ?_) h1) h, impI (pi_range2 hg hm (pa_cons ha.run (pa_cons hb.run pa_nil hs2) hs3) hs hs2) ?_⟩
  · try dsimp only at h2 ⊢
    split at h2
    · exact ⟨h2.1, i _ _ h2.2⟩
    · exact h2
  rintro σ H R ⟨n, env, m, rfl, ok, q⟩
  refine ⟨n, env, m, rfl, ok, ha.mono _ _ _ _ (fun x m1 h1 n1 v g1 l1 lx => ?_) q⟩
  refine ⟨n1, env, m1, rfl, ok.go g1 l1, hb.mono _ _ _ _ (fun y m2 h2 n2 u g2 l2 ly => ?_) h1⟩
  split at h2
  · rename_i i j
    have lx : FzN C X.w X.K n1 v (.int i) := lx
    have ly : FzN C X.w X.K n2 u (.int j) := ly
    cases lx
    cases ly
    exact ⟨i, j, rfl, h2.1, h2.2 n2 _ g2 (l1.trans l2) walkR⟩
  · exact h2.elim
/-- a, b = e1, e2 with local names -/
def sPar (i j : Nat) (d de : TD) : TSd := fun D env m => d env m fun x m1 => de env m1 fun y m2 => match x, y with
  | .f a, .f b => D.nx ((env.set i (some (.f a))).set j (some (.f b))) m2
  | _, _ => False
theorem ds_par {i j : Nat} {x y : Str} {a b : Expr} {px py pt : Pos} {kt k2 pt2} (hc : X.calm = true) (hN : X.N.Nodup) (hi : X.N[i]? = some x) (hj : X.N[j]? = some y) (hij : i ≠ j)
    (hx : X.env.scope.names.lookup x = some .local) (hy : X.env.scope.names.lookup y = some .local) (ha : DE X C B a d) (hb : DE X C B b de)
    (hw : swappedStores [.Tuple [.Name x px, .Name y py] kt pt] (.Tuple [a, b] k2 pt2) X.env = pure (some [x, y]))
    (hs : swapsWithSole [.Tuple [.Name x px, .Name y py] kt pt] (.Tuple [a, b] k2 pt2) pos.line X.env = pure false := by rfl) (hs1 : starEach [a, b] X.env = (false, eval a X.env) :: starEach [b] X.env := by rfl) (hs2 : starEach [b] X.env = (false, eval b X.env) :: starEach [] X.env := by rfl) :
    DS X C B (.Assign [.Tuple [.Name x px, .Name y py] kt pt] (.Tuple [a, b] k2 pt2) pos) (sPar i j d de) := by
  refine ⟨fun env m D D' l h => ha.mono _ _ _ _ (fun x m1 h1 => hb.mono _ _ _ _ (fun y m2 h2 => ?_) h1) h, impS (ps_par hc hN hi hj hij hx hy (pa_cons ha.run (pa_cons hb.run pa_nil hs2) hs1) hw hs) ?_⟩
  · try dsimp only at h2 ⊢
    split at h2
    · exact l.nx _ _ h2
    · exact h2
  rintro D σ H ⟨n, env, m, rfl, ok, q⟩
  refine ⟨n, env, m, rfl, ok, ha.mono _ _ _ _ (fun x m1 h1 n1 v g1 l1 lx => ?_) q⟩
  refine ⟨n1, env, m1, rfl, ok.go g1 l1, hb.mono _ _ _ _ (fun y m2 h2 n2 u g2 l2 ly => ?_) h1⟩
  split at h2
  · rename_i a b
    have lx : FzN C X.w X.K n1 v a := lx
    have ly : FzN C X.w X.K n2 u b := ly
    exact ⟨v, u, rfl, h2 n2 _ (l1.trans l2).sub (((ok.go g2 (l1.trans l2)).setF (FzN.le lx l2)).setF ly)⟩
  · exact h2.elim
/-! ### chains -/
theorem dChain.mono {f g : Op2} {da db dc : TD} (hf : Mono2 f) (hg : Mono2 g) (ha : MonoD da) (hb : MonoD db) (hc : MonoD dc) : MonoD (dChain f g da db dc) := fun env m Q Q' i h =>
  ha _ _ _ _ (fun x m1 h1 => hb _ _ _ _ (fun y m2 h2 => hf _ _ _ _ _ _ (fun z m3 h3 => by
    try dsimp only at h3 ⊢
    split at h3
    · exact hc _ _ _ _ (fun u m4 h4 => hg _ _ _ _ _ _ (fun r m5 h5 => i _ _ h5) h4) h3
    · exact i _ _ h3
    · exact h3) h2) h1) h
theorem chain_imp {f g : Op2} {da db dc : TD} (hf : Mono2 f) (hg : Mono2 g) (ha : MonoD da) (hb : MonoD db) (hc : MonoD dc) :
    ∀ σ H Q, lE C B X.w X.K (dChain f g da db dc) σ H Q → tChain (r2 C X.w X.K f) (r2 C X.w X.K g) (lE C B X.w X.K da) (lE C B X.w X.K db) (lE C B X.w X.K dc) σ H Q := by
  rintro σ H Q ⟨n, env, m, rfl, ok, h⟩
  refine ⟨n, env, m, rfl, ok, ha _ _ _ _ (fun x m1 h1 n1 v ok1 l1 lx => ?_) h⟩
  refine ⟨n1, env, m1, rfl, ok.go ok1 l1, hb _ _ _ _ (fun y m2 h2 n2 u ok2 l2 ly => ?_) h1⟩
  refine ⟨B, n2, env, m2, σ, x, y, rfl, ok.go ok2 (l1.trans l2), lx.le l2, ly, hf _ _ _ _ _ _ (fun z m3 h3 n3 v3 ok3 l3 lz => ?_) h2⟩
  have l13 := l1.trans (l2.trans l3)
  cases z with
  | bl c =>
    cases lz
    refine ⟨c, rfl, ?_⟩
    cases c with
    | true =>
      show if (true = true) then _ else _
      rw [if_pos rfl]
      refine ⟨n3, env, m3, rfl, ok.go ok3 l13, hc _ _ _ _ (fun r m4 h4 n4 v4 ok4 l4 lr => ?_) h3⟩
      exact ⟨B, n4, env, m4, σ, y, r, rfl, ok.go ok4 (l13.trans l4), (ly.le l3).le l4, lr, hg _ _ _ _ _ _ (fun z5 m5 h5 n5 v5 ok5 l5 lz5 => h5 n5 v5 ok5 (l13.trans (l4.trans l5)) lz5) h4⟩
    | false =>
      show if (false = true) then _ else _
      rw [if_neg (by decide)]
      exact h3 n3 (.bl false) ok3 l13 (.bl false)
  | _ => exact h3.elim
theorem de_chain {op op' : CmpOp} {f g : Op2} {a b c : Expr} {da db dc : TD} (ho : OpD X C (compareOp op) f) (ho' : OpD X C (compareOp op') g) (ha : DE X C B a da) (hb : DE X C B b db) (hc : DE X C B c dc)
    (hm : lastMarks [op, op'] [b, c] = false := by with_unfolding_all rfl) : DE X C B (.Compare a [op, op'] [b, c] pos) (dChain f g da db dc) :=
  ⟨dChain.mono ho.mono ho'.mono ha.mono hb.mono hc.mono, imp (pe_chain ho.run ho'.run ha.run hb.run hc.run hm) (chain_imp ho.mono ho'.mono ha.mono hb.mono hc.mono)⟩
theorem dt_chain {op op' : CmpOp} {f g : Op2} {a b c : Expr} {da db dc : TD} (ho : OpD X C (compareOp op) f) (ho' : OpD X C (compareOp op') g) (ha : DE X C B a da) (hb : DE X C B b db) (hc : DE X C B c dc)
    (hm : lastMarks [op, op'] [b, c] = false := by with_unfolding_all rfl) : DT X C B (.Compare a [op, op'] [b, c] pos) (dTst (dChain f g da db dc)) := by
  refine ⟨dTst.mono (dChain.mono ho.mono ho'.mono ha.mono hb.mono hc.mono), impT (pt_chain ho.run ho'.run ha.run hb.run hc.run hm) ?_⟩
  rintro σ H Q ⟨n, env, m, rfl, ok, h⟩
  refine chain_imp (B := B) ho.mono ho'.mono ha.mono hb.mono hc.mono σ _ _ ⟨n, env, m, rfl, ok, dChain.mono ho.mono ho'.mono ha.mono hb.mono hc.mono _ _ _ _ (fun x m1 h1 n1 v ok1 l1 lx => ?_) h⟩
  cases x with
  | o k => exact h1.elim
  | f y =>
    cases y with
    | bl c => cases lx; exact ⟨c, rfl, h1 n1 ok1 l1⟩
    | _ => exact h1.elim
end
end DL

set_option maxHeartbeats 1000000
namespace DL
open PySem PySem.Spec PyProof.Rows L2

/-! ### repr: the defs that reach it are run where no text is under way -/
/-- room, and no text of a container under way -/
structure RoomG (k : Nat) (A : Around) : Prop where
  room : Room k A
  gd : A.guards = some []
/-- a promise, kept where no text of a container is under way -/
structure FnG (P : Program) (w : World) (K : PySem.W.Frag) (mg : Str → Option Value) (base : Heap) (CX : CXT) (k : Nat) (f : Addr) (fd : FuncData) (ps : List Str) (sp : Sp) : Prop where
  len : ∀ vs H Q E, sp vs H Q E → vs.length = ps.length
  run : ∀ (A : Around) (outer : List Env) (s : Shared) (H : Hp) (args : Args) (us : List Value) (vs : List V) (Q : VK) (E : XK), RoomG k A → Env0 P w K mg base A outer s H → BindsTo s fd args (ps.zip us) → Vals vs us → sp vs H Q E →
    codeAny (model P w) A (.call (.ref f) args) (CR CX outer P w H s Q E) s
theorem fnG_of {CX : CXT} {P : Program} {w : World} {K : PySem.W.Frag} {mg : Str → Option Value} {base : Heap} {k : Nat} {f : Addr} {x qual : Str} {params : Arguments} {body : List Stmt} {scope : Scope} {fd : FuncData} {N ps : List Str} {sp : Sp}
    (F : FunD K x qual params body scope [] [] f fd) (S : FnScope N ps scope) (len : ∀ vs H Q E, sp vs H Q E → vs.length = ps.length)
    (hbody : ∀ (cdv : Value) (A : Around) (outer : List Env) (s : Shared) (H : Hp) (vs : List V) (Q : VK) (E : XK), RoomG k (A.deeper (envOfC qual scope s.heap.objs.size f cdv)) → sp vs H Q E →
      ∃ t, PSs (cxOf CX P w K mg base N qual scope f cdv A outer s H E) body t ∧ t { nx := fun _ H' => Q .non H', rt := Q } (L2.start N vs) H) : FnG P w K mg base CX (k + 1) f fd ps sp := by
  obtain ⟨oc, od, dV, kV, doc, pm, an, cdv, ct, osl, rfl, lk, hcd, _, _⟩ := F.ex
  refine ⟨len, fun A outer s H args us vs Q E hr e0 hb r hsp => ?_⟩
  have hl := len _ _ _ _ hsp
  have KX : K.In s.heap := e0.mod.kin.keeps fun b o e => (e0.bs b o e).1
  have lim : s.heap.NoLimit := e0.mod.nolimit.keeps fun b o e => (e0.bs b o e).1
  have hkind : ∀ y ∈ ps.zip us, scope.names.lookup y.1 = some .local ∨ (scope.names.lookup y.1 = some .cell ∧ ((cellsFrom (s.heap.objs.size + 1) scope.names []).lookup y.1).isSome = true) := fun ⟨n, v⟩ hy => by
    rcases S.par n (List.of_mem_zip hy).1 with q | q
    · exact .inl q
    · exact .inr ⟨q, PySem.W.cellsFrom_some _ _ _ (.inl q)⟩
  refine codeAny_call_function hr.room.depth (KX _ _ lk) rfl S.co S.gen rfl (PySem.W.codeRec_of KX hcd) (hb _ _ _ _ ?_)
  refine wpAny_newFunctionEnv_cells S.kind hkind fun env he s1 x1 => ?_
  subst he
  refine ⟨lim.keeps x1.toInCall.keep, codeAny_func ?_⟩
  obtain ⟨t, ht, hq⟩ := hbody cdv A outer s H vs Q E ⟨hr.room.deeper _, hr.gd⟩ hsp
  have I : Inv (cxOf CX P w K mg base N qual scope f cdv A outer s H E) [] (L2.start N vs) H s1 := inv_start S hr.room.hd e0 hl r x1
  refine wpAny_mono (ht.run [] s1 (L2.start N vs) H _ I hq) (fun fl s' hs => ?_) fun e s' hs => hs
  have fin : ∀ {σ' : L2.St} {H' : Hp} {v : V} {u : Value}, Inv (cxOf CX P w K mg base N qual scope f cdv A outer s H E) [] σ' H' s' → RelV v u → Q v H' → CE outer P w H s Q u s' :=
    fun {σ' H' v u} J rv q => ⟨v, H', J.os, J.bare, J.base, J.hok, rv, q⟩
  cases fl with
  | ret u =>
    obtain ⟨v, σ', H', J, rv, q⟩ := hs
    exact fin J rv q
  | next =>
    obtain ⟨σ', H', J, q⟩ := hs
    exact fin (v := V.non) (u := Value.none) J rfl q
  | brk =>
    obtain ⟨_, _, _, q⟩ := hs
    exact False.elim q
  | cont =>
    obtain ⟨_, _, _, q⟩ := hs
    exact False.elim q
section
variable {X : Cx} {CX : CXT} {k : Nat} {f : Addr} {fd : FuncData} {ps : List Str} {sp : Sp} {E : L2.St → XK} {x : Str} {p pos : Pos} {e : Expr} {es : List Expr} {t : TA}
theorem run_fnG {pins : List (Addr × Obj)} {σ : L2.St} {H : Hp} {s : Shared} {Q : VK} {us : List Value} {vs : List V} (F : FnG X.prog X.w X.K X.mg X.base CX k f fd ps sp) (hr : RoomG k X.A) (hb : Binds X.K fd ps []) (hx : PassesAt CX X σ (E σ))
    (I : Inv X pins σ H s) (r : Vals vs us) (h : sp vs H Q (E σ)) : wpAny (model X.prog X.w) X.A (call (.ref f) us) (EP X pins σ Q) X.xe s := by
  have hl : (us ++ []).length = ps.length := by rw [List.append_nil, ← r.length]; exact F.len _ _ _ _ h
  have hb' := hb s us I.kIn hl
  rw [List.append_nil] at hb'
  refine wpAny_call (codeAny_mono (F.run X.A X.stack s H ⟨us, []⟩ us vs Q (E σ) hr I.env0 hb' r h) fun r s' hq => ?_)
  cases r with
  | error e => exact hx pins H s e s' I hq
  | ok fl =>
    cases fl with
    | ret u => exact I.after hq
    | next => exact False.elim hq
    | brk => exact False.elim hq
    | cont => exact False.elim hq
theorem pe_callG (F : FnG X.prog X.w X.K X.mg X.base CX k f fd ps sp) (hr : RoomG k X.A) (hg : Gl X x) (hm : X.mg x = some (.ref f)) (hk : PySem.W.keepIn X.K (.ref f) = true) (hb : Binds X.K fd ps []) (hx : ∀ σ, PassesAt CX X σ (E σ))
    (ha : PA X (e :: es) t) (hdb : (x == ("__debug__" : Str)) = false := by decide) (he : starEach (e :: es) X.env = (false, eval e X.env) :: starEach es X.env := by rfl) (hpl : (backTo pos (starEach es X.env)).any (·.1) = false := by rfl) :
    PE X (.Call (.Name x p) (e :: es) [] pos) (tCallSD sp [] E t) := by
  refine ⟨fun pins s σ H Q I h => ?_⟩
  refine wpAny_Call_Name_kw (ld_glob I hg hm ?_ hdb)
  refine PySem.W.callWith_K (h₀ := X.base) I.ok.mod.kin hk (thn (ha.run pos pins s σ H _ I h) fun us s1 ⟨vs, H1, I1, r, q⟩ => ⟨I1.kIn, ?_⟩) he hpl
  have q' : sp (vs ++ []) H1 Q (E σ) := q
  rw [List.append_nil] at q'
  exact run_fnG F hr hb (hx σ) I1 r q'
end
structure DG (P : Program) (w : World) (K : PySem.W.Frag) (mg : Str → Option Value) (base : Heap) (C : Ct) (k : Nat) (f : Addr) (fd : FuncData) (ps : List Str) (p : DSp) : Prop where
  mono : MonoP p
  ok : FnG P w K mg base (L2.CX P w) k f fd ps (spD C w K ps.length p)
section
variable {X : Cx} {C : Ct} {B : Nw} {k : Nat} {f : Addr} {fd : FuncData} {ps : List Str} {p : DSp} {EX : QXe} {x : Str} {p1 pos : Pos} {e : Expr} {es : List Expr} {da : TAd}
theorem de_callG (F : DG X.prog X.w X.K X.mg X.base C k f fd ps p) (hl : ∀ ds m Q E, p ds m Q E → ds.length = ps.length) (hr : RoomG k X.A) (hg : Gl X x) (hm : X.mg x = some (.ref f)) (hk : PySem.W.keepIn X.K (.ref f) = true) (hb : Binds X.K fd ps []) (hx : PassD X C B EX) (ha : DA X C B (e :: es) da)
    (hdb : (x == ("__debug__" : Str)) = false := by decide) (he : starEach (e :: es) X.env = (false, eval e X.env) :: starEach es X.env := by rfl) (hpl : (backTo pos (starEach es X.env)).any (·.1) = false := by rfl) :
    DE X C B (.Call (.Name x p1) (e :: es) [] pos) (dCall p EX da) :=
  ⟨dCall.mono F.mono ha.mono, imp (pe_callG F.ok hr hg hm hk hb hx ha.run hdb he hpl) (call_imp F.mono ha.mono fun hz ⟨m, Q, E, h⟩ => hz.length.trans (hl _ _ _ _ h))⟩
variable {P : Program} {w : World} {K : PySem.W.Frag} {mg : Str → Option Value} {base : Heap} {qual : Str} {params : Arguments} {body : List Stmt} {scope : Scope} {N : List Str}
theorem dg_of {d : QXe → TSd} (F : FunD K x qual params body scope [] [] f fd) (S : FnScope N ps scope) (mono : MonoP p) (len : ∀ ds m Q E, p ds m Q E → ds.length = ps.length)
    (walk : ∀ (cdv : Value) (A : Around) (outer : List Env) (s : Shared) (H : Hp) (E : XK) (B : Nw) (EX : QXe), RoomG k (A.deeper (envOfC qual scope s.heap.objs.size f cdv)) → TakesD (cxOf (L2.CX P w) P w K mg base N qual scope f cdv A outer s H E) C B EX →
      DSs (cxOf (L2.CX P w) P w K mg base N qual scope f cdv A outer s H E) C B body (d EX))
    (law : ∀ ds m (Q : QD) (E : QX), p ds m Q E → d (fun c xs _ m => E c xs m) { nx := fun _ m => Q .non m, rt := Q } (env0 N.length ds) m) : DG P w K mg base C (k + 1) f fd ps p := by
  refine ⟨mono, fnG_of F S (fun vs H Q E h => h.1) fun cdv A outer s H vs Q E hr h => ?_⟩
  obtain ⟨hl, n, m, ds, rfl, g, hz, h⟩ := h
  let X := cxOf (L2.CX P w) P w K mg base N qual scope f cdv A outer s n.H E
  have ok : Ok C w K n n (env0 N.length ds) m (L2.start N vs) := ⟨g, .refl _, env_start hz⟩
  have tk : Takes X (fun cls dx _ H => E cls dx H) := takes_of rfl rfl rfl rfl
  have pd : TakesD X C n (fun c xs _ m' => AftX C w K n E c xs m') := tk.imp (fun cls dx σ' H' hq => by
    obtain ⟨n', env', m', c, xs, us, rfl, ok', rfl, hx, hu, hE⟩ := hq
    exact hE n' dx us ok'.good ok'.base hx hu)
  have W := walk cdv A outer s n.H E n (fun c xs _ m' => AftX C w K n E c xs m') hr pd
  refine ⟨_, W.run, n, _, m, rfl, ok, ?_⟩
  refine W.mono _ _ { nx := fun _ m => AftD C w K n Q .non m, rt := AftD C w K n Q } _ ⟨fun e1 m1 h1 n1 σ1 _ ok1 => ?_, fun d1 m1 h1 n1 v1 l1 g1 hv => ?_, fun _ _ h1 => h1.elim, fun _ _ h1 => h1.elim⟩ (law ds m (AftD C w K n Q) (AftX C w K n E) h)
  · exact h1 n1 .non ok1.good ok1.base .non
  · exact h1 n1 v1 g1 l1 hv
end

/-! ### the text of a datum -/
def okR : Nat → Dat → Bool
  | _, .non => true
  | _, .bl _ => true
  | _, .int i => decide (i.natAbs.log2 < 1920)
  | _, .str _ => true
  | k + 1, .tup xs => xs.all (okR k)
  | k + 1, .lst xs => xs.all (okR k)
  | k + 1, .dct kvs => kvs.all fun p => okR k p.1 && okR k p.2
  | _, _ => false
/-- the place of sys.modules bears an object of the top that is no list -/
def NoSys (K : PySem.W.Frag) : Prop := ∃ o, K.lookup sysModules = some o ∧ o.cls ≠ .type "list"
theorem pyk_1 : ∀ kvs : List (Dat × Dat), (pyk kvs).map (·.1) = kvs.map fun p => py p.1
  | [] => by rw [pyk]; rfl
  | (k, x) :: r => by rw [pyk, List.map_cons, pyk_1 r]; rfl
theorem pyk_2 : ∀ kvs : List (Dat × Dat), (pyk kvs).map (·.2) = kvs.map fun p => py p.2
  | [] => by rw [pyk]; rfl
  | (k, x) :: r => by rw [pyk, List.map_cons, pyk_2 r]; rfl
theorem okR_show : ∀ (k : Nat) (d : Dat), okR k d = true → (py d).showable = true ∧ (py d).depth ≤ k
  | k, .non, _ => by cases k <;> exact ⟨rfl, Nat.zero_le _⟩
  | k, .bl b, _ => by cases k <;> exact ⟨rfl, Nat.zero_le _⟩
  | k, .int i, h => by
    have h : decide (i.natAbs.log2 < 1920) = true := by cases k <;> exact h
    exact ⟨by rw [py, PyData.showable]; exact h, by rw [py, PyData.depth]; exact Nat.zero_le _⟩
  | k, .str x, h => ⟨by rw [py, PyData.showable], by rw [py, PyData.depth]; exact Nat.zero_le _⟩
  | 0, .tup xs, h => by cases h
  | 0, .lst xs, h => by cases h
  | 0, .dct xs, h => by cases h
  | k + 1, .tup xs, h => by
    have h : xs.all (okR k) = true := h
    have key : ∀ ys : List Dat, ys.all (okR k) = true → PyData.showableAll (pys ys) = true ∧ PyData.depthAll (pys ys) ≤ k := by
      intro ys
      induction ys with
      | nil => intro _; rw [pys]; exact ⟨by rw [PyData.showableAll], by rw [PyData.depthAll]; exact Nat.zero_le _⟩
      | cons y ys ih =>
        intro hy
        rw [List.all_cons, Bool.and_eq_true] at hy
        obtain ⟨h1, h2⟩ := okR_show k y hy.1
        obtain ⟨h3, h4⟩ := ih hy.2
        rw [pys, PyData.showableAll, PyData.depthAll, h1, h3]
        exact ⟨rfl, by omega⟩
    obtain ⟨h1, h2⟩ := key xs h
    rw [py, PyData.showable, PyData.depth]
    exact ⟨h1, by omega⟩
  | k + 1, .lst xs, h => by
    have h : xs.all (okR k) = true := h
    have key : ∀ ys : List Dat, ys.all (okR k) = true → PyData.showableAll (pys ys) = true ∧ PyData.depthAll (pys ys) ≤ k := by
      intro ys
      induction ys with
      | nil => intro _; rw [pys]; exact ⟨by rw [PyData.showableAll], by rw [PyData.depthAll]; exact Nat.zero_le _⟩
      | cons y ys ih =>
        intro hy
        rw [List.all_cons, Bool.and_eq_true] at hy
        obtain ⟨h1, h2⟩ := okR_show k y hy.1
        obtain ⟨h3, h4⟩ := ih hy.2
        rw [pys, PyData.showableAll, PyData.depthAll, h1, h3]
        exact ⟨rfl, by omega⟩
    obtain ⟨h1, h2⟩ := key xs h
    rw [py, PyData.showable, PyData.depth]
    exact ⟨h1, by omega⟩
  | k + 1, .dct kvs, h => by
    have h : (kvs.all fun p => okR k p.1 && okR k p.2) = true := h
    have key : ∀ ys : List (Dat × Dat), (ys.all fun p => okR k p.1 && okR k p.2) = true → PyData.showableKv (pyk ys) = true ∧ PyData.depthKv (pyk ys) ≤ k := by
      intro ys
      induction ys with
      | nil => intro _; rw [pyk]; exact ⟨by rw [PyData.showableKv], by rw [PyData.depthKv]; exact Nat.zero_le _⟩
      | cons y ys ih =>
        obtain ⟨a, b⟩ := y
        intro hy
        rw [List.all_cons, Bool.and_eq_true, Bool.and_eq_true] at hy
        obtain ⟨h1, h2⟩ := okR_show k a hy.1.1
        obtain ⟨h5, h6⟩ := okR_show k b hy.1.2
        obtain ⟨h3, h4⟩ := ih hy.2
        rw [pyk, PyData.showableKv, PyData.depthKv, h1, h3, h5]
        exact ⟨rfl, by omega⟩
    obtain ⟨h1, h2⟩ := key kvs h
    rw [py, PyData.showable, PyData.depth]
    exact ⟨h1, by omega⟩
  | k, .ins _ _, h => by cases k <;> cases h
  | k, .obj _, h => by cases k <;> cases h
  | k, .ref _, h => by cases k <;> cases h
  | k, .ty _, h => by cases k <;> cases h
  | k, .cls _, h => by cases k <;> cases h
section
variable {X : Cx} {C : Ct} {pins : List (Addr × Obj)} {σ : L2.St} {s : Shared} {n : Nw} {m : Mem}
theorem list_ns (I : Inv X pins σ n.H s) (ns : NoSys X.K) {a : Addr} {o : Obj} (e : s.heap.get? a = some o) (c : o.cls = .type "list") : a ≠ sysModules := by
  rintro rfl
  obtain ⟨o', h1, h2⟩ := ns
  have := I.kIn _ _ h1
  rw [e] at this
  cases this
  exact h2 c
mutual
theorem fz_rd (I : Inv X pins σ n.H s) (g : Good C X.w X.K n m) (ns : NoSys X.K) : ∀ (k : Nat) {v : V} {d : Dat} {u : Value}, FzN C X.w X.K n v d → RelV v u → okR k d = true → ∃ as, Reads s.heap u (py d) as ∧ sysModules ∉ as
  | k, _, .non, _, h, r, _ => by cases h; cases r; exact ⟨[], show Reads s.heap .none .none [] from .none, by simp⟩
  | k, _, .bl b, _, h, r, _ => by cases h; cases r; rw [py]; exact ⟨_, .bool b, by simp⟩
  | k, _, .int i, _, h, r, _ => by cases h; obtain ⟨t, rfl⟩ := r; rw [py]; exact ⟨_, .int i t, by simp⟩
  | k, _, .str x, _, h, r, _ => by cases h; obtain ⟨t, rfl⟩ := r; rw [py]; exact ⟨_, .str x t, by simp⟩
  | 0, _, .tup xs, _, h, r, e => by cases e
  | 0, _, .lst xs, _, h, r, e => by cases e
  | 0, _, .dct xs, _, h, r, e => by cases e
  | k + 1, _, .tup xs, _, h, r, e => by
    cases h with
    | tup h1 h2 =>
      cases r
      obtain ⟨its, rv, ⟨o, ho, hc, nn, hd⟩, _⟩ := I.tuple (SqT.keep g.sub h1)
      obtain ⟨as, q1, q2⟩ := fzs_rd I g ns k h2 rv e
      rw [py]
      exact ⟨_, .tuple ho hc hd (by simpa using q1), q2⟩
  | k + 1, _, .lst xs, _, h, r, e => by
    cases h with
    | lst h1 h2 =>
      cases r
      obtain ⟨its, rv, ⟨o, nn, ho, hc, _, hd⟩, _⟩ := I.list (.inl (rdUp g h1))
      obtain ⟨as, q1, q2⟩ := fzs_rd I g ns k h2 rv e
      rw [py]
      refine ⟨_, .list ho hc hd (by simpa using q1), fun z => ?_⟩
      rcases List.mem_cons.mp z with z | z
      · exact list_ns I ns ho hc z.symm
      · exact q2 z
  | k + 1, _, .dct kvs, _, h, r, e => by
    cases h with
    | dct h1 h2 h3 =>
      cases r
      obtain ⟨⟨o, ep, ho, hx, hd⟩, _⟩ : (∃ o ep, s.heap.get? _ = some o ∧ o.ExactDict ∧ o.data = .dict _ ep) ∧ _ := I.hok _ _ (g.sub _ _ h1)
      obtain ⟨as, bs, q1, q2, q3, q4⟩ := fze_rd I g ns k h3 e
      rw [py]
      refine ⟨_, .dict ho hx.1 hd (by rw [pyk_1]; exact q1) (by rw [pyk_2]; exact q2), fun z => ?_⟩
      rcases List.mem_append.mp z with z | z
      · rcases List.mem_cons.mp z with z | z
        · exact absurd z.symm (by simpa using h2)
        · exact q3 z
      · exact q4 z
  | k, _, .ins _ _, _, h, r, e => by cases k <;> cases e
  | k, _, .obj _, _, h, r, e => by cases k <;> cases e
  | k, _, .ref _, _, h, r, e => by cases k <;> cases e
  | k, _, .ty _, _, h, r, e => by cases k <;> cases e
  | k, _, .cls _, _, h, r, e => by cases k <;> cases e
theorem fzs_rd (I : Inv X pins σ n.H s) (g : Good C X.w X.K n m) (ns : NoSys X.K) : ∀ (k : Nat) {vs : List V} {ds : List Dat} {us : List Value}, FzAllN C X.w X.K n vs ds → Vals vs us → ds.all (okR k) = true → ∃ as, ReadsAll s.heap us (pys ds) as ∧ sysModules ∉ as
  | k, _, [], _, h, r, _ => by cases h; cases r; rw [pys]; exact ⟨_, .nil, by simp⟩
  | k, _, d :: ds, _, h, r, e => by
    rw [List.all_cons, Bool.and_eq_true] at e
    cases h with
    | cons a b =>
      cases r with
      | cons r1 r2 =>
        obtain ⟨as, q1, q2⟩ := fz_rd I g ns k a r1 e.1
        obtain ⟨bs, q3, q4⟩ := fzs_rd I g ns k b r2 e.2
        rw [pys]
        exact ⟨_, .cons q1 q3, fun z => (List.mem_append.mp z).elim q2 q4⟩
theorem fze_rd (I : Inv X pins σ n.H s) (g : Good C X.w X.K n m) (ns : NoSys X.K) : ∀ (k : Nat) {es : List DictEntry} {kvs : List (Dat × Dat)}, FzEs C X.w X.K n.al n.G es kvs → (kvs.all fun p => okR k p.1 && okR k p.2) = true →
    ∃ as bs, ReadsAll s.heap (es.map (·.key)) (kvs.map fun p => py p.1) as ∧ ReadsAll s.heap (es.map (·.val)) (kvs.map fun p => py p.2) bs ∧ sysModules ∉ as ∧ sysModules ∉ bs
  | k, _, [], h, _ => by cases h; exact ⟨_, _, .nil, .nil, by simp, by simp⟩
  | k, _, (a, b) :: ds, h, e => by
    rw [List.all_cons, Bool.and_eq_true, Bool.and_eq_true] at e
    cases h with
    | cons r1 x r2 y _ t =>
      obtain ⟨as, q1, q2⟩ := fz_rd I g ns k x r1 e.1.1
      obtain ⟨bs, q3, q4⟩ := fz_rd I g ns k y r2 e.1.2
      obtain ⟨cs, ds, q5, q6, q7, q8⟩ := fze_rd I g ns k t e.2
      exact ⟨_, _, .cons q1 q5, .cons q3 q6, fun z => (List.mem_append.mp z).elim q2 q7, fun z => (List.mem_append.mp z).elim q4 q8⟩
end
theorem now_rd (I : Inv X pins σ n.H s) (g : Good C X.w X.K n m) (ns : NoSys X.K) {k : Nat} {v : V} {d : Dat} {u : Value} (h : Nowv C X.w X.K n v d) (r : RelV v u) (e : okR k d = true) : ∃ as, Reads s.heap u (py d) as ∧ sysModules ∉ as := by
  cases h with
  | fz z => exact fz_rd I g ns k z r e
  | lst h1 h2 =>
    cases k with
    | zero => cases e
    | succ k =>
      cases r
      obtain ⟨its, rv, ⟨o, nn, ho, hc, _, hd⟩, _⟩ := I.list (.inl (.inl h1))
      obtain ⟨as, q1, q2⟩ := fzs_rd I g ns k h2 rv e
      rw [py]
      refine ⟨_, .list ho hc hd (by simpa using q1), fun z => ?_⟩
      rcases List.mem_cons.mp z with z | z
      · exact list_ns I ns ho hc z.symm
      · exact q2 z
  | dct h1 h2 h3 =>
    cases k with
    | zero => cases e
    | succ k =>
      cases r
      obtain ⟨⟨o, ep, ho, hx, hd⟩, _⟩ : (∃ o ep, s.heap.get? _ = some o ∧ o.ExactDict ∧ o.data = .dict _ ep) ∧ _ := I.hok _ _ h1
      obtain ⟨as, bs, q1, q2, q3, q4⟩ := fze_rd I g ns k h3 e
      rw [py]
      refine ⟨_, .dict ho hx.1 hd (by rw [pyk_1]; exact q1) (by rw [pyk_2]; exact q2), fun z => ?_⟩
      rcases List.mem_append.mp z with z | z
      · rcases List.mem_cons.mp z with z | z
        · exact absurd z.symm (by simpa using h2)
        · exact q3 z
      · exact q4 z
def oRepr : OpN := fun env m xs Q => match xs with
  | [x] => match der env m x with
    | some d => okR 60 d = true ∧ (py d).shown.length ≤ sizeLine ∧ Q (.str (py d).shown) m
    | none => False
  | _ => False
theorem call_reprD (hg : X.A.guards = some []) (hu : X.A.units + 64 < cLine) (ns : NoSys X.K) : CallD X C (.builtin "repr") oRepr := by
  refine ⟨fun env m xs Q Q' i => ?_, fun pins s σ H vs us Q I rv h => ?_⟩
  · unfold oRepr
    split
    · split
      · exact fun h => ⟨h.1, h.2.1, i _ _ h.2.2⟩
      · exact id
    · exact id
  · obtain ⟨B, n, env, m, σ', xs, rfl, ok, lx, h⟩ := h
    unfold oRepr at h
    split at h
    · rename_i x
      split at h
      · rename_i d hd
        obtain ⟨h1, h2, h3⟩ := h
        cases lx with
        | cons lx z =>
          cases z
          obtain ⟨u, rfl, r⟩ := vals1 rv
          obtain ⟨as, r1, r2⟩ := now_rd I ok.good ns (der_ok ok lx hd) r h1
          obtain ⟨s1, s2⟩ := okR_show _ _ h1
          have fin : ∀ (h' : Heap) (t : Tok) (tk : Tok), (∀ b o, s.heap.get? b = some o → h'.get? b = some o) → EP X pins σ Q (.str (py d).shown t) { s with heap := h', toks := tk } := fun h' t tk k =>
            ⟨.str _, n.H, I.kept k, ⟨_, rfl⟩, h3 n _ ok.good (.refl _) (.str _)⟩
          have same : ∀ b o, s.heap.get? b = some o → s.heap.get? b = some o := fun _ _ e => e
          have far : ∀ a, u = .ref a → wpAny (model X.prog X.w) X.A (call (.builtin "repr") [u]) (EP X pins σ Q) X.xe s := fun a e => by
            subst e
            exact repr_of_reads' r1 s1 (fun _ => r2) hg (by omega) same (fun h' t tk k => fin h' t tk k) h2
          cases d with
          | non => cases (show Reads s.heap u .none as from r1); exact PySem.P.repr_of_none (fin s.heap _ _ same)
          | bl b => rw [py] at r1; cases r1; exact PySem.P.repr_of_bool (by have := fin s.heap s.toks (s.toks + 1) same; rw [py, PyData.shown] at this; exact this)
          | int i =>
            rw [py] at r1; cases r1
            rw [py, PyData.showable] at s1
            exact PySem.P.repr_of_int (of_decide_eq_true s1) (by have := fin s.heap s.toks (s.toks + 1) same; rw [py, PyData.shown] at this; exact this)
          | str x =>
            rw [py] at r1; cases r1
            rw [py, PyData.shown] at h2
            exact PySem.P.repr_of_str (by have := fin s.heap s.toks (s.toks + 1) same; rw [py, PyData.shown] at this; exact this) h2
          | tup xs => rw [py] at r1; cases r1 with | tuple e1 e2 e3 e4 => exact far _ rfl
          | lst xs => rw [py] at r1; cases r1 with | list e1 e2 e3 e4 => exact far _ rfl
          | dct xs => rw [py] at r1; cases r1 with | dict e1 e2 e3 e4 e5 => exact far _ rfl
          | ins _ _ => cases h1
          | obj _ => cases h1
          | ref _ => cases h1
          | ty _ => cases h1
          | cls _ => cases h1
      · exact h.elim
    · exact h.elim
end
end DL

set_option maxHeartbeats 1000000
namespace DL
open PySem PySem.Spec PyProof.Rows L2

/-! ### sorted -/
def sortOk (xs : List Dat) : Prop := PySem.W.AllAlike (xs.map py) ∧ PySem.W.Sortable (xs.map py) ∧ xs.all (okR 30) = true
noncomputable def sortD (xs : List Dat) : List Dat := xs.mergeSort (PySem.W.dataLe false py)
section
variable {prog : Program} {w : World} {A : Around} {E : Value → Shared → Prop} {s : Shared} {β : Type} {bs : List β} {enc : β → PyData} {R : Value → β → Prop}
theorem tup_items {l : Addr} {vs : List Value} {Q : List Value → Shared → Prop} (hl : IsTup s.heap l vs.toArray)
    (h : Q vs { s with heap := (s.heap.push (seqObj "list" #[] 0)).update s.heap.objs.size (Obj.mapSeq (· ++ vs.toArray)) }) (hsz : vs.length ≤ sizeLine) :
    wpAny (model prog w) A (collect (.ref l)) Q E s := by
  obtain ⟨o, ho, hc, n, hd⟩ := id hl
  unfold collect
  refine wpAny_bind (wpAny_runValue (codeAny_builtin entry_proto_collect' ?_))
  show wpAny _ _ (do again (.builtin "list.__iadd__" ⟨[← newList [], .ref l], []⟩)) _ _ s
  refine wpAny_bind (wpAny_newList (wpAny_pure ⟨Code.quiet_builtin _ (by decide +kernel), codeAny_builtin entry_list_iadd' ?_⟩))
  show wpAny _ _ (Builtin.List.listExtendWith (.ref s.heap.objs.size) (.ref l) (.ref s.heap.objs.size)) _ _ { s with heap := s.heap.push (seqObj "list" #[] 0) }
  unfold Builtin.List.listExtendWith
  have ho' : (s.heap.push (seqObj "list" #[] 0)).get? l = some o := Heap.get?_push_of_some _ ho
  refine wpAny_bind (wpAny_typeOf (T := "tuple") ⟨o, ho', hc⟩ ?_)
  have ht : (Value.type "tuple" == Value.type "tuple") = true := by rfl
  rw [if_pos (by rw [ht]; simp)]
  refine wpAny_bind (listItems_at ho' hd ?_)
  refine wpAny_bind (listItems_at (xs := #[]) (n := 0) (Heap.get?_push_size _ rfl) rfl ?_)
  rw [if_neg (by simp)]
  refine wpAny_bind (listUpdate_at (xs := #[]) (n := 0) (Heap.get?_push_size _ rfl) rfl ?_ (Nat.zero_le _) (by show (#[] ++ vs.toArray).size ≤ sizeLine + 1; simp only [Array.size_append, List.size_toArray, List.length_nil]; omega))
  refine wpAny_pure ?_
  show wpAny (model prog w) A (do
      let o ← load s.heap.objs.size
      match o.data with
      | .seq xs _ => pure xs.toList
      | _ => unsupported "internal:collect") Q E { s with heap := (s.heap.push (seqObj "list" #[] 0)).update s.heap.objs.size (Obj.mapSeq (· ++ vs.toArray)) }
  refine wpAny_bind (wpAny_load (get?_update_seq (Heap.get?_push_size _ rfl) _) ?_)
  show wpAny _ _ (pure ((#[] : Array Value) ++ vs.toArray).toList) Q E _
  rw [show ((#[] : Array Value) ++ vs.toArray).toList = vs by simp]
  exact wpAny_pure h
open PySem.W PySem.Calls in
theorem sorted_tup {l : Addr} {vs : List Value} {Q : Value → Shared → Prop} (hl : IsTup s.heap l vs.toArray) (e : EachIs R vs bs) (er : EachIs (fun v b => ∃ as, Reads s.heap v (enc b) as) vs bs) (hal : AllAlike (bs.map enc)) (hk : Sortable (bs.map enc)) (hL : bs.length ≤ sizeLine)
    (hu : ∀ b, b ∈ bs → A.units + 2 + (enc b).depth < cLine) (h : ∀ out, out.length = bs.length → EachIs R out (bs.mergeSort (dataLe false enc)) → Q (.ref (s.heap.objs.size + 1)) { s with heap := sortedAll s.heap vs (List.toArray out) }) :
    wpAny (model prog w) A (call (.builtin "sorted") [.ref l]) Q E s := by
  have er' : EachIs (fun v b => ∃ as, Reads (sortingHeap (copyHeap s.heap vs) (s.heap.objs.size + 1) vs) v (enc b) as) vs bs := er.mono fun _ _ ⟨as, r⟩ => ⟨as, PyProof.Rows.Reads.keeps (fun _ _ => sorting_copy_old) r⟩
  have hL' : vs.length ≤ sizeLine := by rw [e.length]; exact hL
  have S := SortsAt.data (prog := prog) (w := w) (A := A.in1.in1) (s := { s with heap := sortingHeap (copyHeap s.heap vs) (s.heap.objs.size + 1) vs }) (each_map (R := fun v d => ∃ as, Reads (sortingHeap (copyHeap s.heap vs) (s.heap.objs.size + 1) vs) v d as) enc er') hal hk (bound_map hu)
  refine call_function_entry_kw kind_sorted plain_sorted entry_sorted (args_sorted1 _) ?_
  unfold Builtin.«sorted»
  refine wpAny_bind (m := checkCount "sorted" 1 1 _) (wpAny_pure ?_)
  refine wpAny_bind (tup_items hl ?_ hL')
  refine wpAny_bind (wpAny_newList ?_ hL')
  have hsz : ((s.heap.push (seqObj "list" #[] 0)).update s.heap.objs.size (Obj.mapSeq (· ++ vs.toArray))).objs.size = s.heap.objs.size + 1 := by
    rw [Heap.size_update, size_push']
  show wpAny _ _ _ _ _ { s with heap := copyHeap s.heap vs }
  rw [hsz]
  refine wpAny_bind (wpAny_holding (wpAny_call_entry_kw slot_list_sort ⟨_, copyHeap_at s.heap vs, rfl⟩ entry_list_sort ?body (args_list_sort _)))
  case body =>
    show wpAny (model prog w) A.in1.in1 (Builtin.«list.sort» ⟨[.ref (s.heap.objs.size + 1)], []⟩) _ _ _
    refine wpAny_mono (list_sort_vals (s := { s with heap := copyHeap s.heap vs }) (P := fun f s' => f = .done (.ret .none) ∧ Q (.ref (s.heap.objs.size + 1)) s') (copyHeap_at s.heap vs) S hL' ⟨rfl, h _ (by rw [sortVals_length false rfl]; exact e.length) (sortVals_data false e er' hal)⟩) (fun f s' hf => ?_) fun _ _ e => e
    obtain ⟨rfl, hq⟩ := hf
    exact ⟨_, rfl, wpAny_pure ⟨_, rfl, hq⟩⟩
end
section
variable {X : Cx} {C : Ct}
/-- values that show data -/
def ShowV (X : Cx) (C : Ct) (n : Nw) : Value → Dat → Prop := fun u d => ∃ v, RelV v u ∧ FzN C X.w X.K n v d
theorem each_of {n : Nw} : ∀ {us : List Value} {vs : List V} {ds : List Dat}, Vals vs us → FzAllN C X.w X.K n vs ds → PySem.W.EachIs (ShowV X C n) us ds
  | _, _, [], r, z => by cases z; cases r; exact .nil
  | _, _, d :: ds, r, z => by
    cases z with
    | cons a b =>
      cases r with
      | cons r1 r2 => exact .cons ⟨_, r1, a⟩ (each_of r2 b)
theorem of_each {n : Nw} : ∀ {us : List Value} {ds : List Dat}, PySem.W.EachIs (ShowV X C n) us ds → ∃ vs, Vals vs us ∧ FzAllN C X.w X.K n vs ds
  | _, _, .nil => ⟨[], .nil, .nil⟩
  | _, _, .cons ⟨v, r, z⟩ t => by
    obtain ⟨vs, h1, h2⟩ := of_each t
    exact ⟨v :: vs, .cons r h1, .cons z h2⟩
theorem each_rd {pins : List (Addr × Obj)} {σ : L2.St} {s : Shared} {n : Nw} {m : Mem} (I : Inv X pins σ n.H s) (g : Good C X.w X.K n m) (ns : NoSys X.K) (k : Nat) : ∀ {us : List Value} {ds : List Dat}, PySem.W.EachIs (ShowV X C n) us ds → ds.all (okR k) = true →
    PySem.W.EachIs (fun v b => ∃ as, Reads s.heap v (py b) as) us ds
  | _, _, .nil, _ => .nil
  | _, _, .cons ⟨v, r, z⟩ t, h => by
    rw [List.all_cons, Bool.and_eq_true] at h
    obtain ⟨as, r1, _⟩ := fz_rd I g ns k z r h.1
    exact .cons ⟨as, r1⟩ (each_rd I g ns k t h.2)
def rSortN (X : Cx) (C : Ct) : List V → Hp → VK → Prop := fun vs H Q => ∃ B n env m σ v x ds, n.H = H ∧ Ok C X.w X.K B n env m σ ∧ vs = [v] ∧ LvOk C X.w X.K n env σ v x ∧ seqOf env m x = some ds ∧ sortOk ds ∧
  ∀ p us, H p = none → FzAllN C X.w X.K n us (sortD ds) → Q (.ref p) (upd H p (.lst us))
theorem call_sortN (hu : X.A.units + 64 < cLine) (ns : NoSys X.K) : CallR X (.builtin "sorted") (rSortN X C) := by
  intro pins s σ H vs us Q I rv h
  obtain ⟨B, n, env, m, σ', v, x, ds, rfl, ok, rfl, lx, hs, ⟨o1, o2, o3⟩, q⟩ := h
  obtain ⟨a, zs, rfl, hsq, hz⟩ := seq_ok ok lx hs
  rw [Vals.ref1 rv]
  have dep : ∀ b, b ∈ ds → X.A.units + 2 + (py b).depth < cLine := fun b hb => by
    have := (okR_show 30 b (List.all_eq_true.mp o3 b hb)).2
    omega
  have fin : ∀ its : List Value, Vals zs its → zs.length ≤ sizeLine → ∀ out : List Value, out.length = ds.length → PySem.W.EachIs (ShowV X C n) out (ds.mergeSort (PySem.W.dataLe false py)) →
      EP X pins σ Q (.ref (s.heap.objs.size + 1)) { s with heap := sortedAll s.heap its (List.toArray out) } := fun its r hl out ho eo => by
    obtain ⟨ws, r2, z2⟩ := of_each eo
    obtain ⟨ep, he'⟩ := PyProof.Rows.sortedAll_at s.heap its (List.toArray out)
    have hlen : ws.length ≤ sizeLine := by
      rw [r2.length, ho, ← hz.length]; exact hl
    exact ⟨.ref _, upd n.H (s.heap.objs.size + 1) (.lst ws), I.laid (t' := s.toks) (fun _ _ => PyProof.Rows.sortedAll_old) (Nat.le_succ _) ⟨hlen, out, ep, r2, he'⟩, rfl, q _ ws (I.hok.fresh (Nat.le_succ _)) z2⟩
  rcases hsq with hsq | hsq
  · obtain ⟨its, r, hl, hzl⟩ := I.list hsq
    have e := each_of (X := X) (C := C) r hz
    exact PySem.W.sorted_data hl.isList e (each_rd I ok.good ns 30 e o3) o1 o2 (by rw [← hz.length]; exact hzl) dep (fin its r hzl)
  · obtain ⟨its, r, hl, hzl⟩ := I.tuple hsq
    have e := each_of (X := X) (C := C) r hz
    exact sorted_tup hl e (each_rd I ok.good ns 30 e o3) o1 o2 (by rw [← hz.length]; exact hzl) dep (fin its r hzl)
/-- sorted(e): a new list -/
def nSort (da : TD) : TN := fun env m Q => da env m fun x m1 => match seqOf env m1 x with
  | some ds => sortOk ds ∧ Q (sortD ds) m1
  | none => False
theorem dn_sorted {B : Nw} {a : Expr} {da : TD} {p pos : Pos} (hu : X.A.units + 64 < cLine) (ns : NoSys X.K) (hg : Gl X "sorted") (hm : X.mg "sorted" = none) (hv : bootBuiltins "sorted" = some (.builtin "sorted")) (ha : DE X C B a da)
    (he : starEach [a] X.env = (false, eval a X.env) :: starEach [] X.env := by rfl) (hpl : (backTo pos (starEach [] X.env)).any (·.1) = false := by rfl) : DN X C B (.Call (.Name "sorted" p) [a] [] pos) (nSort da) := by
  refine ⟨fun env m Q Q' i h => ha.mono _ _ _ _ (fun x m1 h1 => ?_) h, imp (pe_callB (call_sortN (C := C) hu ns) hg hm hv (pa_cons ha.run pa_nil he) (by decide) (by decide) he hpl) ?_⟩
  · split at h1
    · exact ⟨h1.1, i _ _ h1.2⟩
    · exact h1.elim
  rintro σ H Q ⟨n, env, m, rfl, ok, h⟩
  refine ⟨n, env, m, rfl, ok, ha.mono _ _ _ _ (fun x m1 h1 n1 v g1 l1 lx => ?_) h⟩
  split at h1
  · rename_i ds hds
    exact ⟨B, n1, env, m1, σ, v, x, ds, rfl, ok.go g1 l1, rfl, lx, hds, h1.1, fun p us hp hu => h1.2 n1 p us g1 l1 hp hu⟩
  · exact h1.elim
end
end DL

set_option maxHeartbeats 1000000
namespace DL
open PySem PySem.Spec PyProof.Rows L2

/-! ### enumerate -/
set_option maxHeartbeats 1000000 in
theorem enum_new0 {v : Value} {o : Obj} {H : Heap → Prop} (B : Begins v o H) :
    Meets (Builtin.«enumerate.__new__» ⟨[.type "enumerate", v], []⟩) (fun _ R s => H s.heap ∧
      R (.ok (.ret (.ref (s.heap.push o).objs.size))) { s with heap := (s.heap.push o).push { cls := .type "enumerate", data := .fields #[.none, .bool false, .ref s.heap.objs.size, rawInt 0, .none, .none] } }) :=
  .of_wp fun prog w A R s h => by
    obtain ⟨hp, g, d, tk, os⟩ := s; obtain ⟨h1, h⟩ := h
    have hsub := sub_enumerate
    have q1 : ∀ {A' : Around} {E : Value → Shared → Prop} {Q : Value → Shared → Prop}, Q (.ref hp.objs.size) ⟨hp.push o, g, d, tk, os⟩ → wpAny (model prog w) A' (pyIter v) Q E ⟨hp, g, d, tk, os⟩ :=
      fun q => B.iter prog w _ _ ⟨hp, g, d, tk, os⟩ _ h1 q
    wp_walk using q1
    refine wpAny_stack_any fun st => wpAny_pure ?_
    split
    · rename_i c _ _ _ _ _
      cases (c == Value.type "enumerate")
      · wp_walk using q1
        exact ⟨_, rfl, h⟩
      · wp_walk using q1
        exact ⟨_, rfl, h⟩
    · wp_walk using q1
      exact ⟨_, rfl, h⟩
theorem enum_begins0 {prog : Program} {w : World} {A : Around} {E : Value → Shared → Prop} {s : Shared} {v : Value} {o : Obj} {H : Heap → Prop} {Q : Value → Shared → Prop} (B : Begins v o H) (h1 : H s.heap)
    (h : ∀ h', IsEnum h' (s.heap.objs.size + 1) s.heap.objs.size 0 .none → h'.get? s.heap.objs.size = some o → h'.objs.size = s.heap.objs.size + 2 →
      (∀ b o, s.heap.get? b = some o → h'.get? b = some o) → Q (.ref (s.heap.objs.size + 1)) { s with heap := h' }) :
    wpAny (model prog w) A (call (.type "enumerate") [v]) Q E s := by
  refine callType_new F.called_enumerate (by decide) (F.typeCall_enumerate_1 _) (F.newCall_enumerate_1 _) (fun obj => F.args_object_init_2 obj _) F.entry_enumerate_new
    (enum_new0 B) ⟨h1, ?_⟩
  have hz : (s.heap.push o).objs.size = s.heap.objs.size + 1 := Heap.size_push ..
  show _ ∧ _
  rw [hz]
  have he : IsEnum ((s.heap.push o).push { cls := .type "enumerate", data := .fields #[.none, .bool false, .ref s.heap.objs.size, rawInt 0, .none, .none] }) (s.heap.objs.size + 1) s.heap.objs.size 0 .none := by
    have := Heap.get?_push_size (s.heap.push o) (o := { cls := .type "enumerate", data := .fields #[.none, .bool false, .ref s.heap.objs.size, rawInt 0, .none, .none] }) rfl
    rw [hz] at this; exact this
  refine ⟨⟨_, he, rfl⟩, h _ he (Heap.get?_push_of_some _ (Heap.get?_push_size _ B.free)) (by rw [Heap.size_push, hz]) fun b o x => Heap.get?_push_of_some _ (Heap.get?_push_of_some _ x)⟩
/-- the tuple at a, each item with its number in a new pair -/
def IteT (K : PySem.W.Frag) (a : Addr) : It :=
  ⟨fun i H => ∃ (xs : List V) (x : V), SqT K H a xs ∧ xs[i]? = some x, fun i H v H' => ∃ T x, v = .ref T ∧ H T = none ∧ H' = upd H T (.tup [.int (i : Nat), x]) ∧ ∀ xs, SqT K H a xs → xs[i]? = some x, fun i H => ∃ xs : List V, SqT K H a xs ∧ xs.length ≤ i⟩
theorem turn_enumT {P : Program} {w : World} {K : PySem.W.Frag} {elts : List Expr} {kk : Nat} {tpos : Pos} (a e it : Addr) :
    Turn P w K (.Tuple elts kk tpos) (IteT K a) [e, it] e (fun i h => (∃ old, IsEnum h e it ((i : Nat) : Int) old) ∧ h.IsTupleIter it a i ∧ e ≠ it ∧ e ≠ a ∧ a ≠ it) where
  mem := by simp
  obj := fun i h st b hb => by
    obtain ⟨⟨old, he⟩, ⟨o, ho, hc, hd⟩, _⟩ := st
    have e' : b = e ∨ b = it := by simpa using hb
    rcases e' with z | z
    · rw [z]; exact ⟨_, he, fun v q => nomatch q⟩
    · rw [z]; exact ⟨o, ho, fun v q => by rw [hd] at q; cases q⟩
  keep := fun i h h' st k => let ⟨⟨old, he⟩, hi, hne⟩ := st; ⟨⟨old, k e (by simp) _ he⟩, hi.at fun o q => k it (by simp) o q, hne⟩
  item := by
    intro X hP hw hK hc i pins s σ H E I hf st hg
    subst hP hw hK
    obtain ⟨⟨old, he⟩, hit, hne, hea, hai⟩ := st
    obtain ⟨xs, x, hq, hx⟩ := hg
    obtain ⟨its, rv, p, hz⟩ := I.tuple hq
    obtain ⟨u, hu, ru⟩ := rv.get hx
    have hel : e < s.heap.objs.size := Heap.lt_size he
    have hil : it < s.heap.objs.size := by obtain ⟨_, q, _⟩ := hit; exact Heap.lt_size q
    have hh : X.A.in1.handled = none := I.ok.hd hc
    have hlt : i < its.toArray.size := by
      have := (List.getElem?_eq_some_iff.mp hu).1
      simpa using this
    refine wpAny_pyNext_enum_itemD (Draws.tuple hh it a hai its.toArray) he ⟨hit, p⟩ hlt hne (by simp [hne, hea]) fun y h' tk hy ho hit' hT hsz hk => ?_
    have hy' : its.toArray[i]? = some y := hy
    have hyu : y = u := by
      have e1 : its.toArray[i]? = some u := by simpa using hu
      rw [hy'] at e1
      exact Option.some.inj e1
    subst hyu
    refine ⟨_, rfl, wpAny_letOwnedTupleGo_enum (s := { s with heap := h', toks := tk + 1 }) ho fun h'' he' sb => ?_⟩
    have hT2 : h''.get? s.heap.objs.size = some { cls := .type "tuple", data := .seq #[.int i tk, y] } := (sb.2 _ (Nat.ne_of_gt hel)).trans hT
    have new : ObjOk X.prog X.w (upd H s.heap.objs.size (.tup [.int (i : Nat), x])) h'' s.heap.objs.size (.tup [.int (i : Nat), x]) :=
      ⟨by show 2 ≤ sizeLine; decide, [.int i tk, y], .cons ⟨_, rfl⟩ (.cons ru .nil), ⟨_, hT2, rfl, _, rfl⟩⟩
    have I1 : Inv X pins σ (upd H s.heap.objs.size (.tup [.int (i : Nat), x])) { s with heap := h'', toks := tk + 1 } :=
      I.turnedNew (ch := [e, it]) (fun b ob hb q => (sb.2 b (fun z => hb (by simp [z]))).trans (hk b ob (fun z => hb (by simp [z])) (fun z => hb (by simp [z])) q)) hf (Nat.le_refl _) new
    refine ⟨.ref s.heap.objs.size, _, I1, rfl, ⟨_, x, rfl, I.hok.fresh (Nat.le_refl _), rfl, fun ys hy => by rw [I.tuple_inj hy hq]; exact hx⟩, ⟨⟨y, ?_⟩, hit'.1.at fun o q => (sb.2 it (Ne.symm hne)).trans q, hne, hea, hai⟩, fun b hb => ?_⟩
    · have e1 : ((i + 1 : Nat) : Int) = (i : Int) + 1 := by omega
      rw [e1]; exact he'
    · have hb' : b < s.heap.objs.size := by
        have e' : b = e ∨ b = it := by simpa using hb
        rcases e' with z | z
        · rw [z]; exact hel
        · rw [z]; exact hil
      rw [upd_ne (Nat.ne_of_lt hb')]
      exact (hf b hb).1
  done := by
    intro X hP hw hK hc i pins s σ H E I hf st hg
    subst hP hw hK
    obtain ⟨⟨old, he⟩, hit, hne, hea, hai⟩ := st
    obtain ⟨xs, hq, hx⟩ := hg
    obtain ⟨its, rv, p, hz⟩ := I.tuple hq
    obtain ⟨f0, f1, f2, f3, f4, f5⟩ := hf it (by simp)
    have hl := rv.length
    have hh : X.A.in1.handled = none := I.ok.hd hc
    have hx' : its.toArray[i]? = none := by simp; omega
    have D : Draws X.prog X.w X.A.in1 it [it, a] i (fun _ _ => False) (fun j h => j = i ∧ h.IsTupleIter it a i ∧ h.IsTuple a its.toArray) :=
      { live := fun _ _ st => let ⟨o, ho, _⟩ := st.2.1; ⟨o, ho⟩
        frame := fun _ _ _ st hk => ⟨st.1, st.2.1.at fun o e => hk it (by simp) o e, st.2.2.at fun o e => hk a (by simp) o e⟩
        item := fun j s Q E hj st _ => absurd st.1 (by omega)
        done := fun s Q E st hE => wpAny_nextOf_tuple_end hh st.2.1 st.2.2 hx' hE }
    exact wpAny_pyNext_enum_endD D he ⟨rfl, hit, p⟩ fun h' eb => ⟨rfl, I.turned (t' := s.toks) (fun b o hb q => eb b o hb q) f0 f1 f3 f4 f5⟩
  self := fun A i s Q E st h => let ⟨⟨_, he⟩, _⟩ := st; wpAny_pyIter_enum he h
/-- enumerate of a list, a tuple -/
theorem pi_enumA {X : Cx} {e : Expr} {ta : TA} {p pos tpos : Pos} {elts : List Expr} {kk : Nat} (hg : Gl X "enumerate") (hm : X.mg "enumerate" = none) (ha : PA X [e] ta) (hs : starEach [e] X.env = [(false, eval e X.env)] := by rfl) :
    PI X (.Tuple elts kk tpos) (.Call (.Name "enumerate" p) [e] [] pos) (fun σ H R => ta σ H fun vs H1 => ∃ a xs, vs = [.ref a] ∧ ((SqL X.K H1 a xs ∧ R (Ite X.K a) H1) ∨ (SqT X.K H1 a xs ∧ R (IteT X.K a) H1))) := by
  refine ⟨fun pins s σ H R I h => ?_⟩
  refine Call_ (ld_blt I hg hm boot_enumerate (PyProof.Rows.callWith_type1 (thn (ha.run pos pins s σ H _ I h) fun us s1 ⟨vs, H1, I1, r1, q1⟩ => ?_) hs rfl))
  obtain ⟨a, xs, ex, q1⟩ := q1
  subst ex
  cases r1 with
  | cons r rr =>
    cases rr
    cases r
    have fr2 : ∀ b, b ∈ [s1.heap.objs.size + 1, s1.heap.objs.size] → FpOk X pins H1 b := fun b hb => by
      have e' : b = s1.heap.objs.size + 1 ∨ b = s1.heap.objs.size := by simpa using hb
      have hle : s1.heap.objs.size ≤ b := by
        rcases e' with z | z
        · rw [z]; exact Nat.le_add_right _ _
        · rw [z]; exact Nat.le_refl _
      exact I1.fpOk hle (I1.hok.fresh hle)
    rcases q1 with ⟨hq, q⟩ | ⟨hq, q⟩
    · obtain ⟨its, rv, p', hz⟩ := I1.list hq
      refine call_enumerate_list p'.isList fun h' he hit hsz hk => wpAny_pyIter_enum he ?_
      exact ⟨s1.heap.objs.size + 1, [s1.heap.objs.size + 1, s1.heap.objs.size], _, _, H1, rfl, I1.kept (t' := s1.toks) hk, turn_enum a (s1.heap.objs.size + 1) s1.heap.objs.size, ⟨⟨.none, he⟩, hit, Nat.succ_ne_self _⟩, fr2, q⟩
    · obtain ⟨its, rv, p', hz⟩ := I1.tuple hq
      have lt : a < s1.heap.objs.size := by obtain ⟨_, e, _⟩ := id p'; exact Heap.lt_size e
      refine enum_begins0 (begins_tuple a its.toArray) p' fun h' he hit hsz hk => wpAny_pyIter_enum he ?_
      exact ⟨s1.heap.objs.size + 1, [s1.heap.objs.size + 1, s1.heap.objs.size], _, _, H1, rfl, I1.kept (t' := s1.toks) hk, turn_enumT a (s1.heap.objs.size + 1) s1.heap.objs.size,
        ⟨⟨.none, he⟩, ⟨_, hit, rfl, rfl⟩, Nat.succ_ne_self _, Nat.ne_of_gt (Nat.lt_succ_of_lt lt), Nat.ne_of_lt lt⟩, fr2, q⟩
theorem walk_enumT {K : PySem.W.Frag} {a : Addr} {xs : List V} : Walk (IteT K a) xs.length (fun H => SqT K H a xs) (YPair (fun i => some (.int (i : Nat))) (fun i => xs[i]?)) := by
  refine ⟨fun i _ hi q => ⟨xs, xs[i], q, by simp [hi]⟩, fun _ q => ⟨xs, q, Nat.le_refl _⟩, fun i H v H' _ q y => ?_⟩
  obtain ⟨T, x, h1, h2, h3, h4⟩ := y
  exact ⟨T, .int (i : Nat), x, h1, h2, h3, rfl, h4 xs q⟩
theorem walk_zipT {K : PySem.W.Frag} {a b : Addr} {xs ys : List V} {n : Nat} (hn : n = min xs.length ys.length) : Walk (RZ.ItzT K a b) n (fun H => SqT K H a xs ∧ SqT K H b ys) (YPair (fun i => xs[i]?) (fun i => ys[i]?)) := by
  subst hn
  refine ⟨fun i _ hi q => ?_, fun _ q => ⟨xs, ys, q.1, q.2, by omega⟩, fun i H v H' _ q y => ?_⟩
  · have h1 : i < xs.length := by omega
    have h2 : i < ys.length := by omega
    exact ⟨xs, ys, xs[i], ys[i], q.1, q.2, by simp [h1], by simp [h2]⟩
  · obtain ⟨T, x, z, h1, h2, h3, h4, h5⟩ := y
    exact ⟨T, x, z, h1, h2, h3, h4 xs q.1, h5 ys q.2⟩
/-! ### their readings -/
def enumD : Nat → List Dat → List Dat
  | _, [] => []
  | i, x :: xs => .tup [.int (i : Nat), x] :: enumD (i + 1) xs
def zipD : List Dat → List Dat → List Dat
  | x :: xs, y :: ys => .tup [x, y] :: zipD xs ys
  | _, _ => []
theorem enumD_len : ∀ (i : Nat) (xs : List Dat), (enumD i xs).length = xs.length
  | _, [] => rfl
  | i, x :: xs => by rw [enumD, List.length_cons, List.length_cons, enumD_len]
theorem enumD_get : ∀ (xs : List Dat) (k i : Nat), (enumD k xs)[i]? = xs[i]?.map fun x => .tup [.int ((k + i : Nat) : Int), x]
  | [], _, _ => by simp [enumD]
  | x :: xs, k, 0 => by simp [enumD]
  | x :: xs, k, i + 1 => by
    have := enumD_get xs (k + 1) i
    rw [enumD, List.getElem?_cons_succ, List.getElem?_cons_succ, this, show k + 1 + i = k + (i + 1) by omega]
theorem zipD_len : ∀ (xs ys : List Dat), (zipD xs ys).length = min xs.length ys.length
  | [], _ => by simp [zipD]
  | x :: xs, [] => by simp [zipD]
  | x :: xs, y :: ys => by simp [zipD, zipD_len xs ys]
theorem zipD_get : ∀ (xs ys : List Dat) (i : Nat) (x y : Dat), xs[i]? = some x → ys[i]? = some y → (zipD xs ys)[i]? = some (.tup [x, y])
  | [], _, _, _, _, h, _ => by simp at h
  | x :: xs, [], _, _, _, _, h => by simp at h
  | x :: xs, y :: ys, 0, a, b, h, h' => by simp at h h'; simp [zipD, h, h']
  | x :: xs, y :: ys, i + 1, a, b, h, h' => by simp at h h'; simp [zipD, zipD_get xs ys i a b h h']
section
variable {X : Cx} {C : Ct} {B : Nw} {w : World} {K : PySem.W.Frag} {n : Nw} {m : Mem} {e e2 : Expr} {d d2 : TD}
/-- a new pair -/
theorem new_pair {n' : Nw} {T : Addr} {x y : V} {a b : Dat} (g : Good C w K n' m) (hT : n'.H T = none) (ha : FzN C w K n' x a) (hb : FzN C w K n' y b) :
    ∃ n'' : Nw, n''.H = upd n'.H T (.tup [x, y]) ∧ Good C w K n'' m ∧ n'.le n'' ∧ FzN C w K n'' (.ref T) (.tup [a, b]) := by
  obtain ⟨g2, l2⟩ := g.freeze (o := .tup [x, y]) hT
  exact ⟨_, rfl, g2, l2, .tup (SqT.of upd_same) (.cons (FzN.le ha l2) (.cons (FzN.le hb l2) .nil))⟩
theorem walkD_pairs {J : It} {xs : List Dat} {us vs : Nat → Option V} {Gp : Hp → Prop} (wk : Walk J xs.length Gp (YPair us vs)) (hG : ∀ n' m', n.sub n' → Good C w K n' m' → Gp n'.H)
    (hv : ∀ i x y, i < xs.length → us i = some x → vs i = some y → ∃ a b, xs[i]? = some (.tup [a, b]) ∧ FzN C w K n x a ∧ FzN C w K n y b) : WalkD C w K n J xs := by
  refine ⟨Gp, _, wk, fun n' m' s g => ⟨hG n' m' s g, fun i v H' hi hy => ?_⟩⟩
  obtain ⟨T, x, y, rfl, hT, rfl, h1, h2⟩ := hy
  obtain ⟨a, b, h3, h4, h5⟩ := hv i x y hi h1 h2
  obtain ⟨n'', e1, g2, l2, z⟩ := new_pair g hT (Fz.keep s.g (pre_get s.l) h4) (Fz.keep s.g (pre_get s.l) h5)
  exact ⟨n'', _, e1, g2, l2, h3, z⟩
def iEnumD (d : TD) : TId := fun env m Q => d env m fun x m1 => match x with
  | .f (.lst xs) => Q (enumD 0 xs) m1
  | .f (.tup xs) => Q (enumD 0 xs) m1
  | _ => False
theorem walkE {J : It} {xs : List Dat} {vs : List V} {Gp : Hp → Prop} (wk : Walk J vs.length Gp (YPair (fun i => some (.int (i : Nat))) (fun i => vs[i]?))) (hG : ∀ n' m', n.sub n' → Good C w K n' m' → Gp n'.H) (z : FzAllN C w K n vs xs) : WalkD C w K n J (enumD 0 xs) := by
  have hl := z.length
  refine walkD_pairs (by rw [enumD_len, ← hl]; exact wk) hG fun i x y hi h1 h2 => ?_
  cases h1
  obtain ⟨b, h3, h4⟩ := z.get' h2
  exact ⟨.int (i : Nat), b, by rw [enumD_get, h3, Nat.zero_add]; rfl, .int _, h4⟩
theorem di_enum {elts : List Expr} {kk : Nat} {tpos p pos : Pos} (hg : Gl X "enumerate") (hm : X.mg "enumerate" = none) (h : DE X C B e d) (hs : starEach [e] X.env = [(false, eval e X.env)] := by rfl) : DI X C B (.Tuple elts kk tpos) (.Call (.Name "enumerate" p) [e] [] pos) (iEnumD d) := by
  refine ⟨fun env m Q Q' i => h.mono _ _ _ _ fun x m1 => ?_, impI (pi_enumA hg hm (pa_cons h.run pa_nil hs) hs) ?_⟩
  · try dsimp only
    split <;> first | exact i _ _ | exact id
  rintro σ H R ⟨n, env, m, rfl, ok, q⟩
  refine ⟨n, env, m, rfl, ok, h.mono _ _ _ _ (fun x m1 h1 n1 v g1 l1 lx => ?_) q⟩
  split at h1
  · rename_i xs
    have lx : FzN C X.w X.K n1 v (.lst xs) := lx
    cases lx with
    | lst r z =>
      exact ⟨_, _, rfl, .inl ⟨.inl (rdUp g1 r), h1 n1 _ g1 l1 (walkE walk_enum (fun n' m' s g => Or.inl (rdUp g (Rd.keep s.g r))) z)⟩⟩
  · rename_i xs
    have lx : FzN C X.w X.K n1 v (.tup xs) := lx
    cases lx with
    | tup r z =>
      exact ⟨_, _, rfl, .inr ⟨SqT.keep g1.sub r, h1 n1 _ g1 l1 (walkE walk_enumT (fun n' m' s g => SqT.keep g.sub (SqT.keep s.g r)) z)⟩⟩
  · exact h1.elim
def iZipD (d d2 : TD) : TId := fun env m Q => d env m fun x m1 => d2 env m1 fun y m2 => match x, y with
  | .f (.lst xs), .f (.lst ys) => Q (zipD xs ys) m2
  | .f (.tup xs), .f (.tup ys) => Q (zipD xs ys) m2
  | _, _ => False
theorem walkZ {J : It} {xs ys : List Dat} {vs us : List V} {Gp : Hp → Prop} (wk : Walk J (min vs.length us.length) Gp (YPair (fun i => vs[i]?) (fun i => us[i]?))) (hG : ∀ n' m', n.sub n' → Good C w K n' m' → Gp n'.H) (z : FzAllN C w K n vs xs) (z2 : FzAllN C w K n us ys) :
    WalkD C w K n J (zipD xs ys) := by
  have hl := z.length
  have hl2 := z2.length
  refine walkD_pairs (by rw [zipD_len, ← hl, ← hl2]; exact wk) hG fun i x y hi h1 h2 => ?_
  obtain ⟨a, h3, h4⟩ := z.get' h1
  obtain ⟨b, h5, h6⟩ := z2.get' h2
  exact ⟨a, b, zipD_get _ _ _ _ _ h3 h5, h4, h6⟩
theorem di_zip {elts : List Expr} {kk : Nat} {tpos p pos : Pos} (hg : Gl X "zip") (hm : X.mg "zip" = none) (h : DE X C B e d) (h2 : DE X C B e2 d2) (hs : starEach [e, e2] X.env = (false, eval e X.env) :: starEach [e2] X.env := by rfl) (hs2 : starEach [e2] X.env = (false, eval e2 X.env) :: starEach [] X.env := by rfl)
    (hpl : (backTo pos (starEach [e2] X.env)).any (·.1) = false := by rfl) : DI X C B (.Tuple elts kk tpos) (.Call (.Name "zip" p) [e, e2] [] pos) (iZipD d d2) := by
  refine ⟨fun env m Q Q' i => h.mono _ _ _ _ fun x m1 => h2.mono _ _ _ _ fun y m2 => ?_, impI (RZ.pi_zipA hg hm (pa_cons h.run (pa_cons h2.run pa_nil hs2) hs) hs hpl) ?_⟩
  · try dsimp only
    split <;> first | exact i _ _ | exact id
  rintro σ H R ⟨n, env, m, rfl, ok, q⟩
  refine ⟨n, env, m, rfl, ok, h.mono _ _ _ _ (fun x m1 h1 n1 v g1 l1 lx => ?_) q⟩
  refine ⟨n1, env, m1, rfl, ok.go g1 l1, h2.mono _ _ _ _ (fun y m2 q2 n2 u g2 l2 ly => ?_) h1⟩
  split at q2
  · rename_i xs ys
    have lx : FzN C X.w X.K n2 v (.lst xs) := FzN.le (n := n1) lx l2
    have ly : FzN C X.w X.K n2 u (.lst ys) := ly
    cases lx with
    | lst r z =>
      cases ly with
      | lst r' z' =>
        exact ⟨_, _, _, _, rfl, .inl ⟨.inl (rdUp g2 r), .inl (rdUp g2 r'), q2 n2 _ g2 (l1.trans l2) (walkZ (walk_zip rfl) (fun n' m' s g => ⟨Or.inl (rdUp g (Rd.keep s.g r)), Or.inl (rdUp g (Rd.keep s.g r'))⟩) z z')⟩⟩
  · rename_i xs ys
    have lx : FzN C X.w X.K n2 v (.tup xs) := FzN.le (n := n1) lx l2
    have ly : FzN C X.w X.K n2 u (.tup ys) := ly
    cases lx with
    | tup r z =>
      cases ly with
      | tup r' z' =>
        exact ⟨_, _, _, _, rfl, .inr ⟨SqT.keep g2.sub r, SqT.keep g2.sub r', q2 n2 _ g2 (l1.trans l2) (walkZ (walk_zipT rfl) (fun n' m' s g => ⟨SqT.keep g.sub (SqT.keep s.g r), SqT.keep g.sub (SqT.keep s.g r')⟩) z z')⟩⟩
  · exact q2.elim
end
end DL

set_option maxHeartbeats 1000000
namespace DL
open PySem PySem.Spec PyProof.Rows L2

/-! ### x[::-1] -/
theorem back_ends (n : Nat) : Builtin.Slice.sliceAdjust none none (-1) (n : Int) = ((n : Int) - 1, -1) := by
  unfold Builtin.Slice.sliceAdjust
  simp
theorem back_many (n : Nat) : Builtin.Slice.slicePlaces ((n : Int) - 1) (-1) (-1) = n := by
  unfold Builtin.Slice.slicePlaces
  simp
  split <;> omega
theorem back_pick (xs : Array Value) : ((List.range xs.size).filterMap fun (m : Nat) => xs[(((xs.size : Nat) : Int) - 1 + (m : Int) * (-1)).toNat]?).toArray = xs.toList.reverse.toArray := by
  have key : ∀ (l : List Value) (k : Nat), k ≤ l.length → ((List.range k).filterMap fun (m : Nat) => l[l.length - 1 - m]?) = l.reverse.take k := by
    intro l k
    induction k with
    | zero => intro _; simp
    | succ k ih =>
      intro hk
      rw [List.range_succ, List.filterMap_append, ih (by omega)]
      have h1 : l.length - 1 - k < l.length := by omega
      simp only [List.filterMap_cons, List.filterMap_nil, List.getElem?_eq_getElem h1]
      rw [List.take_succ]
      congr 1
      rw [List.getElem?_reverse (by omega), List.getElem?_eq_getElem h1]
      rfl
  have e : (fun (m : Nat) => xs[(((xs.size : Nat) : Int) - 1 + (m : Int) * (-1)).toNat]?) = fun m => xs.toList[xs.toList.length - 1 - m]? := by
    funext m
    have : (((xs.size : Nat) : Int) - 1 + (m : Int) * (-1)).toNat = xs.toList.length - 1 - m := by simp; omega
    rw [this]
    simp
  rw [e]
  have := key xs.toList xs.toList.length (Nat.le_refl _)
  rw [show xs.size = xs.toList.length by simp, this, List.take_of_length_le (by simp)]
section
variable {prog : Program} {w : World} {A : Around} {E : Value → Shared → Prop} {s : Shared}
theorem back_applied {sl : Addr} {vs : Value} {n : Nat} {Q : Int × Int × Nat → Shared → Prop} (hs : s.heap.IsSliceOf sl .none .none vs) (ps : IsPart vs (some (-1)))
    (h : Q ((n : Int) - 1, -1, n) s) : wpAny (model prog w) A (Builtin.Slice.sliceApplied (.ref sl) (pure (n : Int))) Q E s := by
  obtain ⟨os, hos, hcs, hds⟩ := id hs
  unfold Builtin.Slice.sliceApplied Builtin.Slice.sliceFields
  refine wpAny_bind (wpAny_bind (wpAny_field hos hds (x := .none) rfl (wpAny_bind (wpAny_field hos hds (x := .none) rfl (wpAny_bind (wpAny_field hos hds (x := vs) rfl (wpAny_pure ?_)))))))
  refine wpAny_bind (HT.slicePart_ ps ?_)
  show wpAny _ _ (if ((-1 : Int) == 0) = true then _ else _) _ _ s
  rw [if_neg (by decide)]
  refine wpAny_bind (HT.slicePart_ .none (wpAny_bind (HT.slicePart_ .none (wpAny_bind (wpAny_pure ?_)))))
  show wpAny _ _ (match Builtin.Slice.sliceAdjust none none (-1) (n : Int) with | (lo, hi) => pure (lo, (-1 : Int), Builtin.Slice.slicePlaces lo hi (-1))) _ _ s
  rw [back_ends n]
  show wpAny _ _ (pure ((n : Int) - 1, (-1 : Int), Builtin.Slice.slicePlaces ((n : Int) - 1) (-1) (-1))) _ _ s
  rw [back_many]
  exact wpAny_pure h
theorem tuple_back {t sl : Addr} {items : Array Value} {vs : Value} {Q : Value → Shared → Prop} (ht : IsTup s.heap t items) (hs : s.heap.IsSliceOf sl .none .none vs) (ps : IsPart vs (some (-1)))
    (h : Q (.ref s.heap.objs.size) { s with heap := s.heap.push { cls := .type "tuple", data := .seq items.toList.reverse.toArray } })
    (hsz : items.size ≤ sizeLine) : wpAny (model prog w) A (getItem (.ref t) (.ref sl)) Q E s := by
  have htake : sizeOk (.seq items.toList.reverse.toArray) := by
    show items.toList.reverse.toArray.size ≤ sizeLine
    simpa using hsz
  obtain ⟨os, hos, hcs, hds⟩ := id hs
  have hTs : s.TypeIs (.ref sl) "slice" := ⟨os, hos, hcs⟩
  unfold getItem
  try with_reducible refine wpAny_holding ?_
  first | refine wpAny_bind (wpAny_pure ?_) | skip
  refine wpAny_bind (wpAny_sequenceKey ht.typeIs (by decide) ?_)
  refine wpAny_bind (wpAny_callSpecial?_slot (name := Str.ofString "__getitem__") ht.typeIs PyProof.Rows.slot_tuple_getitem
    (wpAny_call_entry PyProof.Rows.slot_tuple_getitem ht.typeIs entry_tuple_getitem ?_ (args_tuple_getitem _ _)))
  show wpAny _ _ (Builtin.Tuple.tupleItemsOf (.ref t) >>= _) _ _ s
  refine wpAny_bind (tupleItemsOf_ ht ?_)
  refine wpAny_bind (wpAny_typeOf hTs ?_)
  rw [if_pos (by decide)]
  refine wpAny_bind (back_applied hs ps ?_)
  have hno : ¬ ((((items.size : Int) - 1) == 0 && (-1 : Int) == 1 && items.size == items.size) = true) := by
    rw [show ((-1 : Int) == 1) = false by decide, Bool.and_false, Bool.false_and]
    exact Bool.false_ne_true
  show wpAny _ _ (if (((items.size : Int) - 1) == 0 && (-1 : Int) == 1 && items.size == items.size) = true then _ else _) _ _ s
  rw [if_neg hno, back_pick]
  first
    | exact wpAny_bind (m := Builtin.Tuple.tupleExact _) (wpAny_newObj_type (wpAny_pure ⟨_, rfl, wpAny_pure h⟩) htake)
    | exact wpAny_bind (m := Builtin.Tuple.tupleExact _) (wpAny_newObj_type (wpAny_bind (wpAny_pure (wpAny_pure ⟨_, rfl, wpAny_pure h⟩))) htake)
    | exact wpAny_bind (wpAny_bind (m := Builtin.Tuple.tupleExact _) (wpAny_newObj_type (wpAny_pure (wpAny_pure ⟨_, rfl, wpAny_pure h⟩)) htake))
    | exact wpAny_bind (wpAny_bind (m := Builtin.Tuple.tupleExact _) (wpAny_newObj_type (wpAny_pure ⟨_, rfl, wpAny_pure h⟩) htake))
end
section
variable {X : Cx} {C : Ct} {B : Nw} {e : Expr} {d : TD}
theorem pe_back {te : TE} {k : Nat} {p1 p2 p3 pos : Pos} (he : PE X e te) : PE X (.Subscript e (.Slice none none (some (.UnaryOp .USub (.Constant (.int 1) k p1) p2)) p3) pos)
    (fun σ H Q => te σ H fun x H1 => ∃ a xs, x = .ref a ∧ ((SqL X.K H1 a xs ∧ ∀ p, H1 p = none → Q (.ref p) (upd H1 p (.lst xs.reverse))) ∨ (SqT X.K H1 a xs ∧ ∀ p, H1 p = none → Q (.ref p) (upd H1 p (.tup xs.reverse))))) := by
  refine ⟨fun pins s σ H Q I h => ?_⟩
  refine Subscript_ (thn (he.run pins s σ H _ I h) fun v s1 ⟨x, H1, I1, r1, q1⟩ => ?_)
  obtain ⟨a, xs, ex, q1⟩ := q1
  subst ex
  cases r1
  have hst : PO X (some (.UnaryOp .USub (.Constant (.int 1) k p1) p2)) (tPart (tUn (rU fun i => .int (-i)) (tC (.int 1)))) := po_some (pe_un un_neg pe_int)
  refine wpAny_Slice (thn (po_none.run pins s1 σ H1 (fun o H2 => o = none ∧ H2 = H1) I1 ⟨rfl, rfl⟩) fun vl s2 ⟨l, H2, I2, pl, el, e2⟩ => ?_)
  subst el e2
  refine thn (po_none.run pins s2 σ H2 (fun o H3 => o = none ∧ H3 = H2) I2 ⟨rfl, rfl⟩) fun vu s3 ⟨u, H3, I3, pu, eu, e3⟩ => ?_
  subst eu e3
  refine thn (hst.run pins s3 σ H3 (fun o H4 => o = some (-1) ∧ H4 = H3) I3 ⟨1, rfl, -1, rfl, rfl, rfl⟩) fun vs s4 ⟨o, H4, I4, ps, eo, e4⟩ => ?_
  subst eo e4
  have I5 : Inv X pins σ H4 { s4 with heap := s4.heap.push { cls := .type "slice", data := .fields #[vl, vu, vs] } } := I4.kept (t' := s4.toks) fun b ob q => Heap.get?_push_of_some _ q
  show wpAny (model X.prog X.w) X.A (subscriptTail e (.Slice none none (some (.UnaryOp .USub (.Constant (.int 1) k p1) p2)) p3) (.ref a) (.ref s4.heap.objs.size)) (EP X pins σ Q) X.xe { s4 with heap := s4.heap.push { cls := .type "slice", data := .fields #[vl, vu, vs] } }
  rcases q1 with ⟨hx, q⟩ | ⟨hx, q⟩
  · obtain ⟨its, r, ht, hz⟩ := I5.list hx
    have hlen := r.length
    refine tail_any (ops := [.ref a, .ref s4.heap.objs.size]) ht.isList.typeIs (PySem.slot_list_getitem.lookup) ?_ (by with_unfolding_all rfl)
    refine wpAny_getItem_list_slice ht.isList (Heap.IsSliceOf.new _ vl vu vs) pl pu ps (by decide) ?_ (by rw [List.size_toArray]; omega)
    rw [PySem.W.krv_pick]
    refine ⟨.ref _, _, I5.laid (t' := s4.toks) (o := .lst xs.reverse) (fun b ob q => Heap.get?_push_of_some _ q) (Nat.le_refl _) ?_, rfl, q _ (I5.hok.fresh (Nat.le_refl _))⟩
    exact ⟨by rw [List.length_reverse]; exact hz, _, 0, r.reverse, Heap.get?_push_size _ rfl⟩
  · obtain ⟨its, r, ht, hz⟩ := I5.tuple hx
    have hlen := r.length
    cases pl
    cases pu
    refine tail_any (ops := [.ref a, .ref s4.heap.objs.size]) ht.typeIs (PyProof.Rows.slot_tuple_getitem.lookup) ?_ (by with_unfolding_all rfl)
    refine tuple_back ht (Heap.IsSliceOf.new _ .none .none vs) ps ?_ (by rw [List.size_toArray]; omega)
    refine ⟨.ref _, _, I5.laid (t' := s4.toks) (o := .tup xs.reverse) (fun b ob q => Heap.get?_push_of_some _ q) (Nat.le_refl _) ?_, rfl, q _ (I5.hok.fresh (Nat.le_refl _))⟩
    exact ⟨by rw [List.length_reverse]; exact hz, _, r.reverse, ⟨_, Heap.get?_push_size _ rfl, rfl, _, rfl⟩⟩
def dBack (d : TD) : TD := fun env m Q => d env m fun x m1 => match der env m1 x with
  | some (.lst xs) => Q (.f (.lst xs.reverse)) m1
  | some (.tup xs) => Q (.f (.tup xs.reverse)) m1
  | _ => False
theorem de_back {k : Nat} {p1 p2 p3 pos : Pos} (he : DE X C B e d) : DE X C B (.Subscript e (.Slice none none (some (.UnaryOp .USub (.Constant (.int 1) k p1) p2)) p3) pos) (dBack d) := by
  refine ⟨fun env m Q Q' i q => he.mono _ _ _ _ (fun x m1 h1 => ?_) q, imp (pe_back he.run) ?_⟩
  · try dsimp only at h1 ⊢
    split at h1 <;> first | exact i _ _ h1 | exact h1.elim
  rintro σ H Q ⟨n, env, m, rfl, ok, q⟩
  refine ⟨n, env, m, rfl, ok, he.mono _ _ _ _ (fun x m1 h1 n1 v g1 l1 lx => ?_) q⟩
  have ok1 := ok.go g1 l1
  split at h1
  · rename_i xs hd
    obtain ⟨p, vs, rfl, s1, z1⟩ := lst_ok ok1 lx (xs := xs) (by unfold lstOf; rw [hd])
    refine ⟨p, vs, rfl, .inl ⟨.inl s1, fun q hq => ?_⟩⟩
    obtain ⟨g4, l4⟩ := g1.freeze (o := .lst vs.reverse) hq
    exact h1 _ _ g4 (l1.trans l4) (.lst (Rd.of upd_same) (FzAllN.le (FzAll.reverse z1) l4))
  · rename_i xs hd
    obtain ⟨p, vs, rfl, s1, z1⟩ := tup_ok ok1 lx (xs := xs) (by unfold tupOf; rw [hd])
    refine ⟨p, vs, rfl, .inr ⟨s1, fun q hq => ?_⟩⟩
    obtain ⟨g4, l4⟩ := g1.freeze (o := .tup vs.reverse) hq
    exact h1 _ _ g4 (l1.trans l4) (.tup (SqT.of upd_same) (FzAllN.le (FzAll.reverse z1) l4))
  · exact h1.elim

/-! ### a new list that is shared -/
def dShr (d : TN) : TD := fun env m Q => d env m fun ds m1 => Q (.f (.obj m1.length)) (m1 ++ [.lst ds])
theorem DN.shr {d : TN} (h : DN X C B e d) : DE X C B e (dShr d) := by
  refine ⟨fun env m Q Q' i => h.mono env m _ _ fun ds m1 => i _ _, imp h.run ?_⟩
  rintro σ H Q ⟨n, env, m, rfl, ok, q⟩
  refine ⟨n, env, m, rfl, ok, h.mono _ _ _ _ (fun ds m1 h1 n1 p vs g1 l1 hp hz => ?_) q⟩
  have l : ∀ a o, n1.G a = some o → n1.G a = some o := fun _ _ e => e
  obtain ⟨g2, l2⟩ := g1.newM (o := .lst vs) (x := .lst ds) hp ⟨vs, upd_same, FzAll.keep (fun _ _ e => e) (pre_get (List.prefix_append _ _)) hz⟩
  refine h1 _ _ g2 (l1.trans l2) (.obj ?_)
  show (n1.al ++ [p])[m1.length]? = some p
  rw [g1.len, List.getElem?_append_right (Nat.le_refl _)]
  simp

/-! ### a, b, c = e1, e2, e3 -/
def sPar3 (i j l : Nat) (d1 d2 d3 : TD) : TSd := fun D env m => d1 env m fun x m1 => d2 env m1 fun y m2 => d3 env m2 fun z m3 => match x, y, z with
  | .f a, .f b, .f c => D.nx (((env.set i (some (.f a))).set j (some (.f b))).set l (some (.f c))) m3
  | _, _, _ => False
theorem ds_par3 {i j l : Nat} {x y z : Str} {a b c : Expr} {d1 d2 d3 : TD} {px py pz pt pos : Pos} {kt k2 pt2} (hc : X.calm = true) (hN : X.N.Nodup) (hi : X.N[i]? = some x) (hj : X.N[j]? = some y) (hl : X.N[l]? = some z) (hij : i ≠ j) (hil : i ≠ l) (hjl : j ≠ l)
    (hx : X.env.scope.names.lookup x = some .local) (hy : X.env.scope.names.lookup y = some .local) (hz : X.env.scope.names.lookup z = some .local) (ha : DE X C B a d1) (hb : DE X C B b d2) (hcc : DE X C B c d3)
    (hw : swappedStores [.Tuple [.Name x px, .Name y py, .Name z pz] kt pt] (.Tuple [a, b, c] k2 pt2) X.env = pure (some [x, y, z]))
    (hs : swapsWithSole [.Tuple [.Name x px, .Name y py, .Name z pz] kt pt] (.Tuple [a, b, c] k2 pt2) pos.line X.env = pure false := by rfl)
    (hs1 : starEach [a, b, c] X.env = (false, eval a X.env) :: starEach [b, c] X.env := by rfl) (hs2 : starEach [b, c] X.env = (false, eval b X.env) :: starEach [c] X.env := by rfl) (hs3 : starEach [c] X.env = (false, eval c X.env) :: starEach [] X.env := by rfl) :
    DS X C B (.Assign [.Tuple [.Name x px, .Name y py, .Name z pz] kt pt] (.Tuple [a, b, c] k2 pt2) pos) (sPar3 i j l d1 d2 d3) := by
  refine ⟨fun env m D D' le h => ha.mono _ _ _ _ (fun x m1 h1 => hb.mono _ _ _ _ (fun y m2 h2 => hcc.mono _ _ _ _ (fun z m3 h3 => ?_) h2) h1) h, impS (ps_par3 hc hN hi hj hl hij hil hjl hx hy hz (pa_cons ha.run (pa_cons hb.run (pa_cons hcc.run pa_nil hs3) hs2) hs1) hw hs) ?_⟩
  · try dsimp only at h3 ⊢
    split at h3
    · exact le.nx _ _ h3
    · exact h3
  rintro D σ H ⟨n, env, m, rfl, ok, q⟩
  refine ⟨n, env, m, rfl, ok, ha.mono _ _ _ _ (fun x m1 h1 n1 v g1 l1 lx => ?_) q⟩
  refine ⟨n1, env, m1, rfl, ok.go g1 l1, hb.mono _ _ _ _ (fun y m2 h2 n2 u g2 l2 ly => ?_) h1⟩
  refine ⟨n2, env, m2, rfl, ok.go g2 (l1.trans l2), hcc.mono _ _ _ _ (fun z m3 h3 n3 t g3 l3 lz => ?_) h2⟩
  split at h3
  · rename_i a b c
    have l13 := (l1.trans l2).trans l3
    have lx : FzN C X.w X.K n3 v a := FzN.le (n := n1) lx (l2.trans l3)
    have ly : FzN C X.w X.K n3 u b := FzN.le (n := n2) ly l3
    have lz : FzN C X.w X.K n3 t c := lz
    exact ⟨v, u, t, rfl, h3 n3 _ l13.sub ((((ok.go g3 l13).setF lx).setF ly).setF lz)⟩
  · exact h3.elim
/-- .., the third a new list of the body's own -/
def sPar3N (i j l : Nat) (d1 d2 : TD) (d3 : TN) : TSd := fun D env m => d1 env m fun x m1 => d2 env m1 fun y m2 => d3 env m2 fun zs m3 => match x, y with
  | .f a, .f b => D.nx (((env.set i (some (.f a))).set j (some (.f b))).set l (some (.own (.lst zs)))) m3
  | _, _ => False
theorem ds_par3N {i j l : Nat} {x y z : Str} {a b c : Expr} {d1 d2 : TD} {d3 : TN} {px py pz pt pos : Pos} {kt k2 pt2} (hc : X.calm = true) (hN : X.N.Nodup) (hi : X.N[i]? = some x) (hj : X.N[j]? = some y) (hl : X.N[l]? = some z) (hij : i ≠ j) (hil : i ≠ l) (hjl : j ≠ l)
    (hx : X.env.scope.names.lookup x = some .local) (hy : X.env.scope.names.lookup y = some .local) (hz : X.env.scope.names.lookup z = some .local) (ha : DE X C B a d1) (hb : DE X C B b d2) (hcc : DN X C B c d3)
    (hw : swappedStores [.Tuple [.Name x px, .Name y py, .Name z pz] kt pt] (.Tuple [a, b, c] k2 pt2) X.env = pure (some [x, y, z]))
    (hs : swapsWithSole [.Tuple [.Name x px, .Name y py, .Name z pz] kt pt] (.Tuple [a, b, c] k2 pt2) pos.line X.env = pure false := by rfl)
    (hs1 : starEach [a, b, c] X.env = (false, eval a X.env) :: starEach [b, c] X.env := by rfl) (hs2 : starEach [b, c] X.env = (false, eval b X.env) :: starEach [c] X.env := by rfl) (hs3 : starEach [c] X.env = (false, eval c X.env) :: starEach [] X.env := by rfl) :
    DS X C B (.Assign [.Tuple [.Name x px, .Name y py, .Name z pz] kt pt] (.Tuple [a, b, c] k2 pt2) pos) (sPar3N i j l d1 d2 d3) := by
  refine ⟨fun env m D D' le h => ha.mono _ _ _ _ (fun x m1 h1 => hb.mono _ _ _ _ (fun y m2 h2 => hcc.mono _ _ _ _ (fun z m3 h3 => ?_) h2) h1) h, impS (ps_par3 hc hN hi hj hl hij hil hjl hx hy hz (pa_cons ha.run (pa_cons hb.run (pa_cons hcc.run pa_nil hs3) hs2) hs1) hw hs) ?_⟩
  · try dsimp only at h3 ⊢
    split at h3
    · exact le.nx _ _ h3
    · exact h3
  rintro D σ H ⟨n, env, m, rfl, ok, q⟩
  refine ⟨n, env, m, rfl, ok, ha.mono _ _ _ _ (fun x m1 h1 n1 v g1 l1 lx => ?_) q⟩
  refine ⟨n1, env, m1, rfl, ok.go g1 l1, hb.mono _ _ _ _ (fun y m2 h2 n2 u g2 l2 ly => ?_) h1⟩
  refine ⟨n2, env, m2, rfl, ok.go g2 (l1.trans l2), hcc.mono _ _ _ _ (fun zs m3 h3 n3 p vs g3 l3 hp hz => ?_) h2⟩
  split at h3
  · rename_i a b
    have l13 := (l1.trans l2).trans l3
    have lx : FzN C X.w X.K n3 v a := FzN.le (n := n1) lx (l2.trans l3)
    have ly : FzN C X.w X.K n3 u b := FzN.le (n := n2) ly l3
    have ok2 := (((ok.go g3 l13).setF (i := i) lx).setF (i := j) ly).newO (i := l) (o := .lst vs) (z := .lst zs) hp ⟨vs, upd_same, hz⟩
    exact ⟨v, u, .ref p, rfl, h3 ⟨n3.G, n3.al, upd n3.H p (.lst vs)⟩ _ ⟨l13.g, l13.ale⟩ ok2⟩
  · exact h3.elim

/-! ### dicts on one line -/
def rDct (X : Cx) : Hp → Addr → List (V × V × Int) → Prop := fun _ _ _ => True
theorem pe_dct0 {pos : Pos} : PE X (.Dict [] [] pos) (fun _ H Q => ∀ p, H p = none → (p == sysModules) = false → Q (.ref p) (upd H p (dxo p #[]))) := ⟨fun pins s σ H Q I h => by
  have hb := I.big
  exact wpAny_Dict_empty ⟨.ref s.heap.objs.size, _, I.laid (a := s.heap.objs.size) (o := dxo s.heap.objs.size #[]) (t' := s.toks) (fun _ _ q => Heap.get?_push_of_some _ q) (Nat.le_refl _)
    ⟨⟨_, 0, Heap.get?_push_size _ rfl, ⟨rfl, rfl, rfl⟩, rfl⟩, ⟨_, Heap.get?_push_size _ rfl⟩, fun h1 h2 ⟨o, ep, e1, e2, e3⟩ k => ⟨o, ep, k _ e1, e2, e3⟩⟩, rfl, h _ (I.hok.fresh (Nat.le_refl _)) (beq_eq_false_iff_ne.mpr (Ne.symm (Nat.ne_of_lt hb)))⟩⟩
theorem de_dct0 {pos : Pos} : DE X C B (.Dict [] [] pos) (dC (.dct [])) := by
  refine ⟨dC.mono _, imp pe_dct0 ?_⟩
  rintro σ H Q ⟨n, env, m, rfl, ok, q⟩ p hp hs
  obtain ⟨g4, l4⟩ := ok.good.freeze (o := dxo p #[]) hp
  exact q _ _ g4 l4 (.dct upd_same hs .nil)
end
end DL

set_option maxHeartbeats 1000000
namespace DL
open PySem PySem.Spec PyProof.Rows L2

/-! ### {k: v}, str(e) -/
section
variable {C : Ct} {w : World} {K : PySem.W.Frag} {n n1 : Nw} {m : Mem}
/-- what stands at p, new since n, changes once more and then no more -/
theorem refreeze {p : Addr} {o : HO} (l : n.le n1) (hp : n.H p = none) (g : Good C w K n1 m) (hG : n1.G p = none) (hA : p ∉ n1.al) : Good C w K ⟨upd n1.G p o, n1.al, upd n1.H p o⟩ m ∧ n.le ⟨upd n1.G p o, n1.al, upd n1.H p o⟩ := by
  have hg : ∀ a u, n1.G a = some u → upd n1.G p o a = some u := fun a u e => by
    rw [upd_ne (fun z => by subst z; rw [hG] at e; cases e)]; exact e
  refine ⟨⟨fun a u e => ?_, g.nd, g.len, fun k x a e1 e2 => ?_⟩, ⟨fun a u e => hg a u (l.g a u e), fun a u e na => ?_, fun a e => ?_, fun a e => ?_, l.ale, l.anew⟩⟩
  · have e' : upd n1.G p o a = some u := e
    show upd n1.H p o a = some u
    by_cases z : a = p
    · subst z; rw [upd_same] at e'; rw [upd_same]; exact e'
    · rw [upd_ne z] at e'; rw [upd_ne z]; exact g.sub a u e'
  · obtain ⟨h1, h2⟩ := g.at_ k x a e1 e2
    have na : a ≠ p := fun z => hA (z ▸ List.mem_of_getElem? e2)
    refine ⟨h1.imp hg (fun _ _ e => e) fun u e => ?_, ?_⟩
    · show upd n1.H p o a = some u
      rw [upd_ne na]; exact e
    · show upd n1.G p o a = none
      rw [upd_ne na]; exact h2
  · show upd n1.H p o a = some u
    rw [upd_ne (fun z => by subst z; rw [hp] at e; cases e)]; exact l.keep a u e na
  · show upd n1.H p o a ≠ none
    rw [upd_ne (fun z => by subst z; exact e hp)]; exact l.there a e
  · show upd n1.G p o a = n.G a
    rw [upd_ne (fun z => by subst z; exact e hp)]; exact l.gnew a e
theorem FzN.up {p : Addr} {o : HO} {H' : Hp} {v : V} {d : Dat} (hG : n1.G p = none) (h : FzN C w K n1 v d) : FzN C w K ⟨upd n1.G p o, n1.al, H'⟩ v d := Fz.keep (fun a u e => by
  show upd n1.G p o a = some u
  rw [upd_ne (fun z => by subst z; have e' : n1.G a = some u := e; rw [hG] at e'; cases e')]; exact e) (fun _ _ e => e) h
theorem FzAllN.up {p : Addr} {o : HO} {H' : Hp} {v : List V} {d : List Dat} (hG : n1.G p = none) (h : FzAllN C w K n1 v d) : FzAllN C w K ⟨upd n1.G p o, n1.al, H'⟩ v d := FzAll.keep (fun a u e => by
  show upd n1.G p o a = some u
  rw [upd_ne (fun z => by subst z; have e' : n1.G a = some u := e; rw [hG] at e'; cases e')]; exact e) (fun _ _ e => e) h
end
section
variable {X : Cx} {C : Ct} {B : Nw} {e kx : Expr} {d : TD}
theorem pe_dct1 {i : Int} {j : Nat} {p1 pos : Pos} {tv : TE} (hv : PE X e tv) : PE X (.Dict [some (.Constant (.int i) j p1)] [e] pos)
    (fun σ H Q => ∀ p, H p = none → (p == sysModules) = false → tv σ (upd H p (.dK [])) fun x H2 => i = i ∧ H2 p = some (.dK []) ∧ ∀ es : Array DictEntry, (∃ e, es.toList = [e] ∧ RelV (.int i) e.key ∧ RelV x e.val ∧ e.hash = hashD X.w (.int i)) → Q (.ref p) (upd H2 p (dxo p es))) := by
  refine ⟨fun pins s σ H Q I q => ?_⟩
  have hn := I.hok.fresh (Nat.le_refl s.heap.objs.size)
  have hb := I.big
  have I1 := I.laid (a := s.heap.objs.size) (o := .dK []) (h' := s.heap.push { cls := .type "dict", data := .dict #[] }) (t' := s.toks) (fun _ _ q => Heap.get?_push_of_some _ q) (Nat.le_refl _) (dk_empty s.heap I.big)
  have pp : PPs X pos [some (.Constant (.int i) j p1)] [e] [(tC (.int i), tv)] := pps_cons pe_int hv pps_nil
  refine wpAny_Dict_walk (knd := mixKind X.prog X.w) rfl rfl (by simp) (by simp) (thn (pp.run pins _ σ _ (fun ps H2 => match ps with
    | [(.int k, x)] => k = i ∧ H2 s.heap.objs.size = some (.dK []) ∧ ∀ es : Array DictEntry, (∃ e, es.toList = [e] ∧ RelV (.int i) e.key ∧ RelV x e.val ∧ e.hash = hashD X.w (.int i)) → Q (.ref s.heap.objs.size) (upd H2 s.heap.objs.size (dxo s.heap.objs.size es))
    | _ => False) I1 ?_) fun ws s2 ⟨ps, H2, I2, rel, q2⟩ => ?_)
  · exact q _ hn (beq_eq_false_iff_ne.mpr (Ne.symm (Nat.ne_of_lt hb)))
  · split at q2
    · rename_i k x
      obtain ⟨ek, e2, q2⟩ := q2
      subst ek
      cases rel with
      | @cons _ w1 _ _ r1 r2 =>
        cases r2
        obtain ⟨ky, vx⟩ := w1
        obtain ⟨r1, r3⟩ := r1
        have r1' : ∃ t, ky = Value.int k t := r1
        obtain ⟨t, rfl⟩ := r1'
        obtain ⟨z, hd, vs0, r0, dd⟩ := dk_of I2.hok e2
        cases r0
        refine ⟨[(Sum.inl k, vx)], ⟨keyIs_int k t, rfl, True.intro⟩, dd, fun h' dd' hs => ?_⟩
        obtain ⟨o, es, ep, h1, h2, h3, h4, h5, h6⟩ := dd'
        have h5' : Pairs (mixKind X.prog X.w) es.toList [(Sum.inl k, vx)] := h5
        generalize hes : es.toList = l at h5'
        cases h5' with
        | @cons e1 _ _ _ g1 g2 g3 =>
          cases g3
          have mem : e1 ∈ es := by
            rw [← Array.mem_toList_iff, hes]; simp
          obtain ⟨k', g4, g5⟩ := h4 e1 mem
          have ek : k' = Sum.inl k := (mixKind X.prog X.w).inj _ _ _ g4 g1
          subst ek
          have ob : ObjOk X.prog X.w (upd H2 s.heap.objs.size (dxo s.heap.objs.size es)) h' s.heap.objs.size (dxo s.heap.objs.size es) :=
            ⟨⟨o, ep, h1, h2, h3⟩, ⟨o, h1⟩, fun a b ⟨o, ep, e1, e2, e3⟩ k => ⟨o, ep, k _ e1, e2, e3⟩⟩
          refine ⟨.ref s.heap.objs.size, _, d_write I2 (by rw [e2]; exact True.intro) hs ⟨o, h1⟩ ob, rfl, q2 es ⟨e1, hes, ?_, ?_, ?_⟩⟩
          · obtain ⟨t', e'⟩ := Value.isInt_shape (k := k) (v := e1.key) g1
            exact ⟨t', e'⟩
          · rw [g2]; exact r3
          · rw [g5]; rfl
    · exact q2.elim
def dDct1 (i : Int) (d : TD) : TD := fun env m Q => d env m fun x m1 => match x with
  | .f y => Q (.f (.dct [(.int i, y)])) m1
  | _ => False
theorem de_dct1 {i : Int} {j : Nat} {p1 pos : Pos} (hd : DE X C B e d) : DE X C B (.Dict [some (.Constant (.int i) j p1)] [e] pos) (dDct1 i d) := by
  refine ⟨fun env m Q Q' i q => hd.mono _ _ _ _ (fun x m1 h1 => ?_) q, imp (pe_dct1 hd.run) ?_⟩
  · try dsimp only at h1 ⊢
    split at h1 <;> first | exact i _ _ h1 | exact h1.elim
  rintro σ H Q ⟨n, env, m, rfl, ok, q⟩ p hp hs
  obtain ⟨b2, b4⟩ := ok.good.free hp
  have l0 : n.le ⟨n.G, n.al, upd n.H p (.dK [])⟩ := (Nw.le.refl n).at hp
  have g0 : Good C X.w X.K ⟨n.G, n.al, upd n.H p (.dK [])⟩ m := ok.good.at b2 b4
  refine ⟨⟨n.G, n.al, upd n.H p (.dK [])⟩, env, m, rfl, ok.go g0 l0, hd.mono _ _ _ _ (fun x m1 h1 n1 v g1 l1 lx => ?_) q⟩
  have at_p : n1.H p = some (.dK []) := l1.keep p _ upd_same b4
  have hG1 : n1.G p = none := (l1.gnew p (by
    show upd n.H p (.dK []) p ≠ none
    rw [upd_same]; simp)).trans b2
  have hA1 : p ∉ n1.al := l1.nal (by
    show upd n.H p (.dK []) p ≠ none
    rw [upd_same]; simp) b4
  refine ⟨rfl, at_p, fun es ⟨e1, he, r1, r2, hh⟩ => ?_⟩
  split at h1
  · rename_i y
    have lx : FzN C X.w X.K n1 v y := lx
    have ln : n.le n1 := l0.trans l1
    obtain ⟨g2, l2⟩ := refreeze (o := dxo p es) ln hp g1 hG1 hA1
    refine h1 _ _ g2 l2 (.dct upd_same hs ?_)
    rw [he]
    exact .cons r1 (.int i) r2 (FzN.up (p := p) (o := dxo p es) hG1 lx) hh .nil
  · exact h1.elim
/-- str(e) -/
def oStr : OpN := fun env m xs Q => match xs with
  | [x] => match der env m x with
    | some (.str y) => Q (.str y) m
    | some d => okR 60 d = true ∧ (py d).shown.length ≤ sizeLine ∧ Q (.str (py d).shown) m
    | none => False
  | _ => False
theorem call_strD (hg : X.A.guards = some []) (hu : X.A.units + 70 < cLine) (ns : NoSys X.K) : CallD X C (.type "str") oStr := by
  refine ⟨fun env m xs Q Q' i => ?_, fun pins s σ H vs us Q I rv h => ?_⟩
  · unfold oStr
    split
    · split
      · exact i _ _
      · exact fun h => ⟨h.1, h.2.1, i _ _ h.2.2⟩
      · exact id
    · exact id
  · obtain ⟨B, n, env, m, σ', xs, rfl, ok, lx, h⟩ := h
    unfold oStr at h
    split at h
    · rename_i x
      cases lx with
      | cons lx z =>
        cases z
        obtain ⟨u, rfl, r⟩ := vals1 rv
        have same : ∀ b o, s.heap.get? b = some o → s.heap.get? b = some o := fun _ _ e => e
        split at h
        · rename_i y hd
          have z := der_ok ok lx hd
          cases z with
          | fz z =>
            cases z
            obtain ⟨t, rfl⟩ := r
            exact PySem.P.str_of_str ⟨.str _, n.H, I, ⟨t, rfl⟩, h n _ ok.good (.refl _) (.str _)⟩
        · rename_i d hns hd
          obtain ⟨h1, h2, h3⟩ := h
          obtain ⟨as, r1, r2⟩ := now_rd I ok.good ns (der_ok ok lx hd) r h1
          obtain ⟨s1, s2⟩ := okR_show _ _ h1
          have fin : ∀ (h' : Heap) (t : Tok) (tk : Tok), (∀ b o, s.heap.get? b = some o → h'.get? b = some o) → EP X pins σ Q (.str (py d).shown t) { s with heap := h', toks := tk } := fun h' t tk k =>
            ⟨.str _, n.H, I.kept k, ⟨_, rfl⟩, h3 n _ ok.good (.refl _) (.str _)⟩
          have far : ∀ a, u = .ref a → wpAny (model X.prog X.w) X.A (call (.type "str") [u]) (EP X pins σ Q) X.xe s := fun a e => by
            subst e
            exact str_of_reads r1 s1 (fun _ => r2) hg (by omega) same (fun h' t tk k => fin h' t tk k) h2
          cases d with
          | non => cases (show Reads s.heap u .none as from r1); exact PySem.P.str_of_none (fin s.heap _ _ same)
          | bl b => rw [py] at r1; cases r1; exact PySem.P.str_of_bool (by have := fin s.heap s.toks (s.toks + 1) same; rw [py, PyData.shown] at this; exact this)
          | int i =>
            rw [py] at r1; cases r1
            rw [py, PyData.showable] at s1
            exact PySem.P.str_of_int (of_decide_eq_true s1) (by have := fin s.heap s.toks (s.toks + 1) same; rw [py, PyData.shown] at this; exact this)
          | str x => exact absurd rfl (hns x)
          | tup xs => rw [py] at r1; cases r1 with | tuple e1 e2 e3 e4 => exact far _ rfl
          | lst xs => rw [py] at r1; cases r1 with | list e1 e2 e3 e4 => exact far _ rfl
          | dct xs => rw [py] at r1; cases r1 with | dict e1 e2 e3 e4 e5 => exact far _ rfl
          | ins _ _ => cases h1
          | obj _ => cases h1
          | ref _ => cases h1
          | ty _ => cases h1
          | cls _ => cases h1
        · exact h.elim
    · exact h.elim
end
end DL

set_option maxHeartbeats 1000000
namespace DL
open PySem PySem.Spec PyProof.Rows L2

/-! ### instances: their fields -/
structure FldOk (K : PySem.W.Frag) (C : Ct) (c : Nat) (f : Str) : Prop where
  cls : Cls K (C.addr c)
  na : NoAttr K (C.addr c) f
  nd : (C.flds c).Nodup
  few : (C.flds c).length < 1000
/-- where the field f stands in the classes that are meant -/
structure FiOk (K : PySem.W.Frag) (C : Ct) (f : Str) (fi : Nat → Option Nat) : Prop where
  ok : ∀ c k, fi c = some k → FldOk K C c f ∧ (C.flds c)[k]? = some f
def insOf (env : Env') (m : Mem) : Lv → Option (Nat × List Dat)
  | .f (.ins c xs) => some (c, xs)
  | x => match moOf env m x with
    | some (.ins c xs) => some (c, xs)
    | _ => none
theorem zip_lookup : ∀ {fs : List Str} {vs : List V} {k : Nat} {f : Str} {v : V}, fs.Nodup → fs[k]? = some f → vs[k]? = some v → (fs.zip vs).lookup f = some v
  | [], _, k, f, v, _, h, _ => by simp at h
  | g :: fs, [], k, f, v, _, _, h => by simp at h
  | g :: fs, u :: vs, 0, f, v, _, h1, h2 => by
    simp at h1 h2; subst h1; subst h2; simp [List.lookup]
  | g :: fs, u :: vs, k + 1, f, v, nd, h1, h2 => by
    rw [List.getElem?_cons_succ] at h1 h2
    have ne : f ≠ g := fun z => by
      subst z
      exact (List.nodup_cons.mp nd).1 (List.mem_of_getElem? h1)
    have e : (f == g) = false := by simpa using ne
    have ih := zip_lookup (List.nodup_cons.mp nd).2 h1 h2
    simp only [List.zip_cons_cons, List.lookup, e]
    exact ih
theorem zip_put_old : ∀ {fs : List Str} {vs : List V} {k : Nat} {f : Str} {v : V}, fs.Nodup → fs[k]? = some f → k < vs.length → putF f v (fs.zip vs) = fs.zip (vs.set k v)
  | [], _, k, f, v, _, h, _ => by simp at h
  | g :: fs, [], k, f, v, _, _, h => by simp at h
  | g :: fs, u :: vs, 0, f, v, _, h1, h2 => by
    simp at h1; subst h1; simp [putF]
  | g :: fs, u :: vs, k + 1, f, v, nd, h1, h2 => by
    rw [List.getElem?_cons_succ] at h1
    have ne : g ≠ f := fun z => by
      subst z
      exact (List.nodup_cons.mp nd).1 (List.mem_of_getElem? h1)
    have ih := zip_put_old (v := v) (List.nodup_cons.mp nd).2 h1 (show k < vs.length by simpa using h2)
    rw [List.zip_cons_cons, putF, if_neg ne, ih, List.set_cons_succ, List.zip_cons_cons]
theorem zip_put_new : ∀ {fs : List Str} {vs : List V} {f : Str} {v : V}, fs.Nodup → fs[vs.length]? = some f → putF f v (fs.zip vs) = fs.zip (vs ++ [v])
  | [], _, f, v, _, h => by simp at h
  | g :: fs, [], f, v, _, h => by
    simp at h; subst h
    simp [putF]
  | g :: fs, u :: vs, f, v, nd, h1 => by
    rw [List.length_cons, List.getElem?_cons_succ] at h1
    have ne : g ≠ f := fun z => by
      subst z
      exact (List.nodup_cons.mp nd).1 (List.mem_of_getElem? h1)
    have ih := zip_put_new (v := v) (List.nodup_cons.mp nd).2 h1
    rw [List.zip_cons_cons, putF, if_neg ne, ih, List.cons_append, List.zip_cons_cons]
section
variable {X : Cx} {C : Ct} {B : Nw} {e o : Expr} {d de : TD} {f : Str} {fi : Nat → Option Nat} {pos pos' : Pos}
theorem ins_ok {w : World} {K : PySem.W.Frag} {n : Nw} {m : Mem} {env : Env'} {σ : L2.St} {v : V} {x : Lv} {c : Nat} {xs : List Dat} (ok : Ok C w K B n env m σ) (h : LvOk C w K n env σ v x) (e : insOf env m x = some (c, xs)) :
    ∃ a dx vs, v = .ref a ∧ n.H a = some (.ins (C.addr c) dx ((C.flds c).zip vs)) ∧ vs.length ≤ (C.flds c).length ∧ FzAllN C w K n vs xs := by
  have key : ∀ y, moOf env m x = some y → (match some y with
      | some (Mo.ins c xs) => some (c, xs)
      | _ => none) = some (c, xs) → ∃ a dx vs, v = .ref a ∧ n.H a = some (.ins (C.addr c) dx ((C.flds c).zip vs)) ∧ vs.length ≤ (C.flds c).length ∧ FzAllN C w K n vs xs := fun y hy e => by
    obtain ⟨a, rfl, h1, _⟩ := mut_ok ok h hy
    cases y with
    | ins c' xs' =>
      cases e
      obtain ⟨dx, vs, q1, q2, q3⟩ := h1
      exact ⟨a, dx, vs, rfl, q1, q2, q3⟩
    | lst _ => cases e
    | dct _ => cases e
  cases x with
  | o i =>
    cases hy : moOf env m (.o i) with
    | none =>
      have e' : (match moOf env m (.o i) with
        | some (Mo.ins c xs) => some (c, xs)
        | _ => none) = some (c, xs) := e
      rw [hy] at e'; cases e'
    | some y =>
      refine key y hy ?_
      have e' : (match moOf env m (.o i) with
        | some (Mo.ins c xs) => some (c, xs)
        | _ => none) = some (c, xs) := e
      rw [hy] at e'; exact e'
  | f y =>
    cases y with
    | ins c' xs' =>
      cases e
      have h : FzN C w K n v (.ins c xs) := h
      cases h with
      | ins h1 h2 h3 => exact ⟨_, _, _, rfl, ok.good.sub _ _ h1, Nat.le_of_eq h2, h3⟩
    | obj k =>
      cases hy : moOf env m (.f (.obj k)) with
      | none =>
        have e' : (match moOf env m (.f (.obj k)) with
          | some (Mo.ins c xs) => some (c, xs)
          | _ => none) = some (c, xs) := e
        rw [hy] at e'; cases e'
      | some y =>
        refine key y hy ?_
        have e' : (match moOf env m (.f (.obj k)) with
          | some (Mo.ins c xs) => some (c, xs)
          | _ => none) = some (c, xs) := e
        rw [hy] at e'; exact e'
    | _ => cases e
/-- e.f -/
def dFld (fi : Nat → Option Nat) (d : TD) : TD := fun env m Q => d env m fun x m1 => match insOf env m1 x with
  | some (c, xs) => match fi c with
    | some k => match xs[k]? with
      | some y => Q (.f y) m1
      | none => False
    | none => False
  | none => False
theorem de_fld (F : FiOk X.K C f fi) (hd : DE X C B e d) (hb : attributeBase e f X.env (eval e X.env) = eval e X.env) : DE X C B (.Attribute e f pos) (dFld fi d) := by
  refine ⟨fun env m Q Q' i q => hd.mono _ _ _ _ (fun x m1 h1 => ?_) q, imp (pe_fld hd.run hb) ?_⟩
  · try dsimp only at h1 ⊢
    split at h1
    · split at h1
      · split at h1
        · exact i _ _ h1
        · exact h1
      · exact h1
    · exact h1
  rintro σ H Q ⟨n, env, m, rfl, ok, q⟩
  refine ⟨n, env, m, rfl, ok, hd.mono _ _ _ _ (fun x m1 h1 n1 v g1 l1 lx => ?_) q⟩
  have ok1 := ok.go g1 l1
  split at h1
  · rename_i c xs hx
    split at h1
    · rename_i k hk
      split at h1
      · rename_i y hy
        obtain ⟨a, dx, vs, rfl, e1, e2, z⟩ := ins_ok ok1 lx hx
        obtain ⟨FO, e3⟩ := F.ok c k hk
        obtain ⟨u, e4, z4⟩ := z.get hy
        exact ⟨a, C.addr c, dx, _, u, rfl, e1, FO.cls, FO.na, zip_lookup FO.nd e3 e4, h1 n1 u g1 l1 z4⟩
      · exact h1.elim
    · exact h1.elim
  · exact h1.elim
/-- o.f = e -/
def sFldD (fi : Nat → Option Nat) (d de : TD) : TSd := fun D env m => de env m fun y m1 => d env m1 fun x m2 => match moOf env m2 x, y with
  | some (.ins c xs), .f z => match fi c with
    | some k => if k < xs.length then D.nx (setE x (.ins c (xs.set k z)) env) (setM x (.ins c (xs.set k z)) m2) else k = xs.length ∧ D.nx (setE x (.ins c (xs ++ [z])) env) (setM x (.ins c (xs ++ [z])) m2)
    | none => False
  | _, _ => False
theorem sFldD.mono (hd : MonoD d) (he : MonoD de) : MonoS (sFldD fi d de) := fun env m D D' l h => he _ _ _ _ (fun y m1 h1 => hd _ _ _ _ (fun x m2 h2 => by
  try dsimp only at h2 ⊢
  split at h2
  · split at h2
    · split at h2
      · rename_i hh
        rw [if_pos hh]; exact l.nx _ _ h2
      · rename_i hh
        rw [if_neg hh]; exact ⟨h2.1, l.nx _ _ h2.2⟩
    · exact h2
  · exact h2) h1) h
theorem ds_fld (F : FiOk X.K C f fi) (hd : DE X C B o d) (he : DE X C B e de) (hs : swapsWith e (some (.Attribute o f pos')) pos.line X.env = pure false := by rfl) : DS X C B (.Assign [.Attribute o f pos'] e pos) (sFldD fi d de) := by
  refine ⟨sFldD.mono hd.mono he.mono, impS (ps_fld hd.run he.run hs) ?_⟩
  rintro D σ H ⟨n, env, m, rfl, ok, q⟩
  refine ⟨n, env, m, rfl, ok, he.mono _ _ _ _ (fun y m1 h1 n1 v g1 l1 ly => ?_) q⟩
  have ok1 := ok.go g1 l1
  refine ⟨n1, env, m1, rfl, ok1, hd.mono _ _ _ _ (fun x m2 h2 n2 u g2 l2 lx => ?_) h1⟩
  have ok2 := ok1.go g2 l2
  have l12 := l1.trans l2
  split at h2
  · rename_i c xs z hx
    obtain ⟨a, rfl, ⟨dx, vs, e1, e2, z1⟩, hset⟩ := mut_ok ok2 lx hx
    have lz : FzN C X.w X.K n2 v z := FzN.le (n := n1) ly l2
    split at h2
    · rename_i k hk
      obtain ⟨FO, e3⟩ := F.ok c k hk
      have few : ((C.flds c).zip vs).length < 1000 := by
        rw [List.length_zip]
        have := FO.few
        omega
      refine ⟨a, C.addr c, dx, _, rfl, e1, FO.cls, FO.na, few, ?_⟩
      have up : ∀ {v d} {o : HO}, FzN C X.w X.K n2 v d → FzN C X.w X.K ⟨n2.G, n2.al, upd n2.H a o⟩ v d := fun h => Fz.keep (fun _ _ e => e) (fun _ _ e => e) h
      have ups : ∀ {v d} {o : HO}, FzAllN C X.w X.K n2 v d → FzAllN C X.w X.K ⟨n2.G, n2.al, upd n2.H a o⟩ v d := fun h => FzAll.keep (fun _ _ e => e) (fun _ _ e => e) h
      split at h2
      · rename_i hlt
        rw [zip_put_old FO.nd e3 (by rw [z1.length]; exact hlt)]
        have ok3 := hset (.ins (C.addr c) dx ((C.flds c).zip (vs.set k v))) (.ins c (xs.set k z)) ⟨dx, vs.set k v, upd_same, by simpa using e2, FzAll.set k (ups z1) (up lz)⟩
        exact h2 ⟨n2.G, n2.al, upd n2.H a (.ins (C.addr c) dx ((C.flds c).zip (vs.set k v)))⟩ σ (l12.sub.trans sub_upd) ok3
      · obtain ⟨hk2, h2⟩ := h2
        rw [hk2, ← z1.length] at e3
        rw [zip_put_new FO.nd e3]
        have hlt := (List.getElem?_eq_some_iff.mp e3).1
        have ok3 := hset (.ins (C.addr c) dx ((C.flds c).zip (vs ++ [v]))) (.ins c (xs ++ [z])) ⟨dx, vs ++ [v], upd_same, by rw [List.length_append]; exact hlt, (ups z1).append (.cons (up lz) .nil)⟩
        exact h2 ⟨n2.G, n2.al, upd n2.H a (.ins (C.addr c) dx ((C.flds c).zip (vs ++ [v])))⟩ σ (l12.sub.trans sub_upd) ok3
    · exact h2.elim
  · exact h2.elim
end

/-! ### C(..): the new instance is the last shared object while its __init__ runs -/
mutual
/-- no shared object from the k-th on -/
def bel (k : Nat) : Dat → Bool
  | .obj j => decide (j < k)
  | .tup xs => bels k xs
  | .lst xs => bels k xs
  | .ins _ xs => bels k xs
  | .dct kvs => belk k kvs
  | _ => true
def bels (k : Nat) : List Dat → Bool
  | [] => true
  | x :: xs => bel k x && bels k xs
def belk (k : Nat) : List (Dat × Dat) → Bool
  | [] => true
  | (a, b) :: r => bel k a && (bel k b && belk k r)
end
def belM (k : Nat) (m : Mem) : Bool := m.all fun
  | .lst xs => bels k xs
  | .ins _ xs => bels k xs
  | .dct kvs => belk k kvs
section
variable {C : Ct} {w : World} {K : PySem.W.Frag} {al : List Addr} {G : Hp} {n n' : Nw} {m : Mem}
mutual
theorem Fz.cut (k : Nat) : ∀ {v d}, Fz C w K al G v d → bel k d = true → Fz C w K (al.take k) G v d
  | _, _, .non, _ => .non
  | _, _, .bl b, _ => .bl b
  | _, _, .int i, _ => .int i
  | _, _, .str x, _ => .str x
  | _, _, .ty n, _ => .ty n
  | _, _, .ref a, _ => .ref a
  | _, _, .cls c, _ => .cls c
  | _, _, .tup s r, h => .tup s (FzAll.cutB k r (by rw [bel] at h; exact h))
  | _, _, .lst s r, h => .lst s (FzAll.cutB k r (by rw [bel] at h; exact h))
  | _, _, .dct e s r, h => .dct e s (FzEs.cutB k r (by rw [bel] at h; exact h))
  | _, _, .ins e l r, h => .ins e l (FzAll.cutB k r (by rw [bel] at h; exact h))
  | _, _, .obj e, h => .obj (by rw [bel] at h; rw [List.getElem?_take_of_lt (of_decide_eq_true h)]; exact e)
theorem FzAll.cutB (k : Nat) : ∀ {v d}, FzAll C w K al G v d → bels k d = true → FzAll C w K (al.take k) G v d
  | _, _, .nil, _ => .nil
  | _, _, .cons x r, h => by
    rw [bels, Bool.and_eq_true] at h
    exact .cons (Fz.cut k x h.1) (FzAll.cutB k r h.2)
theorem FzEs.cutB (k : Nat) : ∀ {v d}, FzEs C w K al G v d → belk k d = true → FzEs C w K (al.take k) G v d
  | _, _, .nil, _ => .nil
  | _, _, .cons r1 x r2 y e r, h => by
    rw [belk, Bool.and_eq_true, Bool.and_eq_true] at h
    exact .cons r1 (Fz.cut k x h.1) r2 (Fz.cut k y h.2.1) e (FzEs.cutB k r h.2.2)
end
theorem Good.dropM {y : Mo} (g : Good C w K n (m ++ [y])) (hb : belM m.length m = true) : Good C w K ⟨n.G, n.al.take m.length, n.H⟩ m := by
  refine ⟨g.sub, g.nd.sublist (List.take_sublist _ _), ?_, fun k x a e1 e2 => ?_⟩
  · have := g.len
    simp at this
    simp [← this]
  · have hk : k < m.length := (List.getElem?_eq_some_iff.mp e1).1
    have e2' : (n.al.take m.length)[k]? = some a := e2
    rw [List.getElem?_take_of_lt hk] at e2'
    obtain ⟨h1, h2⟩ := g.at_ k x a (by rw [List.getElem?_append_left hk]; exact e1) e2'
    refine ⟨?_, h2⟩
    have hx := List.all_eq_true.mp hb x (List.mem_of_getElem? e1)
    cases x with
    | lst xs => obtain ⟨vs, q1, q2⟩ := h1; exact ⟨vs, q1, FzAll.cutB _ q2 hx⟩
    | ins c xs => obtain ⟨dx, vs, q1, q2, q3⟩ := h1; exact ⟨dx, vs, q1, q2, FzAll.cutB _ q3 hx⟩
    | dct kvs => obtain ⟨es, q1, q2, q3⟩ := h1; exact ⟨es, q1, q2, FzEs.cutB _ q3 hx⟩
theorem Nw.le.dropM {k : Nat} (l : n.le n') (hk : n.al.length = k) : n.le ⟨n'.G, n'.al.take k, n'.H⟩ := by
  have e : n'.al.take k = n.al := by
    obtain ⟨t, ht⟩ := l.ale
    rw [← ht, ← hk]
    simp
  refine ⟨l.g, l.keep, l.there, l.gnew, ?_, fun j p hj q => ?_⟩
  · show n.al <+: n'.al.take k
    rw [e]
    exact List.prefix_rfl
  · have q' : (n'.al.take k)[j]? = some p := q
    rw [e, List.getElem?_eq_none hj] at q'
    cases q'
/-- the last shared object changes no more -/
theorem Good.sealM {c : Nat} {xs : List Dat} {x : Addr} (l : n.le n') (hk : n.al.length = m.length) (g : Good C w K n' (m ++ [.ins c xs])) (hx : n'.al[m.length]? = some x) (hb : belM m.length m = true) (hbx : bels m.length xs = true) (hl : xs.length = (C.flds c).length) :
    ∃ n'', n''.H = n'.H ∧ Good C w K n'' m ∧ n.le n'' ∧ FzN C w K n'' (.ref x) (.ins c xs) := by
  have hlen : (m ++ [Mo.ins c xs])[m.length]? = some (.ins c xs) := by simp
  obtain ⟨⟨dx, vs, q1, q2, q3⟩, q4⟩ := g.at_ _ _ _ hlen hx
  have g1 := g.dropM hb
  have l1 := l.dropM hk
  have z1 : FzAllN C w K ⟨n'.G, n'.al.take m.length, n'.H⟩ vs xs := FzAll.cutB _ q3 hbx
  have hnx : n.H x = none := l.anew m.length x (by omega) hx
  have hal : x ∉ n'.al.take m.length := fun z => by
    obtain ⟨j, hj⟩ := List.getElem?_of_mem z
    have hjl : j < m.length := by
      have := (List.getElem?_eq_some_iff.mp hj).1
      simp at this
      omega
    rw [List.getElem?_take_of_lt hjl] at hj
    have := (List.getElem?_inj (List.getElem?_eq_some_iff.mp hj).1 g.nd).mp (hj.trans hx.symm)
    omega
  obtain ⟨g2, l2⟩ := refreeze (o := .ins (C.addr c) dx ((C.flds c).zip vs)) l1 hnx g1 q4 hal
  refine ⟨⟨upd n'.G x (.ins (C.addr c) dx ((C.flds c).zip vs)), n'.al.take m.length, n'.H⟩, rfl, ?_, ?_, .ins upd_same (by rw [z1.length, hl]) (FzAllN.up (n1 := ⟨n'.G, n'.al.take m.length, n'.H⟩) q4 z1)⟩
  · have e : upd n'.H x (.ins (C.addr c) dx ((C.flds c).zip vs)) = n'.H := by
      funext b
      by_cases hbx : b = x
      · subst hbx; rw [upd_same, q1]
      · rw [upd_ne hbx]
    have g2' : Good C w K ⟨upd n'.G x (.ins (C.addr c) dx ((C.flds c).zip vs)), n'.al.take m.length, upd n'.H x (.ins (C.addr c) dx ((C.flds c).zip vs))⟩ m := g2
    rw [e] at g2'
    exact g2'
  · have e : upd n'.H x (.ins (C.addr c) dx ((C.flds c).zip vs)) = n'.H := by
      funext b
      by_cases hbx : b = x
      · subst hbx; rw [upd_same, q1]
      · rw [upd_ne hbx]
    have l2' : n.le ⟨upd n'.G x (.ins (C.addr c) dx ((C.flds c).zip vs)), n'.al.take m.length, upd n'.H x (.ins (C.addr c) dx ((C.flds c).zip vs))⟩ := l2
    rw [e] at l2'
    exact l2'
end
section
variable {X : Cx} {CX : CXT} {k : Nat} {f C : Addr} {fd : FuncData} {ps : List Str} {sp : Sp} {E : L2.St → XK} {x : Str} {p pos : Pos} {e : Expr} {es : List Expr} {t : TA}
theorem run_makeS {pins : List (Addr × Obj)} {σ : L2.St} {H : Hp} {s : Shared} {Q : VK} {us : List Value} {vs : List V} (M : Mk X.K C f) (F : FnOk X.prog X.w X.K X.mg X.base CX k f fd ps sp) (hr : Room (k + 1) X.A) (hb : Binds X.K fd ps [])
    (hx : PassesAt CX X σ (E σ)) (I : Inv X pins σ H s) (r : Vals vs us)
    (h : ∀ x dx, H x = none → H dx = none → dx ≠ x → sp (.ref x :: vs) (upd (upd H dx (.own x)) x (.ins C dx [])) (fun v H2 => v = .non ∧ Q (.ref x) H2) (E σ)) :
    wpAny (model X.prog X.w) X.A (call (.ref C) us) (EP X pins σ Q) X.xe s := by
  have hq := h (s.heap.objs.size + 1) s.heap.objs.size (I.hok.fresh (Nat.le_succ _)) (I.hok.fresh (Nat.le_refl _)) (Nat.ne_of_lt (Nat.lt_succ_self _))
  have I2 := Inv.made (C := C) I
  have r2 : Vals (V.ref (s.heap.objs.size + 1) :: vs) (Value.ref (s.heap.objs.size + 1) :: us) := .cons rfl r
  have hl : ((Value.ref (s.heap.objs.size + 1) :: us) ++ []).length = ps.length := by
    have e := r2.length
    rw [F.len _ _ _ _ hq] at e
    rw [List.append_nil]
    exact e.symm
  have hb' := hb _ (Value.ref (s.heap.objs.size + 1) :: us) I2.kIn hl
  rw [List.append_nil] at hb'
  refine wpAny_call (make_map (f := f) I.kIn M.makes M.init (beq_iff_eq.mp M.fn) (codeAny_mono (F.run _ X.stack _ _ ⟨Value.ref (s.heap.objs.size + 1) :: us, []⟩ (Value.ref (s.heap.objs.size + 1) :: us) _ _ (E σ) (hr.make C us [])
    (I2.env0.make C us []) hb' r2 hq) fun r s' hq' => ?_))
  cases r with
  | error e => exact hx pins _ _ e s' I2 hq'
  | ok fl =>
    cases fl with
    | ret u =>
      obtain ⟨v, H', I3, rv, ev, q3⟩ := I2.after hq'
      subst ev
      exact ⟨rv, ⟨V.ref (s.heap.objs.size + 1), H', I3, rfl, q3⟩⟩
    | next => exact False.elim hq'
    | brk => exact False.elim hq'
    | cont => exact False.elim hq'
def tMakeS (C : Addr) (sp : Sp) (E : L2.St → XK) (t : TA) : TE := fun σ H Q => t σ H fun vs H1 => ∀ x dx, H1 x = none → H1 dx = none → dx ≠ x → sp (.ref x :: vs) (upd (upd H1 dx (.own x)) x (.ins C dx [])) (fun v H2 => v = .non ∧ Q (.ref x) H2) (E σ)
theorem pe_makeS (M : Mk X.K C f) (F : FnOk X.prog X.w X.K X.mg X.base CX k f fd ps sp) (hr : Room (k + 1) X.A) (hg : Gl X x) (hm : X.mg x = some (.ref C)) (hb : Binds X.K fd ps []) (hx : ∀ σ, PassesAt CX X σ (E σ))
    (ha : PA X (e :: es) t) (hdb : (x == ("__debug__" : Str)) = false := by decide) (he : starEach (e :: es) X.env = (false, eval e X.env) :: starEach es X.env := by rfl) (hpl : (backTo pos (starEach es X.env)).any (·.1) = false := by rfl) :
    PE X (.Call (.Name x p) (e :: es) [] pos) (tMakeS C sp E t) := by
  refine ⟨fun pins s σ H Q I h => ?_⟩
  refine wpAny_Call_Name_kw (ld_glob I hg hm ?_ hdb)
  refine PySem.W.callWith_K (h₀ := X.base) I.ok.mod.kin M.kp (thn (ha.run pos pins s σ H _ I h) fun us s1 ⟨vs, H1, I1, r, q⟩ => ⟨I1.kIn, ?_⟩) he hpl
  exact run_makeS M F hr hb (hx σ) I1 r q
end
/-- C(..), whose instance does not change later -/
def dMakeF (c nf : Nat) (p : DSp) (EX : QXe) (da : TAd) : TD := fun env m Q => da env m fun xs m1 => match frs xs with
  | some ds => p (.obj m1.length :: ds) (m1 ++ [.ins c []]) (fun d m2 => d = .non ∧ ∃ m3 ys, m2 = m3 ++ [.ins c ys] ∧ m3.length = m1.length ∧ ys.length = nf ∧ belM m1.length m3 = true ∧ bels m1.length ys = true ∧ Q (.f (.ins c ys)) m3)
    (fun c' ys m2 => ∃ m3 y, m2 = m3 ++ [y] ∧ m3.length = m1.length ∧ belM m1.length m3 = true ∧ bels m1.length ys = true ∧ EX c' ys env m3)
  | none => False
/-- C(..), whose instance is shared -/
def dMakeS (c : Nat) (p : DSp) (EX : QXe) (da : TAd) : TD := fun env m Q => da env m fun xs m1 => match frs xs with
  | some ds => p (.obj m1.length :: ds) (m1 ++ [.ins c []]) (fun d m2 => d = .non ∧ Q (.f (.obj m1.length)) m2)
    (fun c' ys m2 => ∃ m3 y, m2 = m3 ++ [y] ∧ m3.length = m1.length ∧ belM m1.length m3 = true ∧ bels m1.length ys = true ∧ EX c' ys env m3)
  | none => False
section
variable {X : Cx} {C : Ct} {B : Nw} {k c nf : Nat} {f : Addr} {fd : FuncData} {ps : List Str} {p : DSp} {EX : QXe} {x : Str} {p1 pos : Pos} {e : Expr} {es : List Expr} {da : TAd}
theorem make_start {w : World} {K : PySem.W.Frag} {n : Nw} {m : Mem} {x dx : Addr} (g : Good C w K n m) (hx : n.H x = none) (hdx : n.H dx = none) (hne : dx ≠ x) :
    ∃ n2 : Nw, n2.H = upd (upd n.H dx (.own x)) x (.ins (C.addr c) dx []) ∧ Good C w K n2 (m ++ [.ins c []]) ∧ n.le n2 ∧ n2.al = n.al ++ [x] := by
  obtain ⟨b1, b2⟩ := g.free hdx
  have g1 : Good C w K ⟨n.G, n.al, upd n.H dx (.own x)⟩ m := g.at b1 b2
  have l1 : n.le ⟨n.G, n.al, upd n.H dx (.own x)⟩ := (Nw.le.refl n).at hdx
  have hx1 : (upd n.H dx (.own x)) x = none := by rw [upd_ne (Ne.symm hne)]; exact hx
  obtain ⟨g2, l2⟩ := g1.newM (p := x) (o := .ins (C.addr c) dx []) (x := .ins c []) hx1 ⟨dx, [], by
    show upd _ x _ x = _
    rw [upd_same]; simp, Nat.zero_le _, .nil⟩
  exact ⟨_, rfl, g2, l1.trans l2, rfl⟩
theorem make_err {w : World} {K : PySem.W.Frag} {n1 n2 : Nw} {B : Nw} {m1 : Mem} {env : Env'} {σ : L2.St} (ok : Ok C w K B n1 env m1 σ) (l : n1.le n2) {c' : Nat} {ys : List Dat} {m2 m3 : Mem} {y : Mo} (e1 : m2 = m3 ++ [y]) (e2 : m3.length = m1.length)
    (b1 : belM m1.length m3 = true) (b2 : bels m1.length ys = true) (h : EX c' ys env m3) : AftX C w K n2 (atX C B w K EX σ) c' ys m2 := by
  intro n' dx vs g' l' hx hz
  subst e1
  rw [← e2] at b1 b2
  have g3 := g'.dropM b1
  have l3 : n1.le ⟨n'.G, n'.al.take m3.length, n'.H⟩ := (l.trans l').dropM (by rw [e2, ok.good.len])
  exact ⟨⟨n'.G, n'.al.take m3.length, n'.H⟩, env, m3, c', ys, vs, rfl, ok.go g3 l3, rfl, hx.base (ok.base.trans l), FzAll.cutB _ hz b2, h⟩
theorem makeF_imp (hp : MonoP p) (ha : MonoA da) (hl : ∀ ds m Q E, p ds m Q E → ds.length = ps.length) (hf : (C.flds c).length = nf) : ∀ σ H Q, lE C B X.w X.K (dMakeF c nf p EX da) σ H Q → tMakeS (C.addr c) (spD C X.w X.K ps.length p) (atX C B X.w X.K EX) (lA C B X.w X.K da) σ H Q := by
  rintro σ H Q ⟨n, env, m, rfl, ok, h⟩
  refine ⟨n, env, m, rfl, ok, ha _ _ _ _ (fun xs m1 h1 n1 vs g1 l1 lx => ?_) h⟩
  split at h1
  · rename_i ds hd
    have hz := frs_ok lx hd
    intro x dx hx hdx hne
    obtain ⟨n2, e2, g2, l2, ea⟩ := make_start (c := c) g1 hx hdx hne
    have ok1 := ok.go g1 l1
    have hat : n2.al[m1.length]? = some x := by
      rw [ea, g1.len, List.getElem?_append_right (Nat.le_refl _)]; simp
    have hz2 : FzAllN C X.w X.K n2 (.ref x :: vs) (.obj m1.length :: ds) := .cons (.obj hat) (FzAllN.le hz l2)
    refine ⟨?_, n2, m1 ++ [.ins c []], _, e2, g2, hz2, hp _ _ _ _ _ _ (fun d m2 h2 n3 v g3 l3 hv => ?_) (fun c' ys m2 h2 => ?_) h1⟩
    · rw [hz2.length]; exact hl _ _ _ _ h1
    · obtain ⟨rfl, m3, ys, rfl, h4, h5, h6, h7, h8⟩ := h2
      have hv' : FzN C X.w X.K n3 v .non := hv
      cases hv'
      rw [← h4] at h6 h7
      have hx3 : n3.al[m3.length]? = some x := by
        rw [h4]; exact pre_get l3.ale _ _ hat
      obtain ⟨n4, q1, q2, q3, q4⟩ := Good.sealM (l2.trans l3) (by rw [← g1.len, h4]) g3 hx3 h6 h7 (by rw [h5, hf])
      refine ⟨rfl, ?_⟩
      rw [← q1]
      exact h8 n4 _ q2 (l1.trans q3) q4
    · obtain ⟨m3, y, e1, e3, b1, b2, h3⟩ := h2
      exact make_err ok1 l2 e1 e3 b1 b2 h3
  · exact h1.elim
theorem makeS_imp (hp : MonoP p) (ha : MonoA da) (hl : ∀ ds m Q E, p ds m Q E → ds.length = ps.length) : ∀ σ H Q, lE C B X.w X.K (dMakeS c p EX da) σ H Q → tMakeS (C.addr c) (spD C X.w X.K ps.length p) (atX C B X.w X.K EX) (lA C B X.w X.K da) σ H Q := by
  rintro σ H Q ⟨n, env, m, rfl, ok, h⟩
  refine ⟨n, env, m, rfl, ok, ha _ _ _ _ (fun xs m1 h1 n1 vs g1 l1 lx => ?_) h⟩
  split at h1
  · rename_i ds hd
    have hz := frs_ok lx hd
    intro x dx hx hdx hne
    obtain ⟨n2, e2, g2, l2, ea⟩ := make_start (c := c) g1 hx hdx hne
    have ok1 := ok.go g1 l1
    have hat : n2.al[m1.length]? = some x := by
      rw [ea, g1.len, List.getElem?_append_right (Nat.le_refl _)]; simp
    have hz2 : FzAllN C X.w X.K n2 (.ref x :: vs) (.obj m1.length :: ds) := .cons (.obj hat) (FzAllN.le hz l2)
    refine ⟨?_, n2, m1 ++ [.ins c []], _, e2, g2, hz2, hp _ _ _ _ _ _ (fun d m2 h2 n3 v g3 l3 hv => ?_) (fun c' ys m2 h2 => ?_) h1⟩
    · rw [hz2.length]; exact hl _ _ _ _ h1
    · obtain ⟨rfl, h8⟩ := h2
      have hv' : FzN C X.w X.K n3 v .non := hv
      cases hv'
      exact ⟨rfl, h8 n3 _ g3 (l1.trans (l2.trans l3)) (.obj (pre_get l3.ale _ _ hat))⟩
    · obtain ⟨m3, y, e1, e3, b1, b2, h3⟩ := h2
      exact make_err ok1 l2 e1 e3 b1 b2 h3
  · exact h1.elim
theorem dMakeF.mono (hp : MonoP p) (ha : MonoA da) : MonoD (dMakeF c nf p EX da) := fun env m Q Q' i => ha _ _ _ _ fun xs m1 => by
  split
  · exact hp _ _ _ _ _ _ (fun d m2 ⟨h1, m3, ys, h2, h3, h4, h5, h6, h7⟩ => ⟨h1, m3, ys, h2, h3, h4, h5, h6, i _ _ h7⟩) fun _ _ _ h => h
  · exact id
theorem dMakeS.mono (hp : MonoP p) (ha : MonoA da) : MonoD (dMakeS c p EX da) := fun env m Q Q' i => ha _ _ _ _ fun xs m1 => by
  split
  · exact hp _ _ _ _ _ _ (fun d m2 ⟨h1, h2⟩ => ⟨h1, i _ _ h2⟩) fun _ _ _ h => h
  · exact id
theorem de_makeF (M : Mk X.K (C.addr c) f) (F : DF X.prog X.w X.K X.mg X.base C k f fd ps p) (hl : ∀ ds m Q E, p ds m Q E → ds.length = ps.length) (hf : (C.flds c).length = nf) (hr : Room (k + 1) X.A) (hg : Gl X x) (hm : X.mg x = some (.ref (C.addr c))) (hb : Binds X.K fd ps []) (hx : PassD X C B EX) (ha : DA X C B (e :: es) da)
    (hdb : (x == ("__debug__" : Str)) = false := by decide) (he : starEach (e :: es) X.env = (false, eval e X.env) :: starEach es X.env := by rfl) (hpl : (backTo pos (starEach es X.env)).any (·.1) = false := by rfl) :
    DE X C B (.Call (.Name x p1) (e :: es) [] pos) (dMakeF c nf p EX da) :=
  ⟨dMakeF.mono F.mono ha.mono, imp (pe_makeS M F.ok hr hg hm hb hx ha.run hdb he hpl) (makeF_imp F.mono ha.mono hl hf)⟩
theorem de_makeS (M : Mk X.K (C.addr c) f) (F : DF X.prog X.w X.K X.mg X.base C k f fd ps p) (hl : ∀ ds m Q E, p ds m Q E → ds.length = ps.length) (hr : Room (k + 1) X.A) (hg : Gl X x) (hm : X.mg x = some (.ref (C.addr c))) (hb : Binds X.K fd ps []) (hx : PassD X C B EX) (ha : DA X C B (e :: es) da)
    (hdb : (x == ("__debug__" : Str)) = false := by decide) (he : starEach (e :: es) X.env = (false, eval e X.env) :: starEach es X.env := by rfl) (hpl : (backTo pos (starEach es X.env)).any (·.1) = false := by rfl) :
    DE X C B (.Call (.Name x p1) (e :: es) [] pos) (dMakeS c p EX da) :=
  ⟨dMakeS.mono F.mono ha.mono, imp (pe_makeS M F.ok hr hg hm hb hx ha.run hdb he hpl) (makeS_imp F.mono ha.mono hl)⟩
end
end DL

set_option maxHeartbeats 4000000
namespace PySem.W
open PySem PySem.Spec PySem.Calls PyProof.Rows
section
variable {prog : Program} {w : World} {A : Around} {E : Value → Shared → Prop} {s : Shared} {K : Frag} {x D : Addr} {ox : Obj} {od : Option Obj}
theorem dl_findN {C : Addr} {name : Str} {a g : Value} (hc : (clsIn K C).isSome = true) (ha : findIn K (.ref C) name = some (some a)) (hg : specialIn K a "__get__" = some (some g)) (ht : takesIn K a = some true) : findObj K C od name = some (.bind g a) := by
  obtain ⟨cd, hc⟩ := Option.isSome_iff_exists.mp hc
  unfold findObj
  rw [hc, Option.bind_some, ha, Option.bind_some]
  simp [hg, ht]
/-- e.__class__ of an exception of an own class, with or without a dict of its own -/
theorem dl_class {Q : Option Value → Shared → Prop} (c : L2.ExcC K D) (X : K.In s.heap) (I : InstAt s.heap x ox D od) (h : Q (some (.ref D)) { s with toks := s.toks + 1 }) : wpAny (model prog w) A (getAttr? (.ref x) "__class__") Q E s := by
  have hf : findObj K D od "__class__" = some (.bind (.builtin "getset_descriptor.__get__") (.builtin "object.__class__")) := dl_findN (by obtain ⟨cd, hc, _⟩ := any_some c.hd; rw [hc]; rfl) c.ha c.hn c.ht
  obtain ⟨hp, g, d, t, os⟩ := s
  have L0 := I.type (M := model prog w)
  have L1 := looks_findIn (M := model prog w) X c.hg
  have L2 := looks_findIn (M := model prog w) X c.hk
  have L3 := looks_find (M := model prog w) X I hf
  have sub : Looks (model prog w) hp (isInstance (.ref x) (.type "BaseException")) true := L0.andThen (looks_subIn X c.hs)
  have hx0 : (false && onTheHeap (Value.builtin "BaseException.__getattribute__")) = false := rfl
  have hx2 : (Value.builtin "BaseException.__getattribute__" == Value.builtin "object.__getattribute__") = false := by decide +kernel
  have hx1 : (onTheHeap (Value.ref D) && Value.builtin "BaseException.__getattribute__" == Value.builtin "object.__getattribute__") = false := by rw [hx2]; rfl
  unfold getAttr? getAttrBy? getAttrBy
  refine wpAny_bind (wpAny_mkText (wpAny_bind (wpAny_attempt (wpAny_holding (wpAny_bind (L0.at (wpAny_bind (L1.at ?_))))))))
  show wpAny _ _ (if (onTheHeap (Value.ref D) && Value.builtin "BaseException.__getattribute__" == Value.builtin "object.__getattribute__") = true then _ else _) _ _ _
  rw [hx1, if_neg Bool.false_ne_true]
  unfold getAttrByItsOwn hookBefore
  refine wpAny_bind ?_
  rw [if_pos (show onTheHeap (Value.ref D) = true from rfl)]
  refine L2.at ?_
  refine wpAny_bind (wpAny_attempt (wpAny_holding ?_))
  unfold callGetattribute
  rw [hx0, if_neg Bool.false_ne_true]
  unfold boundAndCalled
  rw [PySem.F.excAttr_ValueError.ga.bind (.ref x)]
  refine wpAny_bind (wpAny_pure ?_)
  show wpAny _ _ (call (.builtin "BaseException.__getattribute__") [.ref x, .str "__class__" t]) _ _ _
  refine wpAny_call (codeAny_call_builtin PySem.F.excAttr_ValueError.ga.plain PySem.F.entry_bexc_ga ?_)
  refine @check_slot (model prog w) _ _ ⟨hp, g, d, t + 1, os⟩ "BaseException.__getattribute__" "BaseException" "__getattribute__" (.ref x) [.str "__class__" t] [] _ (by decide +kernel) (by decide +kernel) sub (PySem.F.args_bexc_ga (.ref x) (.str "__class__" t)) ?_
  unfold Builtin.«object.__getattribute__»
  refine wpAny_bind (wpAny_of_eq (a := ((Value.ref x : Value), [Value.str "__class__" t])) (by first | rfl | (simp only [slotArgs]; rfl)) ?_)
  refine wpAny_bind (wpAny_pure (wpAny_bind (L0.at (wpAny_bind (L3.at ?_)))))
  show wpAny _ _ (holding [Value.builtin "object.__class__"] (call (.builtin "getset_descriptor.__get__") [.builtin "object.__class__", .ref x, .ref D]) >>= ret) _ _ _
  refine wpAny_bind (wpAny_holding (wpAny_call (class_get (s := ⟨hp, g, d, t + 1, os⟩) (ox := ox) (od := od) X I c.hm ?_)))
  refine wpAny_pure ?_
  show wpAny _ _ (handedOut (.ref D)) _ _ _
  rw [handedOut_of (v := .ref D) rfl]
  first
    | exact wpAny_pure (wpAny_pure h)
    | exact wpAny_pure h
    | exact wpAny_pure (wpAny_bind (wpAny_pure (wpAny_pure h)))
theorem dl_kitx (c : L2.ExcC K D) : KitX K (.ref x) (.ref D) (fun h => ∃ od, InstAt h x ox D od) where
  ty := fun _ _ _ ⟨_, I⟩ => I.type
  it := fun _ _ X _ => by
    obtain ⟨cdD, hcD, _⟩ := any_some c.hd
    unfold clsIn at hcD
    split at hcD
    · rename_i c' d' cd' sl' ho
      intro A' Q' E' s' k q
      unfold isType loadHead
      exact wpAny_bind (wpAny_loadPart (k _ _ (X _ _ ho)) (wpAny_pure q))
    · cases hcD
  ne := fun h tp dd its n sl X htp => by
    obtain ⟨cdD, hcD, _⟩ := any_some c.hd
    refine Bool.eq_false_iff.mpr fun q => ?_
    have e : D = tp := Value.ref.inj (beq_iff_eq.mp q)
    subst e
    unfold clsIn at hcD
    split at hcD
    · rename_i c' d' cd' sl' ho
      have z := (X _ _ ho).symm.trans htp
      cases z
    · cases hcD
  ca := fun X ⟨_, I⟩ k => dl_class c X I k
end
end PySem.W
namespace DL
open PySem PySem.Spec PyProof.Rows L2

/-! ### own exceptions are made and raised -/
/-- what the __init__ of an own exception with these fields (in the order of the parameters) does -/
def spX (K : PySem.W.Frag) (fs : List Str) : Sp := fun vs H Q _ => ∃ a C us, vs = .ref a :: us ∧ us.length = fs.length ∧ H a = some (exo a C none) ∧ OexC K C ∧ (∀ f ∈ fs, PySem.W.findIn K (.ref C) f = some none) ∧
  ∀ d, H d = none → d ≠ a → Q .non (upd (upd H d (exd d (fs.zip us).reverse)) a (exo a C (some d)))
section
variable {P : Program} {w : World} {K : PySem.W.Frag} {mg : Str → Option Value} {base : Heap} {y qual : Str} {params : Arguments} {body : List Stmt} {scope : Scope} {fI : Addr} {fd : FuncData} {f1 f2 x0 x1 x2 : Str}
theorem exc_init1 (F : FunD K y qual params body scope [] [] fI fd) (S : FnScope [x0, x1] [x0, x1] scope)
    (hb : ∀ (cdv : Value) (A : Around) (outer : List Env) (s : Shared) (H : Hp) (E : XK), PSs (cxOf (L2.CX P w) P w K mg base [x0, x1] qual scope fI cdv A outer s H E) body (tOst K f1 (tVar 0) (tVar 1))) :
    FnOk P w K mg base (L2.CX P w) 1 fI fd [x0, x1] (spX K [f1]) := by
  refine F.ok S (fun vs H Q E h => ?_) fun cdv A outer s H vs Q E hr h => ⟨_, hb cdv A outer s H E, ?_⟩
  · obtain ⟨a, C, us, rfl, h1, _⟩ := h
    simp at h1; simp [h1]
  · obtain ⟨a, C, us, rfl, h1, h2, h3, h4, h5⟩ := h
    match us, h1 with
    | [v], _ =>
      exact ⟨v, rfl, .ref a, rfl, a, C, rfl, h3, h4 f1 (by simp), .inl ⟨h2, fun d hd hne => h5 d hd hne⟩⟩
theorem exc_init2 (F : FunD K y qual params body scope [] [] fI fd) (S : FnScope [x0, x1, x2] [x0, x1, x2] scope)
    (hb : ∀ (cdv : Value) (A : Around) (outer : List Env) (s : Shared) (H : Hp) (E : XK), PSs (cxOf (L2.CX P w) P w K mg base [x0, x1, x2] qual scope fI cdv A outer s H E) body (tSeq (tOst K f1 (tVar 0) (tVar 1)) (tOst K f2 (tVar 0) (tVar 2)))) :
    FnOk P w K mg base (L2.CX P w) 1 fI fd [x0, x1, x2] (spX K [f1, f2]) := by
  refine F.ok S (fun vs H Q E h => ?_) fun cdv A outer s H vs Q E hr h => ⟨_, hb cdv A outer s H E, ?_⟩
  · obtain ⟨a, C, us, rfl, h1, _⟩ := h
    simp at h1; simp [h1]
  · obtain ⟨a, C, us, rfl, h1, h2, h3, h4, h5⟩ := h
    match us, h1 with
    | [v, u], _ =>
      refine ⟨v, rfl, .ref a, rfl, a, C, rfl, h3, h4 f1 (by simp), .inl ⟨h2, fun d hd hne => ?_⟩⟩
      refine ⟨u, rfl, .ref a, rfl, a, C, rfl, h3, h4 f2 (by simp), .inr ⟨d, [(f1, v)], upd_same, ?_, by show 1 ≤ 900; decide, ?_⟩⟩
      · rw [upd_ne hne, upd_same]
      · have e : upd (upd (upd H d (exd d [(f1, v)])) a (exo a C (some d))) d (exd d [(f2, u), (f1, v)]) = upd (upd H d (exd d [(f2, u), (f1, v)])) a (exo a C (some d)) := by
          funext b
          by_cases h1 : b = d
          · subst h1; rw [upd_same, upd_ne hne, upd_same]
          · rw [upd_ne h1]
            by_cases h2 : b = a
            · subst h2; rw [upd_same, upd_same]
            · rw [upd_ne h2, upd_ne h2, upd_ne h1, upd_ne h1]
        rw [e]
        exact h5 d hd hne
end
theorem zip_rev {α β : Type} : ∀ {xs : List α} {ys : List β}, xs.length = ys.length → (xs.zip ys).reverse = xs.reverse.zip ys.reverse
  | [], [], _ => rfl
  | x :: xs, y :: ys, h => by
    have h' : xs.length = ys.length := by simpa using h
    rw [List.zip_cons_cons, List.reverse_cons, List.reverse_cons, List.reverse_cons, zip_rev h', List.zip_append (by simp [h'])]
    rfl
  | [], _ :: _, h => by simp at h
  | _ :: _, [], h => by simp at h
abbrev TMd := Env' → Mem → (Nat → List Dat → Mem → Prop) → Prop
def lM (C : Ct) (B : Nw) (w : World) (K : PySem.W.Frag) (d : TMd) : L2.St → Hp → XK → Prop := fun σ H Q => ∃ n env m, n.H = H ∧ Ok C w K B n env m σ ∧ d env m fun c ys m' => ∀ n' dx vs, Good C w K n' m' → n.le n' → XAt C n n' c dx vs → FzAllN C w K n' vs ys → Q (.ref (C.addr c)) dx n'.H
structure DM (X : Cx) (C : Ct) (B : Nw) (e : Expr) (d : TMd) : Prop where
  mono : ∀ env m (Q Q' : Nat → List Dat → Mem → Prop), (∀ c ys m', Q c ys m' → Q' c ys m') → d env m Q → d env m Q'
  run : PMk X e (lM C B X.w X.K d)
def sRaise (d : TMd) (EX : QXe) : TSd := fun _ env m => d env m fun c ys m' => EX c ys env m'
section
variable {X : Cx} {C : Ct} {B : Nw} {e : Expr} {es : List Expr} {d : TMd} {EX : QXe} {p pos : Pos} {x : Str} {fI : Addr} {fd : FuncData} {ps fs : List Str} {c k : Nat} {da : TAd}
theorem ds_raise (hc : X.calm = true) (tk : TakesD X C B EX) (he : DM X C B e d) : DS X C B (.Raise (some e) none pos) (sRaise d EX) := by
  refine ⟨fun env m D D' l h => h, ⟨fun pins s σ H D I q => (ps_raise hc tk he.run).run pins s σ H D I ?_⟩⟩
  obtain ⟨n, env, m, rfl, ok, h⟩ := q
  refine ⟨n, env, m, rfl, ok, he.mono _ _ _ _ (fun c ys m' h1 n' dx vs g l hx hz => ?_) h⟩
  exact ⟨n', env, m', c, ys, vs, rfl, ok.go g l, rfl, hx.base ok.base, hz, h1⟩
/-- C(e, ..), an own exception with its own __init__ -/
def mOwn (c nf : Nat) (da : TAd) : TMd := fun env m Q => da env m fun xs m1 => match frs xs with
  | some ds => ds.length = nf ∧ Q c ds.reverse m1
  | none => False
theorem dm_own (T : OexC X.K (C.addr c)) (hno : ∀ f ∈ fs, PySem.W.findIn X.K (.ref (C.addr c)) f = some none) (hf : C.flds c = fs.reverse) (h64 : fs.length ≤ 1000) (iC : PySem.W.findIn X.K (.ref (C.addr c)) "__init__" = some (some (.ref fI))) (tI : PySem.W.typeIn X.K (.ref fI) = some (.type "function"))
    (F1 : FnOk X.prog X.w X.K X.mg X.base (L2.CX X.prog X.w) k fI fd ps (spX X.K fs)) (hr : Room (k + 1) X.A) (hb : Binds X.K fd ps []) (hg : Gl X x) (hm : X.mg x = some (.ref (C.addr c))) (ha : DA X C B (e :: es) da)
    (hdb : (x == ("__debug__" : Str)) = false := by decide) (he : starEach (e :: es) X.env = (false, eval e X.env) :: starEach es X.env := by rfl) (hpl : (backTo pos (starEach es X.env)).any (·.1) = false := by rfl) :
    DM X C B (.Call (.Name x p) (e :: es) [] pos) (mOwn c fs.length da) := by
  refine ⟨fun env m Q Q' i q => ha.mono _ _ _ _ (fun xs m1 h1 => ?_) q, ?_⟩
  · split at h1
    · exact ⟨h1.1, i _ _ _ h1.2⟩
    · exact h1
  have hx : Passes (L2.CX X.prog X.w) X (fun _ _ _ => False) := fun pins σ H s e s' I h => by
    obtain ⟨_, _, _, _, _, _, _, _, _, _, _, _, z⟩ := h
    exact z.elim
  intro pins s σ H Q I q
  refine pmk_oex (dvs := []) T iC tI F1 hr hb .nil hx hg hm ha.run hdb he hpl pins s σ H Q I ?_
  obtain ⟨n, env, m, rfl, ok, h⟩ := q
  refine ⟨n, env, m, rfl, ok, ha.mono _ _ _ _ (fun xs m1 h1 n1 vs g1 l1 lx => ?_) h⟩
  split at h1
  · rename_i ds hd
    obtain ⟨hl, h1⟩ := h1
    have hz := frs_ok lx hd
    have hlen : vs.length = fs.length := by rw [hz.length, hl]
    refine ⟨by omega, fun a ha1 => ?_⟩
    rw [List.append_nil]
    refine ⟨a, C.addr c, vs, rfl, hlen, upd_same, T, hno, fun d hd1 hne => ⟨rfl, d, (fs.zip vs).reverse, upd_same, ?_, ?_, ?_⟩⟩
    · rw [upd_ne hne, upd_same]
    · rw [upd_ne hne] at hd1; exact hd1
    · have hd2 : n1.H d = none := by rw [upd_ne hne] at hd1; exact hd1
      have e : upd (L2.del (upd (upd (upd n1.H a (exo a (C.addr c) none)) d (exd d (fs.zip vs).reverse)) a (exo a (C.addr c) (some d))) a) d (.xd (fs.zip vs).reverse) = upd n1.H d (.xd ((C.flds c).zip vs.reverse)) := by
        funext b
        by_cases h1 : b = d
        · subst h1
          rw [upd_same, upd_same, hf, zip_rev hlen.symm]
        · rw [upd_ne h1, upd_ne h1]
          by_cases h2 : b = a
          · subst h2; rw [L2.del_same, ha1]
          · rw [L2.del_ne h2, upd_ne h2, upd_ne h1, upd_ne h2]
      rw [e]
      obtain ⟨b2, b4⟩ := g1.free hd2
      have g2 : Good C X.w X.K ⟨n1.G, n1.al, upd n1.H d (.xd ((C.flds c).zip vs.reverse))⟩ m1 := g1.at b2 b4
      have l2 : n.le ⟨n1.G, n1.al, upd n1.H d (.xd ((C.flds c).zip vs.reverse))⟩ := l1.at (l1.base hd2)
      refine h1 _ (some d) vs.reverse g2 l2 ⟨by rw [hf]; simp [hlen], .inr ⟨d, rfl, l1.base hd2, upd_same⟩⟩ ?_
      exact FzAll.reverse (FzAll.keep (fun _ _ e => e) (fun _ _ e => e) hz)
  · exact h1.elim
end
end DL

set_option maxHeartbeats 2000000
namespace DL
open PySem PySem.Spec PyProof.Rows L2

/-! ### try, except .. as -/
section
variable {C : Ct} {w : World} {K : PySem.W.Frag} {B n n0 : Nw} {m : Mem} {env : Env'} {σ : L2.St}
/-- all that does not change now, as a ground -/
abbrev Nw.now (n B : Nw) : Nw := ⟨n.G, n.al, B.H⟩
theorem pre_mem {a b : List Addr} (h : a <+: b) {p : Addr} (e : p ∈ a) : p ∈ b := by
  obtain ⟨t, rfl⟩ := h
  exact List.mem_append_left _ e
theorem Ok.rebase (ok : Ok C w K B n env m σ) : Ok C w K (n.now B) n env m σ :=
  ⟨ok.good, ⟨fun _ _ h => h, fun p o e na => ok.base.keep p o e fun z => na (pre_mem ok.base.ale z), ok.base.there, fun _ _ => rfl, List.prefix_rfl, fun k p hk e => by
    have hk' : n.al.length ≤ k := hk
    rw [List.getElem?_eq_none hk'] at e; cases e⟩,
   ⟨ok.env.len, ok.env.fz, fun i x e => let ⟨a, f, q⟩ := ok.env.own i x e; ⟨a, f, q.ok, q.g, q.al, q.new⟩, ok.env.apart⟩⟩
theorem le_back (l : B.le n0) (l' : (n0.now B).le n) : B.le n :=
  ⟨fun p o e => l'.g p o (l.g p o e), fun p o e na => l'.keep p o e (l.nal (by rw [e]; simp) na), l'.there, fun p e => (l'.gnew p e).trans (l.gnew p e), l.ale.trans l'.ale, fun k p hk e => by
    by_cases h : k < n0.al.length
    · exact l.anew k p hk (pre_back l'.ale e h)
    · exact l'.anew k p (Nat.le_of_not_lt h) e⟩
theorem Ok.unbase (l : B.le n0) (ok : Ok C w K (n0.now B) n env m σ) : Ok C w K B n env m σ :=
  ⟨ok.good, le_back l ok.base, ⟨ok.env.len, ok.env.fz, fun i x e => let ⟨a, f, q⟩ := ok.env.own i x e; ⟨a, f, q.ok, q.g, q.al, q.new⟩, ok.env.apart⟩⟩
theorem le_sub (l : (n0.now B).le n) : n0.sub n := ⟨l.g, l.ale⟩
theorem MoOk.noxd {a : Addr} {x : Mo} {fs : List (Str × V)} (h : MoOk C w K n a x) : n.H a ≠ some (.xd fs) := fun z => by
  cases x with
  | lst xs => obtain ⟨vs, e, r⟩ := h; rw [e] at z; cases z
  | ins c xs => obtain ⟨dx, vs, e, q, r⟩ := h; rw [e] at z; cases z
  | dct kvs =>
    obtain ⟨es, e, q, r⟩ := h
    rw [e] at z
    have z' : HO.ext _ = HO.xd fs := Option.some.inj z
    cases z'
/-- the dict of an exception, new since B, changes no more -/
theorem Ok.frz {dd : Addr} {fs : List (Str × V)} (ok : Ok C w K B n env m σ) (hB : B.H dd = none) (hH : n.H dd = some (.xd fs)) :
    Ok C w K B ⟨upd n.G dd (.xd fs), n.al, n.H⟩ env m σ ∧ ∀ p o, n.G p = some o → upd n.G dd (.xd fs) p = some o := by
  have hg : ∀ p o, n.G p = some o → upd n.G dd (.xd fs) p = some o := fun p o e => by
    by_cases z : p = dd
    · subst z
      have := ok.good.sub p o e
      rw [hH] at this
      cases this
      exact upd_same
    · rw [upd_ne z]; exact e
  refine ⟨⟨⟨fun p o e => ?_, ok.good.nd, ok.good.len, fun k x a e1 e2 => ?_⟩, ⟨fun p o e => hg p o (ok.base.g p o e), ok.base.keep, ok.base.there, fun p e => ?_, ok.base.ale, ok.base.anew⟩,
    ⟨ok.env.len, fun i d e => let ⟨v, f, z⟩ := ok.env.fz i d e; ⟨v, f, Fz.keep hg (fun _ _ e => e) z⟩, fun i x e => ?_, ok.env.apart⟩⟩, hg⟩
  · have e' : upd n.G dd (.xd fs) p = some o := e
    show n.H p = some o
    by_cases z : p = dd
    · subst z; rw [upd_same] at e'; cases e'; exact hH
    · rw [upd_ne z] at e'; exact ok.good.sub p o e'
  · obtain ⟨h1, h2⟩ := ok.good.at_ k x a e1 e2
    refine ⟨h1.imp (n := n) hg (fun _ _ e => e) fun _ e => e, ?_⟩
    show upd n.G dd (.xd fs) a = none
    rw [upd_ne (fun z => by subst z; exact h1.noxd hH)]; exact h2
  · show upd n.G dd (.xd fs) p = B.G p
    rw [upd_ne (fun z => by subst z; exact e hB)]; exact ok.base.gnew p e
  · obtain ⟨a, f, q⟩ := ok.env.own i x e
    refine ⟨a, f, q.ok.imp (n := n) hg (fun _ _ e => e) fun _ e => e, ?_, q.al, q.new⟩
    show upd n.G dd (.xd fs) a = none
    rw [upd_ne (fun z => by subst z; exact q.ok.noxd hH)]; exact q.g
end
/-- what the ground holds of a caught error: its dict, its fields -/
def XFz (C : Ct) (w : World) (K : PySem.W.Frag) (B : Nw) (c : Nat) (d : Option Addr) (vs : List V) (xs : List Dat) : Prop :=
  vs.length = (C.flds c).length ∧ ((d = none ∧ vs = []) ∨ ∃ a, d = some a ∧ B.G a = some (.xd ((C.flds c).zip vs))) ∧ FzAllN C w K B vs xs
/-- the ends of a suite: slot i is emptied -/
def En.gone (D : En) (i : Nat) : En := ⟨fun e m => D.nx (e.set i none) m, D.rt, fun e m => D.bk (e.set i none) m, fun e m => D.ct (e.set i none) m⟩
def hGo (i : Nat) (tst : Nat → Option Bool) (ds : Addr → Nat → List Dat → TSd) (EXo : QXe) (D : En) : QXe := fun c xs env m => match tst c with
  | some true => ∀ a, ds a c xs (D.gone i) (env.set i (some (.f (.ref a)))) m
  | some false => EXo c xs env m
  | none => False
def sTry (i : Nat) (tst : Nat → Option Bool) (dt : QXe → TSd) (ds : Addr → Nat → List Dat → TSd) (EXo : QXe) : TSd := fun D env m => ∀ EX', (∀ c xs env' m', hGo i tst ds EXo D c xs env' m' → EX' c xs env' m') → dt EX' D env m
section
variable {X : Cx} {C : Ct} {B : Nw} {x nm : Str} {cv : Value} {i : Nat} {body suite : List Stmt} {b0 : Stmt} {np pos pos' : Pos} {tst : Nat → Option Bool} {dt : QXe → TSd} {ds : Addr → Nat → List Dat → TSd} {EXo : QXe}
theorem sTry.mono (hb : ∀ EX, MonoS (dt EX)) (hs : ∀ a c xs, MonoS (ds a c xs)) : MonoS (sTry i tst dt ds EXo) := fun env m D D' l h EX' hE => by
  refine hb EX' env m D D' l (h EX' fun c xs env' m' q => hE c xs env' m' ?_)
  unfold hGo at q ⊢
  split at q
  · exact fun a => hs a c xs _ _ (D.gone i) (D'.gone i) ⟨fun e m h => l.nx _ _ h, l.rt, fun e m h => l.bk _ _ h, fun e m h => l.ct _ _ h⟩ (q a)
  · exact q
  · exact q
theorem ds_try (hs : X.stack = X.env :: X.outer) (hf : X.env.frame = some X.env.locals) (hN : X.N.Nodup) (hi : X.N[i]? = some nm) (hln : X.env.kindOf nm = some .local) (hc : Names X x cv) (tk : TakesD X C B EXo)
    (htst : ∀ c b, tst c = some b → PySem.W.exmOne X.K (.ref (C.addr c)) cv = some b) (mb : ∀ EX, MonoS (dt EX)) (ms : ∀ a c xs, MonoS (ds a c xs))
    (hb : ∀ (pn : List (Addr × Obj)) (xe : Value → Shared → Prop) (B' : Nw) (EX : QXe), TakesD (X.tr pn xe) C B' EX → PassesOwn (model X.prog X.w) X.A X.env xe → DSs (X.tr pn xe) C B' body (dt EX))
    (hsu : ∀ (a : Addr) (oe : Obj) (d : Option Addr) (pn : List (Addr × Obj)) (c : Nat) (vs : List V) (xs : List Dat) (B' : Nw), Zc (.ref (C.addr c)) d oe → (∃ vs, oe.data = .fields vs) → XFz C X.w X.K B' c d vs xs → DSs (X.suite a ((a, oe) :: pn)) C B' (b0 :: suite) (ds a c xs)) :
    DS X C B (.Try body [.ExceptHandler (some (.Name x np)) (some nm) (b0 :: suite) pos'] [] [] pos) (sTry i tst dt ds EXo) := by
  let exOf : Nw → WX → QXe := fun B' W c xs env m => ∀ n dx vs σ, Ok C X.w X.K B' n env m σ → XAt C B' n c dx vs → FzAllN C X.w X.K n vs xs → W (.ref (C.addr c)) dx σ n.H
  refine ⟨sTry.mono mb ms, impS (ps_try_as (tb := fun W D σ H => ∃ B', lS C B' X.w X.K (dt (exOf B' W)) D σ H) (ts := fun a cls d D σ H => ∃ c xs vs B', cls = .ref (C.addr c) ∧ XFz C X.w X.K B' c d vs xs ∧ lS C B' X.w X.K (ds a c xs) D σ H)
    (Wout := fun cls dx σ H => atX C B X.w X.K EXo σ cls dx H) hs hf hN hi hln hc tk (fun W pn xe tkW hp => ⟨fun pins s σ H D I h => ?_⟩) (fun a oe cls d pn hz hd => ⟨fun pins s σ H D I h => ?_⟩)) ?_⟩
  · obtain ⟨B', h⟩ := h
    refine (hb pn xe B' (exOf B' W) (tkW.imp fun cls dx σ H q => ?_) hp).run.run pins s σ H D I h
    obtain ⟨n, env, m, c, xs, vs, rfl, ok, rfl, hx, hz, hE⟩ := q
    exact hE n dx vs σ ok hx hz
  · obtain ⟨c, xs, vs, B', rfl, hx, h⟩ := h
    exact (hsu a oe d pn c vs xs B' hz hd hx).run.run pins s σ H D I h
  · rintro D σ H ⟨n, env, m, rfl, ok, h⟩
    refine ⟨n.now B, n, env, m, rfl, ok.rebase, ?_⟩
    have back : En.le (lD C B X.w X.K n D) (lD C (n.now B) X.w X.K n D) := ⟨fun e m h n' σ' l ok' => h n' σ' l (ok'.unbase ok.base), fun y m h n' v l => h n' v (le_back ok.base l), fun e m h n' σ' l ok' => h n' σ' l (ok'.unbase ok.base), fun e m h n' σ' l ok' => h n' σ' l (ok'.unbase ok.base)⟩
    refine mb _ env m _ _ back (h _ fun c xs env' m' q => ?_)
    intro n1 dx vs σ1 ok1 hx hz
    have s1 : n.sub n1 := le_sub ok1.base
    have ok1' := ok1.unbase ok.base
    unfold hGo at q
    show ∃ b, PySem.W.exmOne X.K (.ref (C.addr c)) cv = some b ∧ _ ∧ _
    split at q
    · rename_i ht
      refine ⟨true, htst c true ht, fun _ a ha => ?_, fun z => Bool.noConfusion z⟩
      -- the dict changes no more
      obtain ⟨n2, e2, ok2, s2, hF, hz2⟩ : ∃ n2 : Nw, n2.H = n1.H ∧ Ok C X.w X.K B n2 env' m' σ1 ∧ n1.sub n2 ∧ XFz C X.w X.K (n2.now B) c dx vs xs ∧ FzAllN C X.w X.K n2 vs xs := by
        obtain ⟨hl, hx | ⟨dd, rfl, h1, h2⟩⟩ := hx
        · exact ⟨n1, rfl, ok1', .refl _, ⟨hl, .inl hx, hz⟩, hz⟩
        · obtain ⟨ok2, hg⟩ := ok1'.frz h1 h2
          have hz2 : FzAllN C X.w X.K ⟨upd n1.G dd (.xd ((C.flds c).zip vs)), n1.al, n1.H⟩ vs xs := FzAll.keep hg (fun _ _ e => e) hz
          exact ⟨⟨upd n1.G dd (.xd ((C.flds c).zip vs)), n1.al, n1.H⟩, rfl, ok2, ⟨hg, List.prefix_rfl⟩, ⟨hl, .inr ⟨dd, rfl, upd_same⟩, hz2⟩, hz2⟩
      refine ⟨c, xs, vs, n2.now B, rfl, hF, n2, env'.set i (some (.f (.ref a))), m', e2, ok2.rebase.setF (.ref a), ?_⟩
      have s12 := s1.trans s2
      refine ms a c xs _ _ _ _ ⟨fun e m h n' σ' l ok' => ?_, fun y m h n' v l g z => ?_, fun e m h n' σ' l ok' => ?_, fun e m h n' σ' l ok' => ?_⟩ (q a)
      · exact h n' (σ'.set i none) (s12.trans l) ⟨ok'.good, le_back ok2.base ok'.base, (ok'.unbase ok2.base).env.set0⟩
      · exact h n' v (le_back ok2.base l) g z
      · exact h n' (σ'.set i none) (s12.trans l) ⟨ok'.good, le_back ok2.base ok'.base, (ok'.unbase ok2.base).env.set0⟩
      · exact h n' (σ'.set i none) (s12.trans l) ⟨ok'.good, le_back ok2.base ok'.base, (ok'.unbase ok2.base).env.set0⟩
    · rename_i ht
      exact ⟨false, htst c false ht, fun z => Bool.noConfusion z, fun _ => ⟨n1, env', m', c, xs, vs, rfl, ok1', rfl, ⟨hx.1, hx.2⟩, hz, q⟩⟩
    · exact q.elim

/-! ### the caught error -/
/-- error.f -/
def dXf (a : Addr) (c : Nat) (xs : List Dat) (fi : Nat → Option Nat) (d : TD) : TD := fun env m Q => d env m fun x m1 => match x with
  | .f (.ref b) => b = a ∧ match fi c with
    | some k => match xs[k]? with
      | some y => Q (.f y) m1
      | none => False
    | none => False
  | _ => False
structure XfiOk (K : PySem.W.Frag) (C : Ct) (f : Str) (fi : Nat → Option Nat) : Prop where
  ok : ∀ c k, fi c = some k → XfC K (C.addr c) ∧ PySem.W.findIn K (.ref (C.addr c)) f = some none ∧ (C.flds c)[k]? = some f ∧ (C.flds c).Nodup
theorem de_xf {a : Addr} {oe : Obj} {d : Option Addr} {pn : List (Addr × Obj)} {c : Nat} {vs : List V} {xs : List Dat} {e : Expr} {de : TD} {f : Str} {fi : Nat → Option Nat} (F : XfiOk X.K C f fi) (hz : Zc (.ref (C.addr c)) d oe) (hd : ∃ vs, oe.data = .fields vs) (hx : XFz C X.w X.K B c d vs xs)
    (he : DE (X.suite a ((a, oe) :: pn)) C B e de) (hb : attributeBase e f X.env (eval e X.env) = eval e X.env := by rfl) : DE (X.suite a ((a, oe) :: pn)) C B (.Attribute e f pos) (dXf a c xs fi de) := by
  refine ⟨fun env m Q Q' i q => he.mono _ _ _ _ (fun y m1 h1 => ?_) q, ?_⟩
  · try dsimp only at h1 ⊢
    split at h1
    · refine ⟨h1.1, ?_⟩
      obtain ⟨_, h1⟩ := h1
      split at h1
      · split at h1
        · exact i _ _ h1
        · exact h1
      · exact h1
    · exact h1
  · cases hfi : fi c with
    | none =>
      refine ⟨fun pins s σ H Q I q => attr_of hb (wpAny_mono (he.run.run pins s σ H (fun _ _ => False) I ?_) (fun u s1 ⟨_, _, _, _, z⟩ => z.elim) fun _ _ z => z)⟩
      obtain ⟨n, env, m, rfl, ok, q⟩ := q
      refine ⟨n, env, m, rfl, ok, he.mono _ _ _ _ (fun y m1 q1 n1 v g1 l1 ly => ?_) q⟩
      split at q1
      · obtain ⟨_, q1⟩ := q1
        rw [hfi] at q1
        exact q1
      · exact q1
    | some k =>
      obtain ⟨T, h1, h2, h3⟩ := F.ok c k hfi
      refine imp (pe_xf T h1 hz hd he.run hb) ?_
      rintro σ H Q ⟨n, env, m, rfl, ok, q⟩
      refine ⟨n, env, m, rfl, ok, he.mono _ _ _ _ (fun y m1 q1 n1 v g1 l1 ly => ?_) q⟩
      split at q1
      · rename_i b
        obtain ⟨rfl, q1⟩ := q1
        rw [hfi] at q1
        have q1' : (match xs[k]? with
          | some y => AftL C X.w X.K n env σ Q (.f y) m1
          | none => False) := q1
        split at q1'
        · rename_i y hy
          have ly : FzN C X.w X.K n1 v (.ref b) := ly
          have ev : v = .ref b := by cases ly; rfl
          subst ev
          have ok1 := ok.go g1 l1
          obtain ⟨hl, hx1, hx2⟩ := hx
          have hx2' : FzAllN C X.w X.K n1 vs xs := FzAllN.le (n := B) hx2 ok1.base
          obtain ⟨u, e4, z4⟩ := hx2'.get hy
          rcases hx1 with ⟨_, rfl⟩ | ⟨dd, rfl, hG⟩
          · simp at e4
          · exact ⟨rfl, rfl, dd, _, u, rfl, g1.sub _ _ (ok1.base.g _ _ hG), zip_lookup h3 h2 e4, q1' n1 u g1 l1 z4⟩
        · exact q1'.elim
      · exact q1.elim
/-- isinstance(error, c) -/
def oIsE (a : Addr) (c : Nat) (isE : Nat → Nat → Option Bool) : OpN := fun env m xs Q => match xs with
  | [.f (.ref b), .f (.cls c')] => b = a ∧ match isE c c' with
    | some r => Q (.bl r) m
    | none => False
  | _ => False
structure IsEOk (K : PySem.W.Frag) (C : Ct) (isE : Nat → Nat → Option Bool) : Prop where
  ok : ∀ c c' b, isE c c' = some b → ExcC K (C.addr c) ∧ PySem.W.kitOne K (.ref (C.addr c)) (.ref (C.addr c')) = some b
theorem oIsE.mono {a : Addr} {c : Nat} {isE : Nat → Nat → Option Bool} : MonoN (oIsE a c isE) := fun env m xs Q Q' i => by
  unfold oIsE
  split
  · refine fun h => ⟨h.1, ?_⟩
    obtain ⟨_, h⟩ := h
    split at h
    · exact i _ _ h
    · exact h
  · exact id
theorem call_isED {a : Addr} {oe : Obj} {d : Option Addr} {pn : List (Addr × Obj)} {c : Nat} {isE : Nat → Nat → Option Bool} (F : IsEOk X.K C isE) (hz : Zc (.ref (C.addr c)) d oe) (hd : ∃ vs, oe.data = .fields vs) {vs : List V} {xs : List Dat} (hx : XFz C X.w X.K B c d vs xs) :
    CallR (X.suite a ((a, oe) :: pn)) (.builtin "isinstance") (fun vs H Q => ∃ n env m σ xs, n.H = H ∧ Ok C X.w X.K B n env m σ ∧ LvsOk C X.w X.K n env σ vs xs ∧ oIsE a c isE env m xs (AftD C X.w X.K n Q)) := by
  intro pins s σ H ws us Q I rv h
  obtain ⟨n, env, m, σ', xs, rfl, ok, lx, h⟩ := h
  unfold oIsE at h
  split at h
  · rename_i b c'
    obtain ⟨rfl, h⟩ := h
    split at h
    · rename_i r hr
      obtain ⟨T, kit⟩ := F.ok c c' r hr
      cases lx with
      | cons l1 lx =>
        cases lx with
        | cons l2 lx =>
          cases lx
          have l1 : FzN C X.w X.K n _ (.ref b) := l1
          have l2 : FzN C X.w X.K n _ (.cls c') := l2
          cases l1
          cases l2
          cases rv with
          | cons r1 rv =>
            cases rv with
            | cons r2 rv =>
              cases rv
              cases r1
              cases r2
              obtain ⟨hget, _⟩ := I.pin (b, oe) (List.mem_append.mpr (.inl List.mem_cons_self))
              obtain ⟨us, hv⟩ := hd
              have J : ∃ od, PySem.W.InstAt s.heap b oe (C.addr c) od := by
                obtain ⟨hl, hx1, _⟩ := hx
                rcases hx1 with ⟨rfl, _⟩ | ⟨dd, rfl, hG⟩
                · refine ⟨none, hget, hz.1, by unfold PySem.W.notCls; rw [hv] <;> rfl, ?_⟩
                  rw [hz.2]; exact True.intro
                · have e1 := ok.good.sub _ _ (ok.base.g _ _ hG)
                  obtain ⟨mA, ⟨o, es, ep, ho, _⟩, _⟩ : ∃ mA, s.heap.Ns1 dd mA ∧ _ := I.hok _ _ e1
                  refine ⟨some o, hget, hz.1, by unfold PySem.W.notCls; rw [hv] <;> rfl, ?_⟩
                  rw [hz.2]; exact ho
              exact PySem.W.kia_one (PySem.W.dl_kitx T) I.kIn J kit (fun z => nomatch z) fun tk => ⟨.bl r, _, I.kept (t' := tk) fun _ _ z => z, rfl, h n _ ok.good (.refl _) (.bl _)⟩
    · exact h.elim
  · exact h.elim
theorem de_isE {a : Addr} {oe : Obj} {d : Option Addr} {pn : List (Addr × Obj)} {c : Nat} {isE : Nat → Nat → Option Bool} {vs : List V} {xs : List Dat} {e : Expr} {es : List Expr} {da : TAd} {p : Pos} (F : IsEOk X.K C isE) (hz : Zc (.ref (C.addr c)) d oe) (hd : ∃ vs, oe.data = .fields vs) (hx : XFz C X.w X.K B c d vs xs)
    (hg : Gl (X.suite a ((a, oe) :: pn)) "isinstance") (hm : X.mg "isinstance" = none) (hv : bootBuiltins "isinstance" = some (.builtin "isinstance")) (ha : DA (X.suite a ((a, oe) :: pn)) C B (e :: es) da)
    (he : starEach (e :: es) X.env = (false, eval e X.env) :: starEach es X.env := by rfl) (hpl : (backTo pos (starEach es X.env)).any (·.1) = false := by rfl) :
    DE (X.suite a ((a, oe) :: pn)) C B (.Call (.Name "isinstance" p) (e :: es) [] pos) (dN (oIsE a c isE) da) := by
  refine ⟨dN.mono oIsE.mono ha.mono, imp (pe_callB (call_isED F hz hd hx) hg hm hv ha.run (by decide) (by decide) he hpl) ?_⟩
  rintro σ H Q ⟨n, env, m, rfl, ok, h⟩
  refine ⟨n, env, m, rfl, ok, ha.mono _ _ _ _ (fun xs m1 h1 n1 vs g1 l1 lx => ?_) h⟩
  exact ⟨n1, env, m1, σ, xs, rfl, ok.go g1 l1, lx, oIsE.mono _ _ _ _ _ (fun z m2 h2 n2 v g2 l2 hz => h2 n2 v g2 (l1.trans l2) hz) h1⟩
end
end DL

set_option maxHeartbeats 1000000
namespace DL
open PySem PySem.Spec PyProof.Rows L2

/-! ### words for printed walks -/
/-- a promise by what is needed and what is behind it -/
def pRel (n : Nat) (pre : List Dat → Mem → Prop) (post : List Dat → Mem → Dat → Mem → Prop) (posE : List Dat → Mem → Nat → List Dat → Mem → Prop) : DSp := fun ds m Q E => ds.length = n ∧ pre ds m ∧ (∀ r m', post ds m r m' → Q r m') ∧ ∀ c xs m', posE ds m c xs m' → E c xs m'
theorem pRel.mono {n pre post posE} : MonoP (pRel n pre post posE) := fun ds m Q Q' E E' i j h => ⟨h.1, h.2.1, fun r m' q => i _ _ (h.2.2.1 r m' q), fun c xs m' q => j _ _ _ (h.2.2.2 c xs m' q)⟩
theorem pRel.len {n pre post posE} : ∀ ds m Q E, pRel n pre post posE ds m Q E → ds.length = n := fun _ _ _ _ h => h.1
/-- the function object of the def at p -/
def fdA (K : PySem.W.Frag) (p : Str × Option Str) : FuncData := match K.lookup (He.fAd K p) with
  | some ⟨_, _, .func fd, _⟩ => fd
  | _ => default
theorem fdA_of {K : PySem.W.Frag} {p : Str × Option Str} {fd : FuncData} {x qual : Str} {params : Arguments} {body : List Stmt} {scope : Scope} {dvs kws} (F : FunD K x qual params body scope dvs kws (He.fAd K p) fd) : FunD K x qual params body scope dvs kws (He.fAd K p) (fdA K p) := by
  have e : fdA K p = fd := by
    obtain ⟨oc, od, dV, kV, doc, pm, an, cdv, ct, osl, e1, lk, _⟩ := F.ex
    unfold fdA
    rw [lk]
  rw [e]
  exact F
/-- a def that can be called by its name -/
structure FnC (P : Program) (w : World) (K : PySem.W.Frag) (mg : Str → Option Value) (base : Heap) (C : Ct) (x : Str) (k : Nat) (ps : List Str) (p : DSp) : Prop where
  hm : mg x = some (.ref (He.ga K x))
  hk : PySem.W.keepIn K (.ref (He.ga K x)) = true
  F : DF P w K mg base C k (He.ga K x) (fdA K (x, none)) ps p
  hb : Binds K (fdA K (x, none)) ps []
  hl : ∀ ds m Q E, p ds m Q E → ds.length = ps.length
structure FnCG (P : Program) (w : World) (K : PySem.W.Frag) (mg : Str → Option Value) (base : Heap) (C : Ct) (x : Str) (k : Nat) (ps : List Str) (p : DSp) : Prop where
  hm : mg x = some (.ref (He.ga K x))
  hk : PySem.W.keepIn K (.ref (He.ga K x)) = true
  F : DG P w K mg base C k (He.ga K x) (fdA K (x, none)) ps p
  hb : Binds K (fdA K (x, none)) ps []
  hl : ∀ ds m Q E, p ds m Q E → ds.length = ps.length
theorem DG.lift {P : Program} {w : World} {K : PySem.W.Frag} {mg : Str → Option Value} {base : Heap} {C : Ct} {j k : Nat} {f : Addr} {fd : FuncData} {ps : List Str} {p : DSp} (F : DG P w K mg base C j f fd ps p) (h : j ≤ k) : DG P w K mg base C k f fd ps p :=
  ⟨F.mono, ⟨F.ok.len, fun A outer s H args us vs Q E hr => F.ok.run A outer s H args us vs Q E ⟨hr.room.mono h, hr.gd⟩⟩⟩
theorem DF.lift {P : Program} {w : World} {K : PySem.W.Frag} {mg : Str → Option Value} {base : Heap} {C : Ct} {j k : Nat} {f : Addr} {fd : FuncData} {ps : List Str} {p : DSp} (F : DF P w K mg base C j f fd ps p) (h : j ≤ k) : DF P w K mg base C k f fd ps p :=
  ⟨F.mono, F.ok.mono h⟩
section
variable {X : Cx} {C : Ct} {B : Nw} {k j : Nat} {ps : List Str} {p : DSp} {EX : QXe} {x : Str} {p1 pos : Pos} {e : Expr} {es : List Expr} {da : TAd}
theorem de_fn (F : FnC X.prog X.w X.K X.mg X.base C x j ps p) (hr : Room k X.A) (h : j ≤ k) (ha : DA X C B (e :: es) da) (hx : PassD X C B EX) (hg : Gl X x := by rfl)
    (hdb : (x == ("__debug__" : Str)) = false := by decide) (he : starEach (e :: es) X.env = (false, eval e X.env) :: starEach es X.env := by rfl) (hpl : (backTo pos (starEach es X.env)).any (·.1) = false := by rfl) :
    DE X C B (.Call (.Name x p1) (e :: es) [] pos) (dCall p EX da) := de_call (F.F.lift h) F.hl hr hg F.hm F.hk F.hb hx ha hdb he hpl
theorem de_fnG (F : FnCG X.prog X.w X.K X.mg X.base C x j ps p) (hr : RoomG k X.A) (h : j ≤ k) (ha : DA X C B (e :: es) da) (hx : PassD X C B EX) (hg : Gl X x := by rfl)
    (hdb : (x == ("__debug__" : Str)) = false := by decide) (he : starEach (e :: es) X.env = (false, eval e X.env) :: starEach es X.env := by rfl) (hpl : (backTo pos (starEach es X.env)).any (·.1) = false := by rfl) :
    DE X C B (.Call (.Name x p1) (e :: es) [] pos) (dCall p EX da) := de_callG (F.F.lift h) F.hl hr hg F.hm F.hk F.hb hx ha hdb he hpl
theorem rm {k : Nat} {A : Around} (h : Room k A) : A.units + 70 < cLine := by have := h.un; omega
theorem op_eqR (hr : Room k X.A) : OpD X C (compareOp .Eq) (oEq id) := op_eqd (by have := rm hr; omega)
theorem op_neR (hr : Room k X.A) : OpD X C (compareOp .NotEq) (oEq not) := op_ned (by have := rm hr; omega)
theorem op_inR (hr : Room k X.A) : OpD X C (compareOp .In) (oIn id) := op_inS (by have := rm hr; omega)
theorem op_ninR (hr : Room k X.A) : OpD X C (compareOp .NotIn) (oIn not) := op_notInS (by have := rm hr; omega)
/-- a name is given a value, a new list -/
theorem ds_setV {i : Nat} {de : TD} {pos' : Pos} (hN : X.N.Nodup) (he : DE X C B e de) (hi : X.N[i]? = some x := by rfl) (hx : Loc X.env.scope x := by first | exact Or.inl rfl | exact Or.inr rfl) (hs : swapsWith e (some (.Name x pos')) pos.line X.env = pure false := by rfl)
    (hf : X.fn x = true ∨ X.env.scope.names.lookup x = some .local := by first | exact .inl rfl | exact .inr rfl) : DS X C B (.Assign [.Name x pos'] e pos) (sAsg (.nm i) de) := ds_set hN hi hx he hs (hf := hf)
theorem ds_setNV {i : Nat} {dn : TN} {pos' : Pos} (hN : X.N.Nodup) (he : DN X C B e dn) (hi : X.N[i]? = some x := by rfl) (hx : Loc X.env.scope x := by first | exact Or.inl rfl | exact Or.inr rfl) (hs : swapsWith e (some (.Name x pos')) pos.line X.env = pure false := by rfl)
    (hf : X.fn x = true ∨ X.env.scope.names.lookup x = some .local := by first | exact .inl rfl | exact .inr rfl) : DS X C B (.Assign [.Name x pos'] e pos) (sSetN i dn) := ds_setN hN hi hx he hs (hf := hf)
theorem tg_v {i : Nat} (hN : X.N.Nodup) (hi : X.N[i]? = some x := by rfl) (hx : Loc X.env.scope x := by first | exact Or.inl rfl | exact Or.inr rfl) (hf : X.fn x = true ∨ X.env.scope.names.lookup x = some .local := by first | exact .inl rfl | exact .inr rfl) : TgOk X (.Name x pos) (.nm i) := tg_nm hN hi hx hf
theorem tgs_v {i : Nat} {is : List Nat} (hN : X.N.Nodup) (r : TgsOk X es is) (hi : X.N[i]? = some x := by rfl) (hx : Loc X.env.scope x := by first | exact Or.inl rfl | exact Or.inr rfl) (hf : X.fn x = true ∨ X.env.scope.names.lookup x = some .local := by first | exact .inl rfl | exact .inr rfl) :
    TgsOk X (.Name x pos :: es) (i :: is) := tgs_cons hN hi hx r hf
theorem de_tyN {T : String} (hm : X.mg x = none) (hv : bootBuiltins x = some (.type T)) (hg : Gl X x := by rfl) (hn : x ≠ "__name__" := by decide) (hd : (x == ("__debug__" : Str)) = false := by decide) : DE X C B (.Name x pos) (dC (.ty T)) :=
  de_bltn (v := .ty T) hg hm hv (show RelV (.ty T) (.type T) from rfl) (fun _ _ _ _ _ => .ty T) hn hd
theorem de_gInt {i : Int} (hm : ∃ t, X.mg x = some (.int i t)) (hg : Gl X x := by rfl) (hd : (x == ("__debug__" : Str)) = false := by decide) : DE X C B (.Name x pos) (dC (.int i)) := by
  obtain ⟨t, e⟩ := hm
  exact de_glob (v := .int i) hg e ⟨t, rfl⟩ (fun _ _ _ _ _ => .int i) hd
theorem const_cls {c : Nat} : ∀ σ H Q, lE C B X.w X.K (dC (.cls c)) σ H Q → tC (.ref (C.addr c)) σ H Q := by
  rintro σ H Q ⟨n, env, m, rfl, ok, h⟩
  exact h n _ ok.good (.refl _) (.cls c)
theorem de_gCls {c : Nat} (hm : X.mg x = some (.ref (C.addr c))) (hg : Gl X x := by rfl) (hd : (x == ("__debug__" : Str)) = false := by decide) : DE X C B (.Name x pos) (dC (.cls c)) :=
  ⟨dC.mono _, imp (pe_glob hg hm (show RelV (.ref (C.addr c)) (.ref (C.addr c)) from rfl) hd) const_cls⟩
/-- a call of a built-in by name -/
theorem de_b {id : String} {f : OpN} (hc : CallD X C (.builtin id) f) (hm : X.mg x = none) (hv : bootBuiltins x = some (.builtin id)) (ha : DA X C B (e :: es) da) (hg : Gl X x := by rfl) (hn : x ≠ "__name__" := by decide) (hdb : (x == ("__debug__" : Str)) = false := by decide)
    (he : starEach (e :: es) X.env = (false, eval e X.env) :: starEach es X.env := by rfl) (hpl : (backTo pos (starEach es X.env)).any (·.1) = false := by rfl) : DE X C B (.Call (.Name x p1) (e :: es) [] pos) (dN f da) := de_callB hc hg hm hv ha hn hdb he hpl
theorem de_t {T : String} {f : OpN} (hc : CallD X C (.type T) f) (hm : X.mg x = none) (hv : bootBuiltins x = some (.type T)) (ha : DA X C B (e :: es) da) (hg : Gl X x := by rfl) (hn : x ≠ "__name__" := by decide) (hdb : (x == ("__debug__" : Str)) = false := by decide)
    (he : starEach (e :: es) X.env = (false, eval e X.env) :: starEach es X.env := by rfl) (hpl : (backTo pos (starEach es X.env)).any (·.1) = false := by rfl) : DE X C B (.Call (.Name x p1) (e :: es) [] pos) (dN f da) := de_callTy hc hg hm hv ha hn hdb he hpl
variable {elt te iter : Expr} {ifs : List Expr} {scope : Scope} {own : List (Str × Nat)} {tg : Tg} {dt : TB} {de : TD} {di : TId}
theorem dn_comp (own : List (Str × Nat)) (hc : X.calm = true) (hN : X.N.Nodup) (hi : DI X C B te iter di) (hg : Blk X scope fun Y => TgOk Y te tg) (ht : Blk X scope fun Y => DTs Y C B ifs dt) (he : Blk X scope fun Y => DE Y C B elt de)
    (ok : BlkOk X.N X.env.scope scope own) (htg : ∀ i ∈ tg.ids, i ∈ own.map (·.2)) (hs : ∀ x, foldedSetIterable iter X.env x = pure x := by intro _; rfl) : DN X C B (.ListComp elt [⟨te, iter, ifs, 0⟩] scope pos) (nLc tg dt de (own.map (·.2)) di) :=
  dn_lc hc hN hi ok (ht X.s_0 X.H_0 0 [] []).mono (he X.s_0 X.H_0 0 [] []).mono hg ht he htg hs
theorem ds_setC {i : Nat} {y : Str} {py spos : Pos} (own : List (Str × Nat)) (hc : X.calm = true) (hN : X.N.Nodup) (hi : DI X C B te iter di) (hg : Blk X scope fun Y => TgOk Y te tg) (ht : Blk X scope fun Y => DTs Y C B ifs dt) (he : Blk X scope fun Y => DE Y C B elt de)
    (ok : BlkOk X.N X.env.scope scope own) (htg : ∀ i ∈ tg.ids, i ∈ own.map (·.2)) (hy : X.N[i]? = some y := by rfl) (hyl : X.env.scope.names.lookup y = some .local := by rfl) (hsw : swapsWith (.ListComp elt [⟨te, iter, ifs, 0⟩] scope pos) (some (.Name y py)) spos.line X.env = pure true := by rfl)
    (hs : ∀ x, foldedSetIterable iter X.env x = pure x := by intro _; rfl) : DS X C B (.Assign [.Name y py] (.ListComp elt [⟨te, iter, ifs, 0⟩] scope pos) spos) (sAsg (.nm i) (dNew (nLc tg dt de (own.map (·.2)) di))) :=
  ds_setLc hc hN hy hyl hsw hi ok (ht X.s_0 X.H_0 0 [] []).mono (he X.s_0 X.H_0 0 [] []).mono hg ht he htg hs
theorem ds_setCN {i : Nat} {y : Str} {py spos : Pos} (own : List (Str × Nat)) (hc : X.calm = true) (hN : X.N.Nodup) (hi : DI X C B te iter di) (hg : Blk X scope fun Y => TgOk Y te tg) (ht : Blk X scope fun Y => DTs Y C B ifs dt) (he : Blk X scope fun Y => DE Y C B elt de)
    (ok : BlkOk X.N X.env.scope scope own) (htg : ∀ i ∈ tg.ids, i ∈ own.map (·.2)) (hy : X.N[i]? = some y := by rfl) (hyl : X.env.scope.names.lookup y = some .local := by rfl) (hsw : swapsWith (.ListComp elt [⟨te, iter, ifs, 0⟩] scope pos) (some (.Name y py)) spos.line X.env = pure true := by rfl)
    (hs : ∀ x, foldedSetIterable iter X.env x = pure x := by intro _; rfl) : DS X C B (.Assign [.Name y py] (.ListComp elt [⟨te, iter, ifs, 0⟩] scope pos) spos) (sSetN i (nLc tg dt de (own.map (·.2)) di)) :=
  ds_setLcN hc hN hy hyl hsw hi ok (ht X.s_0 X.H_0 0 [] []).mono (he X.s_0 X.H_0 0 [] []).mono hg ht he htg hs
end
end DL

set_option maxHeartbeats 1000000
namespace DL
open PySem PySem.Spec PyProof.Rows L2
abbrev oSub : Op2 := oI0 fun i j => .int (i - j)
abbrev oMul : Op2 := oI CMul fun i j => .int (i * j)
abbrev oFdiv : Op2 := oI CDivW fun i j => .int (i / j)
abbrev oMod : Op2 := oI (fun _ j => 0 < j) fun i j => .int (i % j)
abbrev oPow : Op2 := oI CPow fun i j => .int (i ^ j.toNat)
abbrev oShl : Op2 := oI CPow fun i j => .int (i * 2 ^ j.toNat)
abbrev oShr : Op2 := oI (fun _ j => 0 ≤ j) fun i j => .int (i / 2 ^ j.toNat)
abbrev oBand : Op2 := oI0 fun i j => .int (Builtin.bitAnd i j)
abbrev oLt : Op2 := oI0 fun i j => .bl (decide (i < j))
abbrev oLe : Op2 := oI0 fun i j => .bl (decide (i ≤ j))
abbrev oGt : Op2 := oI0 fun i j => .bl (decide (j < i))
abbrev oGe : Op2 := oI0 fun i j => .bl (decide (j ≤ i))
/-- a class that can be called by its name -/
structure MkC (P : Program) (w : World) (K : PySem.W.Frag) (mg : Str → Option Value) (base : Heap) (C : Ct) (x : Str) (c nf k : Nat) (ps : List Str) (p : DSp) : Prop where
  hm : mg x = some (.ref (C.addr c))
  M : Mk K (C.addr c) (He.fAd K (x, some "__init__"))
  F : DF P w K mg base C k (He.fAd K (x, some "__init__")) (fdA K (x, some "__init__")) ps p
  hb : Binds K (fdA K (x, some "__init__")) ps []
  hl : ∀ ds m Q E, p ds m Q E → ds.length = ps.length
  nf : (C.flds c).length = nf
/-- an own exception that can be called by its name -/
structure XcC (P : Program) (w : World) (K : PySem.W.Frag) (mg : Str → Option Value) (base : Heap) (C : Ct) (x : Str) (c : Nat) (fs : List Str) : Prop where
  hm : mg x = some (.ref (C.addr c))
  T : OexC K (C.addr c)
  no : ∀ f ∈ fs, PySem.W.findIn K (.ref (C.addr c)) f = some none
  fl : C.flds c = fs.reverse
  few : fs.length ≤ 1000
  ini : PySem.W.findIn K (.ref (C.addr c)) "__init__" = some (some (.ref (He.fAd K (x, some "__init__"))))
  ty : PySem.W.typeIn K (.ref (He.fAd K (x, some "__init__"))) = some (.type "function")
  F : ∃ ps, FnOk P w K mg base (L2.CX P w) 1 (He.fAd K (x, some "__init__")) (fdA K (x, some "__init__")) ps (spX K fs) ∧ Binds K (fdA K (x, some "__init__")) ps []
section
variable {X : Cx} {C : Ct} {B : Nw} {k j c nf : Nat} {ps : List Str} {p : DSp} {EX : QXe} {x : Str} {p1 pos : Pos} {e : Expr} {es : List Expr} {da : TAd}
theorem de_mk (M : MkC X.prog X.w X.K X.mg X.base C x c nf j ps p) (hg : Gl X x) (hr : Room k X.A) (h : j + 1 ≤ k) (ha : DA X C B (e :: es) da) (hx : PassD X C B EX)
    (hdb : (x == ("__debug__" : Str)) = false := by decide) (he : starEach (e :: es) X.env = (false, eval e X.env) :: starEach es X.env := by rfl) (hpl : (backTo pos (starEach es X.env)).any (·.1) = false := by rfl) :
    DE X C B (.Call (.Name x p1) (e :: es) [] pos) (dMakeF c nf p EX da) := by
  obtain ⟨i, rfl⟩ : ∃ i, k = i + 1 := ⟨k - 1, by omega⟩
  exact de_makeF M.M (M.F.lift (by omega)) M.hl M.nf hr hg M.hm M.hb hx ha hdb he hpl
theorem dm_x {fs : List Str} {n : Nat} (M : XcC X.prog X.w X.K X.mg X.base C x c fs) (hr : Room k X.A) (h : 2 ≤ k) (ha : DA X C B (e :: es) da) (hn : fs.length = n := by rfl) (hg : Gl X x := by rfl)
    (hdb : (x == ("__debug__" : Str)) = false := by decide) (he : starEach (e :: es) X.env = (false, eval e X.env) :: starEach es X.env := by rfl) (hpl : (backTo pos (starEach es X.env)).any (·.1) = false := by rfl) :
    DM X C B (.Call (.Name x p1) (e :: es) [] pos) (mOwn c n da) := by
  subst hn
  obtain ⟨ps, F, hb⟩ := M.F
  exact dm_own M.T M.no M.fl M.few M.ini M.ty F (hr.mono h) hb hg M.hm ha hdb he hpl
theorem sDrop.mono {de : TD} (h : MonoD de) : MonoS (sDrop de) := fun env m D D' l => h _ _ _ _ fun _ m1 => l.nx _ _
theorem dNil.mono : MonoA dNil := fun _ _ _ _ i => i _ _
theorem dXf.mono {a : Addr} {c : Nat} {xs : List Dat} {fi : Nat → Option Nat} {d : TD} (h : MonoD d) : MonoD (dXf a c xs fi d) := fun env m Q Q' i q => h _ _ _ _ (fun y m1 h1 => by
  try dsimp only at h1 ⊢
  split at h1
  · refine ⟨h1.1, ?_⟩
    obtain ⟨_, h1⟩ := h1
    split at h1
    · split at h1
      · exact i _ _ h1
      · exact h1
    · exact h1
  · exact h1) q
theorem dn_sortedR {a : Expr} {da : TD} (hr : Room k X.A) (ns : NoSys X.K) (hm : X.mg "sorted" = none) (ha : DE X C B a da) (hg : Gl X "sorted" := by rfl)
    (he : starEach [a] X.env = (false, eval a X.env) :: starEach [] X.env := by rfl) (hpl : (backTo pos (starEach [] X.env)).any (·.1) = false := by rfl) : DN X C B (.Call (.Name "sorted" p1) [a] [] pos) (nSort da) := dn_sorted (by have := rm hr; omega) ns hg hm boot_sorted ha he hpl
theorem reprR (hr : Room k X.A) (hg : X.A.guards = some []) (ns : NoSys X.K) : CallD X C (.builtin "repr") oRepr := call_reprD hg (by have := rm hr; omega) ns
theorem strR (hr : Room k X.A) (hg : X.A.guards = some []) (ns : NoSys X.K) : CallD X C (.type "str") oStr := call_strD hg (rm hr) ns
end
/-- BlkOk by a look -/
def blkB (N : List Str) (sc scope : Scope) (own : List (Str × Nat)) : Bool :=
  decide (scope.kind = .function) && (scope.names.all (fun y => decide (scope.names.lookup y.1 = some y.2)) && (own.all (fun p => decide (N[p.2]? = some p.1)) &&
    (scope.names.all (fun y => !(decide (y.2 = .free)) || (decide (sc.names.lookup y.1 = some .cell) || decide (sc.names.lookup y.1 = some .free))) &&
      scope.names.all (fun y => !(decide (y.2 = .local) || decide (y.2 = .cell)) || (decide (y.1 ∈ own.map (·.1)) || !(decide (y.1 ∈ N)))))))
theorem blkB_ok {N : List Str} {sc scope : Scope} {own : List (Str × Nat)} (h : blkB N sc scope own = true) : BlkOk N sc scope own := by
  unfold blkB at h
  simp only [Bool.and_eq_true, decide_eq_true_eq, List.all_eq_true] at h
  obtain ⟨h1, h2, h3, h4, h5⟩ := h
  refine ⟨h1, h2, h3, fun y hy e => ?_, fun y hy e => ?_⟩
  · have := h4 y hy
    simp [e] at this
    exact this
  · have := h5 y hy
    rcases e with e | e <;> · simp [e] at this; simpa using this
end DL

set_option maxHeartbeats 2000000
namespace DL
open PySem PySem.Spec PyProof.Rows L2

/-! ### the end of a law that is run where no text is under way -/
/-- no list stands in the written part -/
def NoLst (K : PySem.W.Frag) : Prop := ∀ b o, K.lookup b = some o → o.cls ≠ .type "list"
def onlyAt (a : Addr) (u : HO) : Hp := fun b => if b = a then some u else none
theorem onlyAt_same {a : Addr} {u : HO} : onlyAt a u a = some u := if_pos rfl
theorem onlyAt_ne {a b : Addr} {u : HO} (h : b ≠ a) : onlyAt a u b = none := if_neg h
theorem onlyAt_inv {a b : Addr} {u x : HO} (h : onlyAt a u b = some x) : b = a ∧ x = u := by
  by_cases e : b = a
  · subst e; rw [onlyAt_same] at h; cases h; exact ⟨rfl, rfl⟩
  · rw [onlyAt_ne e] at h; cases h
section
variable {P : Program} {w : World} {K : PySem.W.Frag} {gl bn : Str → Option Value} {CX : CXT} {k : Nat} {f a : Addr} {fd : FuncData} {x : Str} {sp : Sp} {S : Shared} {us : List Value} {is : List Int}
theorem end_call (inK : K.In S.heap) (gG : S.heap.Ns mainGlobals gl) (gB : S.heap.Ns builtinsNs bn) (boot : ∀ y : Str, y ≠ "__name__" → bn y = bootBuiltins y) (nl : S.heap.NoLimit) (gens : S.gens = #[])
    (at_ : S.heap.get? a = some { cls := .type "list", data := .seq us.toArray }) (hin : IntsAre us is) (len : is.length ≤ sizeLine) (rm : RoomG k callerA) (noL : NoLst K)
    (F : ∀ B : Heap, K.In B → B.Ns mainGlobals gl → FnG P w K gl B CX k f fd [x] sp) (bind : ∀ (s : Shared) (v : Value), BindsTo s fd ⟨[v], []⟩ [(x, v)])
    (prom : sp [.ref a] (onlyAt a (.frz { cls := .type "list", data := .seq us.toArray } (.lst (is.map V.int)))) (fun v _ => v = .bl true) fun _ _ _ => False)
    (none_out : ∀ H e s', CX [] H S (fun _ _ _ => False) e s' → False) :
    codeAny (model P w) callerA (.call (.ref f) ⟨[.ref a], []⟩) (fun r s' => r = .ok (.ret (.bool true)) ∧ OldK S.heap s'.heap ∧ s'.os = S.os ∧ AllBare s'.gens) S := by
  let u : HO := .frz { cls := .type "list", data := .seq us.toArray } (.lst (is.map V.int))
  have rv := vals_ints hin
  have ka : K.lookup a = none := by
    cases e : K.lookup a with
    | none => rfl
    | some o =>
      have h1 := inK a o e
      rw [at_] at h1
      cases h1
      exact absurd rfl (noL a _ e)
  have okH : HOk P w (onlyAt a u) S.heap := fun b y e => by
    obtain ⟨rfl, rfl⟩ := onlyAt_inv e
    exact ⟨at_, by rw [List.length_map]; exact len, us, _, rv, at_⟩
  have hide : ∀ {b : Addr} {o : Obj}, S.heap.get? b = some o → b ≠ a → (hidT S.heap (onlyAt a u)).get? b = some o := fun e n => hidT_get e (onlyAt_ne n)
  have nsH : ∀ {b : Addr} {m : Str → Option Value}, S.heap.Ns b m → (hidT S.heap (onlyAt a u)).Ns b m := fun {b m} ⟨o, es, ep, e, d, r⟩ => ⟨o, es, ep, hide e (fun z => by
    subst z
    rw [at_] at e; cases e
    have d2 : Data.seq us.toArray _ = Data.dict es ep := d
    cases d2), d, r⟩
  have kB : K.In (hidT S.heap (onlyAt a u)) := fun b o e => hide (inK b o e) fun z => by rw [z, ka] at e; cases e
  have md : Mod K gl (hidT S.heap (onlyAt a u)) := ⟨kB, nsH gG, ⟨bn, nsH gB, boot⟩, let ⟨mc, h1, h2⟩ := nl; ⟨mc, nsH h1, h2⟩⟩
  have env : Env0 P w K gl (hidT S.heap (onlyAt a u)) callerA [] S (onlyAt a u) :=
    ⟨rfl, md, fun b o e => of_hidT e, Nat.le_of_eq (hidT_size _ _), trivial, fun b z => absurd (show b ∈ ([] : List Addr) from z) (by simp), okH, .of_eq gens⟩
  have run := (F _ kB (nsH gG)).run callerA [] S (onlyAt a u) ⟨[.ref a], []⟩ [.ref a] [.ref a] _ _ rm env (bind S (.ref a)) (.cons rfl .nil) prom
  refine codeAny_mono run fun r s' q => ?_
  cases r with
  | error e => exact (none_out _ e s' q).elim
  | ok z =>
    cases z with
    | next => exact False.elim q
    | brk => exact False.elim q
    | cont => exact False.elim q
    | ret y =>
      obtain ⟨v, H', eos, bare, un, hok', r', q1⟩ := q
      have q2 : v = .bl true := q1
      subst q2
      obtain rfl : y = Value.bool true := r'
      refine ⟨rfl, OldK.of_keep fun b o e => ?_, eos, bare⟩
      by_cases n : b = a
      · subst n
        obtain ⟨e1, _⟩ := hok' b _ (un.frzs b _ _ onlyAt_same)
        rw [at_] at e; cases e
        exact e1
      · exact un.keep b o e (onlyAt_ne n) (by intro z; exact absurd (show b ∈ ([] : List Addr) from z) (by simp)) (by simp)
end
theorem walk_ofG {l : PySem.W.OpenLaw} {n k : Nat} {q : Program} {lo : List Str} {XP : (Str → Option Value) → Heap → Prop} {YP : World → Heap → Prop} {d : DefRec} {x : Str}
    (most : l.most = some n) (hn : n ≤ sizeLine) (nodef : d.params.defaults = []) (rm : RoomG k callerA)
    (F : ∀ (w : World) (gl : Str → Option Value) (f : Addr) (h : Heap), YP w h → h.Ns mainGlobals gl → gl d.name = some (.ref f) →
      ∃ (K : PySem.W.Frag) (fd : FuncData) (sp : Sp), K.In h ∧ NoLst K ∧ (∀ (s : Shared) (v : Value), BindsTo s fd ⟨[v], []⟩ [(x, v)]) ∧
        (∀ (a : Addr) (o : Obj) (is : List Int), is.length ≤ n → sp [.ref a] (onlyAt a (.frz o (.lst (is.map V.int)))) (fun v _ => v = .bl true) fun _ _ _ => False) ∧
        ∀ B : Heap, K.In B → B.Ns mainGlobals gl → FnG l.prog w K gl B (L2.CX l.prog w) k f fd [x] sp) :
    PySem.W.WalkO q lo XP YP l.row.toRowW d [] (fun f vs => PySem.call f vs) := by
  refine Att.attach_call most nodef ?_
  intro w S0 S mg mb f o pm cd doc a us is G Y ho hd hcd hmg hobj hi hlen hg
  obtain ⟨K, fd, sp, inK, noL, hb, prom, hF⟩ := F w mg f _ Y G.T.g hmg
  refine end_call inK G.T.g G.T.b G.T.builtins G.T.nolimit hg hobj hi (Nat.le_trans hlen hn) rm noL hF hb (prom a _ is hlen) ?_
  rintro H e s' ⟨_, _, _, _, _, _, _, _, _, _, _, _, z⟩
  exact z
/-- the law's promise over data: any list of at most n ints, nothing shared; it gives True -/
def pLaw (n : Nat) : DSp := fun ds m Q _ => ∃ is : List Int, is.length ≤ n ∧ ds = [.lst (is.map Dat.int)] ∧ m = [] ∧ ∀ m', Q (.bl true) m'
theorem pLaw.mono {n : Nat} : MonoP (pLaw n) := fun ds m Q Q' E E' i _ ⟨is, h1, h2, h3, h4⟩ => ⟨is, h1, h2, h3, fun m' => i _ _ (h4 m')⟩
theorem pLaw.len {n : Nat} : ∀ ds m Q E, pLaw n ds m Q E → ds.length = 1 := fun ds m Q E ⟨is, h1, h2, h3, h4⟩ => by rw [h2]; rfl
theorem fz_ints {C : Ct} {w : World} {K : PySem.W.Frag} {al : List Addr} {G : Hp} : ∀ is : List Int, FzAll C w K al G (is.map V.int) (is.map Dat.int)
  | [] => .nil
  | i :: is => .cons (.int i) (fz_ints is)
theorem law_prom {C : Ct} {w : World} {K : PySem.W.Frag} {n : Nat} {a : Addr} {o : Obj} {is : List Int} (h : is.length ≤ n) :
    spD C w K 1 (pLaw n) [.ref a] (onlyAt a (.frz o (.lst (is.map V.int)))) (fun v _ => v = .bl true) fun _ _ _ => False := by
  refine ⟨rfl, ⟨onlyAt a (.frz o (.lst (is.map V.int))), [], onlyAt a (.frz o (.lst (is.map V.int)))⟩, [], [.lst (is.map Dat.int)], rfl, ?_, ?_, is, h, rfl, rfl, ?_⟩
  · exact ⟨fun _ _ e => e, List.nodup_nil, rfl, fun k x b e => by simp at e⟩
  · exact .cons (.lst (.inr ⟨o, onlyAt_same⟩) (fz_ints is)) .nil
  · intro m' n' v g l z
    cases z; rfl
end DL

set_option maxHeartbeats 2000000
namespace DL
open PySem PySem.Spec PyProof.Rows L2

/-! ### facts of the top by tables: all are looks at the written part -/
structure Tab where
  names : List Str
  flds : List (List Str) := []
  /-- plain classes of instances -/
  owns : List Nat := []
  ii : List (Nat × Nat × Bool) := []
  ib : List (Nat × String × Bool) := []
  it : List (String × Nat × Bool) := []
def Tab.at (t : Tab) (K : PySem.W.Frag) (c : Nat) : Addr := He.ga K (t.names.getD c Str.empty)
def fi2 (tab : List (Nat × Nat × Bool)) (c d : Nat) : Option Bool := match tab with
  | [] => none
  | (a, b, r) :: l => if a = c ∧ b = d then some r else fi2 l c d
def fiB (tab : List (Nat × String × Bool)) (c : Nat) (T : String) : Option Bool := match tab with
  | [] => none
  | (a, b, r) :: l => if a = c ∧ b = T then some r else fiB l c T
def fiT (tab : List (String × Nat × Bool)) (T : String) (d : Nat) : Option Bool := match tab with
  | [] => none
  | (a, b, r) :: l => if a = T ∧ b = d then some r else fiT l T d
def fiOf (tab : List (Nat × Nat)) (c : Nat) : Option Nat := match tab with
  | [] => none
  | (a, b) :: l => if a = c then some b else fiOf l c
def tsOf (tab : List (Nat × Bool)) (c : Nat) : Option Bool := match tab with
  | [] => none
  | (a, b) :: l => if a = c then some b else tsOf l c
theorem fi2_mem : ∀ {tab : List (Nat × Nat × Bool)} {c d : Nat} {r : Bool}, fi2 tab c d = some r → (c, d, r) ∈ tab
  | [], _, _, _, h => by cases h
  | (a, b, q) :: l, c, d, r, h => by
    unfold fi2 at h
    split at h
    · rename_i e; obtain ⟨rfl, rfl⟩ := e; cases h; exact List.mem_cons_self
    · exact List.mem_cons_of_mem _ (fi2_mem h)
theorem fiB_mem : ∀ {tab : List (Nat × String × Bool)} {c : Nat} {d : String} {r : Bool}, fiB tab c d = some r → (c, d, r) ∈ tab
  | [], _, _, _, h => by cases h
  | (a, b, q) :: l, c, d, r, h => by
    unfold fiB at h
    split at h
    · rename_i e; obtain ⟨rfl, rfl⟩ := e; cases h; exact List.mem_cons_self
    · exact List.mem_cons_of_mem _ (fiB_mem h)
theorem fiT_mem : ∀ {tab : List (String × Nat × Bool)} {c : String} {d : Nat} {r : Bool}, fiT tab c d = some r → (c, d, r) ∈ tab
  | [], _, _, _, h => by cases h
  | (a, b, q) :: l, c, d, r, h => by
    unfold fiT at h
    split at h
    · rename_i e; obtain ⟨rfl, rfl⟩ := e; cases h; exact List.mem_cons_self
    · exact List.mem_cons_of_mem _ (fiT_mem h)
theorem fiOf_mem : ∀ {tab : List (Nat × Nat)} {c d : Nat}, fiOf tab c = some d → (c, d) ∈ tab
  | [], _, _, h => by cases h
  | (a, b) :: l, c, d, h => by
    unfold fiOf at h
    split at h
    · rename_i e; subst e; cases h; exact List.mem_cons_self
    · exact List.mem_cons_of_mem _ (fiOf_mem h)
theorem tsOf_mem : ∀ {tab : List (Nat × Bool)} {c : Nat} {d : Bool}, tsOf tab c = some d → (c, d) ∈ tab
  | [], _, _, h => by cases h
  | (a, b) :: l, c, d, h => by
    unfold tsOf at h
    split at h
    · rename_i e; subst e; cases h; exact List.mem_cons_self
    · exact List.mem_cons_of_mem _ (tsOf_mem h)
def Tab.ct (t : Tab) (K : PySem.W.Frag) : Ct where
  addr := t.at K
  flds := fun c => t.flds.getD c []
  own := fun c => decide (c ∈ t.owns)
  isaI := fi2 t.ii
  isaB := fiB t.ib
  isaT := fiT t.it
def clsB (K : PySem.W.Frag) (C : Addr) : Bool := PySem.W.plainGet K C Str.empty && (PySem.W.hasDictIn K C && (PySem.W.plainOver K C && decide (PySem.W.findIn K (.ref C) "__setattr__" = some (some (.builtin "object.__setattr__")))))
theorem and2 {a b : Bool} (h : (a && b) = true) : a = true ∧ b = true := Bool.and_eq_true_iff.mp h
theorem clsB_ok {K : PySem.W.Frag} {C : Addr} (h : clsB K C = true) : Cls K C := by
  obtain ⟨h1, h⟩ := and2 h
  obtain ⟨h2, h⟩ := and2 h
  obtain ⟨h3, h4⟩ := and2 h
  exact ⟨h1, h2, h3, of_decide_eq_true h4⟩
def ownB (K : PySem.W.Frag) (C : Addr) : Bool := clsB K C && (decide (PySem.W.findIn K (.ref C) "__class__" = some (some (.builtin "object.__class__"))) &&
  (decide (PySem.W.specialIn K (.builtin "object.__class__") "__get__" = some (some (.builtin "getset_descriptor.__get__"))) && (decide (PySem.W.takesIn K (.builtin "object.__class__") = some true) && decide (PySem.W.mroIn K C (.type "object") = some true))))
def Tab.chk (t : Tab) (K : PySem.W.Frag) : Bool := (t.ii.all fun p => decide (PySem.W.kitOne K (.ref (t.at K p.1)) (.ref (t.at K p.2.1)) = some p.2.2)) &&
  ((t.ib.all fun p => decide (PySem.W.kitOne K (.ref (t.at K p.1)) (.type p.2.1) = some p.2.2)) &&
  ((t.it.all fun p => decide (PySem.W.kitOne K (.type p.1) (.ref (t.at K p.2.1)) = some p.2.2)) && t.owns.all fun c => ownB K (t.at K c)))
theorem Tab.ok {t : Tab} {K : PySem.W.Frag} (h : t.chk K = true) : CtOk (t.ct K) K := by
  obtain ⟨h1, h⟩ := and2 h
  obtain ⟨h2, h⟩ := and2 h
  obtain ⟨h3, h4⟩ := and2 h
  refine ⟨fun c d b e => ?_, fun c T b e => ?_, fun T d b e => ?_, fun c e => ?_⟩
  · exact of_decide_eq_true (List.all_eq_true.mp h1 _ (fi2_mem e))
  · exact of_decide_eq_true (List.all_eq_true.mp h2 _ (fiB_mem e))
  · exact of_decide_eq_true (List.all_eq_true.mp h3 _ (fiT_mem e))
  · obtain ⟨q1, q⟩ := and2 (List.all_eq_true.mp h4 c (of_decide_eq_true e))
    obtain ⟨q2, q⟩ := and2 q
    obtain ⟨q3, q⟩ := and2 q
    obtain ⟨q4, q5⟩ := and2 q
    exact ⟨clsB_ok q1, of_decide_eq_true q2, of_decide_eq_true q3, of_decide_eq_true q4, of_decide_eq_true q5⟩
/-- a field of plain instances -/
def Tab.fiC (t : Tab) (f : Str) (tab : List (Nat × Nat)) (K : PySem.W.Frag) : Bool := tab.all fun p => clsB K (t.at K p.1) && (decide (PySem.W.findIn K (.ref (t.at K p.1)) f = some none) &&
  (decide ((t.flds.getD p.1 []).Nodup) && (decide ((t.flds.getD p.1 []).length < 1000) && decide ((t.flds.getD p.1 [])[p.2]? = some f))))
theorem Tab.fi_ok {t : Tab} {f : Str} {tab : List (Nat × Nat)} {K : PySem.W.Frag} (h : t.fiC f tab K = true) : FiOk K (t.ct K) f (fiOf tab) := ⟨fun c k e => by
  obtain ⟨h1, q⟩ := and2 (List.all_eq_true.mp h _ (fiOf_mem e))
  obtain ⟨h2, q⟩ := and2 q
  obtain ⟨h3, q⟩ := and2 q
  obtain ⟨h4, h5⟩ := and2 q
  have e2 : PySem.W.findIn K (.ref (t.at K c)) f = some none := of_decide_eq_true h2
  exact ⟨⟨clsB_ok h1, e2, of_decide_eq_true h3, of_decide_eq_true h4⟩, of_decide_eq_true h5⟩⟩
/-- a field of caught errors -/
def Tab.xfC (t : Tab) (f : Str) (tab : List (Nat × Nat)) (K : PySem.W.Frag) : Bool := tab.all fun p => xfB K (t.at K p.1) && (decide (PySem.W.findIn K (.ref (t.at K p.1)) f = some none) &&
  (decide ((t.flds.getD p.1 [])[p.2]? = some f) && decide ((t.flds.getD p.1 []).Nodup)))
theorem Tab.xf_ok {t : Tab} {f : Str} {tab : List (Nat × Nat)} {K : PySem.W.Frag} (h : t.xfC f tab K = true) : XfiOk K (t.ct K) f (fiOf tab) := ⟨fun c k e => by
  obtain ⟨h1, q⟩ := and2 (List.all_eq_true.mp h _ (fiOf_mem e))
  obtain ⟨h2, q⟩ := and2 q
  obtain ⟨h3, h4⟩ := and2 q
  exact ⟨xfB_ok h1, of_decide_eq_true h2, of_decide_eq_true h3, of_decide_eq_true h4⟩⟩
/-- isinstance of a caught error -/
def excB (K : PySem.W.Frag) (D : Addr) : Bool := decide (PySem.W.findIn K (.ref D) "__getattribute__" = some (some (.builtin "BaseException.__getattribute__"))) && (decide (PySem.W.findIn K (.ref D) "__getattr__" = some none) &&
  (decide (PySem.W.subIn K (.ref D) (.type "BaseException") = some true) && (PySem.W.hasDictIn K D && (decide (PySem.W.findIn K (.ref D) "__class__" = some (some (.builtin "object.__class__"))) &&
  (decide (PySem.W.specialIn K (.builtin "object.__class__") "__get__" = some (some (.builtin "getset_descriptor.__get__"))) && (decide (PySem.W.takesIn K (.builtin "object.__class__") = some true) && decide (PySem.W.mroIn K D (.type "object") = some true)))))))
theorem excB_ok {K : PySem.W.Frag} {D : Addr} (h : excB K D = true) : ExcC K D := by
  obtain ⟨h1, h⟩ := and2 h
  obtain ⟨h2, h⟩ := and2 h
  obtain ⟨h3, h⟩ := and2 h
  obtain ⟨h4, h⟩ := and2 h
  obtain ⟨h5, h⟩ := and2 h
  obtain ⟨h6, h⟩ := and2 h
  obtain ⟨h7, h8⟩ := and2 h
  exact ⟨of_decide_eq_true h1, of_decide_eq_true h2, of_decide_eq_true h3, h4, of_decide_eq_true h5, of_decide_eq_true h6, of_decide_eq_true h7, of_decide_eq_true h8⟩
def Tab.ieC (t : Tab) (tab : List (Nat × Nat × Bool)) (K : PySem.W.Frag) : Bool := tab.all fun p => excB K (t.at K p.1) && decide (PySem.W.kitOne K (.ref (t.at K p.1)) (.ref (t.at K p.2.1)) = some p.2.2)
theorem Tab.ie_ok {t : Tab} {tab : List (Nat × Nat × Bool)} {K : PySem.W.Frag} (h : t.ieC tab K = true) : IsEOk K (t.ct K) (fi2 tab) := ⟨fun c d b e => by
  obtain ⟨h1, h2⟩ := and2 (List.all_eq_true.mp h _ (fi2_mem e))
  exact ⟨excB_ok h1, of_decide_eq_true h2⟩⟩
/-- which errors an except takes -/
def Tab.exC (t : Tab) (d : Nat) (tab : List (Nat × Bool)) (K : PySem.W.Frag) : Bool := tab.all fun p => decide (PySem.W.exmOne K (.ref (t.at K p.1)) (.ref (t.at K d)) = some p.2)
theorem Tab.ex_ok {t : Tab} {d : Nat} {tab : List (Nat × Bool)} {K : PySem.W.Frag} (h : t.exC d tab K = true) : ∀ c b, tsOf tab c = some b → PySem.W.exmOne K (.ref ((t.ct K).addr c)) (.ref ((t.ct K).addr d)) = some b := fun c b e =>
  of_decide_eq_true (List.all_eq_true.mp h _ (tsOf_mem e))
/-- own exceptions that are made -/
def oexB (K : PySem.W.Frag) (C : Addr) : Bool := match K.lookup C with
  | some ⟨.type "type", _, .cls cd, sl⟩ => (match cd.mro, sl.toList with
    | .ref C2 :: bm, [_, _, _, _, some (.builtin n), _] => C2 == C && (n == "ValueError.__new__" && (!cd.hasDel && (cd.hasDict && PySem.HandSPX.refsVE bm)))
    | _, _ => false)
  | _ => false
theorem oexB_ok {K : PySem.W.Frag} {C : Addr} (h : oexB K C = true) : ∃ nm q N bs bm sn sub ab col dd k0 k1 k2 k3 k5, K.lookup C = some (excClassObj nm q C N bs bm true sn sub ab col dd k0 k1 k2 k3 k5 "ValueError.__new__") ∧ PySem.HandSPX.refsVE bm = true := by
  unfold oexB at h
  split at h
  · rename_i dd cd sl lk
    split at h
    · rename_i C2 bm k0 k1 k2 k3 n k5 em es
      obtain ⟨h1, h⟩ := and2 h
      obtain ⟨h2, h⟩ := and2 h
      obtain ⟨h3, h⟩ := and2 h
      obtain ⟨h4, h5⟩ := and2 h
      have e1 := eq_of_beq h1
      have e2 := eq_of_beq h2
      subst e1 e2
      have es2 : sl = #[k0, k1, k2, k3, some (.builtin "ValueError.__new__"), k5] := by
        cases sl; simp at es; rw [es]
      subst es2
      obtain ⟨nm, bs, mro, ns, qn, hd, sn, sub, ab, col, del⟩ := cd
      have e3 : mro = .ref C2 :: bm := em
      have e4 : hd = true := h4
      have e5 : del = false := by simpa using h3
      subst e3 e4 e5
      exact ⟨nm, qn, ns, bs, bm, sn, sub, ab, col, dd, k0, k1, k2, k3, k5, lk, h5⟩
    · cases h
  · cases h
def Tab.xcC (t : Tab) (c : Nat) (fs : List Str) (K : PySem.W.Frag) : Bool := oexB K (t.at K c) && (decide (PySem.W.findIn K (.ref (t.at K c)) "__setattr__" = some (some (.builtin "object.__setattr__"))) && (decide (PySem.W.subIn K (.ref (t.at K c)) (.type "BaseException") = some true) &&
  (decide (PySem.W.typeIn K (.ref (t.at K c)) = some (.type "type")) && (PySem.W.keepIn K (.ref (t.at K c)) && ((fs.all fun f => decide (PySem.W.findIn K (.ref (t.at K c)) f = some none)) &&
  (decide (PySem.W.findIn K (.ref (t.at K c)) "__init__" = some (some (.ref (He.fAd K (t.names.getD c Str.empty, some "__init__"))))) && decide (PySem.W.typeIn K (.ref (He.fAd K (t.names.getD c Str.empty, some "__init__"))) = some (.type "function"))))))))
theorem Tab.xc_ok {t : Tab} {c : Nat} {fs : List Str} {P : Program} {w : World} {K : PySem.W.Frag} {mg : Str → Option Value} {base : Heap} {x : Str} (h : t.xcC c fs K = true) (hx : t.names.getD c Str.empty = x) (hm : mg x = some (.ref (He.ga K x))) (fl : t.flds.getD c [] = fs.reverse) (few : fs.length ≤ 1000)
    (F : ∃ ps, FnOk P w K mg base (L2.CX P w) 1 (He.fAd K (x, some "__init__")) (fdA K (x, some "__init__")) ps (spX K fs) ∧ Binds K (fdA K (x, some "__init__")) ps []) : XcC P w K mg base (t.ct K) x c fs := by
  subst hx
  obtain ⟨h1, h⟩ := and2 h
  obtain ⟨h2, h⟩ := and2 h
  obtain ⟨h3, h⟩ := and2 h
  obtain ⟨h4, h⟩ := and2 h
  obtain ⟨h5, h⟩ := and2 h
  obtain ⟨h6, h⟩ := and2 h
  obtain ⟨h7, h8⟩ := and2 h
  exact ⟨hm, ⟨oexB_ok h1, of_decide_eq_true h2, of_decide_eq_true h3, of_decide_eq_true h4, h5⟩, fun f hf => of_decide_eq_true (List.all_eq_true.mp h6 f hf), fl, few, of_decide_eq_true h7, of_decide_eq_true h8, F⟩
/-- classes that are made by their own __init__ -/
def Tab.mkC (t : Tab) (c : Nat) (K : PySem.W.Frag) : Bool := PySem.W.makesIn K (t.at K c) && (decide (PySem.W.findIn K (.ref (t.at K c)) "__init__" = some (some (.ref (He.fAd K (t.names.getD c Str.empty, some "__init__"))))) &&
  (PySem.W.isFn K (.ref (He.fAd K (t.names.getD c Str.empty, some "__init__"))) && PySem.W.keepIn K (.ref (t.at K c))))
theorem Tab.mk_ok {t : Tab} {c : Nat} {K : PySem.W.Frag} {x : Str} (h : t.mkC c K = true) (hx : t.names.getD c Str.empty = x) : Mk K ((t.ct K).addr c) (He.fAd K (x, some "__init__")) := by
  subst hx
  obtain ⟨h1, h⟩ := and2 h
  obtain ⟨h2, h⟩ := and2 h
  obtain ⟨h3, h4⟩ := and2 h
  exact ⟨h1, of_decide_eq_true h2, h3, h4⟩
def noSysB (K : PySem.W.Frag) : Bool := match K.lookup sysModules with
  | some o => !(decide (o.cls = .type "list"))
  | none => false
theorem noSysB_ok {K : PySem.W.Frag} (h : noSysB K = true) : NoSys K := by
  unfold noSysB at h
  split at h
  · rename_i o e
    exact ⟨o, e, by simpa using h⟩
  · cases h
def noLstB (K : PySem.W.Frag) : Bool := K.all fun p => !(decide (p.2.cls = .type "list"))
theorem lookup_mem {α β : Type} [BEq α] [LawfulBEq α] : ∀ {l : List (α × β)} {a : α} {b : β}, l.lookup a = some b → (a, b) ∈ l
  | [], _, _, h => by cases h
  | (x, y) :: l, a, b, h => by
    rw [List.lookup_cons] at h
    split at h
    · rename_i e
      cases h
      rw [eq_of_beq e]
      exact List.mem_cons_self
    · exact List.mem_cons_of_mem _ (lookup_mem h)
theorem noLstB_ok {K : PySem.W.Frag} (h : noLstB K = true) : NoLst K := fun b o e => by
  have q := List.all_eq_true.mp h _ (lookup_mem e)
  simpa using q

/-! ### the hook -/
abbrev Fk : Type := PySem.W.Frag → Bool
def obsX (ex : List Fk) (fn : List He.DefD) (K : PySem.W.Frag) : He.AlD := ((ex.all fun g => g K) && fn.all fun d => d.ok K, fn.map fun d => He.fnW K d.at_)
def SaysX (ex : List Fk) (fn : List He.DefD) (K : PySem.W.Frag) : Prop := obsX ex fn K = He.valD fn
def asX (g : Addr → Option Obj) (n : Nat) : List Addr := sysModules :: He.asD g n
def obsXG (n : Nat) (ex : List Fk) (fn : List He.DefD) (g : Addr → Option Obj) : He.AlD := obsX ex fn (He.frG g (asX g n))
def hookX (n : Nat) (ex : List Fk) (fn : List He.DefD) : PySem.W.Hook where
  α := He.AlD
  obs := fun s => obsXG n ex fn s.heap.get?
  val := fun _ => He.valD fn
  says := fun _ h => ∃ K : PySem.W.Frag, K.In h ∧ SaysX ex fn K
  of := fun _ _ e => ⟨_, He.frG_in, e⟩
  keeps := fun _ _ _ ⟨K, inK, c⟩ k => ⟨K, PySem.W.Frag.In.keeps inK k, c⟩
theorem obsXG_eq {n : Nat} {ex : List Fk} {fn : List He.DefD} {g : Addr → Option Obj} {s : Shared} (h : ∀ a, g a = s.heap.get? a) : obsXG n ex fn g = (hookX n ex fn).obs s := by
  have e : g = s.heap.get? := funext h
  rw [e] <;> rfl
section
variable {ex : List Fk} {fn : List He.DefD} {K : PySem.W.Frag}
theorem SaysX.fact (c : SaysX ex fn K) (i : Nat) {g : Fk} (h : ex[i]? = some g := by rfl) : g K = true :=
  List.all_eq_true.mp (and2 (show ((ex.all fun g => g K) && fn.all fun d => d.ok K) = true from congrArg (fun z : He.AlD => z.1) c)).1 g (List.mem_of_getElem? h)
theorem SaysX.def_ (c : SaysX ex fn K) (i : Nat) {d : He.DefD} (h : fn[i]? = some d := by rfl) : ∃ fd, FunD K d.name d.qual d.params d.body d.scope (d.dvs K) (d.kws K) (He.fAd K d.at_) fd := by
  have c1 := (and2 (show ((ex.all fun g => g K) && fn.all fun d => d.ok K) = true from congrArg (fun z : He.AlD => z.1) c)).2
  have e1 : fn.map (fun d => He.fnW K d.at_) = fn.map He.DefD.val := congrArg (fun z : He.AlD => z.2) c
  have e2 : (fn.map fun d => He.fnW K d.at_)[i]? = (fn.map He.DefD.val)[i]? := by rw [e1]
  rw [List.getElem?_map, List.getElem?_map, h] at e2
  exact He.DefD.funD (Option.some.inj e2) (List.all_eq_true.mp c1 d (List.mem_of_getElem? h))
end
end DL

set_option maxHeartbeats 2000000
namespace DL
open PySem PySem.Spec PyProof.Rows L2
/-- a promise that asks what cannot be: for a def that is not called -/
def pNo : DSp := fun _ _ _ _ => False
theorem pNo.mono : MonoP pNo := fun _ _ _ _ _ _ _ _ h => h
theorem pNo.len {n : Nat} : ∀ ds m Q E, pNo ds m Q E → ds.length = n := fun _ _ _ _ h => h.elim
section
variable {P : Program} {w : World} {K : PySem.W.Frag} {mg : Str → Option Value} {base : Heap} {C : Ct} {k : Nat} {f : Addr} {fd : FuncData} {ps : List Str}
theorem noSp {n : Nat} {vs : List V} {H : Hp} {Q : VK} {E : XK} (h : spD C w K n pNo vs H Q E) : False := by
  obtain ⟨_, _, _, _, _, _, _, z⟩ := h
  exact z
theorem noG : DG P w K mg base C k f fd ps pNo := ⟨pNo.mono, ⟨fun _ _ _ _ z => (noSp z).elim, fun _ _ _ _ _ _ _ _ _ _ _ _ _ z => (noSp z).elim⟩⟩
theorem noF : DF P w K mg base C k f fd ps pNo := ⟨pNo.mono, ⟨fun _ _ _ _ z => (noSp z).elim, fun _ _ _ _ _ _ _ _ _ _ _ _ _ z => (noSp z).elim⟩⟩
end
end DL

set_option maxHeartbeats 2000000
namespace DL
open PySem PySem.Spec PyProof.Rows L2

/-! ### instances: their methods, properties, operators -/
/-- the instance of class c as its methods get it -/
def selfD (c : Nat) (m : Mem) (x : Lv) : Option Dat := match x with
  | .f (.ins c' xs) => if c' = c then some (.ins c' xs) else none
  | .f (.obj k) => match m[k]? with
    | some (.ins c' _) => if c' = c then some (.obj k) else none
    | _ => none
  | _ => none
section
variable {C : Ct} {w : World} {K : PySem.W.Frag} {B n : Nw} {m : Mem} {env : Env'} {σ : L2.St} {c : Nat}
theorem self_ok {v : V} {x : Lv} {d : Dat} (ok : Ok C w K B n env m σ) (h : LvOk C w K n env σ v x) (e : selfD c m x = some d) :
    ∃ a dx vs, v = .ref a ∧ n.H a = some (.ins (C.addr c) dx ((C.flds c).zip vs)) ∧ FzN C w K n (.ref a) d := by
  cases x with
  | o i => cases e
  | f y =>
    cases y with
    | ins c' xs =>
      unfold selfD at e
      simp only at e
      split at e
      · rename_i hc
        subst hc
        cases e
        have h' : FzN C w K n v (.ins c' xs) := h
        cases h' with
        | ins g l r => exact ⟨_, _, _, rfl, ok.good.sub _ _ g, .ins g l r⟩
      · cases e
    | obj k =>
      unfold selfD at e
      simp only at e
      split at e
      · rename_i c' xs hm
        split at e
        · rename_i hc
          subst hc
          cases e
          have h' : FzN C w K n v (.obj k) := h
          cases h' with
          | obj ha =>
            obtain ⟨⟨dx, vs, e1, _, _⟩, _⟩ := ok.good.at_ k _ _ hm ha
            exact ⟨_, dx, vs, rfl, e1, .obj ha⟩
        · cases e
      · cases e
    | _ => cases e
end
/-- nothing is raised -/
abbrev noX : QX := fun _ _ _ => False
section
variable {X : Cx} {CX : CXT} {k : Nat} {f : Addr} {fd : FuncData} {ps : List Str} {sp : Sp} {E : XK}
/-- a def is run somewhere below the body -/
theorem runA {A' : Around} {pins : List (Addr × Obj)} {σ : L2.St} {H : Hp} {s : Shared} {Q : VK} {us : List Value} {vs : List V} (F : FnOk X.prog X.w X.K X.mg X.base CX k f fd ps sp) (room : Room k A') (e0 : Env0 X.prog X.w X.K X.mg X.base A' X.stack s H)
    (hb : Binds X.K fd ps []) (px : PassesAt CX X σ E) (I : Inv X pins σ H s) (r : Vals vs us) (h : sp vs H Q E) : wpAny (model X.prog X.w) A' (call (.ref f) us) (EP X pins σ Q) X.xe s := by
  have le : us.length = ps.length := by rw [← r.length]; exact F.len _ _ _ _ h
  have b := hb s us I.kIn (by rw [List.append_nil]; exact le)
  rw [List.append_nil] at b
  refine wpAny_call (codeAny_mono (F.run A' X.stack s H ⟨us, []⟩ us vs Q E room e0 b r h) fun r s' q => ?_)
  cases r with
  | error e => exact px pins H s e s' I q
  | ok z =>
    cases z with
    | ret u => exact I.after q
    | next => exact False.elim q
    | brk => exact False.elim q
    | cont => exact False.elim q
theorem pass_no {σ : L2.St} : PassesAt (L2.CX X.prog X.w) X σ (fun _ _ _ => False) := fun pins H s e s' I h => by
  obtain ⟨_, _, _, _, _, _, _, _, _, _, _, _, z⟩ := h
  exact z.elim
end
/-- a method that can be called on instances of class c -/
structure MeC (P : Program) (w : World) (K : PySem.W.Frag) (mg : Str → Option Value) (base : Heap) (C : Ct) (c : Nat) (y x : Str) (k : Nat) (ps : List Str) (p : DSp) : Prop where
  cls : Cls K (C.addr c)
  me : Meth K (C.addr c) x (He.fAd K (y, some x))
  no : x ∉ C.flds c
  F : DF P w K mg base C k (He.fAd K (y, some x)) (fdA K (y, some x)) ps p
  hb : Binds K (fdA K (y, some x)) ps []
  hl : ∀ ds m Q E, p ds m Q E → ds.length = ps.length
theorem zip_none {fs : List Str} {vs : List V} {x : Str} (h : x ∉ fs) : (fs.zip vs).lookup x = none := by
  induction fs generalizing vs with
  | nil => rfl
  | cons f fs ih =>
    cases vs with
    | nil => rfl
    | cons v vs =>
      rw [List.zip_cons_cons, List.lookup_cons]
      have hne : (x == f) = false := by
        have : x ≠ f := fun z => h (by rw [z]; exact List.mem_cons_self)
        simpa using this
      rw [hne]
      exact ih fun z => h (List.mem_cons_of_mem _ z)
section
variable {X : Cx} {C : Ct} {B : Nw} {k j c : Nat} {ps : List Str} {p : DSp} {EX : QXe} {x y : Str} {pos apos : Pos} {o e : Expr} {es : List Expr} {d : TD} {da : TAd}
/-- o.m(e, ..) -/
def dMeth (c : Nat) (p : DSp) (EX : QXe) (d : TD) (da : TAd) : TD := fun env m Q => d env m fun x m1 => match selfD c m1 x with
  | some s => da env m1 fun xs m2 => match frs xs with
    | some ds => p (s :: ds) m2 (fun r m3 => Q (.f r) m3) (fun c ys m3 => EX c ys env m3)
    | none => False
  | none => False
theorem dMeth.mono (hp : MonoP p) (hd : MonoD d) (ha : MonoA da) : MonoD (dMeth c p EX d da) := fun env m Q Q' i h => by
  refine hd _ _ _ _ (fun x m1 h1 => ?_) h
  split at h1
  · refine ha _ _ _ _ (fun xs m2 h2 => ?_) h1
    split at h2
    · exact hp _ _ _ _ _ _ (fun r m3 => i _ _) (fun _ _ _ z => z) h2
    · exact h2
  · exact h1
theorem err_at {n1 n2 : Nw} {m1 : Mem} {env : Env'} {σ : L2.St} (ok : Ok C X.w X.K B n1 env m1 σ) {c : Nat} {ys : List Dat} {m2 : Mem} (l : n1.le n2) (h : EX c ys env m2) : AftX C X.w X.K n2 (atX C B X.w X.K EX σ) c ys m2 :=
  fun n3 dx us g l3 hx hu => ⟨n3, env, m2, c, ys, us, rfl, ok.go g (l.trans l3), rfl, XAt.base (ok.base.trans l) hx, hu, h⟩
theorem de_meth {pl : Sem Bool} (M : MeC X.prog X.w X.K X.mg X.base C c y x j ps p) (ho : DE X C B o d) (hr : Room k X.A) (h : j ≤ k) (ha : DA X C B (e :: es) da) (px : PassD X C B EX)
    (hst : starEach (e :: es) X.env = (false, eval e X.env) :: starEach es X.env := by rfl) (hpl : (backTo pos (starEach es X.env)).any (·.1) = false := by rfl)
    (ht : eval (.Call (.Attribute o x apos) (e :: es) [] pos) X.env = (do
        let ov ← eval o X.env
        standAt apos.atName
        let (f, first) ← holding [ov] (getMethod ov x pl)
        callWith pos f first (backTo pos (starEach (e :: es) X.env)) (backToKw pos (keywordEach [] X.env))) := by rfl) :
    DE X C B (.Call (.Attribute o x apos) (e :: es) [] pos) (dMeth c p EX d da) := by
  refine ⟨dMeth.mono M.F.mono ho.mono ha.mono, ⟨fun pins s σ H Q I h0 => ?_⟩⟩
  obtain ⟨n, env, m, rfl, ok, q⟩ := h0
  refine PySem.W.methodCall_KW (pl := pl) (thn (ho.run.run pins s σ n.H (fun v H1 => ∃ n1 m1 sd a dx vs, n1.H = H1 ∧ Good C X.w X.K n1 m1 ∧ n.le n1 ∧ v = .ref a ∧ n1.H a = some (.ins (C.addr c) dx ((C.flds c).zip vs)) ∧ FzN C X.w X.K n1 (.ref a) sd ∧
      da env m1 fun xs m2 => match frs xs with
        | some ds => p (sd :: ds) m2 (fun r m3 => AftL C X.w X.K n env σ Q (.f r) m3) (fun c ys m3 => EX c ys env m3)
        | none => False) I ⟨n, env, m, rfl, ok, ho.mono _ _ _ _ (fun z m1 q1 n1 v g1 l1 lz => ?_) q⟩) fun u s1 ⟨v, H1, I1, rv, n1, m1, sd, a, dx, vs, eH, g1, l1, ev, ea, fz, q1⟩ => ?_) ht
  · split at q1
    · rename_i sd hs
      obtain ⟨a, dx, vs, e1, e2, e3⟩ := self_ok (ok.go g1 l1) lz hs
      exact ⟨n1, m1, sd, a, dx, vs, rfl, g1, l1, e1, e2, e3, q1⟩
    · exact q1.elim
  · subst eH ev
    cases rv
    refine getmeth_ok I1 ea M.cls M.me (zip_none M.no) ?_
    refine PySem.W.callWith_K (first := [.ref a]) (h₀ := X.base) I1.ok.mod.kin M.me.kp (thn (ha.run.run pos pins s1 σ n1.H (fun vs H2 => ∃ n2 m2 ds, n2.H = H2 ∧ Good C X.w X.K n2 m2 ∧ n1.le n2 ∧ FzAllN C X.w X.K n2 vs ds ∧
      p (sd :: ds) m2 (fun r m3 => AftL C X.w X.K n env σ Q (.f r) m3) (fun c ys m3 => EX c ys env m3)) I1 ⟨n1, env, m1, rfl, ok.go g1 l1, ha.mono _ _ _ _ (fun xs m2 q2 n2 vs2 g2 l2 lxs => ?_) q1⟩)
        fun us s2 ⟨vs2, H2, I2, r2, n2, m2, ds, eH2, g2, l2, hz, q2⟩ => ⟨I2.kIn, ?_⟩) hst hpl
    · split at q2
      · rename_i ds hd
        exact ⟨n2, m2, ds, rfl, g2, l2, frs_ok lxs hd, q2⟩
      · exact q2.elim
    · subst eH2
      refine runA (us := .ref a :: us) (vs := .ref a :: vs2) M.F.ok (hr.mono h) I2.env0 M.hb (px σ) I2 (.cons rfl r2) ?_
      refine ⟨?_, n2, m2, sd :: ds, rfl, g2, .cons (FzN.le fz l2) hz, M.F.mono _ _ _ _ _ _ (fun r m3 q3 n3 v3 g3 l3 lv => q3 n3 v3 g3 (l1.trans (l2.trans l3)) lv) (fun c ys m3 q3 => err_at ok (l1.trans l2) q3) q2⟩
      have e1 := M.hl _ _ _ _ q2
      rw [List.length_cons] at e1 ⊢
      rw [hz.length]; exact e1
/-- o.m() -/
theorem de_meth0 {pl : Sem Bool} (M : MeC X.prog X.w X.K X.mg X.base C c y x j ps p) (ho : DE X C B o d) (hr : Room k X.A) (h : j ≤ k) (px : PassD X C B EX)
    (ht : eval (.Call (.Attribute o x apos) [] [] pos) X.env = (do
        let ov ← eval o X.env
        standAt apos.atName
        let (f, first) ← holding [ov] (getMethod ov x pl)
        callWith pos f first (backTo pos (starEach [] X.env)) (backToKw pos (keywordEach [] X.env))) := by rfl) :
    DE X C B (.Call (.Attribute o x apos) [] [] pos) (dMeth c p EX d dNil) := by
  refine ⟨dMeth.mono M.F.mono ho.mono (fun _ _ _ _ i => i _ _), ⟨fun pins s σ H Q I h0 => ?_⟩⟩
  obtain ⟨n, env, m, rfl, ok, q⟩ := h0
  refine PySem.W.methodCall_KW (pl := pl) (thn (ho.run.run pins s σ n.H (fun v H1 => ∃ n1 m1 sd a dx vs, n1.H = H1 ∧ Good C X.w X.K n1 m1 ∧ n.le n1 ∧ v = .ref a ∧ n1.H a = some (.ins (C.addr c) dx ((C.flds c).zip vs)) ∧ FzN C X.w X.K n1 (.ref a) sd ∧
      p [sd] m1 (fun r m3 => AftL C X.w X.K n env σ Q (.f r) m3) (fun c ys m3 => EX c ys env m3)) I ⟨n, env, m, rfl, ok, ho.mono _ _ _ _ (fun z m1 q1 n1 v g1 l1 lz => ?_) q⟩)
        fun u s1 ⟨v, H1, I1, rv, n1, m1, sd, a, dx, vs, eH, g1, l1, ev, ea, fz, q1⟩ => ?_) ht
  · split at q1
    · rename_i sd hs
      obtain ⟨a, dx, vs, e1, e2, e3⟩ := self_ok (ok.go g1 l1) lz hs
      exact ⟨n1, m1, sd, a, dx, vs, rfl, g1, l1, e1, e2, e3, q1⟩
    · exact q1.elim
  · subst eH ev
    cases rv
    refine getmeth_ok I1 ea M.cls M.me (zip_none M.no) ?_
    refine PySem.W.callWith_K0 (first := [.ref a]) I1.kIn M.me.kp (runA (us := [.ref a]) (vs := [.ref a]) M.F.ok (hr.mono h) I1.env0 M.hb (px σ) I1 (.cons rfl .nil) ?_)
    exact ⟨M.hl _ _ _ _ q1, n1, m1, [sd], rfl, g1, .cons fz .nil, M.F.mono _ _ _ _ _ _ (fun r m3 q3 n3 v3 g3 l3 lv => q3 n3 v3 g3 (l1.trans l3) lv) (fun c ys m3 q3 => err_at ok l1 q3) q1⟩
/-- o.f, a property -/
structure PrC (P : Program) (w : World) (K : PySem.W.Frag) (mg : Str → Option Value) (base : Heap) (C : Ct) (c : Nat) (x : Str) (k : Nat) (p : DSp) : Prop where
  cls : Cls K (C.addr c)
  ex : ∃ pr g fd ps, PropOf K (C.addr c) x pr g ∧ DF P w K mg base C k g fd ps p ∧ Binds K fd ps [] ∧ ps.length = 1
  hl : ∀ ds m Q E, p ds m Q E → ds.length = 1
def dProp (c : Nat) (p : DSp) (d : TD) : TD := fun env m Q => d env m fun x m1 => match selfD c m1 x with
  | some s => p [s] m1 (fun r m2 => Q (.f r) m2) noX
  | none => False
theorem dProp.mono (hp : MonoP p) (hd : MonoD d) : MonoD (dProp c p d) := fun env m Q Q' i h => hd _ _ _ _ (fun x m1 h1 => by
  split at h1
  · exact hp _ _ _ _ _ _ (fun r m3 => i _ _) (fun _ _ _ z => z) h1
  · exact h1) h
theorem de_prop (M : PrC X.prog X.w X.K X.mg X.base C c x j p) (ho : DE X C B o d) (hr : Room k X.A) (h : j + 1 ≤ k) (hab : attributeBase o x X.env (eval o X.env) = eval o X.env := by rfl) : DE X C B (.Attribute o x pos) (dProp c p d) := by
  obtain ⟨pr, g, fd, ps, hp, F, hb, hps⟩ := M.ex
  refine ⟨dProp.mono F.mono ho.mono, imp (pe_prop ho.run M.cls hp F.ok (hr.mono h) hb .nil (E := fun _ _ _ => False) (fun pins σ H s e s' I z => (pass_no (X := X.nox) (σ := σ) pins H s e s' I z)) hab) ?_⟩
  rintro σ H Q ⟨n, env, m, rfl, ok, q⟩
  refine ⟨n, env, m, rfl, ok, ho.mono _ _ _ _ (fun z m1 q1 n1 v g1 l1 lz => ?_) q⟩
  split at q1
  · rename_i sd hs
    obtain ⟨a, dx, vs, e1, e2, e3⟩ := self_ok (ok.go g1 l1) lz hs
    refine ⟨a, dx, _, e1, e2, by rw [hps]; rfl, n1, m1, [sd], rfl, g1, .cons e3 .nil, F.mono _ _ _ _ _ _ (fun r m3 q3 n3 v3 g3 l3 lv => q3 n3 v3 g3 (l1.trans l3) lv) (fun _ _ _ z => z.elim) q1⟩
  · exact q1.elim
/-! len(o), x in o, o == x, o & o, str(o) -/
/-- a method that an operator calls -/
structure DunC (P : Program) (w : World) (K : PySem.W.Frag) (mg : Str → Option Value) (base : Heap) (C : Ct) (c : Nat) (x : Str) (k : Nat) (p : DSp) : Prop where
  ex : ∃ f fd ps, PySem.W.findIn K (.ref (C.addr c)) x = some (some (.ref f)) ∧ PySem.W.isFn K (.ref f) = true ∧ DF P w K mg base C k f fd ps p ∧ Binds K fd ps [] ∧ ∀ ds m Q E, p ds m Q E → ds.length = ps.length
theorem run_dun {A' : Around} {pins : List (Addr × Obj)} {σ : L2.St} {s : Shared} {n : Nw} {m : Mem} {us : List Value} {vs : List V} {ds : List Dat} {f : Addr} {fd : FuncData} {Q : QD} {Qv : VK}
    (F : DF X.prog X.w X.K X.mg X.base C j f fd ps p) (room : Room j A') (e0 : Env0 X.prog X.w X.K X.mg X.base A' X.stack s n.H) (hb : Binds X.K fd ps []) (hl : ∀ ds m Q E, p ds m Q E → ds.length = ps.length) (I : Inv X pins σ n.H s) (g : Good C X.w X.K n m)
    (r : Vals vs us) (hz : FzAllN C X.w X.K n vs ds) (q : p ds m Q noX) (hQ : ∀ d m', Q d m' → AftD C X.w X.K n Qv d m') : wpAny (model X.prog X.w) A' (call (.ref f) us) (EP X pins σ Qv) X.xe s :=
  runA F.ok room e0 hb pass_no I r ⟨by rw [hz.length]; exact hl _ _ _ _ q, n, m, ds, rfl, g, hz, F.mono _ _ _ _ _ _ hQ (fun _ _ _ z => z.elim) q⟩
def oLenI (c : Nat) (p : DSp) : OpN := fun env m xs Q => match xs with
  | [x] => match selfD c m x with
    | some s => p [s] m (fun r m' => match r with
      | .int i => (0 ≤ i ∧ i < 2 ^ 63) ∧ Q (.int i) m'
      | _ => False) noX
    | none => False
  | _ => False
theorem oLenI.mono (hp : MonoP p) : MonoN (oLenI c p) := fun env m xs Q Q' i h => by
  unfold oLenI at h ⊢
  split at h
  · split at h
    · refine hp _ _ _ _ _ _ (fun r m' z => ?_) (fun _ _ _ z => z) h
      cases r <;> first | exact z.elim | exact ⟨z.1, i _ _ z.2⟩
    · exact h
  · exact h
theorem call_lenI (M : DunC X.prog X.w X.K X.mg X.base C c "__len__" j p) (hr : Room k X.A) (h : j + 1 ≤ k) : CallD X C (.builtin "len") (oLenI c p) := by
  obtain ⟨f, fd, ps, hs, hf, F, hb, hl⟩ := M.ex
  refine ⟨oLenI.mono F.mono, fun pins s σ H xs us Q I rv q => ?_⟩
  obtain ⟨B, n, env, m, σ', ls, rfl, ok, lxs, q⟩ := q
  unfold oLenI at q
  split at q
  · split at q
    · rename_i x sd hsd
      obtain ⟨v, rfl, lx⟩ := lxs.one
      obtain ⟨a, dx, vs, rfl, e2, e3⟩ := self_ok ok lx hsd
      obtain ⟨u, rfl⟩ : ∃ u, us = [u] := by cases rv with | cons _ r => cases r; exact ⟨_, rfl⟩
      cases rv with
      | cons ru _ =>
        cases (show u = Value.ref a from ru)
        obtain ⟨mA, J, _⟩ := ins_get I.hok e2
        obtain ⟨od, J, _⟩ := J.look
        obtain ⟨mf, hF⟩ := I.fr
        refine PySem.W.len_K hF I.ok.mod.kin J hs hf (wpAny_mono (run_dun (A' := X.A.in1) (us := [.ref a]) (vs := [.ref a]) F (hr.mono h).in1 I.env0.in1 hb hl I ok.good (.cons rfl .nil) (.cons e3 .nil) q (Qv := fun v H' => ∃ i : Int, v = .int i ∧ (0 ≤ i ∧ i < 2 ^ 63) ∧ Q (.int i) H') fun d m' z => ?_) (fun r s' z => ?_) fun _ _ z => z)
        · cases d with
          | int i =>
            intro n2 v2 g2 l2 lz
            cases lz
            exact ⟨i, rfl, z.1, z.2 n2 _ g2 l2 (.int i)⟩
          | _ => exact z.elim
        · obtain ⟨v2, H2, I2, r2, i, rfl, hi, z⟩ := z
          obtain ⟨t, rfl⟩ := r2
          exact ⟨hi, .int i, H2, I2.tok _, ⟨_, rfl⟩, z⟩
    · exact q.elim
  · exact q.elim
/-- x in o, x not in o -/
def oInI (g : Bool → Bool) (c : Nat) (p : DSp) : Op2 := fun env m x y Q => match selfD c m y, x with
  | some s, .f d => p [s, d] m (fun r m' => match r with
    | .bl b => Q (.bl (g b)) m'
    | _ => False) noX
  | _, _ => False
theorem oInI.mono {g : Bool → Bool} (hp : MonoP p) : Mono2 (oInI g c p) := fun env m x y Q Q' i h => by
  unfold oInI at h ⊢
  split at h
  · refine hp _ _ _ _ _ _ (fun r m' z => ?_) (fun _ _ _ z => z) h
    cases r <;> first | exact z.elim | exact i _ _ z
  · exact h.elim
theorem inI_aux {op : CmpOp} {g : Bool → Bool} (M : DunC X.prog X.w X.K X.mg X.base C c "__contains__" j p) (hr : Room k X.A) (h : j ≤ k)
    (rule : ∀ {s : Shared} {K : PySem.W.Frag} {a D L f : Addr} {h₀ : Heap} {mf : Str → Option Value} {ox : Obj} {od : Option Obj} {v : Value} {Q : Value → Shared → Prop}, Fr h₀ L s.heap mf → K.In h₀ → PySem.W.InstAt s.heap a ox D od → PySem.W.findIn K (.ref D) "__contains__" = some (some (.ref f)) → PySem.W.isFn K (.ref f) = true →
      wpAny (model X.prog X.w) X.A (call (.ref f) [.ref a, v]) (fun r s' => wpAny (model X.prog X.w) X.A (truthy r) (fun b => Q (.bool (g b))) X.xe s') X.xe s → wpAny (model X.prog X.w) X.A (compareOp op v (.ref a)) Q X.xe s) : OpD X C (compareOp op) (oInI g c p) := by
  obtain ⟨f, fd, ps, hs, hf, F, hb, hl⟩ := M.ex
  refine ⟨oInI.mono F.mono, fun pins s σ H x y u v Q I rx ry q => ?_⟩
  obtain ⟨B, n, env, m, σ', lx, ly, rfl, ok, hx, hy, q⟩ := q
  unfold oInI at q
  split at q
  · rename_i sd d hsd
    obtain ⟨a, dx, vs, rfl, e2, e3⟩ := self_ok ok hy hsd
    cases (show v = Value.ref a from ry)
    obtain ⟨mA, J, _⟩ := ins_get I.hok e2
    obtain ⟨od, J, _⟩ := J.look
    obtain ⟨mf, hF⟩ := I.fr
    refine rule hF I.ok.mod.kin J hs hf (wpAny_mono (run_dun (A' := X.A) (us := [.ref a, u]) (vs := [.ref a, x]) F (hr.mono h) I.env0 hb hl I ok.good (.cons rfl (.cons rx .nil)) (.cons e3 (.cons hx .nil)) q (Qv := fun v H' => ∃ b : Bool, v = .bl b ∧ Q (.bl (g b)) H') fun d m' z => ?_) (fun r s' z => ?_) fun _ _ z => z)
    · cases d with
      | bl b =>
        intro n2 v2 g2 l2 lz
        cases lz
        exact ⟨b, rfl, z n2 _ g2 l2 (.bl _)⟩
      | _ => exact z.elim
    · obtain ⟨v2, H2, I2, r2, b, rfl, z⟩ := z
      cases (show r = Value.bool b from r2)
      exact wpAny_truthy_bool ⟨.bl (g b), H2, I2, rfl, z⟩
  · exact q.elim
theorem op_inI (M : DunC X.prog X.w X.K X.mg X.base C c "__contains__" j p) (hr : Room k X.A) (h : j ≤ k) : OpD X C (compareOp .In) (oInI id c p) := inI_aux M hr h fun a b c d e f => PySem.W.in_K a b c d e f
theorem op_notInI (M : DunC X.prog X.w X.K X.mg X.base C c "__contains__" j p) (hr : Room k X.A) (h : j ≤ k) : OpD X C (compareOp .NotIn) (oInI not c p) := inI_aux M hr h fun a b c d e f => PySem.W.notIn_K a b c d e f
/-- o == x by an own __eq__ -/
structure EqC (K : PySem.W.Frag) (C : Ct) (c : Nat) (cs : List Nat) : Prop where
  ty : ∀ t, t ∈ ["NoneType", "bool", "int", "str", "tuple", "list", "dict"] → PySem.W.notFirst K (C.addr c) (.type t) = true
  ins : ∀ c', c' ∈ cs → PySem.W.notFirst K (C.addr c) (.ref (C.addr c')) = true
def oEqI (C : Ct) (c : Nat) (cs : List Nat) (p : DSp) : Op2 := fun env m x y Q => match selfD c m x, y with
  | some s, .f d => match derI env m (.f d) with
    | some e => ((∃ t, tyN e = some t) ∨ ∃ c' ys, e = .ins c' ys ∧ c' ∈ cs ∧ C.own c' = true) ∧ p [s, d] m (fun r m' => match r with
      | .bl b => Q (.bl b) m'
      | _ => False) noX
    | none => False
  | _, _ => False
theorem oEqI.mono {cs : List Nat} (hp : MonoP p) : Mono2 (oEqI C c cs p) := fun env m x y Q Q' i h => by
  unfold oEqI at h ⊢
  split at h
  · split at h
    · refine ⟨h.1, hp _ _ _ _ _ _ (fun r m' z => ?_) (fun _ _ _ z => z) h.2⟩
      cases r <;> first | exact z.elim | exact i _ _ z
    · exact h.elim
  · exact h.elim
theorem tyN_in {d : Dat} {t : String} (h : tyN d = some t) : t ∈ ["NoneType", "bool", "int", "str", "tuple", "list", "dict"] := by
  cases d <;> cases h <;> simp
theorem op_eqI {cs : List Nat} (T : CtOk C X.K) (E : EqC X.K C c cs) (M : DunC X.prog X.w X.K X.mg X.base C c "__eq__" j p) (hr : Room k X.A) (h : j ≤ k) : OpD X C (compareOp .Eq) (oEqI C c cs p) := by
  obtain ⟨f, fd, ps, hs, hf, F, hb, hl⟩ := M.ex
  refine ⟨oEqI.mono F.mono, fun pins s σ H x y u v Q I rx ry q => ?_⟩
  obtain ⟨B, n, env, m, σ', lx, ly, rfl, ok, hx, hy, q⟩ := q
  unfold oEqI at q
  split at q
  · rename_i sd d hsd
    split at q
    · rename_i e hde
      obtain ⟨a, dx, vs, rfl, e2, e3⟩ := self_ok ok hx hsd
      cases (show u = Value.ref a from rx)
      obtain ⟨mA, J, _⟩ := ins_get I.hok e2
      obtain ⟨od, J, _⟩ := J.look
      obtain ⟨mf, hF⟩ := I.fr
      obtain ⟨kt, ki⟩ := kit_dat T I ok hy hde ry
      have tb : ∃ tb, PySem.W.Looks (model X.prog X.w) s.heap (typeOf v) tb ∧ PySem.W.notFirst X.K (C.addr c) tb = true := by
        rcases q.1 with ⟨t, ht⟩ | ⟨c', ys, ec, hc, ho⟩
        · obtain ⟨P, kx, hP, _⟩ := kt t ht
          exact ⟨_, kx.ty _ _ I.kIn hP, E.ty t (tyN_in ht)⟩
        · obtain ⟨P, kx, hP, _⟩ := ki c' ys ec ho
          exact ⟨_, kx.ty _ _ I.kIn hP, E.ins c' hc⟩
      obtain ⟨tb, hb1, hb2⟩ := tb
      refine PySem.W.cmp_K (op := .Eq) (tb := tb) (hr.units0) hF I.ok.mod.kin J hb1 hb2 hs hf (wpAny_mono (run_dun (A' := X.A) (us := [.ref a, v]) (vs := [.ref a, y]) F (hr.mono h) I.env0 hb hl I ok.good (.cons rfl (.cons ry .nil)) (.cons e3 (.cons hy .nil)) q.2 (Qv := fun v H' => ∃ b : Bool, v = .bl b ∧ Q (.bl b) H') fun d m' z => ?_) (fun r s' z => ?_) fun _ _ z => z)
      · cases d with
        | bl b =>
          intro n2 v2 g2 l2 lz
          cases lz
          exact ⟨b, rfl, z n2 _ g2 l2 (.bl _)⟩
        | _ => exact z.elim
      · obtain ⟨v2, H2, I2, r2, b, rfl, z⟩ := z
        cases (show r = Value.bool b from r2)
        exact ⟨.bl b, H2, I2, rfl, z⟩
    · exact q.elim
  · exact q.elim
/-- str(o) by an own __str__ -/
def oStrI (c : Nat) (p : DSp) : OpN := fun env m xs Q => match xs with
  | [x] => match selfD c m x with
    | some s => p [s] m (fun r m' => match r with
      | .str z => Q (.str z) m'
      | _ => False) noX
    | none => False
  | _ => False
theorem oStrI.mono (hp : MonoP p) : MonoN (oStrI c p) := fun env m xs Q Q' i h => by
  unfold oStrI at h ⊢
  split at h
  · split at h
    · refine hp _ _ _ _ _ _ (fun r m' z => ?_) (fun _ _ _ z => z) h
      cases r <;> first | exact z.elim | exact i _ _ z
    · exact h
  · exact h
theorem call_strI (M : DunC X.prog X.w X.K X.mg X.base C c "__str__" j p) (hr : Room k X.A) (h : j + 2 ≤ k) : CallD X C (.type "str") (oStrI c p) := by
  obtain ⟨f, fd, ps, hs, hf, F, hb, hl⟩ := M.ex
  refine ⟨oStrI.mono F.mono, fun pins s σ H xs us Q I rv q => ?_⟩
  obtain ⟨B, n, env, m, σ', ls, rfl, ok, lxs, q⟩ := q
  unfold oStrI at q
  split at q
  · split at q
    · rename_i x sd hsd
      obtain ⟨v, rfl, lx⟩ := lxs.one
      obtain ⟨a, dx, vs, rfl, e2, e3⟩ := self_ok ok lx hsd
      obtain ⟨u, rfl⟩ : ∃ u, us = [u] := by cases rv with | cons _ r => cases r; exact ⟨_, rfl⟩
      cases rv with
      | cons ru _ =>
        cases (show u = Value.ref a from ru)
        obtain ⟨mA, J, _⟩ := ins_get I.hok e2
        obtain ⟨od, J, _⟩ := J.look
        refine PySem.W.kso_call (by have := rm (hr.mono h); show X.A.units + 1 + 1 < _; omega) I.kIn J hs hf (wpAny_mono (run_dun (A' := X.A.in1.in1) (us := [.ref a]) (vs := [.ref a]) F (hr.mono h).in1.in1 I.env0.in1.in1 hb hl I ok.good (.cons rfl .nil) (.cons e3 .nil) q (Qv := fun v H' => ∃ z : Str, v = .str z ∧ Q (.str z) H') fun d m' z => ?_) (fun r s' z => ?_) fun _ _ z => z)
        · cases d with
          | str i =>
            intro n2 v2 g2 l2 lz
            cases lz
            exact ⟨i, rfl, z n2 _ g2 l2 (.str i)⟩
          | _ => exact z.elim
        · obtain ⟨v2, H2, I2, r2, i, rfl, z⟩ := z
          obtain ⟨t, rfl⟩ := r2
          exact ⟨.str i, H2, I2, ⟨_, rfl⟩, z⟩
    · exact q.elim
  · exact q.elim
/-- o & o, o | o, .. by own methods, both of one class -/
def oBinI (c : Nat) (p : DSp) : Op2 := fun env m x y Q => match selfD c m x, selfD c m y with
  | some s, some s2 => p [s, s2] m (fun r m' => match r with
    | .ins c' ys => Q (.ins c' ys) m'
    | _ => False) noX
  | _, _ => False
theorem oBinI.mono (hp : MonoP p) : Mono2 (oBinI c p) := fun env m x y Q Q' i h => by
  unfold oBinI at h ⊢
  split at h
  · refine hp _ _ _ _ _ _ (fun r m' z => ?_) (fun _ _ _ z => z) h
    cases r <;> first | exact z.elim | exact i _ _ z
  · exact h.elim
theorem op_binI {op : Operator} (M : DunC X.prog X.w X.K X.mg X.base C c (PySem.dunder op.info.2) j p) (hc : PySem.W.selfFirst X.K (C.addr c) = true) (hr : Room k X.A) (h : j ≤ k) : OpD X C (binaryOp op) (oBinI c p) := by
  obtain ⟨f, fd, ps, hs, hf, F, hb, hl⟩ := M.ex
  refine ⟨oBinI.mono F.mono, fun pins s σ H x y u v Q I rx ry q => ?_⟩
  obtain ⟨B, n, env, m, σ', lx, ly, rfl, ok, hx, hy, q⟩ := q
  unfold oBinI at q
  split at q
  · rename_i sd sd2 hsd hsd2
    obtain ⟨a, dx, vs, rfl, e2, e3⟩ := self_ok ok hx hsd
    obtain ⟨b, dx2, vs2, rfl, e4, e5⟩ := self_ok ok hy hsd2
    cases (show u = Value.ref a from rx)
    cases (show v = Value.ref b from ry)
    obtain ⟨mA, J, _⟩ := ins_get I.hok e2
    obtain ⟨od, J, _⟩ := J.look
    obtain ⟨mA2, J2, _⟩ := ins_get I.hok e4
    obtain ⟨od2, J2, _⟩ := J2.look
    obtain ⟨mf, hF⟩ := I.fr
    refine PySem.W.binop_K hF I.ok.mod.kin J J2.type hc hs hf (wpAny_mono (run_dun (A' := X.A) (us := [.ref a, .ref b]) (vs := [.ref a, .ref b]) F (hr.mono h) I.env0 hb hl I ok.good (.cons rfl (.cons rfl .nil)) (.cons e3 (.cons e5 .nil)) q (Qv := fun v H' => ∃ p, v = .ref p ∧ Q v H') fun d m' z => ?_) (fun r s' z => ?_) fun _ _ z => z)
    · cases d with
      | ins c' ys =>
        intro n2 v2 g2 l2 lz
        have lz' : FzN C X.w X.K n2 v2 (.ins c' ys) := lz
        cases lz' with
        | ins g3 l3 r3 => exact ⟨_, rfl, z n2 _ g2 l2 (.ins g3 l3 r3)⟩
      | _ => exact z.elim
    · obtain ⟨v2, H2, I2, r2, p2, rfl, z⟩ := z
      cases (show r = Value.ref p2 from r2)
      exact ⟨.ref p2, H2, I2, rfl, z⟩
  · exact q.elim
end
end DL

set_option maxHeartbeats 3200000
namespace DL
open PySem PySem.Spec PyProof.Rows L2

/-! ### len(set(e)), e a list or a tuple of ints -/
def setObj0 (led : Bool) : Obj := { cls := .type "set", dict := none, data := .set #[] 0 (.fresh 0 0 led) }
section
variable {prog : Program} {w : World} {A : Around} {E : Value → Shared → Prop} {S : Shared}
open AutoSeq1 MeetsSeq MeetsSeq2 MeetsSeq3 SeqRoads2 in
theorem set_of_tuple {t : Addr} {its : Array Value} {is : List Int} {Q : Value → Shared → Prop} (calm : A.handled = none) (ht : S.heap.IsTuple t its) (hi : PyProof.Rows.IntsAre its.toList is) (room : its.size + 1 < scanBound)
    (fin : ∀ (h' : Heap) (tk : Nat), h'.SetOf (intKind prog w) S.heap.objs.size (fun k => (PyProof.Rows.firstMet (fun i => is.getD i 0) its.size).any (· == k)) (PyProof.Rows.firstMet (fun i => is.getD i 0) its.size).length →
      (∀ b o, b < S.heap.objs.size → S.heap.get? b = some o → h'.get? b = some o) → Q (.ref S.heap.objs.size) { S with heap := h', toks := tk }) :
    wpAny (model prog w) A (call (.type "set") [.ref t]) Q E S := by
  obtain ⟨mc, mt, mro⟩ := PySem.F.called_set.mro
  have c1 := PySem.F.called_set.made
  have c2 := PySem.F.called_set.sub
  refine wpAny_call (codeAny_of_tree ?_)
  show wpAny _ _ (callAny (.type "set") _) _ _ _
  refine wpAny_pure ⟨Code.quiet_builtin _ (by decide +kernel), codeAny_builtin PySem.F.entry_type_call ?_⟩
  rw [Around.under_plain (weight_type_call_type "set" [.ref t] []) rfl]
  have c3 := PySem.F.called_set.notType
  have c4 := PySem.F.called_set.canCreate
  have c5 := PySem.F.typeCall_set_1 (.ref t)
  repeat (any_goals (first | assumption | wp_step))
  refine codeAny_mono (code_set_new_1 (.ref t) (E := E) (Q₁ := fun x s₁ => ∃ led : Bool, x = .ref S.heap.objs.size ∧ s₁ = { S with heap := S.heap.push (setObj0 led) }) fun led => ⟨led, rfl, rfl⟩) fun r s₁ hr => ?_
  cases r with
  | error e => exact hr
  | ok z =>
    cases z with
    | ret x =>
      obtain ⟨led, rfl, rfl⟩ := hr
      have at0 : (S.heap.push (setObj0 led)).get? S.heap.objs.size = some (setObj0 led) := Heap.get?_push_size _ rfl
      have ty0 : Shared.TypeIs { S with heap := S.heap.push (setObj0 led) } (.ref S.heap.objs.size) "set" := ⟨_, at0, rfl⟩
      have c6 := PySem.F.called_set.init.lookup
      have c7 := PySem.F.called_set.init.bind (.ref S.heap.objs.size)
      repeat (any_goals (first | assumption | wp_step))
      refine codeAny_mono (codeAny_call_builtin (R := wants (fun r s₂ => r = .none ∧ ∃ h' tk, s₂ = { S with heap := h', toks := tk } ∧
          h'.SetOf (intKind prog w) S.heap.objs.size (fun k => (PyProof.Rows.firstMet (fun i => is.getD i 0) its.size).any (· == k)) (PyProof.Rows.firstMet (fun i => is.getD i 0) its.size).length ∧
          (∀ b o, b < S.heap.objs.size → S.heap.get? b = some o → h'.get? b = some o)) E) PySem.F.called_set.init.plain PySem.F.entry_set_init (check_set_init_1 ty0 ?_)) fun r₂ s₂ hr₂ => ?_
      · obtain ⟨ot, e1, e2, nl, e3⟩ := ht
        obtain ⟨o1, o2, o3, o4⟩ := ot
        simp only at e2 e3
        subst e2; subst e3
        have at1 : (S.heap.push (setObj0 led)).get? t = some { cls := .type "tuple", dict := o2, data := .seq its nl, slots := o4 } := Heap.get?_push_of_some _ e1
        have c8 := PySem.F.sub_tuple_set
        have c9 := PySem.F.sub_tuple_frozenset
        have c10 : (Value.type "tuple" == Value.type "dict") = false := by decide
        have tup1 : (S.heap.push (setObj0 led)).IsTuple t its := ⟨_, at1, rfl, nl, rfl⟩
        unfold Builtin.«set.__init__» noKeywords Builtin.Frozenset.updateFrom
        generalize hPI : pyIter = PI
        wp_walk
        subst hPI
        refine wpAny_pyIter_tuple tup1 ?_
        refine wpAny_bind (wpAny_runValue ?_)
        have lt0 : t < S.heap.objs.size := Heap.lt_size e1
        have calm3 : A.in1.in1.in1.handled = none := by simp [calm]
        have ne1 : t ≠ (S.heap.push (setObj0 led)).objs.size := by
          rw [Heap.size_push]; exact Nat.ne_of_lt (Nat.lt_succ_of_lt lt0)
        have out : S.heap.objs.size ∉ [(S.heap.push (setObj0 led)).objs.size, t] := by
          rw [Heap.size_push]; simp only [List.mem_cons, List.mem_singleton, List.not_mem_nil, or_false, not_or]
          exact ⟨Nat.ne_of_lt (Nat.lt_succ_self _), Nat.ne_of_gt lt0⟩
        have val : ∀ (i : Nat) (v : Value), its[i]? = some v → ∃ k, v = .int ((fun i => is.getD i 0) i) k := fun i v hv =>
          PyProof.Rows.IntsAre.int_at hi i v (by rw [Array.getElem?_toList]; exact hv)
        refine PyProof.Rows.codeAny_set_update_loopS ((Walks.tuple calm3 _ t ne1 its).toS) S.heap.objs.size
          out (fun i => is.getD i 0) val room (its.size - 0) 0 _ (by omega) (Nat.zero_le _)
          ⟨⟨_, Heap.get?_push_size _ rfl, rfl, rfl⟩, (tup1.push _)⟩ ?a0 ?a1
        case a0 =>
          have at2 : ((S.heap.push (setObj0 led)).push { cls := .type "tuple_iterator", data := .fields #[.ref t, .int 0 0] }).get? S.heap.objs.size = some (setObj0 led) := Heap.get?_push_of_some _ at0
          exact PyProof.Rows.SetOf_congr ((PyProof.Rows.setObjOf_fresh (knd := intKind prog w) led).setOf at2 (by unfold scanBound; omega)) (fun _ => rfl) rfl
        case a1 =>
          intro s' hm hS'
          obtain ⟨h', g', d', tk', os'⟩ := s'
          have eg : g' = S.gens := hm.gens
          have ed : d' = S.drawn := hm.drawn
          have eo : os' = S.os := hm.os
          subst eg ed eo
          show wpAny _ _ _ _ _ _
          refine wpAny_pure ?_
          show wpAny _ _ (ret Value.none) _ _ _
          refine wpAny_pure ⟨rfl, h', tk', rfl, hS', fun b o hb e => ?_⟩
          have n1 : b ≠ S.heap.objs.size := Nat.ne_of_lt hb
          have n2 : b ≠ (S.heap.push (setObj0 led)).objs.size := by
            rw [Heap.size_push]; exact Nat.ne_of_lt (Nat.lt_succ_of_lt hb)
          exact hm.heap b o (by simp only [List.mem_cons, List.mem_singleton, List.not_mem_nil, or_false, not_or]; exact ⟨n1, n2⟩) (Heap.get?_push_of_some _ (Heap.get?_push_of_some _ e))
      · cases r₂ with
        | error e => exact hr₂
        | ok z₂ =>
          cases z₂ with
          | ret r =>
            obtain ⟨rfl, h', tk, rfl, hS', hk'⟩ := hr₂
            repeat (any_goals (first | assumption | wp_step))
            exact fin _ _ hS' hk'
          | _ => exact hr₂.elim
    | _ => exact hr.elim
end
/-- how many different ints -/
def dist (ns : List Int) : Nat := (PyProof.Rows.firstMet (fun i => ns.getD i 0) ns.length).length
section
variable {X : Cx} {C : Ct} {B : Nw} {a : Expr} {da : TD} {p p2 q pos : Pos}
def tLenSetA (K : PySem.W.Frag) (ta : TE) : TE := fun σ H Q => ta σ H fun x H1 => ∃ (l : Addr) (ns : List Int), x = .ref l ∧ (SqL K H1 l (ns.map V.int) ∨ SqT K H1 l (ns.map V.int)) ∧ ns.length ≤ 4000 ∧ Q (.int (dist ns : Nat)) H1
theorem pe_lenSetA {ta : TE} (hg : Gl X "len") (hm : X.mg "len" = none) (hg2 : Gl X "set") (hm2 : X.mg "set" = none) (ha : PE X a ta) (hc : X.calm = true := by rfl)
    (na : starEach [a] X.env = (false, eval a X.env) :: starEach [] X.env := by rfl) : PE X (.Call (.Name "len" p) [.Call (.Name "set" p2) [a] [] q] [] pos) (tLenSetA X.K ta) := by
  refine ⟨fun pins s σ H Q I h => ?_⟩
  refine Call_ (ld_blt I hg hm boot_len ?_)
  refine PyProof.Rows.callWith_builtin1 (PyProof.Rows.args_cons ?_ rfl) rfl rfl
  refine Call_ (ld_blt I hg2 hm2 boot_set ?_)
  refine PyProof.Rows.callWith_type1 (PyProof.Rows.args_cons (thn (ha.run pins s σ H _ I h) fun v s1 ⟨x, H1, I1, r1, z⟩ => PyProof.Rows.args_nil ?_) na) na rfl
  obtain ⟨l, ns, rfl, hq, hl, z⟩ := z
  cases r1
  have last : ∀ (its : List Value), Vals (ns.map V.int) its → ∀ (h' : Heap) (tk : Nat), h'.SetOf (intKind X.prog X.w) s1.heap.objs.size (fun k => (PyProof.Rows.firstMet (fun i => ns.getD i 0) its.toArray.size).any (· == k)) (PyProof.Rows.firstMet (fun i => ns.getD i 0) its.toArray.size).length →
      (∀ b o, b < s1.heap.objs.size → s1.heap.get? b = some o → h'.get? b = some o) →
      wpAny (model X.prog X.w) X.A (spliced (backTo pos (starEach [] X.env))) (fun vs s₂ => wpAny (model X.prog X.w) X.A (call (.builtin "len") (Value.ref s1.heap.objs.size :: vs)) (EP X pins σ Q) X.xe s₂) X.xe { s1 with heap := h', toks := tk } := fun its r h' tk hS hk => by
    refine PyProof.Rows.args_nil ?_
    have sz : its.toArray.size = ns.length := by rw [List.size_toArray, ← r.length, List.length_map]
    rw [sz] at hS
    obtain ⟨o, es, ep, t, ho, hex, hd, _, _, _, hf, hn⟩ := hS
    have I2 : Inv X pins σ H1 { s1 with heap := h', toks := tk } := I1.kept fun b o e => hk b o (Heap.lt_size e) e
    have le : (PyProof.Rows.firstMet (fun i => ns.getD i 0) ns.length).length ≤ ns.length := PyProof.Rows.firstMet_length_le _ _
    exact call_len_set ho hex hd hf (by rw [hn]; omega) ⟨.int (dist ns : Nat), H1, I2.tok _, ⟨_, by rw [hn]; rfl⟩, z⟩
  rcases hq with hq | hq
  · obtain ⟨its, r, pl, hz⟩ := I1.list hq
    have sz : its.toArray.size = ns.length := by rw [List.size_toArray, ← r.length, List.length_map]
    exact call_set_list (I1.ok.hd hc) pl.isList (by simpa using RZ.intsAre_vals r) (by rw [sz]; unfold scanBound; omega) fun h' tk hS hk => last its r h' tk hS hk
  · obtain ⟨its, r, pl, hz⟩ := I1.tuple hq
    have sz : its.toArray.size = ns.length := by rw [List.size_toArray, ← r.length, List.length_map]
    exact set_of_tuple (I1.ok.hd hc) pl (by simpa using RZ.intsAre_vals r) (by rw [sz]; unfold scanBound; omega) fun h' tk hS hk => last its r h' tk hS hk
/-- len(set(e)) -/
def dLenSet (d : TD) : TD := fun env m Q => d env m fun x m1 => match seqOf env m1 x with
  | some xs => match intsD xs with
    | some ns => ns.length ≤ 4000 ∧ Q (.f (.int (dist ns : Nat))) m1
    | none => False
  | none => False
theorem de_lenSet (hm : X.mg "len" = none) (hm2 : X.mg "set" = none) (ha : DE X C B a da) (hc : X.calm = true := by rfl) (hg : Gl X "len" := by rfl) (hg2 : Gl X "set" := by rfl)
    (na : starEach [a] X.env = (false, eval a X.env) :: starEach [] X.env := by rfl) : DE X C B (.Call (.Name "len" p) [.Call (.Name "set" p2) [a] [] q] [] pos) (dLenSet da) := by
  refine ⟨fun env m Q Q' i h => ha.mono _ _ _ _ (fun x m1 h1 => ?_) h, imp (pe_lenSetA hg hm hg2 hm2 ha.run hc na) ?_⟩
  · split at h1
    · split at h1
      · exact ⟨h1.1, i _ _ h1.2⟩
      · exact h1
    · exact h1
  rintro σ H Q ⟨n, env, m, rfl, ok, h⟩
  refine ⟨n, env, m, rfl, ok, ha.mono _ _ _ _ (fun x m1 h1 n1 v g1 l1 lx => ?_) h⟩
  split at h1
  · rename_i xs hx
    split at h1
    · rename_i ns hn
      obtain ⟨a, vs, rfl, hs, hz⟩ := seq_ok (ok.go g1 l1) lx hx
      have e := ints_eq hn hz
      subst e
      exact ⟨a, ns, rfl, hs, h1.1, h1.2 n1 _ g1 l1 (.int _)⟩
    · exact h1.elim
  · exact h1.elim
end
end DL

set_option maxHeartbeats 2000000
namespace DL
open PySem PySem.Spec PyProof.Rows L2

/-! ### defs at any place: a global's, a method, a property's getter, a classmethod -/
/-- where a def stands: by its name, as a method, behind a property, behind a classmethod -/
inductive Wh where
  | g (x : Str)
  | m (y x : Str)
  | p (y x : Str)
  | c (y x : Str)
def recF (K : PySem.W.Frag) (T : String) (p : Addr) : Addr := match PySem.W.recIn K p T with
  | some (.ref g :: _) => g
  | _ => 0
def Wh.ad (K : PySem.W.Frag) : Wh → Addr
  | .g x => He.ga K x
  | .m y x => He.fAd K (y, some x)
  | .p y x => recF K "property" (He.fAd K (y, some x))
  | .c y x => recF K "classmethod" (He.fAd K (y, some x))
structure DefX where
  wh : Wh
  name : Str
  qual : Str
  params : Arguments
  body : List Stmt
  scope : Scope
abbrev FnY : Type := Option (Str × Str × Arguments × FuncBody × Scope × Addr × List (Str × Addr) × Addr)
def fnY (K : PySem.W.Frag) (a : Addr) : FnY := match K.lookup a with
  | some ⟨_, _, .func fd, _⟩ => some (fd.name, fd.qualname, fd.params, fd.body, fd.scope, fd.globals, fd.closure, fd.builtins)
  | _ => none
def fdY (K : PySem.W.Frag) (a : Addr) : FuncData := match K.lookup a with
  | some ⟨_, _, .func fd, _⟩ => fd
  | _ => default
def DefX.val (d : DefX) : FnY := some (d.name, d.qual, d.params, .stmts d.body, d.scope, mainGlobals, [], builtinsNs)
def isNone : Value → Bool
  | .none => true
  | _ => false
def DefX.ok (K : PySem.W.Frag) (d : DefX) : Bool := PySem.W.keepIn K (.ref (d.wh.ad K)) && (match K.lookup (d.wh.ad K) with
  | some ⟨_, _, .func fd, _⟩ => PySem.W.codeIn K fd.code d.qual && (He.dflB K fd.defaults [] && He.kwdB K fd.kwdefaults [])
  | _ => false)
theorem DefX.funD {K : PySem.W.Frag} {d : DefX} (e : fnY K (d.wh.ad K) = d.val) (c : d.ok K = true) : FunD K d.name d.qual d.params d.body d.scope [] [] (d.wh.ad K) (fdY K (d.wh.ad K)) := by
  obtain ⟨kp, c2⟩ := and2 c
  unfold fnY at e
  unfold fdY
  cases q : K.lookup (d.wh.ad K) with
  | none => rw [q] at c2; cases c2
  | some o =>
    obtain ⟨oc, od, dt, osl⟩ := o
    rw [q] at c2 e
    cases dt with
    | func fd =>
      obtain ⟨n1, n2, n3, n4, n5, n6, n7, n8, n9, n10, n11, n12, n13, n14, n15⟩ := fd
      have e2 : (some (n1, n2, n3, n4, n5, n6, n7, n15) : FnY) = some (d.name, d.qual, d.params, .stmts d.body, d.scope, mainGlobals, [], builtinsNs) := e
      simp only [Option.some.injEq, Prod.mk.injEq] at e2
      obtain ⟨h1, h2, h3, h4, h5, h6, h7, h8⟩ := e2
      subst h1 h2 h3 h4 h5 h6 h7 h8
      have c3 : (PySem.W.codeIn K n13 d.qual && (He.dflB K n8 [] && He.kwdB K n9 [])) = true := c2
      obtain ⟨k1, k2⟩ := and2 c3
      obtain ⟨k3, k4⟩ := and2 k2
      exact ⟨⟨oc, od, n8, n9, n10, n11, n12, n13, n14, osl, rfl, q, k1, He.dflB_ok k3, He.kwdB_ok k4⟩, kp⟩
    | _ => cases c2
abbrev AlY : Type := Bool × List FnY
def obsY (ex : List Fk) (fn : List DefX) (K : PySem.W.Frag) : AlY := ((ex.all fun g => g K) && fn.all fun d => d.ok K, fn.map fun d => fnY K (d.wh.ad K))
def valY (fn : List DefX) : AlY := (true, fn.map DefX.val)
def SaysY (ex : List Fk) (fn : List DefX) (K : PySem.W.Frag) : Prop := obsY ex fn K = valY fn
def obsYG (n : Nat) (ex : List Fk) (fn : List DefX) (g : Addr → Option Obj) : AlY := obsY ex fn (He.frG g (asX g n))
def hookY (n : Nat) (ex : List Fk) (fn : List DefX) : PySem.W.Hook where
  α := AlY
  obs := fun s => obsYG n ex fn s.heap.get?
  val := fun _ => valY fn
  says := fun _ h => ∃ K : PySem.W.Frag, K.In h ∧ SaysY ex fn K
  of := fun _ _ e => ⟨_, He.frG_in, e⟩
  keeps := fun _ _ _ ⟨K, inK, c⟩ k => ⟨K, PySem.W.Frag.In.keeps inK k, c⟩
theorem obsYG_eq {n : Nat} {ex : List Fk} {fn : List DefX} {g : Addr → Option Obj} {s : Shared} (h : ∀ a, g a = s.heap.get? a) : obsYG n ex fn g = (hookY n ex fn).obs s := by
  have e : g = s.heap.get? := funext h
  rw [e] <;> rfl
section
variable {ex : List Fk} {fn : List DefX} {K : PySem.W.Frag}
theorem SaysY.fact (c : SaysY ex fn K) (i : Nat) {g : Fk} (h : ex[i]? = some g := by rfl) : g K = true :=
  List.all_eq_true.mp (and2 (show ((ex.all fun g => g K) && fn.all fun d => d.ok K) = true from congrArg (fun z : AlY => z.1) c)).1 g (List.mem_of_getElem? h)
theorem SaysY.def_ (c : SaysY ex fn K) (i : Nat) {d : DefX} (h : fn[i]? = some d := by rfl) : FunD K d.name d.qual d.params d.body d.scope [] [] (d.wh.ad K) (fdY K (d.wh.ad K)) := by
  have c1 := (and2 (show ((ex.all fun g => g K) && fn.all fun d => d.ok K) = true from congrArg (fun z : AlY => z.1) c)).2
  have e1 : fn.map (fun d => fnY K (d.wh.ad K)) = fn.map DefX.val := congrArg (fun z : AlY => z.2) c
  have e2 : (fn.map fun d => fnY K (d.wh.ad K))[i]? = (fn.map DefX.val)[i]? := by rw [e1]
  rw [List.getElem?_map, List.getElem?_map, h] at e2
  exact DefX.funD (Option.some.inj e2) (List.all_eq_true.mp c1 d (List.mem_of_getElem? h))
end
/-! looks at methods, properties, operators -/
def Tab.meC (t : Tab) (c : Nat) (x : Str) (K : PySem.W.Frag) : Bool := clsB K (t.at K c) && (decide (PySem.W.findIn K (.ref (t.at K c)) x = some (some (.ref (He.fAd K (t.names.getD c Str.empty, some x))))) &&
  (PySem.W.isFn K (.ref (He.fAd K (t.names.getD c Str.empty, some x))) && PySem.W.keepIn K (.ref (He.fAd K (t.names.getD c Str.empty, some x)))))
section
variable {P : Program} {w : World} {K : PySem.W.Frag} {mg : Str → Option Value} {base : Heap} {t : Tab} {c k : Nat} {y x : Str} {ps : List Str} {p : DSp}
theorem Tab.me_ok (h : t.meC c x K = true) (hy : t.names.getD c Str.empty = y) (no : x ∉ t.flds.getD c []) (F : DF P w K mg base (t.ct K) k (He.fAd K (y, some x)) (fdA K (y, some x)) ps p) (hb : Binds K (fdA K (y, some x)) ps [])
    (hl : ∀ ds m Q E, p ds m Q E → ds.length = ps.length) : MeC P w K mg base (t.ct K) c y x k ps p := by
  subst hy
  obtain ⟨h1, h⟩ := and2 h
  obtain ⟨h2, h⟩ := and2 h
  obtain ⟨h3, h4⟩ := and2 h
  exact ⟨clsB_ok h1, ⟨of_decide_eq_true h2, h3, h4⟩, no, F, hb, hl⟩
def Tab.duC (t : Tab) (c : Nat) (x : Str) (K : PySem.W.Frag) : Bool := decide (PySem.W.findIn K (.ref (t.at K c)) x = some (some (.ref (He.fAd K (t.names.getD c Str.empty, some x))))) && PySem.W.isFn K (.ref (He.fAd K (t.names.getD c Str.empty, some x)))
theorem Tab.du_ok (h : t.duC c x K = true) (hy : t.names.getD c Str.empty = y) (F : DF P w K mg base (t.ct K) k (He.fAd K (y, some x)) (fdA K (y, some x)) ps p) (hb : Binds K (fdA K (y, some x)) ps [])
    (hl : ∀ ds m Q E, p ds m Q E → ds.length = ps.length) : DunC P w K mg base (t.ct K) c x k p := by
  subst hy
  obtain ⟨h1, h2⟩ := and2 h
  exact ⟨_, _, _, of_decide_eq_true h1, h2, F, hb, hl⟩
def Tab.prC (t : Tab) (c : Nat) (x : Str) (K : PySem.W.Frag) : Bool := clsB K (t.at K c) && (decide (PySem.W.findIn K (.ref (t.at K c)) x = some (some (.ref (He.fAd K (t.names.getD c Str.empty, some x))))) &&
  (decide (PySem.W.specialIn K (.ref (He.fAd K (t.names.getD c Str.empty, some x))) "__get__" = some (some (.builtin "property.__get__"))) && (decide (PySem.W.takesIn K (.ref (He.fAd K (t.names.getD c Str.empty, some x))) = some true) &&
  (match PySem.W.recIn K (He.fAd K (t.names.getD c Str.empty, some x)) "property" with
  | some (.ref _ :: _) => true
  | _ => false))))
theorem Tab.pr_ok (h : t.prC c x K = true) (hy : t.names.getD c Str.empty = y) (F : DF P w K mg base (t.ct K) k ((Wh.p y x).ad K) (fdY K ((Wh.p y x).ad K)) ps p) (hb : Binds K (fdY K ((Wh.p y x).ad K)) ps []) (h1 : ps.length = 1)
    (hl : ∀ ds m Q E, p ds m Q E → ds.length = 1) : PrC P w K mg base (t.ct K) c x k p := by
  subst hy
  obtain ⟨q1, h⟩ := and2 h
  obtain ⟨q2, h⟩ := and2 h
  obtain ⟨q3, h⟩ := and2 h
  obtain ⟨q4, q5⟩ := and2 h
  refine ⟨clsB_ok q1, ⟨_, _, _, _, ⟨of_decide_eq_true q2, of_decide_eq_true q3, of_decide_eq_true q4, ?_⟩, F, hb, h1⟩, hl⟩
  show ∃ rest, PySem.W.recIn K _ "property" = some (.ref (recF K "property" _) :: rest)
  unfold recF
  cases e : PySem.W.recIn K (He.fAd K (t.names.getD c Str.empty, some x)) "property" with
  | none => rw [e] at q5; cases q5
  | some l =>
    rw [e] at q5
    cases l with
    | nil => cases q5
    | cons a r =>
      cases a with
      | ref g => exact ⟨r, rfl⟩
      | _ => cases q5
end
def Tab.eqC (t : Tab) (c : Nat) (cs : List Nat) (K : PySem.W.Frag) : Bool := (["NoneType", "bool", "int", "str", "tuple", "list", "dict"].all fun T => PySem.W.notFirst K (t.at K c) (.type T)) && cs.all fun d => PySem.W.notFirst K (t.at K c) (.ref (t.at K d))
theorem Tab.eq_ok {t : Tab} {c : Nat} {cs : List Nat} {K : PySem.W.Frag} (h : t.eqC c cs K = true) : EqC K (t.ct K) c cs := by
  obtain ⟨h1, h2⟩ := and2 h
  exact ⟨fun T hT => List.all_eq_true.mp h1 T hT, fun d hd => List.all_eq_true.mp h2 d hd⟩
theorem fdY_m {K : PySem.W.Frag} {y x : Str} : fdY K ((Wh.m y x).ad K) = fdA K (y, some x) := rfl
theorem fdY_g {K : PySem.W.Frag} {x : Str} : fdY K ((Wh.g x).ad K) = fdA K (x, none) := rfl
end DL

set_option maxHeartbeats 2000000
namespace DL
open PySem PySem.Spec PyProof.Rows L2

/-! ### list(range(..)), tuple(range(..)) -/
/-- an expression that makes a range -/
abbrev TRd := Env' → Mem → (Int → Int → Mem → Prop) → Prop
def lR (C : Ct) (B : Nw) (w : World) (K : PySem.W.Frag) (d : TRd) : L2.St → Hp → (Int → Int → Hp → Prop) → Prop := fun σ H Q => ∃ n env m, n.H = H ∧ Ok C w K B n env m σ ∧ d env m fun a b m' => ∀ n', Good C w K n' m' → n.le n' → Q a b n'.H
structure DR (X : Cx) (C : Ct) (B : Nw) (e : Expr) (d : TRd) : Prop where
  mono : ∀ env m (Q Q' : Int → Int → Mem → Prop), (∀ a b m', Q a b m' → Q' a b m') → d env m Q → d env m Q'
  run : PRg X e (lR C B X.w X.K d)
def rRg1 (d : TD) : TRd := fun env m Q => d env m fun x m1 => match x with
  | .f (.int j) => Q 0 j m1
  | _ => False
def rRg2 (d de : TD) : TRd := fun env m Q => d env m fun x m1 => de env m1 fun y m2 => match x, y with
  | .f (.int i), .f (.int j) => Q i j m2
  | _, _ => False
section
variable {X : Cx} {C : Ct} {B : Nw} {a b e : Expr} {d de : TD} {r : TRd} {p pos : Pos}
theorem dr_1 (hm : X.mg "range" = none) (ha : DE X C B a d) (hg : Gl X "range" := by rfl) (na : starEach [a] X.env = (false, eval a X.env) :: starEach [] X.env := by rfl) : DR X C B (.Call (.Name "range" p) [a] [] pos) (rRg1 d) := by
  refine ⟨fun env m Q Q' i h => ha.mono _ _ _ _ (fun x m1 h1 => ?_) h, fun pins s σ H Q I q => prg_1 hg hm ha.run na pins s σ H Q I ?_⟩
  · split at h1
    · exact i _ _ _ h1
    · exact h1
  · obtain ⟨n, env, m, rfl, ok, q⟩ := q
    refine ⟨n, env, m, rfl, ok, ha.mono _ _ _ _ (fun x m1 h1 n1 v g1 l1 lx => ?_) q⟩
    split at h1
    · rename_i j
      cases (show FzN C X.w X.K n1 v (.int j) from lx)
      exact ⟨_, rfl, h1 n1 g1 l1⟩
    · exact h1.elim
theorem dr_2 (hm : X.mg "range" = none) (ha : DE X C B a d) (hb : DE X C B b de) (hg : Gl X "range" := by rfl) (na : starEach [a, b] X.env = (false, eval a X.env) :: starEach [b] X.env := by rfl) (nb : starEach [b] X.env = (false, eval b X.env) :: starEach [] X.env := by rfl)
    (hp : (backTo pos (starEach [b] X.env)).any (·.1) = false := by rfl) : DR X C B (.Call (.Name "range" p) [a, b] [] pos) (rRg2 d de) := by
  refine ⟨fun env m Q Q' i h => ha.mono _ _ _ _ (fun x m1 h1 => hb.mono _ _ _ _ (fun y m2 h2 => ?_) h1) h, fun pins s σ H Q I q => prg_2 hg hm ha.run hb.run na nb hp pins s σ H Q I ?_⟩
  · split at h2
    · exact i _ _ _ h2
    · exact h2
  · obtain ⟨n, env, m, rfl, ok, q⟩ := q
    refine ⟨n, env, m, rfl, ok, ha.mono _ _ _ _ (fun x m1 h1 n1 v g1 l1 lx => ?_) q⟩
    refine ⟨n1, env, m1, rfl, ok.go g1 l1, hb.mono _ _ _ _ (fun y m2 h2 n2 u g2 l2 ly => ?_) h1⟩
    split at h2
    · rename_i i j
      cases (show FzN C X.w X.K n1 v (.int i) from lx)
      cases (show FzN C X.w X.K n2 u (.int j) from ly)
      exact ⟨_, _, rfl, rfl, h2 n2 g2 (l1.trans l2)⟩
    · exact h2.elim
theorem fz_rg {C : Ct} {w : World} {K : PySem.W.Frag} {al : List Addr} {G : Hp} (i j : Int) : FzAll C w K al G (rgV i j) (rangeD i (j - i).toNat) := by
  unfold rgV rangeD
  generalize List.range (j - i).toNat = l
  induction l with
  | nil => exact .nil
  | cons k l ih => exact .cons (.int _) ih
/-- tuple(range(..)) -/
def dTupRg (r : TRd) : TD := fun env m Q => r env m fun i j m1 => RgOk i j ∧ Q (.f (.tup (rangeD i (j - i).toNat))) m1
theorem de_tupRg (hm : X.mg "tuple" = none) (h : DR X C B e r) (hc : X.calm = true := by rfl) (hg : Gl X "tuple" := by rfl) (na : starEach [e] X.env = (false, eval e X.env) :: starEach [] X.env := by rfl) : DE X C B (.Call (.Name "tuple" p) [e] [] pos) (dTupRg r) := by
  refine ⟨fun env m Q Q' i q => h.mono _ _ _ _ (fun a b m1 h1 => ⟨h1.1, i _ _ h1.2⟩) q, imp (pe_tupRg hc hg hm h.run na) ?_⟩
  rintro σ H Q ⟨n, env, m, rfl, ok, q⟩
  refine ⟨n, env, m, rfl, ok, h.mono _ _ _ _ (fun i j m1 h1 n1 g1 l1 => ⟨h1.1, fun q hq => ?_⟩) q⟩
  obtain ⟨g3, l3⟩ := g1.freeze (o := .tup (rgV i j)) hq
  exact h1.2 _ _ g3 (l1.trans l3) (.tup (SqT.of upd_same) (FzAllN.le (fz_rg i j) l3))
/-- list(range(..)): a new list -/
def nLstRg (r : TRd) : TN := fun env m Q => r env m fun i j m1 => RgOk i j ∧ Q (rangeD i (j - i).toNat) m1
theorem dn_lstRg (hm : X.mg "list" = none) (h : DR X C B e r) (hc : X.calm = true := by rfl) (hg : Gl X "list" := by rfl) (na : starEach [e] X.env = (false, eval e X.env) :: starEach [] X.env := by rfl) : DN X C B (.Call (.Name "list" p) [e] [] pos) (nLstRg r) := by
  refine ⟨fun env m Q Q' i q => h.mono _ _ _ _ (fun a b m1 h1 => ⟨h1.1, i _ _ h1.2⟩) q, imp (pe_listRg hc hg hm h.run na) ?_⟩
  rintro σ H Q ⟨n, env, m, rfl, ok, q⟩
  exact ⟨n, env, m, rfl, ok, h.mono _ _ _ _ (fun i j m1 h1 n1 g1 l1 => ⟨h1.1, fun p hp => h1.2 n1 p _ g1 l1 hp (fz_rg i j)⟩) q⟩
end
end DL

set_option maxHeartbeats 1000000
namespace DL
open PySem PySem.Spec PyProof.Rows L2

/-! ### sum(xs), [..] * n, name = xs.pop(i), f-strings -/
section
variable {X : Cx} {C : Ct}
theorem call_sumD (hc : X.calm = true) : CallD X C (.builtin "sum") (oIs List.sum fun _ => True) := by
  refine call_isI (fun pins s σ H xs us Q I r ⟨a, ns, e, hs, hl, q⟩ => cr_sum hc pins s σ H xs us Q I r ⟨a, ns, e, hs, q⟩) fun pins s σ H xs us Q I r ⟨a, ns, e, hs, hl, q⟩ => ?_
  subst e
  obtain ⟨its, rv, p, _⟩ := I.tuple hs
  rw [Vals.ref1 r]
  have hi := rv.ints
  obtain ⟨ys, e⟩ := hi.allInts.items
  have hn : numsOf (intItems ys).toList = ns := by rw [← e]; exact hi.numsOf
  rw [nums_intItems] at hn
  rw [e] at p
  refine PySem.W.ktm_sumG (I.ok.hd hc) p fun h' tk t' hk => ?_
  rw [preSum_eq, List.take_of_length_le (by simp), hn]
  exact ⟨.int _, H, I.kept hk, ⟨_, rfl⟩, q⟩
def rRepD : R2 := fun x y H Q => ∃ l k xs, x = .ref l ∧ y = .int k ∧ Rd H l (.lst xs) ∧ -(2 ^ 63) ≤ k ∧ k < 2 ^ 63 ∧ xs.length * k.toNat ≤ sizeLine ∧
  ∀ p, H p = none → Q (.ref p) (upd H p (.lst (List.replicate k.toNat xs).flatten))
theorem op_repD0 : OpR X (binaryOp .Mult) rRepD := by
  intro pins s σ H x y v u Q I rx ry h
  obtain ⟨l, k, xs, rfl, rfl, hH, h1, h2, hz, q⟩ := h
  cases rx
  obtain ⟨t, rfl⟩ := ry
  obtain ⟨z, its, n, r, hl, e⟩ := Rd.lstM I hH
  have hlen : its.toArray.size * k.toNat ≤ sizeLine := by rw [List.size_toArray, ← hl]; exact hz
  have hcap : ¬ its.toArray.size * k.toNat > (2 ^ 63 - 1) / 8 := by
    have : (sizeLine : Nat) ≤ (2 ^ 63 - 1) / 8 := by decide
    omega
  have hfit : ¬ (!Builtin.List.listFitsIndex k) = true := by
    rw [fitsIndex_both h1 h2]
    exact Bool.false_ne_true
  have hlong : ¬ Builtin.List.listTooLong (its.toArray.size * k.toNat) = true := by
    rw [notLongL hlen]
    exact Bool.false_ne_true
  have hnew : List.foldl (fun x1 x2 => x1 ++ x2) #[] (List.replicate (if its.toArray.isEmpty = true then 0 else k.toNat) its.toArray) = (List.replicate k.toNat its).flatten.toArray := by
    have f0 : ∀ m : Nat, List.foldl (fun x1 x2 => x1 ++ x2) #[] (List.replicate m its.toArray) = (List.replicate m its).flatten.toArray := fun m => by
      have := foldl_rep its m []
      rw [List.nil_append] at this
      exact this
    rw [f0]
    cases its with
    | nil => simp
    | cons a r' => rw [if_neg (by simp)]
  refine wpAny_binaryOp_repeat_ref (T := "list") (U := "int") (by decide) ⟨_, e, rfl⟩ (fun s' => typeIs_int s' k t) noFill_list_mul F.fills_int_mul F.slot_int_rmul repeat_list F.slot_int_index.lookup
    (call_meets F.slot_int_rmul (typeIs_int s k t) F.entry_int_rmul (F.args_int_rmul_2 _ _) (int___rmul___int_list k t l its.toArray n)
      ⟨e, rfl, ⟨_, e, rfl⟩, call_meets F.slot_list_mul ⟨_, e, rfl⟩ F.entry_list_mul (F.args_list_mul_2 _ _) (AutoListH.list___mul___list_int_3 l its.toArray n k t hfit hcap hlong) ⟨e, ?_⟩⟩)
  rw [hnew]
  exact ⟨.ref _, _, I.lnew (t' := s.toks) (r.rep k.toNat) (by rw [PyProof.Rows.lm_len_rep_flat, Nat.mul_comm]; exact hz), rfl, q _ I.fresh⟩
def oRep : Op2 := fun env m x y Q => match lstOf env m x, y with
  | some xs, .f (.int k) => -(2 ^ 63) ≤ k ∧ k < 2 ^ 63 ∧ xs.length * k.toNat ≤ sizeLine ∧ Q (.lst (List.replicate k.toNat xs).flatten) m
  | _, _ => False
theorem oRep.mono : Mono2 oRep := fun env m x y Q Q' i => by
  unfold oRep
  split
  · exact fun ⟨a, b, c, h⟩ => ⟨a, b, c, i _ _ h⟩
  · exact id
theorem FzAllN.rep {w : World} {K : PySem.W.Frag} {n : Nw} {vs : List V} {ds : List Dat} (h : FzAllN C w K n vs ds) : ∀ k, FzAllN C w K n (List.replicate k vs).flatten (List.replicate k ds).flatten
  | 0 => .nil
  | k + 1 => by
    rw [List.replicate_succ, List.replicate_succ, List.flatten_cons, List.flatten_cons]
    exact FzAll.append h (FzAllN.rep h k)
theorem op_repD : OpD X C (binaryOp .Mult) oRep := by
  refine ⟨oRep.mono, fun pins s σ H x y v u Q I rx ry q => ?_⟩
  obtain ⟨B, n, env, m, σ', a, b, rfl, ok, la, lb, q⟩ := q
  unfold oRep at q
  split at q
  · rename_i xs k hx
    have lb : FzN C X.w X.K n y (.int k) := lb
    cases lb
    obtain ⟨p, vs, rfl, s1, z1⟩ := lst_ok ok la hx
    obtain ⟨q1, q2, q3, q⟩ := q
    refine op_repD0 pins s σ n.H _ _ v u Q I rx ry ⟨p, k, vs, rfl, rfl, s1, q1, q2, by rw [z1.length]; exact q3, fun p' hp => ?_⟩
    obtain ⟨g2, l2⟩ := ok.good.freeze (o := .lst (List.replicate k.toNat vs).flatten) hp
    exact q _ _ g2 l2 (.lst (Rd.of upd_same) (FzAllN.le (z1.rep k.toNat) l2))
  · exact q.elim
end
section
variable {X : Cx} {C : Ct} {B : Nw} {e o i : Expr} {d de di : TD} {pos apos cpos : Pos}
/-- name = xs.pop(i), xs a list that changes -/
def sPopN (j : Nat) (d di : TD) : TSd := fun D env m => d env m fun x m1 => match moOf env m1 x with
  | some (.lst _) => di env m1 fun i m2 => match moOf env m2 x, i with
    | some (.lst xs), .f (.int k) => match xs[k.toNat]? with
      | some y => 0 ≤ k ∧ k < 2 ^ 63 ∧ D.nx ((setE x (.lst (xs.eraseIdx k.toNat)) env).set j (some (.f y))) (setM x (.lst (xs.eraseIdx k.toNat)) m2)
      | none => False
    | _, _ => False
  | _ => False
theorem sPopN.mono {j : Nat} (hd : MonoD d) (hi : MonoD di) : MonoS (sPopN j d di) := fun env m D D' l h => hd _ _ _ _ (fun x m1 h1 => by
  try dsimp only at h1 ⊢
  split at h1
  · refine hi _ _ _ _ (fun i m2 h2 => ?_) h1
    try dsimp only at h2 ⊢
    split at h2
    · split at h2
      · exact ⟨h2.1, h2.2.1, l.nx _ _ h2.2.2⟩
      · exact h2
    · exact h2
  · exact h1) h
theorem ds_popN {j : Nat} {x : Str} {pos' : Pos} (hN : X.N.Nodup) (hj : X.N[j]? = some x) (hx : Loc X.env.scope x) (ho : DE X C B o d) (hi : DE X C B i di)
    (hf : X.fn x = true ∨ X.env.scope.names.lookup x = some .local := by first | exact .inl rfl | exact .inr rfl | assumption)
    (hbase : attributeBase o "pop" X.env (eval o X.env) = eval o X.env := by rfl)
    (hfew : ((backTo cpos (starEach [i] X.env)).all (fun x => !x.1) && (backToKw cpos (keywordEach [] X.env)).all (fun x => x.1.isSome)
      && decide (([i]).length + ([] : List Keyword).length + (if ([] : List Keyword).isEmpty then 0 else 1) < 30)) = true := by rfl)
    (hline : (apos.endLine == cpos.line) = true := by rfl) (hs : starEach [i] X.env = (false, eval i X.env) :: starEach [] X.env := by rfl) (hplain : (backTo cpos (starEach [] X.env)).any (·.1) = false := by rfl)
    (hsw : swapsWith (.Call (.Attribute o "pop" apos) [i] [] cpos) (some (.Name x pos')) pos.line X.env = pure false := by rfl) : DS X C B (.Assign [.Name x pos'] (.Call (.Attribute o "pop" apos) [i] [] cpos) pos) (sPopN j d di) := by
  refine ⟨sPopN.mono ho.mono hi.mono, impS (ps_set hN hj hx (pe_bm PySem.F.plainAttrs_list PySem.F.slot_list_pop PySem.F.type_list_pop mt_popAt ho.run (pa_cons hi.run pa_nil hs) hbase hfew hline hs hplain) hsw hf) ?_⟩
  rintro D σ H ⟨n, env, m, rfl, ok, q⟩
  refine ⟨n, env, m, rfl, ok, ho.mono _ _ _ _ (fun x m1 h1 n1 v g1 l1 lx => ?_) q⟩
  have ok1 := ok.go g1 l1
  split at h1
  · rename_i xs0 hx0
    obtain ⟨a0, rfl, ⟨vs0, e0, _⟩, _⟩ := mut_ok ok1 lx hx0
    refine ⟨tyL e0, n1, env, m1, rfl, ok1, hi.mono _ _ _ _ (fun y m2 h2 n2 u g2 l2 ly => ?_) h1⟩
    have ok2 := ok1.go g2 l2
    split at h2
    · rename_i xs k hx
      obtain ⟨a, ea, ⟨vs, e1, z1⟩, hset⟩ := mut_ok ok2 (lx.le l2) hx
      cases ea
      have ly : FzN C X.w X.K n2 u (.int k) := ly
      cases ly
      split at h2
      · rename_i y hy
        obtain ⟨q1, q2, h2⟩ := h2
        obtain ⟨v, hv, zv⟩ := z1.get hy
        have hk : k.toNat < vs.length := by
          rw [z1.length]
          exact (List.getElem?_eq_some_iff.mp hy).1
        refine ⟨a0, vs, k, k.toNat, v, rfl, rfl, e1, by omega, q2, seqIndex_of q1 (by omega), hv, ?_⟩
        have ok3 := hset (.lst (vs.eraseIdx k.toNat)) (.lst (xs.eraseIdx k.toNat)) ⟨vs.eraseIdx k.toNat, upd_same, FzAll.keep (fun _ _ e => e) (fun _ _ e => e) (FzAll.eraseIdx k.toNat z1)⟩
        have zv3 : FzN C X.w X.K ⟨n2.G, n2.al, upd n2.H a0 (.lst (vs.eraseIdx k.toNat))⟩ v y := Fz.keep (fun _ _ e => e) (fun _ _ e => e) zv
        exact h2 ⟨n2.G, n2.al, upd n2.H a0 (.lst (vs.eraseIdx k.toNat))⟩ _ ((l1.trans l2).sub.trans sub_upd) (ok3.setF (i := j) zv3)
      · exact h2.elim
    · exact h2.elim
  · exact h1.elim
end
/-! f-strings -/
section
variable {X : Cx} {C : Ct} {B : Nw} {e : Expr} {d : TD} {pos : Pos}
/-- {x}: a text or an int -/
def dFmt (d : TD) : TD := fun env m Q => d env m fun x m1 => match x with
  | .f (.str y) => y.length ≤ sizeLine ∧ Q (.f (.str y)) m1
  | .f (.int i) => i.natAbs.log2 < 1920 ∧ Q (.f (.str (toString i))) m1
  | _ => False
theorem de_fmt (hd : DE X C B e d) : DE X C B (.FormattedValue e (-1) none pos) (dFmt d) := by
  refine ⟨fun env m Q Q' i q => hd.mono _ _ _ _ (fun x m1 h1 => ?_) q, imp (pe_fmt hd.run) ?_⟩
  · try dsimp only at h1 ⊢
    split at h1
    · exact ⟨h1.1, i _ _ h1.2⟩
    · exact ⟨h1.1, i _ _ h1.2⟩
    · exact h1.elim
  rintro σ H Q ⟨n, env, m, rfl, ok, q⟩
  refine ⟨n, env, m, rfl, ok, hd.mono _ _ _ _ (fun x m1 h1 n1 v g1 l1 lx => ?_) q⟩
  split at h1
  · rename_i y
    have lx : FzN C X.w X.K n1 v (.str y) := lx
    cases lx
    exact .inl ⟨y, rfl, h1.1, h1.2 n1 _ g1 l1 (.str _)⟩
  · rename_i i
    have lx : FzN C X.w X.K n1 v (.int i) := lx
    cases lx
    exact .inr ⟨i, rfl, h1.1, h1.2 n1 _ g1 l1 (.str _)⟩
  · exact h1.elim
def dJs : List TD → Str → Env' → Mem → (Str → Mem → Prop) → Prop
  | [], acc, _, m, Q => Q acc m
  | t :: ts, acc, env, m, Q => t env m fun x m1 => match x with
    | .f (.str y) => (acc ++ y).length ≤ sizeLine ∧ dJs ts (acc ++ y) env m1 Q
    | _ => False
inductive DJ (X : Cx) (C : Ct) (B : Nw) : List Expr → List TD → Prop where
  | nil : DJ X C B [] []
  | cons {e : Expr} {t : TD} {es : List Expr} {ts : List TD} (h : DE X C B e t) (r : DJ X C B es ts) : DJ X C B (e :: es) (t :: ts)
theorem DJ.mono {es : List Expr} {ts : List TD} (h : DJ X C B es ts) : ∀ acc env m (Q Q' : Str → Mem → Prop), (∀ y m1, Q y m1 → Q' y m1) → dJs ts acc env m Q → dJs ts acc env m Q' := by
  induction h with
  | nil => exact fun acc env m Q Q' i q => i _ _ q
  | cons h r ih =>
    intro acc env m Q Q' i q
    refine h.mono _ _ _ _ (fun x m1 h1 => ?_) q
    try dsimp only at h1 ⊢
    split at h1
    · exact ⟨h1.1, ih _ _ _ _ _ i h1.2⟩
    · exact h1.elim
def dJoin (ts : List TD) : TD := fun env m Q => dJs ts Str.empty env m fun y m1 => Q (.f (.str y)) m1
theorem js_pj {es : List Expr} {ts : List TD} (h : DJ X C B es ts) : PJ X es (ts.map (lE C B X.w X.K)) := by
  induction h with
  | nil => exact .nil
  | cons h r ih => exact .cons h.run ih
theorem js_run {es : List Expr} {ts : List TD} (h : DJ X C B es ts) : ∀ acc σ n env m (Q : Str → Hp → Prop), Ok C X.w X.K B n env m σ → dJs ts acc env m (fun y m1 => ∀ n1, Good C X.w X.K n1 m1 → n.le n1 → Q y n1.H) →
    tJs (ts.map (lE C B X.w X.K)) acc σ n.H Q := by
  induction h with
  | nil => exact fun acc σ n env m Q ok q => q n ok.good (.refl _)
  | @cons e t es ts h r ih =>
    intro acc σ n env m Q ok q
    refine ⟨n, env, m, rfl, ok, h.mono _ _ _ _ (fun x m1 h1 n1 v g1 l1 lx => ?_) q⟩
    try dsimp only at h1 ⊢
    split at h1
    · rename_i y
      have lx : FzN C X.w X.K n1 v (.str y) := lx
      cases lx
      exact ⟨y, rfl, h1.1, ih _ σ n1 env m1 Q (ok.go g1 l1) (r.mono _ _ _ _ _ (fun y m2 h2 n2 g2 l2 => h2 n2 g2 (l1.trans l2)) h1.2)⟩
    · exact h1.elim
theorem de_join {v1 v2 : Expr} {rest : List Expr} {ts : List TD} (h : DJ X C B (v1 :: v2 :: rest) ts) : DE X C B (.JoinedStr (v1 :: v2 :: rest) pos) (dJoin ts) := by
  refine ⟨fun env m Q Q' i q => h.mono _ _ _ _ _ (fun y m1 h1 => i _ _ h1) q, imp (pe_joined (js_pj h)) ?_⟩
  rintro σ H Q ⟨n, env, m, rfl, ok, q⟩
  exact js_run h _ σ n env m _ ok (h.mono _ _ _ _ _ (fun y m1 h1 n1 g1 l1 => h1 n1 _ g1 l1 (.str _)) q)
end
end DL

set_option maxHeartbeats 1000000
namespace DL
open PySem PySem.Spec PyProof.Rows L2

/-! ### a, b = [..], [..]: two lists that change -/
section
variable {X : Cx} {C : Ct} {B : Nw} {pos : Pos}
def sParNN (i j : Nat) (d1 d2 : TN) : TSd := fun D env m => d1 env m fun xs m1 => d2 env m1 fun ys m2 => D.nx ((env.set i (some (.own (.lst xs)))).set j (some (.own (.lst ys)))) m2
theorem ds_parNN {i j : Nat} {x y : Str} {a b : Expr} {d1 d2 : TN} {px py pt : Pos} {kt k2 pt2} (hc : X.calm = true) (hN : X.N.Nodup) (hi : X.N[i]? = some x) (hj : X.N[j]? = some y) (hij : i ≠ j)
    (hx : X.env.scope.names.lookup x = some .local) (hy : X.env.scope.names.lookup y = some .local) (ha : DN X C B a d1) (hb : DN X C B b d2)
    (hw : swappedStores [.Tuple [.Name x px, .Name y py] kt pt] (.Tuple [a, b] k2 pt2) X.env = pure (some [x, y]))
    (hs : swapsWithSole [.Tuple [.Name x px, .Name y py] kt pt] (.Tuple [a, b] k2 pt2) pos.line X.env = pure false := by rfl) (hs1 : starEach [a, b] X.env = (false, eval a X.env) :: starEach [b] X.env := by rfl) (hs2 : starEach [b] X.env = (false, eval b X.env) :: starEach [] X.env := by rfl) :
    DS X C B (.Assign [.Tuple [.Name x px, .Name y py] kt pt] (.Tuple [a, b] k2 pt2) pos) (sParNN i j d1 d2) := by
  refine ⟨fun env m D D' l h => ha.mono _ _ _ _ (fun x m1 h1 => hb.mono _ _ _ _ (fun y m2 h2 => l.nx _ _ h2) h1) h, impS (ps_par hc hN hi hj hij hx hy (pa_cons ha.run (pa_cons hb.run pa_nil hs2) hs1) hw hs) ?_⟩
  rintro D σ H ⟨n, env, m, rfl, ok, q⟩
  refine ⟨n, env, m, rfl, ok, ha.mono _ _ _ _ (fun xs m1 h1 n1 p vs g1 l1 hp hz => ?_) q⟩
  obtain ⟨b2, b4⟩ := g1.free hp
  have hnp : n.H p = none := by
    cases e : n.H p with
    | none => rfl
    | some u => exact absurd hp (l1.there p (by rw [e]; simp))
  have l1' : n.le ⟨n1.G, n1.al, upd n1.H p (.lst vs)⟩ := l1.at hnp
  have g1' : Good C X.w X.K ⟨n1.G, n1.al, upd n1.H p (.lst vs)⟩ m1 := g1.at b2 b4
  have ok1 := ok.go g1' l1'
  refine ⟨⟨n1.G, n1.al, upd n1.H p (.lst vs)⟩, env, m1, rfl, ok1, hb.mono _ _ _ _ (fun ys m2 h2 n2 p2 us g2 l2 hp2 hz2 => ?_) h1⟩
  have ok2 := ok1.go g2 l2
  have hthere : (⟨n1.G, n1.al, upd n1.H p (.lst vs)⟩ : Nw).H p ≠ none := by
    show upd n1.H p (.lst vs) p ≠ none
    rw [upd_same]; simp
  have at_p : n2.H p = some (.lst vs) := l2.keep p _ upd_same b4
  have hG2 : n2.G p = none := (l2.gnew p hthere).trans b2
  have hA2 : p ∉ n2.al := l2.nal hthere b4
  have hz' : FzAllN C X.w X.K n2 vs xs := FzAllN.le (n := ⟨n1.G, n1.al, upd n1.H p (.lst vs)⟩) hz l2
  have ow : OwnAt C X.w X.K B n2 p (.lst xs) := ⟨⟨vs, at_p, hz'⟩, hG2, hA2, ok.base.base hnp⟩
  have e3 : EnvOk C X.w X.K B n2 (env.set i (some (.own (.lst xs)))) (σ.set i (some (.ref p))) := ok2.env.setO ow fun k y hk e f => by
    obtain ⟨a', f', q'⟩ := ok.env.own k y e
    rw [f] at f'; cases f'
    exact q'.ok.there hnp
  have ok3 : Ok C X.w X.K B n2 (env.set i (some (.own (.lst xs)))) m2 (σ.set i (some (.ref p))) := ⟨ok2.good, ok2.base, e3⟩
  have ok4 := ok3.newO (i := j) (o := .lst us) (z := .lst ys) hp2 ⟨us, upd_same, hz2⟩
  exact ⟨.ref p, .ref p2, rfl, h2 ⟨n2.G, n2.al, upd n2.H p2 (.lst us)⟩ _ ⟨(l1'.trans l2).g, (l1'.trans l2).ale⟩ ok4⟩
end
/-! ### a weaker promise -/
section
variable {P : Program} {w : World} {K : PySem.W.Frag} {mg : Str → Option Value} {base : Heap} {C : Ct} {x : Str} {k : Nat} {ps : List Str} {p p' : DSp}
theorem DF.weak {f : Addr} {fd : FuncData} (F : DF P w K mg base C k f fd ps p) (hm : MonoP p') (h : ∀ ds m Q E, p' ds m Q E → p ds m Q E) : DF P w K mg base C k f fd ps p' :=
  ⟨hm, F.ok.imp fun vs H Q E ⟨h1, n, m, ds, e, g, z, q⟩ => ⟨h1, n, m, ds, e, g, z, h _ _ _ _ q⟩⟩
theorem FnC.weak (c : FnC P w K mg base C x k ps p) (hm : MonoP p') (h : ∀ ds m Q E, p' ds m Q E → p ds m Q E) : FnC P w K mg base C x k ps p' :=
  ⟨c.hm, c.hk, c.F.weak hm h, c.hb, fun ds m Q E q => c.hl ds m Q E (h _ _ _ _ q)⟩
end
end DL

set_option maxHeartbeats 1000000
namespace DL
open PySem PySem.Spec PyProof.Rows L2

/-! ### dicts whose keys are ints -/
def intKeys : List (Dat × Dat) → Option (List (Int × Dat))
  | [] => some []
  | (.int i, d) :: r => match intKeys r with
    | some ks => some ((i, d) :: ks)
    | none => none
  | _ => none
def getI (ks : List (Int × Dat)) (k : Int) : Option Dat := (ks.find? fun p => decide (p.1 = k)).map (·.2)
def putI (ks : List (Int × Dat)) (k : Int) (d : Dat) : List (Int × Dat) := if (ks.any fun p => decide (p.1 = k)) = true then ks.map (fun p => if p.1 = k then (p.1, d) else p) else ks ++ [(k, d)]
def asDct (ks : List (Int × Dat)) : List (Dat × Dat) := ks.map fun p => (.int p.1, p.2)
theorem intKeys_as : ∀ ks : List (Int × Dat), intKeys (asDct ks) = some ks
  | [] => rfl
  | (i, d) :: ks => by
    have h := intKeys_as ks
    show intKeys ((.int i, d) :: asDct ks) = _
    rw [intKeys, h]
theorem as_intKeys : ∀ {kvs : List (Dat × Dat)} {ks : List (Int × Dat)}, intKeys kvs = some ks → kvs = asDct ks
  | [], _, e => by cases e; rfl
  | (k, d) :: r, ks, e => by
    cases k with
    | int i =>
      rw [intKeys] at e
      cases h : intKeys r with
      | none => rw [h] at e; cases e
      | some ks' => rw [h] at e; cases e; rw [as_intKeys h]; rfl
    | _ => cases e
section
variable {C : Ct} {w : World} {P : Program} {K : PySem.W.Frag} {al : List Addr} {G : Hp} {n : Nw}
abbrev FzP (C : Ct) (w : World) (K : PySem.W.Frag) (al : List Addr) (G : Hp) : List (Key × V) → List (Int × Dat) → Prop := Paired fun p q => p.1 = Sum.inl q.1 ∧ Fz C w K al G p.2 q.2
theorem es_to : ∀ {ks : List (Int × Dat)} {es : List DictEntry}, FzEs C w K al G es (asDct ks) → ∃ (vs : List (Key × Value)) (ps : List (Key × V)), Pairs (mixKind P w) es vs ∧
    (∀ e ∈ es, ∃ k, (mixKind P w).is k e.key = true ∧ e.hash = (mixKind P w).hash k) ∧ KV ps vs ∧ FzP C w K al G ps ks
  | [], es, h => by
    have h : FzEs C w K al G es [] := h
    cases h
    exact ⟨[], [], .nil, by simp, .nil, .nil⟩
  | (i, d) :: ks, es, h => by
    have h : FzEs C w K al G es ((.int i, d) :: asDct ks) := h
    cases h with
    | @cons e es kv vv k v r r1 z1 r2 z2 hh hr =>
      obtain ⟨vs, ps, a1, a2, a3, a4⟩ := es_to hr
      cases z1
      obtain ⟨t, ht⟩ := (show ∃ t, e.key = Value.int i t from r1)
      have hk : (mixKind P w).is (Sum.inl i) e.key = true := by rw [ht]; exact mixKind_int P w i t
      refine ⟨(Sum.inl i, e.val) :: vs, (Sum.inl i, vv) :: ps, .cons hk rfl a1, fun e' he => ?_, .cons ⟨rfl, r2⟩ a3, .cons ⟨rfl, z2⟩ a4⟩
      rcases List.mem_cons.mp he with rfl | q
      · exact ⟨_, hk, by rw [hh]; rfl⟩
      · exact a2 e' q
theorem es_from : ∀ {ks : List (Int × Dat)} {es : List DictEntry} {vs : List (Key × Value)} {ps : List (Key × V)}, Pairs (mixKind P w) es vs →
    (∀ e ∈ es, ∃ k, (mixKind P w).is k e.key = true ∧ e.hash = (mixKind P w).hash k) → KV ps vs → FzP C w K al G ps ks → FzEs C w K al G es (asDct ks)
  | [], es, vs, ps, h1, h2, h3, h4 => by
    cases h4; cases h3; cases h1
    exact .nil
  | (i, d) :: ks, es, vs, ps, h1, h2, h3, h4 => by
    cases h4 with
    | @cons p q ps' qs' e4 r4 =>
      cases h3 with
      | @cons p3 q3 _ _ e3 r3 =>
        cases h1 with
        | @cons e kv es' _ k1 v1 r1 =>
          obtain ⟨p1, p2⟩ := p
          obtain ⟨q1, q2⟩ := q3
          obtain ⟨e4a, e4b⟩ := e4
          obtain ⟨e3a, e3b⟩ := e3
          have e4a : p1 = Sum.inl i := e4a
          subst e4a
          have e3a : Sum.inl i = q1 := e3a
          subst e3a
          have v1 : e.val = q2 := v1
          obtain ⟨t, ht⟩ := Value.isInt_shape (k := i) (v := e.key) k1
          obtain ⟨k', g4, g5⟩ := h2 e (by simp)
          have ek : k' = Sum.inl i := (mixKind P w).inj _ _ _ g4 k1
          subst ek
          exact .cons (kv := .int i) (vv := p2) ⟨t, ht⟩ (.int i) (by rw [v1]; exact e3b) e4b (by rw [g5]; rfl) (es_from r1 (fun e' he => h2 e' (by simp [he])) r3 r4)
theorem fzp_keys : ∀ {ps : List (Key × V)} {ks : List (Int × Dat)}, FzP C w K al G ps ks → ps.map (·.1) = ks.map fun p => Sum.inl p.1
  | _, _, .nil => rfl
  | _, _, .cons h t => by rw [List.map_cons, List.map_cons, h.1, fzp_keys t]
theorem fzp_get : ∀ {ps : List (Key × V)} {ks : List (Int × Dat)}, FzP C w K al G ps ks → ∀ k : Int, (valV ps (Sum.inl k) = none ∧ getI ks k = none) ∨ ∃ v d, valV ps (Sum.inl k) = some v ∧ getI ks k = some d ∧ Fz C w K al G v d
  | _, _, .nil, k => .inl ⟨rfl, rfl⟩
  | p :: ps, q :: ks, .cons h t, k => by
    by_cases e : q.1 = k
    · refine .inr ⟨p.2, q.2, valV_pos (by rw [h.1, e]), ?_, h.2⟩
      simp [getI, List.find?_cons, e]
    · have ne : ¬ p.1 = Sum.inl k := fun z => e (by rw [h.1] at z; exact Sum.inl.inj z)
      rw [valV_neg ne]
      have g : getI (q :: ks) k = getI ks k := by simp [getI, List.find?_cons, e]
      rw [g]
      exact fzp_get t k
theorem fzp_any : ∀ {ps : List (Key × V)} {ks : List (Int × Dat)}, FzP C w K al G ps ks → ∀ k : Int, (ps.any fun kv => decide (kv.1 = Sum.inl k)) = ks.any fun p => decide (p.1 = k)
  | _, _, .nil, k => rfl
  | p :: ps, q :: ks, .cons h t, k => by
    rw [List.any_cons, List.any_cons, fzp_any t k, h.1]
    have e : decide ((Sum.inl q.1 : Key) = Sum.inl k) = decide (q.1 = k) := decide_eq_decide.mpr ⟨fun z => Sum.inl.inj z, fun z => by rw [z]⟩
    rw [e]
theorem fzp_put {ps : List (Key × V)} {ks : List (Int × Dat)} (h : FzP C w K al G ps ks) {k : Int} {v : V} {d : Dat} (hv : Fz C w K al G v d) : FzP C w K al G (putK ps (Sum.inl k) v) (putI ks k d) := by
  unfold putK putI
  rw [fzp_any h k]
  by_cases e : (ks.any fun p => decide (p.1 = k)) = true
  · rw [if_pos e, if_pos e]
    clear e
    induction h with
    | nil => exact .nil
    | @cons p q ps ks h t ih =>
      rw [List.map_cons, List.map_cons]
      refine .cons ?_ ih
      by_cases e : q.1 = k
      · rw [if_pos (by rw [h.1, e]), if_pos e]; exact ⟨h.1, hv⟩
      · rw [if_neg (fun z => e (by rw [h.1] at z; exact Sum.inl.inj z)), if_neg e]; exact h
  · rw [if_neg e, if_neg e]
    exact Paired.snoc h ⟨rfl, hv⟩
end
section
variable {X : Cx} {C : Ct}
def iDct (env : Env') (m : Mem) (x : Lv) : Option (List (Int × Dat)) := match der env m x with
  | some (.dct kvs) => intKeys kvs
  | _ => none
theorem iDct_ok {w : World} {K : PySem.W.Frag} {B n : Nw} {env : Env'} {m : Mem} {σ : L2.St} {v : V} {x : Lv} {ks : List (Int × Dat)} (ok : Ok C w K B n env m σ) (h : LvOk C w K n env σ v x) (e : iDct env m x = some ks) :
    ∃ a es, v = .ref a ∧ n.H a = some (dxo a es) ∧ (a == sysModules) = false ∧ FzEs C w K n.al n.G es.toList (asDct ks) := by
  unfold iDct at e
  split at e
  · rename_i kvs hd
    have ek := as_intKeys e
    subst ek
    have z := der_ok ok h hd
    cases z with
    | dct h1 h2 h3 => exact ⟨_, _, rfl, h1, h2, h3⟩
    | fz z =>
      cases z with
      | dct h1 h2 h3 => exact ⟨_, _, rfl, ok.good.sub _ _ h1, h2, h3⟩
  · cases e
theorem dct_dd {pins : List (Addr × Obj)} {σ : L2.St} {s : Shared} {n : Nw} {a : Addr} {es : Array DictEntry} {ks : List (Int × Dat)} (I : Inv X pins σ n.H s) (ha : n.H a = some (dxo a es)) (fz : FzEs C X.w X.K n.al n.G es.toList (asDct ks))
    (nd : (ks.map (·.1)).Nodup) : ∃ (vs : List (Key × Value)) (ps : List (Key × V)), KV ps vs ∧ FzP C X.w X.K n.al n.G ps ks ∧ s.heap.DictOf (mixKind X.prog X.w) a vs := by
  obtain ⟨⟨o, ep, e1, e2, e3⟩, _⟩ := (show _ ∧ _ from I.hok a _ ha)
  obtain ⟨vs, ps, p1, p2, p3, p4⟩ := es_to (P := X.prog) fz
  refine ⟨vs, ps, p3, p4, o, es, ep, e1, e2, e3, fun e he => p2 e (Array.mem_toList_iff.mpr he), p1, ?_⟩
  have ek : vs.map (·.1) = (ks.map (·.1)).map Sum.inl := by
    rw [← p3.keys, fzp_keys p4, List.map_map]; rfl
  rw [ek]
  exact List.Pairwise.map _ (fun a b hab e => hab (Sum.inl.inj e)) nd
/-- k in d, k not in d -/
def oInDk (f : Bool → Bool) : Op2 := fun env m x y Q => match x, iDct env m y with
  | .f (.int k), some ks => (ks.map (·.1)).Nodup ∧ Q (.bl (f (getI ks k).isSome)) m
  | _, _ => False
theorem oInDk.mono {f : Bool → Bool} : Mono2 (oInDk f) := fun env m x y Q Q' i => by
  unfold oInDk
  split
  · exact fun h => ⟨h.1, i _ _ h.2⟩
  · exact id
theorem fzp_some {w : World} {K : PySem.W.Frag} {al : List Addr} {G : Hp} {ps : List (Key × V)} {ks : List (Int × Dat)} (h : FzP C w K al G ps ks) (k : Int) : (valV ps (Sum.inl k)).isSome = (getI ks k).isSome := by
  rcases fzp_get h k with ⟨h1, h2⟩ | ⟨v, d, h1, h2, _⟩ <;> rw [h1, h2] <;> rfl
theorem op_inDk : OpD X C (compareOp .In) (oInDk id) := by
  refine ⟨oInDk.mono, fun pins s σ H x y v u Q I rx ry q => ?_⟩
  obtain ⟨B, n, env, m, σ', lx, ly, rfl, ok, hx, hy, q⟩ := q
  unfold oInDk at q
  split at q
  · rename_i k ks hk
    have hx : FzN C X.w X.K n x (.int k) := hx
    cases hx
    obtain ⟨a, es, rfl, ha, hs, fz⟩ := iDct_ok ok hy hk
    obtain ⟨vs, ps, p1, p2, dd⟩ := dct_dd I ha fz q.1
    cases ry
    refine wpAny_in_of (kV_is (k := Sum.inl k) rx) hs dd.mapOf ?_
    rw [← (p1.val (Sum.inl k)).isSome_eq, fzp_some p2]
    exact ⟨.bl _, n.H, I.tok _, rfl, q.2 n _ ok.good (.refl _) (.bl _)⟩
  · exact q.elim
theorem op_notInDk : OpD X C (compareOp .NotIn) (oInDk not) := by
  refine ⟨oInDk.mono, fun pins s σ H x y v u Q I rx ry q => ?_⟩
  obtain ⟨B, n, env, m, σ', lx, ly, rfl, ok, hx, hy, q⟩ := q
  unfold oInDk at q
  split at q
  · rename_i k ks hk
    have hx : FzN C X.w X.K n x (.int k) := hx
    cases hx
    obtain ⟨a, es, rfl, ha, hs, fz⟩ := iDct_ok ok hy hk
    obtain ⟨vs, ps, p1, p2, dd⟩ := dct_dd I ha fz q.1
    cases ry
    refine wpAny_notIn_of (kV_is (k := Sum.inl k) rx) hs dd.mapOf ?_
    rw [← (p1.val (Sum.inl k)).isSome_eq, fzp_some p2]
    exact ⟨.bl _, n.H, I.tok _, rfl, q.2 n _ ok.good (.refl _) (.bl _)⟩
  · exact q.elim
/-- d[k] -/
def oIxDk : Op2 := fun env m x y Q => match iDct env m x, y with
  | some ks, .f (.int k) => (ks.map (·.1)).Nodup ∧ match getI ks k with
    | some d => Q d m
    | none => False
  | _, _ => False
theorem oIxDk.mono : Mono2 oIxDk := fun env m x y Q Q' i => by
  unfold oIxDk
  split
  · rintro ⟨h1, h2⟩
    refine ⟨h1, ?_⟩
    split at h2
    · exact i _ _ h2
    · exact h2
  · exact id
theorem ix_Dk : IxD X C oIxDk := by
  refine ⟨oIxDk.mono, fun value slice pins s σ H x y v u Q I rx ry q hs => ?_⟩
  obtain ⟨B, n, env, m, σ', lx, ly, rfl, ok, hx, hy, q⟩ := q
  unfold oIxDk at q
  split at q
  · rename_i ks k hk
    have hy : FzN C X.w X.K n y (.int k) := hy
    cases hy
    obtain ⟨a, es, rfl, ha, hsm, fz⟩ := iDct_ok ok hx hk
    obtain ⟨nd, q⟩ := q
    obtain ⟨vs, ps, p1, p2, dd⟩ := dct_dd I ha fz nd
    cases rx
    split at q
    · rename_i d hd
      rcases fzp_get p2 k with ⟨_, h2⟩ | ⟨vv, d', h1, h2, h3⟩
      · rw [hd] at h2; cases h2
      · rw [hd] at h2
        cases h2
        obtain ⟨w', hw, rw'⟩ := RelO.some_of (v := vv) (o := valueAt vs (Sum.inl k)) (by rw [← h1]; exact p1.val (Sum.inl k))
        exact tail_any dd.typeIs PySem.F.slot_dict_getitem.lookup (wpAny_getItem_of (kV_is (k := Sum.inl k) ry) dd.mapOf hw ⟨vv, n.H, I.tok _, rw', q n vv ok.good (.refl _) h3⟩) hs
    · exact q.elim
  · exact q.elim
end
end DL

set_option maxHeartbeats 1000000
namespace DL
open PySem PySem.Spec PyProof.Rows L2

/-! ### dicts whose keys are ints: d[k] = v, {k: v}, sorted(d) -/
theorem retell {X : Cx} {pins : List (Addr × Obj)} {σ : L2.St} {H : Hp} {s : Shared} {a : Addr} {o : HO} (I : Inv X pins σ H s) (mu : Mut (H a)) (he : ∃ u, s.heap.get? a = some u) (new : ObjOk X.prog X.w (upd H a o) s.heap a o) : Inv X pins σ (upd H a o) s :=
  I.write (x := a) (e := a) (t' := s.toks) (h' := s.heap) mu (.inl rfl) (fun b v _ q => q) he new
section
variable {X : Cx} {C : Ct}
theorem dxo_ok {h : Heap} {H : Hp} {a : Addr} {o : Obj} {es : Array DictEntry} {ep : Nat} (h1 : h.get? a = some o) (h2 : o.ExactDict) (h3 : o.data = .dict es ep) : ObjOk X.prog X.w H h a (dxo a es) :=
  ⟨⟨o, ep, h1, h2, h3⟩, ⟨o, h1⟩, fun a b ⟨o, ep, e1, e2, e3⟩ k => ⟨o, ep, k _ e1, e2, e3⟩⟩
/-- while an operation runs, a dict is told by its keys -/
theorem borrowK {pins : List (Addr × Obj)} {σ : L2.St} {s : Shared} {n : Nw} {a : Addr} {es : Array DictEntry} {ks : List (Int × Dat)} {F : Sem Value} {Q : VK} (I : Inv X pins σ n.H s) (ha : n.H a = some (dxo a es)) (hs : (a == sysModules) = false)
    (fz : FzEs C X.w X.K n.al n.G es.toList (asDct ks)) (nd : (ks.map (·.1)).Nodup) (hl : ks.length ≤ sizeLine)
    (run : ∀ (o : Obj) (ps : List (Key × V)), FzP C X.w X.K n.al n.G ps ks → Inv X pins σ (upd n.H a (.frz o (.dK ps))) s → wpAny (model X.prog X.w) X.A F (EP X pins σ fun v Hx => Hx a = some (.frz o (.dK ps)) ∧ Q v (upd Hx a (dxo a es))) X.xe s) :
    wpAny (model X.prog X.w) X.A F (EP X pins σ Q) X.xe s := by
  obtain ⟨⟨o, ep, e1, e2, e3⟩, _⟩ := (show _ ∧ _ from I.hok a _ ha)
  obtain ⟨vs, ps, p1, p2, dd⟩ := dct_dd I ha fz nd
  have mu : Mut (n.H a) := by rw [ha]; exact True.intro
  have hps : ps.length = ks.length := by
    have := congrArg List.length (fzp_keys p2)
    simpa using this
  have I1 := retell (o := .dK ps) I mu ⟨o, e1⟩ (show ObjOk X.prog X.w (upd n.H a (.dK ps)) s.heap a (.dK ps) from ⟨by rw [hps]; exact hl, hs, vs, p1, dd⟩)
  obtain ⟨od, I2⟩ := I1.lock upd_same True.intro
  rw [L2.upd_upd] at I2
  have eo : s.heap.get? a = some od := (show _ ∧ _ from I2.hok a _ upd_same).1
  rw [e1] at eo
  cases eo
  have hn := I.nofrz ha True.intro
  refine thn (run o ps p2 I2) fun v s1 ⟨x, Hx, I3, r, e, q⟩ => ?_
  have g1 : s1.heap.get? a = some o := (show _ ∧ _ from I3.hok a _ e).1
  have I4 := I3.unlock e hn
  have I5 := retell (o := dxo a es) I4 (by rw [upd_same]; exact True.intro) ⟨o, g1⟩ (dxo_ok g1 e2 e3)
  rw [L2.upd_upd] at I5
  exact ⟨x, _, I5, r, q⟩
/-! sorted(d) -/
def nSortDk (da : TD) : TN := fun env m Q => da env m fun x m1 => match iDct env m1 x with
  | some ks => (ks.map (·.1)).Nodup ∧ ks.length < 64 ∧ Q (((ks.map (·.1)).mergeSort fun a b => decide (a ≤ b)).map Dat.int) m1
  | none => False
def rSortDk (X : Cx) (C : Ct) : List V → Hp → VK → Prop := fun vs H Q => ∃ B n env m σ v x ks, n.H = H ∧ Ok C X.w X.K B n env m σ ∧ vs = [v] ∧ LvOk C X.w X.K n env σ v x ∧ iDct env m x = some ks ∧ (ks.map (·.1)).Nodup ∧ ks.length < 64 ∧
  ∀ p, H p = none → Q (.ref p) (upd H p (.lst (((ks.map (·.1)).mergeSort fun a b => decide (a ≤ b)).map V.int)))
theorem merge_ints {ns ys : List Int} (h1 : ys.Perm ns) (h2 : ys.Pairwise (· ≤ ·)) : ys = ns.mergeSort fun a b => decide (a ≤ b) := by
  refine List.Perm.eq_of_pairwise (le := fun a b : Int => a ≤ b) (fun a b _ _ x y => Int.le_antisymm x y) h2 ?_ (h1.trans (List.mergeSort_perm ns _).symm)
  exact (List.pairwise_mergeSort (le := fun a b : Int => decide (a ≤ b)) (fun a b c h1 h2 => by simp at *; omega) (fun a b => by simp; omega) ns).imp fun {a b} z => by simpa using z
theorem call_sortDk (hc : X.calm = true) : CallR X (.builtin "sorted") (rSortDk X C) := by
  intro pins s σ H vs us Q I rv h
  obtain ⟨B, n, env, m, σ', v, x, ks, rfl, ok, rfl, lx, hk, nd, h64, q⟩ := h
  obtain ⟨a, es, rfl, ha, hs, fz⟩ := iDct_ok ok lx hk
  have s2 : 64 ≤ sizeLine := by rw [sizeLine_eq]; omega
  refine borrowK I ha hs fz nd (by omega) fun o ps p2 I2 => ?_
  refine call_sortedDI hc pins s σ _ _ us _ I2 rv ⟨a, ps, ks.map (·.1), rfl, .inr ⟨o, upd_same⟩, by rw [fzp_keys p2, List.map_map]; rfl, by simpa using h64, fun ys p h1 h2 hp => ?_⟩
  have ne : p ≠ a := fun z => by rw [z, upd_same] at hp; cases hp
  rw [upd_ne ne] at hp
  rw [merge_ints h1 h2]
  have e1 : upd (upd n.H a (.frz o (.dK ps))) p (.lst (((ks.map (·.1)).mergeSort fun a b => decide (a ≤ b)).map V.int)) a = some (.frz o (.dK ps)) := by rw [upd_ne (Ne.symm ne), upd_same]
  refine ⟨e1, ?_⟩
  have e2 : upd (upd (upd n.H a (.frz o (.dK ps))) p (.lst (((ks.map (·.1)).mergeSort fun a b => decide (a ≤ b)).map V.int))) a (dxo a es) = upd n.H p (.lst (((ks.map (·.1)).mergeSort fun a b => decide (a ≤ b)).map V.int)) := by
    funext b
    by_cases hb : b = a
    · subst hb; rw [upd_same, upd_ne (Ne.symm ne), ha]
    · rw [upd_ne hb]
      by_cases hp : b = p
      · subst hp; rw [upd_same, upd_same]
      · rw [upd_ne hp, upd_ne hb, upd_ne hp]
  rw [e2]
  exact q p hp
theorem fz_intsK {w : World} {K : PySem.W.Frag} {n : Nw} : ∀ ns : List Int, FzAllN C w K n (ns.map V.int) (ns.map Dat.int)
  | [] => .nil
  | a :: ns => .cons (.int a) (fz_intsK ns)
theorem dn_sortDk {B : Nw} {a : Expr} {da : TD} {p pos : Pos} (hm : X.mg "sorted" = none) (ha : DE X C B a da) (hc : X.calm = true := by rfl) (hg : Gl X "sorted" := by rfl)
    (he : starEach [a] X.env = (false, eval a X.env) :: starEach [] X.env := by rfl) (hpl : (backTo pos (starEach [] X.env)).any (·.1) = false := by rfl) : DN X C B (.Call (.Name "sorted" p) [a] [] pos) (nSortDk da) := by
  refine ⟨fun env m Q Q' i h => ha.mono _ _ _ _ (fun x m1 h1 => ?_) h, imp (pe_callB (call_sortDk (C := C) hc) hg hm boot_sorted (pa_cons ha.run pa_nil he) (by decide) (by decide) he hpl) ?_⟩
  · split at h1
    · exact ⟨h1.1, h1.2.1, i _ _ h1.2.2⟩
    · exact h1.elim
  rintro σ H Q ⟨n, env, m, rfl, ok, h⟩
  refine ⟨n, env, m, rfl, ok, ha.mono _ _ _ _ (fun x m1 h1 n1 v g1 l1 lx => ?_) h⟩
  split at h1
  · rename_i ks hks
    exact ⟨B, n1, env, m1, σ, v, x, ks, rfl, ok.go g1 l1, rfl, lx, hks, h1.1, h1.2.1, fun p hp => h1.2.2 n1 p _ g1 l1 hp (fz_intsK _)⟩
  · exact h1.elim
end
end DL

set_option maxHeartbeats 1000000
namespace DL
open PySem PySem.Spec PyProof.Rows L2

/-! ### d[k] = v; d = {k: v}, d = {} -/
section
variable {X : Cx} {C : Ct} {B : Nw} {e o i : Expr} {d de di : TD} {pos : Pos}
def rSetDk (X : Cx) (C : Ct) : V → V → V → Hp → (Hp → Prop) → Prop := fun x y v H Q => ∃ (n : Nw) (a : Addr) (es : Array DictEntry) (ks : List (Int × Dat)) (k : Int) (z : Dat), n.H = H ∧ x = .ref a ∧ y = .int k ∧ n.H a = some (dxo a es) ∧ (a == sysModules) = false ∧
  FzEs C X.w X.K n.al n.G es.toList (asDct ks) ∧ (ks.map (·.1)).Nodup ∧ ks.length < sizeLine ∧ FzN C X.w X.K n v z ∧ ∀ es' : Array DictEntry, FzEs C X.w X.K n.al n.G es'.toList (asDct (putI ks k z)) → Q (upd H a (dxo a es'))
theorem set_Dk : PSet X (rSetDk X C) := by
  intro pins s σ H x y v ov iv u Q I rx ry rv h
  obtain ⟨n, a, es, ks, k, z, rfl, rfl, rfl, ha, hs, fz, nd, hl, hv, q⟩ := h
  obtain ⟨vs, ps, p1, p2, dd⟩ := dct_dd I ha fz nd
  cases rx
  have hps : vs.length = ks.length := by
    have e1 := congrArg List.length (fzp_keys p2)
    have e2 := p1.length
    simp at e1
    omega
  refine wpAny_setItem_pairs (hsz := by rw [hps]; omega) (kV_is (k := Sum.inl k) ry) dd fun h' dd' hsb => ?_
  obtain ⟨o, es', ep, h1, h2, h3, h4, h5, h6⟩ := dd'
  have f2 := es_from h5 (fun e he => h4 e (Array.mem_toList_iff.mp he)) (p1.put (Sum.inl k) rv) (fzp_put (k := k) p2 hv)
  exact ⟨_, d_write I (by rw [ha]; exact True.intro) hsb ⟨o, h1⟩ (dxo_ok h1 h2 h3), q es' f2⟩
def sPutDk (de d di : TD) : TSd := fun D env m => de env m fun y m1 => d env m1 fun x m2 => di env m2 fun i m3 => match moOf env m3 x, i, y with
  | some (.dct kvs), .f (.int k), .f z => match intKeys kvs with
    | some ks => (ks.map (·.1)).Nodup ∧ ks.length < sizeLine ∧ D.nx (setE x (.dct (asDct (putI ks k z))) env) (setM x (.dct (asDct (putI ks k z))) m3)
    | none => False
  | _, _, _ => False
theorem sPutDk.mono (he : MonoD de) (hd : MonoD d) (hi : MonoD di) : MonoS (sPutDk de d di) := fun env m D D' l h => he _ _ _ _ (fun y m1 h1 => hd _ _ _ _ (fun x m2 h2 => hi _ _ _ _ (fun i m3 h3 => by
  try dsimp only at h3 ⊢
  split at h3
  · split at h3
    · exact ⟨h3.1, h3.2.1, l.nx _ _ h3.2.2⟩
    · exact h3
  · exact h3) h2) h1) h
theorem ds_putDk {sp : Pos} (he : DE X C B e de) (ho : DE X C B o d) (hi : DE X C B i di)
    (ha : ∀ v, assign (.Subscript o i sp) X.env v = (do
      let ov ← holding [v] (eval o X.env)
      let iv ← holding [v, ov] (eval i X.env)
      standAt sp
      holding [v, ov, iv] (setItem ov iv v)
      release [v, ov, iv] []) := by intro _; rfl) (hs : swapsWithSole [.Subscript o i sp] e pos.line X.env = pure false := by rfl) (hw : swappedStores [.Subscript o i sp] e X.env = pure none := by rfl)
    (h1 : (assignEach [.Subscript o i sp] X.env).map (·.2) = [assign (.Subscript o i sp) X.env] := by rfl) : DS X C B (.Assign [.Subscript o i sp] e pos) (sPutDk de d di) := by
  refine ⟨sPutDk.mono he.mono ho.mono hi.mono, impS (ps_asg he.run (pg_sub ho.run hi.run (set_Dk (C := C)) ha) hs hw h1) ?_⟩
  rintro D σ H ⟨n, env, m, rfl, ok, q⟩
  refine ⟨n, env, m, rfl, ok, he.mono _ _ _ _ (fun y m1 h1 n1 u g1 l1 ly => ?_) q⟩
  have ok1 := ok.go g1 l1
  refine ⟨n1, env, m1, rfl, ok1, ho.mono _ _ _ _ (fun x m2 h2 n2 v g2 l2 lx => ?_) h1⟩
  have ok2 := ok1.go g2 l2
  refine ⟨n2, env, m2, rfl, ok2, hi.mono _ _ _ _ (fun i m3 h3 n3 iv g3 l3 li => ?_) h2⟩
  have ok3 := ok2.go g3 l3
  split at h3
  · rename_i kvs k z hx
    split at h3
    · rename_i ks hk
      have ek := as_intKeys hk
      subst ek
      have li : FzN C X.w X.K n3 iv (.int k) := li
      cases li
      have ly3 : FzN C X.w X.K n3 u z := FzN.le (FzN.le (n := n1) ly l2) l3
      obtain ⟨a, rfl, ⟨es, e1, e2, e3⟩, hset⟩ := mut_ok ok3 (lx.le l3) hx
      obtain ⟨nd, hl, h3⟩ := h3
      refine ⟨n3, a, es, ks, k, z, rfl, rfl, rfl, e1, e2, e3, nd, hl, ly3, fun es' f' => ?_⟩
      have ok4 := hset (dxo a es') (.dct (asDct (putI ks k z))) ⟨es', upd_same, e2, f'⟩
      exact h3 ⟨n3.G, n3.al, upd n3.H a (dxo a es')⟩ σ (((l1.trans l2).trans l3).sub.trans sub_upd) ok4
    · exact h3.elim
  · exact h3.elim
theorem pe_dctE {kx vx : Expr} {tk tv : TE} (hk : PE X kx tk) (hv : PE X vx tv) : PE X (.Dict [some kx] [vx] pos)
    (fun σ H Q => ∀ p, H p = none → (p == sysModules) = false → tk σ (upd H p (.dK [])) fun y H1 => tv σ H1 fun x H2 => ∃ i, y = .int i ∧ H2 p = some (.dK []) ∧ ∀ es : Array DictEntry, (∃ e, es.toList = [e] ∧ RelV (.int i) e.key ∧ RelV x e.val ∧ e.hash = hashD X.w (.int i)) → Q (.ref p) (upd H2 p (dxo p es))) := by
  refine ⟨fun pins s σ H Q I q => ?_⟩
  have hn := I.hok.fresh (Nat.le_refl s.heap.objs.size)
  have hb := I.big
  have I1 := I.laid (a := s.heap.objs.size) (o := .dK []) (h' := s.heap.push { cls := .type "dict", data := .dict #[] }) (t' := s.toks) (fun _ _ q => Heap.get?_push_of_some _ q) (Nat.le_refl _) (dk_empty s.heap I.big)
  have pp : PPs X pos [some kx] [vx] [(tk, tv)] := pps_cons hk hv pps_nil
  refine wpAny_Dict_walk (knd := mixKind X.prog X.w) rfl rfl (by simp) (by simp) (thn (pp.run pins _ σ _ (fun ps H2 => match ps with
    | [(y, x)] => ∃ i, y = .int i ∧ H2 s.heap.objs.size = some (.dK []) ∧ ∀ es : Array DictEntry, (∃ e, es.toList = [e] ∧ RelV (.int i) e.key ∧ RelV x e.val ∧ e.hash = hashD X.w (.int i)) → Q (.ref s.heap.objs.size) (upd H2 s.heap.objs.size (dxo s.heap.objs.size es))
    | _ => False) I1 ?_) fun ws s2 ⟨ps, H2, I2, rel, q2⟩ => ?_)
  · exact q _ hn (beq_eq_false_iff_ne.mpr (Ne.symm (Nat.ne_of_lt hb)))
  · split at q2
    · rename_i y x
      obtain ⟨k, rfl, e2, q2⟩ := q2
      cases rel with
      | @cons _ w1 _ _ r1 r2 =>
        cases r2
        obtain ⟨ky, vx⟩ := w1
        obtain ⟨r1, r3⟩ := r1
        have r1' : ∃ t, ky = Value.int k t := r1
        obtain ⟨t, rfl⟩ := r1'
        obtain ⟨z, hd, vs0, r0, dd⟩ := dk_of I2.hok e2
        cases r0
        refine ⟨[(Sum.inl k, vx)], ⟨keyIs_int k t, rfl, True.intro⟩, dd, fun h' dd' hs => ?_⟩
        obtain ⟨o, es, ep, h1, h2, h3, h4, h5, h6⟩ := dd'
        have h5' : Pairs (mixKind X.prog X.w) es.toList [(Sum.inl k, vx)] := h5
        generalize hes : es.toList = l at h5'
        cases h5' with
        | @cons e1 _ _ _ g1 g2 g3 =>
          cases g3
          have mem : e1 ∈ es := by
            rw [← Array.mem_toList_iff, hes]; simp
          obtain ⟨k', g4, g5⟩ := h4 e1 mem
          have ek : k' = Sum.inl k := (mixKind X.prog X.w).inj _ _ _ g4 g1
          subst ek
          refine ⟨.ref s.heap.objs.size, _, d_write I2 (by rw [e2]; exact True.intro) hs ⟨o, h1⟩ (dxo_ok h1 h2 h3), rfl, q2 es ⟨e1, hes, ?_, ?_, ?_⟩⟩
          · obtain ⟨t', e'⟩ := Value.isInt_shape (k := k) (v := e1.key) g1
            exact ⟨t', e'⟩
          · rw [g2]; exact r3
          · rw [g5]; rfl
    · exact q2.elim
def sSetDk (j : Nat) (dk dv : TD) : TSd := fun D env m => dk env m fun y m1 => dv env m1 fun x m2 => match y, x with
  | .f (.int k), .f z => D.nx (env.set j (some (.own (.dct [(.int k, z)])))) m2
  | _, _ => False
theorem ds_setDk {j : Nat} {x : Str} {kx vx : Expr} {dk dv : TD} {pos' p1 : Pos} (hN : X.N.Nodup) (hk : DE X C B kx dk) (hv : DE X C B vx dv) (hj : X.N[j]? = some x := by rfl) (hx : Loc X.env.scope x := by first | exact .inl rfl | exact .inr rfl)
    (hf : X.fn x = true ∨ X.env.scope.names.lookup x = some .local := by first | exact .inl rfl | exact .inr rfl | assumption)
    (hs : swapsWith (.Dict [some kx] [vx] p1) (some (.Name x pos')) pos.line X.env = pure false := by rfl) : DS X C B (.Assign [.Name x pos'] (.Dict [some kx] [vx] p1) pos) (sSetDk j dk dv) := by
  refine ⟨fun env m D D' l h => hk.mono _ _ _ _ (fun y m1 h1 => hv.mono _ _ _ _ (fun x m2 h2 => ?_) h1) h, impS (ps_set hN hj hx (pe_dctE hk.run hv.run) hs hf) ?_⟩
  · try dsimp only at h2 ⊢
    split at h2
    · exact l.nx _ _ h2
    · exact h2
  rintro D σ H ⟨n, env, m, rfl, ok, q⟩ p hp hsm
  obtain ⟨b2, b4⟩ := ok.good.free hp
  have l0 : n.le ⟨n.G, n.al, upd n.H p (.dK [])⟩ := (Nw.le.refl n).at hp
  have g0 : Good C X.w X.K ⟨n.G, n.al, upd n.H p (.dK [])⟩ m := ok.good.at b2 b4
  have ok0 := ok.go g0 l0
  have th0 : (⟨n.G, n.al, upd n.H p (.dK [])⟩ : Nw).H p ≠ none := by
    show upd n.H p (.dK []) p ≠ none
    rw [upd_same]; simp
  refine ⟨⟨n.G, n.al, upd n.H p (.dK [])⟩, env, m, rfl, ok0, hk.mono _ _ _ _ (fun y m1 h1 n1 v g1 l1 ly => ?_) q⟩
  refine ⟨n1, env, m1, rfl, ok0.go g1 l1, hv.mono _ _ _ _ (fun x m2 h2 n2 u g2 l2 lx => ?_) h1⟩
  split at h2
  · rename_i k z
    have ly : FzN C X.w X.K n1 v (.int k) := ly
    cases ly
    have l02 := l1.trans l2
    have ln : n.le n2 := l0.trans l02
    have at_p : n2.H p = some (.dK []) := l02.keep p _ upd_same b4
    have hG : n2.G p = none := (l02.gnew p th0).trans b2
    have hA : p ∉ n2.al := l02.nal th0 b4
    refine ⟨k, rfl, at_p, fun es ⟨e1, he, r1, r2, hh⟩ => ?_⟩
    have lx : FzN C X.w X.K n2 u z := lx
    have ln3 : n.le ⟨n2.G, n2.al, upd n2.H p (dxo p es)⟩ := ln.at hp
    have ok3 := ok.go (g2.at (o := dxo p es) hG hA) ln3
    have ow : OwnAt C X.w X.K B ⟨n2.G, n2.al, upd n2.H p (dxo p es)⟩ p (.dct [(.int k, z)]) := ⟨⟨es, upd_same, hsm, by
      show FzEs C X.w X.K n2.al n2.G es.toList [(.int k, z)]
      rw [he]; exact .cons r1 (.int k) r2 lx hh .nil⟩, hG, hA, ok.base.base hp⟩
    have e4 := ok3.env.setO (i := j) ow fun c y hc e f => by
      obtain ⟨a', f', q'⟩ := ok.env.own c y e
      rw [f] at f'; cases f'
      exact q'.ok.there hp
    exact h2 ⟨n2.G, n2.al, upd n2.H p (dxo p es)⟩ _ ⟨ln3.g, ln3.ale⟩ ⟨ok3.good, ok3.base, e4⟩
  · exact h2.elim
def sSetD0 (j : Nat) : TSd := fun D env m => D.nx (env.set j (some (.own (.dct [])))) m
theorem ds_setD0 {j : Nat} {x : Str} {pos' p1 : Pos} (hN : X.N.Nodup) (hj : X.N[j]? = some x := by rfl) (hx : Loc X.env.scope x := by first | exact .inl rfl | exact .inr rfl)
    (hf : X.fn x = true ∨ X.env.scope.names.lookup x = some .local := by first | exact .inl rfl | exact .inr rfl | assumption)
    (hs : swapsWith (.Dict [] [] p1) (some (.Name x pos')) pos.line X.env = pure false := by rfl) : DS X C B (.Assign [.Name x pos'] (.Dict [] [] p1) pos) (sSetD0 j) := by
  refine ⟨fun env m D D' l h => l.nx _ _ h, impS (ps_set hN hj hx pe_dct0 hs hf) ?_⟩
  rintro D σ H ⟨n, env, m, rfl, ok, q⟩ p hp hsm
  have ok2 := ok.newO (i := j) (o := dxo p #[]) (z := .dct []) hp ⟨#[], upd_same, hsm, .nil⟩
  exact q ⟨n.G, n.al, upd n.H p (dxo p #[])⟩ _ ⟨fun _ _ e => e, List.prefix_rfl⟩ ok2
end
end DL

set_option maxHeartbeats 1000000
namespace DL
open PySem PySem.Spec PyProof.Rows L2

/-! ### range(i, j, -1) -/
def downD (i : Int) (k : Nat) : List Dat := (List.range k).map fun t => .int (i - (t : Nat))
def iRgDn (d de dc : TD) : TId := fun env m Q => d env m fun x m1 => de env m1 fun y m2 => dc env m2 fun z m3 => match x, y, z with
  | .f (.int i), .f (.int j), .f (.int c) => c = -1 ∧ (-(2 ^ 62) ≤ i ∧ i < 2 ^ 62 ∧ -(2 ^ 62) ≤ j ∧ j < 2 ^ 62) ∧ Q (downD i (i - j).toNat) m3
  | _, _, _ => False
section
variable {X : Cx} {C : Ct} {B : Nw} {d de dc : TD}
theorem walkDn {w : World} {K : PySem.W.Frag} {n : Nw} {i : Int} {k : Nat} : WalkD C w K n (Itc i (-1) k) (downD i k) := by
  refine ⟨_, _, by rw [show (downD i k).length = k by simp [downD]]; exact walk_rangeC, fun n' m' s g => ⟨trivial, fun t x H' hi hy => ?_⟩⟩
  obtain ⟨rfl, rfl⟩ := hy
  have hi' : t < k := by simpa [downD] using hi
  refine ⟨n', .int (i - (t : Nat)), rfl, g, .refl _, by simp [downD, hi'], ?_⟩
  show FzN C w K n' (.int (i + (t : Nat) * (-1 : Int))) _
  rw [show i + (t : Nat) * (-1 : Int) = i - (t : Nat) by omega]
  exact .int _
theorem di_rangeDn {tg a b c : Expr} {p pos : Pos} (hm : X.mg "range" = none) (ha : DE X C B a d) (hb : DE X C B b de) (hc : DE X C B c dc) (hg : Gl X "range" := by rfl)
    (hs : starEach [a, b, c] X.env = (false, eval a X.env) :: starEach [b, c] X.env := by rfl) (hs2 : starEach [b, c] X.env = (false, eval b X.env) :: starEach [c] X.env := by rfl) (hs3 : starEach [c] X.env = (false, eval c X.env) :: starEach [] X.env := by rfl)
    (hpl : (backTo pos (starEach [b, c] X.env)).any (·.1) = false := by rfl) : DI X C B tg (.Call (.Name "range" p) [a, b, c] [] pos) (iRgDn d de dc) := by
  refine ⟨fun env m Q Q' i h => ha.mono _ _ _ _ (fun x m1 h1 => hb.mono _ _ _ _ (fun y m2 h2 => hc.mono _ _ _ _ (fun z m3 h3 => ?_) h2) h1) h, impI (pi_range3 hg hm (pa_cons ha.run (pa_cons hb.run (pa_cons hc.run pa_nil hs3) hs2) hs) hs hpl) ?_⟩
  · try dsimp only at h3 ⊢
    split at h3
    · exact ⟨h3.1, h3.2.1, i _ _ h3.2.2⟩
    · exact h3
  rintro σ H R ⟨n, env, m, rfl, ok, q⟩
  refine ⟨n, env, m, rfl, ok, ha.mono _ _ _ _ (fun x m1 h1 n1 v g1 l1 lx => ?_) q⟩
  refine ⟨n1, env, m1, rfl, ok.go g1 l1, hb.mono _ _ _ _ (fun y m2 h2 n2 u g2 l2 ly => ?_) h1⟩
  refine ⟨n2, env, m2, rfl, (ok.go g1 l1).go g2 l2, hc.mono _ _ _ _ (fun z m3 h3 n3 t g3 l3 lz => ?_) h2⟩
  split at h3
  · rename_i i j c
    have lx : FzN C X.w X.K n1 v (.int i) := lx
    have ly : FzN C X.w X.K n2 u (.int j) := ly
    have lz : FzN C X.w X.K n3 t (.int c) := lz
    cases lx
    cases ly
    cases lz
    obtain ⟨rfl, ⟨a1, a2, a3, a4⟩, q⟩ := h3
    exact ⟨i, j, -1, _, rfl, RgC.neg a1 a2 a3 a4, q n3 _ g3 ((l1.trans l2).trans l3) walkDn⟩
  · exact h3.elim
end
end DL

set_option maxHeartbeats 1000000
namespace DL
open PySem PySem.Spec PyProof.Rows L2

/-! ### min(a, b), max(a, b) of ints -/
def oI2 (f : Int → Int → Int) : OpN := fun _ m xs Q => match xs with
  | [.f (.int i), .f (.int j)] => Q (.int (f i j)) m
  | _ => False
theorem oI2.mono {f : Int → Int → Int} : MonoN (oI2 f) := fun env m xs Q Q' i => by
  unfold oI2
  split
  · exact i _ _
  · exact id
section
variable {X : Cx} {C : Ct}
theorem call_I2 {id : String} {f : Int → Int → Int} (h : CallR X (.builtin id) (fun xs H Q => ∃ i j, xs = [.int i, .int j] ∧ Q (.int (f i j)) H)) : CallD X C (.builtin id) (oI2 f) := by
  refine ⟨oI2.mono, fun pins s σ H vs us Q I rv q => ?_⟩
  obtain ⟨B, n, env, m, σ', xs, rfl, ok, lx, q⟩ := q
  unfold oI2 at q
  split at q
  · rename_i i j
    cases lx with
    | cons l1 r =>
      cases r with
      | cons l2 r =>
        cases r
        rename_i v1 v2
        have l1 : FzN C X.w X.K n v1 (.int i) := l1
        have l2 : FzN C X.w X.K n v2 (.int j) := l2
        cases l1
        cases l2
        exact h pins s σ n.H _ us Q I rv ⟨i, j, rfl, q n _ ok.good (.refl _) (.int _)⟩
  · exact q.elim
theorem call_min2D (hc : X.calm = true) : CallD X C (.builtin "min") (oI2 fun i j => if j < i then j else i) := call_I2 (call_min2 hc)
theorem call_max2D (hc : X.calm = true) : CallD X C (.builtin "max") (oI2 fun i j => if j > i then j else i) := call_I2 (call_max2 hc)
end
end DL

set_option maxHeartbeats 1000000
namespace DL
open PySem PySem.Spec PyProof.Rows L2

/-! ### comprehensions that walk a list of the body's own -/
def WalkE (C : Ct) (w : World) (K : PySem.W.Frag) (n : Nw) (J : It) (xs : List Dat) : Prop := ∃ Gp Y, Walk J xs.length Gp Y ∧ ∀ n' m', n.le n' → Good C w K n' m' → Gp n'.H ∧
  ∀ i x H', i < xs.length → Y i n'.H x H' → ∃ n'' d, n''.H = H' ∧ Good C w K n'' m' ∧ n'.le n'' ∧ xs[i]? = some d ∧ FzN C w K n'' x d
theorem WalkD.e {C : Ct} {w : World} {K : PySem.W.Frag} {n : Nw} {J : It} {xs : List Dat} (h : WalkD C w K n J xs) : WalkE C w K n J xs := by
  obtain ⟨Gp, Y, wk, st⟩ := h
  exact ⟨Gp, Y, wk, fun n' m' l g => st n' m' l.sub g⟩
def lIe (C : Ct) (B : Nw) (w : World) (K : PySem.W.Frag) (d : TId) : TI := fun σ H R => ∃ n env m, n.H = H ∧ Ok C w K B n env m σ ∧ d env m fun xs m' => ∀ n' J, Good C w K n' m' → n.le n' → WalkE C w K n' J xs → R J n'.H
structure DIE (X : Cx) (C : Ct) (B : Nw) (tg iter : Expr) (d : TId) : Prop where
  mono : MonoI d
  run : PI X tg iter (lIe C B X.w X.K d)
section
variable {X : Cx} {C : Ct} {B : Nw}
theorem DI.e {tg iter : Expr} {d : TId} (h : DI X C B tg iter d) : DIE X C B tg iter d := ⟨h.mono, impI h.run fun σ H R ⟨n, env, m, e, ok, q⟩ => ⟨n, env, m, e, ok, h.mono _ _ _ _ (fun xs m1 h1 n1 J g1 l1 wk => h1 n1 J g1 l1 wk.e) q⟩⟩
def iOwn (i : Nat) : TId := fun env m Q => match env[i]? with
  | some (some (.own (.lst xs))) => Q xs m
  | _ => False
theorem iOwn.mono (i : Nat) : MonoI (iOwn i) := fun env m Q Q' k h => by
  unfold iOwn at h ⊢
  split at h
  · exact k _ _ h
  · exact h.elim
theorem di_own {tg : Expr} {x : Str} {p : Pos} {i : Nat} (hv : DE X C B (.Name x p) (dVar i)) : DIE X C B tg (.Name x p) (iOwn i) := by
  refine ⟨iOwn.mono i, impI (pi_any hv.run) ?_⟩
  rintro σ H R ⟨n, env, m, rfl, ok, q⟩
  unfold iOwn at q
  split at q
  · rename_i xs hx
    have key : ∀ Q : QL, Q (.o i) m → dVar i env m Q := fun Q k => by
      unfold dVar
      rw [hx]
      exact k
    refine ⟨n, env, m, rfl, ok, key _ fun n1 v g1 l1 lx => ?_⟩
    obtain ⟨a, ha, ow⟩ := ok.env.own i _ hx
    have ev : v = .ref a := by
      have h1 := lx.1
      rw [ha] at h1
      cases h1; rfl
    subst ev
    have ow1 := ow.le l1
    obtain ⟨vs, e1, z1⟩ := ow1.ok
    refine ⟨a, rfl, .inl ⟨⟨vs, .inl (.inl e1)⟩, q n1 _ g1 l1 ?_⟩⟩
    have el := z1.length
    refine ⟨_, _, by rw [← el]; exact walk_list (xs := vs), fun n' m' l g => ⟨Or.inl (Or.inl (l.keep a _ e1 ow1.al)), fun j y H' hj hy => ?_⟩⟩
    obtain ⟨rfl, hx⟩ := hy
    obtain ⟨d, h1, h2⟩ := z1.get' hx
    exact ⟨n', d, rfl, g, .refl _, h1, FzN.le h2 l⟩
  · exact q.elim
theorem lc_impE {tg : Tg} {dt : TB} {de : TD} {vs : List Nat} {di : TId} (hi : MonoI di) (ht : MonoB dt) (hd : MonoD de) (htg : ∀ i ∈ tg.ids, i ∈ vs) :
    ∀ σ H Q, lN C B X.w X.K (nLc tg dt de vs di) σ H Q → tLc (lIe C B X.w X.K di) (gOf X.K tg) (lB C B X.w X.K dt) (lE C B X.w X.K de) vs σ H Q := by
  rintro σ H Q ⟨n, env, m, rfl, ok, h⟩
  refine ⟨n, env, m, rfl, ok, hi _ _ _ _ (fun xs m1 h1 n1 J g1 l1 wk => ?_) h⟩
  obtain ⟨Gp, Y, wk, st⟩ := wk
  intro D hD
  have ok1 := (ok.go g1 l1).wipe vs
  obtain ⟨f1, f2⟩ := g1.free hD
  refine lc_it wk (fun i H => ∃ n2 m2 aV acc, n2.H = H ∧ n1.le n2 ∧ Good C X.w X.K n2 m2 ∧ n2.H D = some (.lst aV) ∧ n2.G D = none ∧ D ∉ n2.al ∧ FzAllN C X.w X.K n2 aV acc ∧ acc.length ≤ i ∧ i ≤ xs.length ∧
    lcGo tg dt de (wipeE env vs) (xs.drop i) m2 (fun ds m' => ∀ n' p us, Good C X.w X.K n' m' → n.le n' → n'.H p = none → FzAllN C X.w X.K n' us (acc ++ ds) → Q (.ref p) (upd n'.H p (.lst us)))) ?_ ?_ ?_ ?_
  · exact ⟨⟨n1.G, n1.al, upd n1.H D (.lst [])⟩, m1, [], [], rfl, (Nw.le.refl n1).at hD, g1.at f1 f2, upd_same, f1, f2, .nil, Nat.le_refl _, Nat.zero_le _, h1.2⟩
  · rintro i H hi ⟨n2, m2, aV, acc, rfl, l2, g2, _⟩
    exact (st n2 m2 l2 g2).1
  · rintro i x H H' hi ⟨n2, m2, aV, acc, rfl, l2, g2, hD2, hG2, ha2, hz2, hl2, hi2, h2⟩ hy
    obtain ⟨n3, d, rfl, g3, l3, hd3, hz3⟩ := (st n2 m2 l2 g2).2 i x _ hi hy
    have hdr : xs.drop i = d :: xs.drop (i + 1) := by
      rw [List.drop_eq_getElem_cons hi]
      rw [List.getElem?_eq_getElem hi] at hd3
      rw [Option.some.inj hd3]
    rw [hdr] at h2
    unfold lcGo at h2
    split at h2
    · rename_i env2 hb2
      have D2 : n2.H D ≠ none := by rw [hD2]; simp
      refine bind_ok (x := .f d) hz3 (ok1.go g3 (l2.trans l3)) hb2 fun σ2 ok3 hw => ⟨?_, ?_⟩
      · rw [hw vs htg, wipe_idem]
      · refine ⟨n3, env2, m2, rfl, ok3, ht _ _ _ _ (fun b m4 h4 n4 g4 l4 => ?_) h2⟩
        have l24 := l3.trans l4
        cases b with
        | false =>
          exact ⟨n4, m4, aV, acc, rfl, l2.trans l24, g4, l24.keep D _ hD2 ha2, (l24.gnew D D2).trans hG2, l24.nal D2 ha2, FzAllN.le hz2 l24, by omega, by omega, h4⟩
        | true =>
          refine ⟨n4, env2, m4, rfl, ok3.go g4 l4, hd _ _ _ _ (fun y m5 h5 n5 v g5 l5 ly => ?_) h4⟩
          have l25 := l24.trans l5
          have e5 := l25.keep D _ hD2 ha2
          have hG5 := (l25.gnew D D2).trans hG2
          have ha5 := l25.nal D2 ha2
          refine ⟨aV, e5, ?_, ?_⟩
          · rw [hz2.length]
            have := h1.1
            omega
          · cases y with
            | o k => exact h5.elim
            | f d5 =>
              have ly : FzN C X.w X.K n5 v d5 := ly
              refine ⟨⟨n5.G, n5.al, upd n5.H D (.lst (aV ++ [v]))⟩, m5, aV ++ [v], acc ++ [d5], rfl, (l2.trans l25).at hD, g5.at hG5 ha5, upd_same, hG5, ha5, ?_, by simp; omega, by omega, ?_⟩
              · exact FzAll.append (FzAllN.le (n' := n5) hz2 l25) (.cons ly .nil)
              · refine lcGo.mono ht hd _ _ _ _ _ (fun ds m6 h6 n' p us g' l' hp hu => ?_) h5
                refine h6 n' p us g' l' hp ?_
                rw [List.append_assoc] at hu
                exact hu
    · exact h2.elim
  · rintro H ⟨n2, m2, aV, acc, rfl, l2, g2, hD2, hG2, ha2, hz2, hl2, hi2, h2⟩
    rw [List.drop_length] at h2
    have ne : ∀ {a u}, n1.H a = some u → a ≠ D := fun e z => by subst z; rw [hD] at e; cases e
    have h3 := h2 ⟨n2.G, n2.al, del n2.H D⟩ D aV ⟨fun p o e => ?_, g2.nd, g2.len, fun k y a e1 e2 => ?_⟩ ⟨fun p o e => l2.g p o (l1.g p o e), fun p o e hn => ?_, fun p e => ?_, fun p e => ?_, l1.ale.trans l2.ale, fun k p hk e => ?_⟩ del_same (by rw [List.append_nil]; exact hz2)
    · have : upd (del n2.H D) D (.lst aV) = n2.H := upd_del hD2
      rw [← this]; exact h3
    · show del n2.H D p = some o
      rw [del_ne (fun z => by subst z; have e' : n2.G p = some o := e; rw [hG2] at e'; cases e')]; exact g2.sub p o e
    · obtain ⟨q1, q2⟩ := g2.at_ k y a e1 e2
      refine ⟨q1.imp (n := n2) (fun _ _ e => e) (fun _ _ e => e) fun u e => ?_, q2⟩
      show del n2.H D a = some u
      rw [del_ne (fun z => by subst z; exact ha2 (List.mem_of_getElem? e2))]; exact e
    · have e1 := l1.keep p o e hn
      have e2 := l2.keep p o e1 (l1.nal (by rw [e]; simp) hn)
      show del n2.H D p = some o
      rw [del_ne (ne e1)]; exact e2
    · have e1 := l1.there p e
      have e2 := l2.there p e1
      show del n2.H D p ≠ none
      rw [del_ne (fun z => by subst z; exact e1 hD)]; exact e2
    · exact (l2.gnew p (l1.there p e)).trans (l1.gnew p e)
    · exact (l1.trans l2).anew k p hk e
variable {elt te iter : Expr} {ifs : List Expr} {scope : Scope} {own : List (Str × Nat)} {pos : Pos} {tg : Tg} {dt : TB} {de : TD} {di : TId}
theorem dn_compE (own : List (Str × Nat)) (hc : X.calm = true) (hN : X.N.Nodup) (hi : DIE X C B te iter di) (hg : Blk X scope fun Y => TgOk Y te tg) (ht : Blk X scope fun Y => DTs Y C B ifs dt) (he : Blk X scope fun Y => DE Y C B elt de)
    (ok : BlkOk X.N X.env.scope scope own) (htg : ∀ i ∈ tg.ids, i ∈ own.map (·.2)) (hs : ∀ x, foldedSetIterable iter X.env x = pure x := by intro _; rfl) : DN X C B (.ListComp elt [⟨te, iter, ifs, 0⟩] scope pos) (nLc tg dt de (own.map (·.2)) di) :=
  have mt := (ht X.s_0 X.H_0 0 [] []).mono
  have md := (he X.s_0 X.H_0 0 [] []).mono
  ⟨nLc.mono hi.mono mt md, imp (pe_lc hc hN hi.run ok (fun s H C cl fp => (hg s H C cl fp).run) (fun s H C cl fp => (ht s H C cl fp).run) (fun s H C cl fp => (he s H C cl fp).run) hs) (lc_impE hi.mono mt md htg)⟩
end
end DL

set_option maxHeartbeats 2000000
namespace DL
open PySem PySem.Spec PyProof.Rows L2

/-! ### classmethods, defs with a star, cls(..) -/
/-- a promise by positional values, of any number -/
def spR (C : Ct) (w : World) (K : PySem.W.Frag) (p : DSp) : Sp := fun vs H Q E => ∃ n m ds, n.H = H ∧ Good C w K n m ∧ FzAllN C w K n vs ds ∧ p ds m (AftD C w K n Q) (AftX C w K n E)
structure DRp (P : Program) (w : World) (K : PySem.W.Frag) (mg : Str → Option Value) (base : Heap) (C : Ct) (k : Nat) (f : Addr) (p : DSp) : Prop where
  mono : MonoP p
  ok : FnR P w K mg base (L2.CX P w) k f (spR C w K p)
/-- what is left over is a tuple -/
def pStar (a : Nat) (p : DSp) : DSp := fun ds m Q E => a ≤ ds.length ∧ (ds.drop a).length ≤ sizeLine ∧ p (ds.take a ++ [.tup (ds.drop a)]) m Q E
theorem pStar.mono {a : Nat} {p : DSp} (h : MonoP p) : MonoP (pStar a p) := fun ds m Q Q' E E' i j ⟨h1, h2, h3⟩ => ⟨h1, h2, h _ _ _ _ _ _ i j h3⟩
section
variable {P : Program} {w : World} {K : PySem.W.Frag} {mg : Str → Option Value} {base : Heap} {C : Ct} {x qual : Str} {params : Arguments} {body : List Stmt} {scope : Scope} {f : Addr} {fd : FuncData} {N ps : List Str} {k : Nat} {p : DSp}
theorem DF.raw (F : DF P w K mg base C k f fd ps p) (hb : Binds K fd ps []) (hl : ∀ ds m Q E, p ds m Q E → ds.length = ps.length) : DRp P w K mg base C k f p :=
  ⟨F.mono, (F.ok.raw hb .nil).imp fun vs H Q E ⟨n, m, ds, e, g, z, h⟩ => by
    rw [List.append_nil]
    exact ⟨by rw [z.length]; exact hl _ _ _ _ h, n, m, ds, e, g, z, h⟩⟩
theorem AftD.back {n n2 : Nw} {Q : VK} (l : n.le n2) {d : Dat} {m : Mem} (h : AftD C w K n Q d m) : AftD C w K n2 Q d m := fun n3 v g3 l3 hz => h n3 v g3 (l.trans l3) hz
theorem AftX.back {n n2 : Nw} {E : XK} (l : n.le n2) {c : Nat} {xs : List Dat} {m : Mem} (h : AftX C w K n E c xs m) : AftX C w K n2 E c xs m := fun n3 dx vs g3 l3 hx hz => h n3 dx vs g3 (l.trans l3) (hx.base l) hz
theorem FzAll.takeN {n : Nw} {vs : List V} {ds : List Dat} (a : Nat) (h : FzAllN C w K n vs ds) : FzAllN C w K n (vs.take a) (ds.take a) := h.take a
theorem fz_snoc {n : Nw} : ∀ {vs : List V} {ds : List Dat} {v : V} {d : Dat}, FzAllN C w K n vs ds → FzN C w K n v d → FzAllN C w K n (vs ++ [v]) (ds ++ [d])
  | _, _, _, _, .nil, h => .cons h .nil
  | _, _, _, _, .cons a r, h => .cons a (fz_snoc r h)
/-- THE RULE for a def with a star -/
theorem dr_star {pv : Str} {d : QXe → TSd} (F : FunD K x qual params body scope [] [] f fd) (S : FnScope N (ps ++ [pv]) scope) (mono : MonoP p) (len : ∀ ds m Q E, p ds m Q E → ds.length = ps.length + 1)
    (hb : ∀ (kV doc pm : Value) (an : Option Addr) (cdv ct : Value) (us rest : List Value), us.length = ps.length → bindArgs (PySem.W.fnOf x qual params body scope .none kV doc pm an cdv ct) ⟨us ++ rest, []⟩ = (newTuple rest >>= fun t => pure (ps.zip us ++ [(pv, t)])))
    (walk : ∀ (cdv : Value) (A : Around) (outer : List Env) (s : Shared) (H : Hp) (E : XK) (B : Nw) (EX : QXe), Room k (A.deeper (envOfC qual scope s.heap.objs.size f cdv)) → TakesD (cxOf (L2.CX P w) P w K mg base N qual scope f cdv A outer s H E) C B EX →
      DSs (cxOf (L2.CX P w) P w K mg base N qual scope f cdv A outer s H E) C B body (d EX))
    (law : ∀ ds m (Q : QD) (E : QX), p ds m Q E → d (fun c xs _ m => E c xs m) { nx := fun _ m => Q .non m, rt := Q } (env0 N.length ds) m) : DRp P w K mg base C (k + 1) f (pStar ps.length p) := by
  refine ⟨pStar.mono mono, ?_⟩
  obtain ⟨oc, od, dV, kV, doc, pm, an, cdv, ct, osl, rfl, lk, hcd, hD, _⟩ := F.ex
  have hd : dV = .none := by
    rcases hD with ⟨_, e⟩ | ⟨e, _⟩
    · exact e
    · exact absurd rfl e
  subst hd
  refine (StX.fn_star (CX := L2.CX P w) (sp := spD C w K (ps.length + 1) p) lk hcd S StX.cxUp (hb kV doc pm an cdv ct) fun A outer s H vs Q E hr h => ?_).imp fun vs H Q E ⟨n, m, ds, e, g, z, h1, h2, h3⟩ => ?_
  · obtain ⟨hl, n, m, ds, rfl, g, hz, h⟩ := h
    let X := cxOf (L2.CX P w) P w K mg base N qual scope f cdv A outer s n.H E
    have ok : Ok C w K n n (env0 N.length ds) m (L2.start N vs) := ⟨g, .refl _, env_start hz⟩
    have tk : Takes X (fun cls dx _ H => E cls dx H) := takes_of rfl rfl rfl rfl
    have pd : TakesD X C n (fun c xs _ m' => AftX C w K n E c xs m') := tk.imp (fun cls dx σ' H' hq => by
      obtain ⟨n', env', m', c, xs, us, rfl, ok', rfl, hx, hu, hE⟩ := hq
      exact hE n' dx us ok'.good ok'.base hx hu)
    have W := walk cdv A outer s n.H E n (fun c xs _ m' => AftX C w K n E c xs m') hr pd
    refine ⟨_, W.run, n, _, m, rfl, ok, ?_⟩
    refine W.mono _ _ { nx := fun _ m => AftD C w K n Q .non m, rt := AftD C w K n Q } _ ⟨fun e1 m1 h1 n1 σ1 _ ok1 => ?_, fun d1 m1 h1 n1 v1 l1 g1 hv => ?_, fun _ _ h1 => h1.elim, fun _ _ h1 => h1.elim⟩ (law ds m (AftD C w K n Q) (AftX C w K n E) h)
    · exact h1 n1 .non ok1.good ok1.base .non
    · exact h1 n1 v1 g1 l1 hv
  · subst e
    have hl := z.length
    refine ⟨vs.take ps.length, vs.drop ps.length, (List.take_append_drop _ _).symm, by rw [List.length_take]; omega, by rw [List.length_drop] at h2 ⊢; omega, fun q hq => ?_⟩
    obtain ⟨g3, l3⟩ := g.freeze (o := .tup (vs.drop ps.length)) hq
    refine ⟨by rw [List.length_append, List.length_take, List.length_singleton]; omega, _, m, ds.take ps.length ++ [.tup (ds.drop ps.length)], rfl, g3, ?_, mono _ _ _ _ _ _ (fun d m2 => AftD.back l3) (fun c xs m2 => AftX.back l3) h3⟩
    exact fz_snoc (FzAllN.le (z.take _) l3) (.tup (SqT.of upd_same) (FzAllN.le (z.drop _) l3))
end
/-- a classmethod that can be called on class c -/
structure CmC (P : Program) (w : World) (K : PySem.W.Frag) (mg : Str → Option Value) (base : Heap) (C : Ct) (c : Nat) (x : Str) (k : Nat) (p : DSp) : Prop where
  ex : ∃ mc q g, ClX.CRead K (C.addr c) mc ∧ ClX.CMet K (C.addr c) mc x q g ∧ DRp P w K mg base C k g p
section
variable {X : Cx} {C : Ct} {B : Nw} {k j c : Nat} {p : DSp} {EX : QXe} {x y : Str} {pos apos np : Pos} {o e : Expr} {es : List Expr} {da : TAd}
/-- C.m(e, ..) -/
def dCm (c : Nat) (p : DSp) (EX : QXe) (da : TAd) : TD := fun env m Q => da env m fun xs m1 => match frs xs with
  | some ds => p (.cls c :: ds) m1 (fun d m2 => Q (.f d) m2) (fun c ys m2 => EX c ys env m2)
  | none => False
theorem dCm.mono (hp : MonoP p) (ha : MonoA da) : MonoD (dCm c p EX da) := fun env m Q Q' i => ha _ _ _ _ fun xs m1 => by
  split
  · exact hp _ _ _ _ _ _ (fun d m2 => i _ _) fun _ _ _ h => h
  · exact id
theorem run_fnRA {CX : CXT} {k : Nat} {f : Addr} {sp : Sp} {E : XK} {Q : VK} {us : List Value} {vs : List V} {pins : List (Addr × Obj)} {σ : L2.St} {H : Hp} {s : Shared} (F : FnR X.prog X.w X.K X.mg X.base CX k f sp) (hr : Room k X.A) (px : PassesAt CX X σ E) (I : Inv X pins σ H s) (r : Vals vs us) (h : sp vs H Q E) :
    codeAny (model X.prog X.w) X.A (.call (.ref f) ⟨us, []⟩) (fun r s' => match r with | .ok (.ret v) => EP X pins σ Q v s' | .ok _ => False | .error e => X.xe e s') s := by
  refine codeAny_mono (F X.A X.stack s H us vs Q E hr I.env0 r h) fun r s' hq => ?_
  cases r with
  | error e => exact px pins H s e s' I hq
  | ok fl =>
    cases fl with
    | ret u => exact I.after hq
    | next => exact False.elim hq
    | brk => exact False.elim hq
    | cont => exact False.elim hq
theorem run_cmA {CX : CXT} {k : Nat} {q g : Addr} {cv : Addr} {sp : Sp} {E : XK} {Q : VK} {us : List Value} {vs : List V} {pins : List (Addr × Obj)} {σ : L2.St} {H : Hp} {s : Shared} (F : FnR X.prog X.w X.K X.mg X.base CX k g sp) (hr : Room k X.A) (px : PassesAt CX X σ E) (I : Inv X ((q, PySem.W.methodObj (.ref g) (.ref cv)) :: pins) σ H s)
    (r : Vals vs us) (h : sp (.ref cv :: vs) H Q E) : wpAny (model X.prog X.w) X.A (call (.ref q) us) (EP X pins σ Q) X.xe s := by
  have z : wpAny (model X.prog X.w) X.A (call (.ref q) us) (EP X ((q, PySem.W.methodObj (.ref g) (.ref cv)) :: pins) σ Q) X.xe s :=
    wpAny_call (PySem.W.method_call (ClX.pin_at I) (run_fnRA (us := .ref cv :: us) (vs := .ref cv :: vs) F hr px I (.cons rfl r) h))
  exact thn z fun _ _ y => ClX.unpinE y
theorem de_cm {pl : Sem Bool} (M : CmC X.prog X.w X.K X.mg X.base C c x j p) (ho : DE X C B o (dC (.cls c))) (hr : Room k X.A) (h : j ≤ k) (ha : DA X C B (e :: es) da) (px : PassD X C B EX)
    (hst : starEach (e :: es) X.env = (false, eval e X.env) :: starEach es X.env := by rfl) (hpl : (backTo pos (starEach es X.env)).any (·.1) = false := by rfl)
    (ht : eval (.Call (.Attribute o x apos) (e :: es) [] pos) X.env = (do
        let ov ← eval o X.env
        standAt apos.atName
        let (f, first) ← holding [ov] (getMethod ov x pl)
        callWith pos f first (backTo pos (starEach (e :: es) X.env)) (backToKw pos (keywordEach [] X.env))) := by rfl) :
    DE X C B (.Call (.Attribute o x apos) (e :: es) [] pos) (dCm c p EX da) := by
  obtain ⟨mc, q, g, rd, cm, F⟩ := M.ex
  refine ⟨dCm.mono F.mono ha.mono, ⟨fun pins s σ H Q I h0 => ?_⟩⟩
  obtain ⟨n, env, m, rfl, ok, h0⟩ := h0
  refine PySem.W.methodCall_KW (pl := pl) (thn (ho.run.run pins s σ n.H (fun v H1 => v = .ref (C.addr c) ∧ ∃ n1, n1.H = H1 ∧ Good C X.w X.K n1 m ∧ n.le n1) I ⟨n, env, m, rfl, ok, fun n1 v g1 l1 lz => ?_⟩) fun u s1 ⟨v, H1, I1, rv, ev, n1, eH, g1, l1⟩ => ?_) ht
  · have lz' : FzN C X.w X.K n1 v (.cls c) := lz
    cases lz'
    exact ⟨rfl, n1, rfl, g1, l1⟩
  · subst ev eH
    cases rv
    refine ClX.getmethcm_ok I1 rd cm fun s2 I2 => ?_
    refine ClX.callwith_cm I2 (ClX.base_none I1 (Nat.le_refl _)) cm.fi (thn (ha.run.run pos _ s2 σ n1.H (fun vs H2 => ∃ n2 m2 ds, n2.H = H2 ∧ Good C X.w X.K n2 m2 ∧ n1.le n2 ∧ FzAllN C X.w X.K n2 vs ds ∧
      p (.cls c :: ds) m2 (fun r m3 => AftL C X.w X.K n env σ Q (.f r) m3) (fun c ys m3 => EX c ys env m3)) I2 ⟨n1, env, m, rfl, ok.go g1 l1, ha.mono _ _ _ _ (fun xs m2 q2 n2 vs2 g2 l2 lxs => ?_) h0⟩)
        fun us s3 ⟨vs2, H2, I3, r2, n2, m2, ds, eH2, g2, l2, hz, q2⟩ => ⟨⟨ClX.pin_at I3, I3.kIn⟩, ?_⟩) hst hpl
    · split at q2
      · rename_i ds hd
        exact ⟨n2, m2, ds, rfl, g2, l2, frs_ok lxs hd, q2⟩
      · exact q2.elim
    · subst eH2
      refine run_cmA F.ok (hr.mono h) (px σ) I3 r2 ?_
      exact ⟨n2, m2, .cls c :: ds, rfl, g2, .cons (.cls c) hz, F.mono _ _ _ _ _ _ (fun r m3 q3 n3 v3 g3 l3 lv => q3 n3 v3 g3 (l1.trans (l2.trans l3)) lv) (fun c ys m3 q3 => err_at ok (l1.trans l2) q3) q2⟩
/-- C.m() -/
theorem de_cm0 {pl : Sem Bool} (M : CmC X.prog X.w X.K X.mg X.base C c x j p) (ho : DE X C B o (dC (.cls c))) (hr : Room k X.A) (h : j ≤ k) (px : PassD X C B EX)
    (ht : eval (.Call (.Attribute o x apos) [] [] pos) X.env = (do
        let ov ← eval o X.env
        standAt apos.atName
        let (f, first) ← holding [ov] (getMethod ov x pl)
        callWith pos f first (backTo pos (starEach [] X.env)) (backToKw pos (keywordEach [] X.env))) := by rfl) :
    DE X C B (.Call (.Attribute o x apos) [] [] pos) (dCm c p EX dNil) := by
  obtain ⟨mc, q, g, rd, cm, F⟩ := M.ex
  refine ⟨dCm.mono F.mono (fun _ _ _ _ i => i _ _), ⟨fun pins s σ H Q I h0 => ?_⟩⟩
  obtain ⟨n, env, m, rfl, ok, h0⟩ := h0
  refine PySem.W.methodCall_KW (pl := pl) (thn (ho.run.run pins s σ n.H (fun v H1 => v = .ref (C.addr c) ∧ ∃ n1, n1.H = H1 ∧ Good C X.w X.K n1 m ∧ n.le n1) I ⟨n, env, m, rfl, ok, fun n1 v g1 l1 lz => ?_⟩) fun u s1 ⟨v, H1, I1, rv, ev, n1, eH, g1, l1⟩ => ?_) ht
  · have lz' : FzN C X.w X.K n1 v (.cls c) := lz
    cases lz'
    exact ⟨rfl, n1, rfl, g1, l1⟩
  · subst ev eH
    cases rv
    refine ClX.getmethcm_ok I1 rd cm fun s2 I2 => ?_
    refine PySem.W.callWith_M0 (first := []) (K := X.K) (self := .ref (C.addr c)) ⟨ClX.pin_at I2, I2.kIn⟩ cm.fi ?_
    refine run_cmA (us := []) (vs := []) F.ok (hr.mono h) (px σ) I2 .nil ?_
    have h0' : p [.cls c] m (fun d m2 => AftL C X.w X.K n env σ Q (.f d) m2) (fun c ys m2 => EX c ys env m2) := h0
    exact ⟨n1, m, [.cls c], rfl, g1, .cons (.cls c) .nil, F.mono _ _ _ _ _ _ (fun r m3 q3 n3 v3 g3 l3 lv => q3 n3 v3 g3 (l1.trans l3) lv) (fun c ys m3 q3 => err_at ok l1 q3) h0'⟩
/-- x(e, ..), x a local name that holds class c -/
def dMakeV (i c nf : Nat) (p : DSp) (EX : QXe) (da : TAd) : TD := fun env m Q => env[i]? = some (some (.f (.cls c))) ∧ dMakeF c nf p EX da env m Q
theorem de_makeV {i nf : Nat} {f : Addr} {fd : FuncData} {ps : List Str} (M : Mk X.K (C.addr c) f) (F : DF X.prog X.w X.K X.mg X.base C j f fd ps p) (hl : ∀ ds m Q E, p ds m Q E → ds.length = ps.length) (hf : (C.flds c).length = nf) (hr : Room (j + 1) X.A) (hN : X.N[i]? = some x) (hv : Vis X.env.scope x) (hb : Binds X.K fd ps []) (hx : PassD X C B EX) (ha : DA X C B (e :: es) da)
    (hdb : (x == ("__debug__" : Str)) = false := by decide) (hcd : (x == ("__classdict__" : Str)) = false := by decide)
    (he : starEach (e :: es) X.env = (false, eval e X.env) :: starEach es X.env := by rfl) (hpl : (backTo pos (starEach es X.env)).any (·.1) = false := by rfl) :
    DE X C B (.Call (.Name x np) (e :: es) [] pos) (dMakeV i c nf p EX da) := by
  refine ⟨fun env m Q Q' g ⟨h1, h2⟩ => ⟨h1, dMakeF.mono F.mono ha.mono _ _ _ _ g h2⟩, ⟨fun pins s σ H Q I h => ?_⟩⟩
  obtain ⟨n, env, m, rfl, ok, he1, h⟩ := h
  have hs : σ[i]? = some (some (V.ref (C.addr c))) := by
    obtain ⟨v, f, z⟩ := ok.env.fz i (.cls c) he1
    cases z
    exact f
  have ht := makeF_imp (X := X) (ps := ps) F.mono ha.mono hl hf σ n.H Q ⟨n, env, m, rfl, ok, h⟩
  refine wpAny_Call_Name_kw (thn ((pe_var (pos := np) hN hv hdb hcd).run pins s σ n.H (fun v H1 => v = .ref (C.addr c) ∧ H1 = n.H) I ⟨_, hs, rfl, rfl⟩) fun u s1 ⟨v, H1, I1, r1, q1⟩ => ?_)
  obtain ⟨rfl, rfl⟩ := q1
  cases r1
  refine PySem.W.callWith_K (h₀ := X.base) I1.ok.mod.kin M.kp (thn (ha.run.run pos pins s1 σ _ _ I1 ht) fun us s2 ⟨vs, H2, I2, r, q⟩ => ⟨I2.kIn, ?_⟩) he hpl
  exact run_makeS M F.ok hr hb (hx σ) I2 r q
end
end DL

set_option maxHeartbeats 2000000
namespace DL
open PySem PySem.Spec PyProof.Rows L2

/-- with the table of the interpreter's statics (classmethods are read with a look there) -/
def obsSG (n : Nat) (ex : List Fk) (fn : List DefX) (g : Addr → Option Obj) : AlY := obsY ex fn (He.frG g (asX g n ++ [PySem.cStatics]))
def hookS (n : Nat) (ex : List Fk) (fn : List DefX) : PySem.W.Hook where
  α := AlY
  obs := fun s => obsSG n ex fn s.heap.get?
  val := fun _ => valY fn
  says := fun _ h => ∃ K : PySem.W.Frag, K.In h ∧ SaysY ex fn K
  of := fun _ _ e => ⟨_, He.frG_in, e⟩
  keeps := fun _ _ _ ⟨K, inK, c⟩ k => ⟨K, PySem.W.Frag.In.keeps inK k, c⟩
theorem obsSG_eq {n : Nat} {ex : List Fk} {fn : List DefX} {g : Addr → Option Obj} {s : Shared} (h : ∀ a, g a = s.heap.get? a) : obsSG n ex fn g = (hookS n ex fn).obs s := by
  have e : g = s.heap.get? := funext h
  rw [e] <;> rfl
/-! ### looks at classmethods; cls(..); max of three ints -/
def Tab.cmC (t : Tab) (c : Nat) (x : Str) (K : PySem.W.Frag) : Bool := PySem.W.readsIn K (t.at K c) (.type "type") && (decide (PySem.W.specialIn K (.ref (t.at K c)) "__getattribute__" = some (some (.builtin "type.__getattribute__"))) &&
  ((match PySem.W.findCls K (.ref (t.at K c)) (.type "type") x with
  | some (.get g a o d) => decide (g = .builtin "classmethod.__get__") && (decide (a = .ref (He.fAd K (t.names.getD c Str.empty, some x))) && (decide (o = .none) && decide (d = .ref (t.at K c))))
  | _ => false) && ((match PySem.W.recIn K (He.fAd K (t.names.getD c Str.empty, some x)) "classmethod" with
  | some (.ref _ :: _) => true
  | _ => false) && PySem.W.fnIn K (recF K "classmethod" (He.fAd K (t.names.getD c Str.empty, some x))))))
section
variable {P : Program} {w : World} {K : PySem.W.Frag} {mg : Str → Option Value} {base : Heap} {t : Tab} {c k : Nat} {y x : Str} {ps : List Str} {p : DSp}
theorem Tab.cm_ok (h : t.cmC c x K = true) (hy : t.names.getD c Str.empty = y) (F : DRp P w K mg base (t.ct K) k ((Wh.c y x).ad K) p) : CmC P w K mg base (t.ct K) c x k p := by
  subst hy
  obtain ⟨q1, h⟩ := and2 h
  obtain ⟨q2, h⟩ := and2 h
  obtain ⟨q3, h⟩ := and2 h
  obtain ⟨q4, q5⟩ := and2 h
  refine ⟨.type "type", He.fAd K (t.names.getD c Str.empty, some x), _, ⟨q1, of_decide_eq_true q2⟩, ⟨?_, ?_, q5⟩, F⟩
  · show PySem.W.findCls K (.ref (t.at K c)) (.type "type") x = _
    revert q3
    cases PySem.W.findCls K (.ref (t.at K c)) (.type "type") x with
    | none => intro q; cases q
    | some f =>
      cases f with
      | val v => intro q; cases q
      | get g a o d =>
        intro q
        obtain ⟨z1, q⟩ := and2 q
        obtain ⟨z2, q⟩ := and2 q
        obtain ⟨z3, z4⟩ := and2 q
        rw [of_decide_eq_true z1, of_decide_eq_true z2, of_decide_eq_true z3, of_decide_eq_true z4]
        rfl
  · show ∃ rest, PySem.W.recIn K _ "classmethod" = some (.ref (recF K "classmethod" _) :: rest)
    unfold recF
    cases e : PySem.W.recIn K (He.fAd K (t.names.getD c Str.empty, some x)) "classmethod" with
    | none => rw [e] at q4; cases q4
    | some l =>
      rw [e] at q4
      cases l with
      | nil => cases q4
      | cons a r =>
        cases a with
        | ref g => exact ⟨r, rfl⟩
        | _ => cases q4
theorem PrC.mono {C : Ct} (h : PrC P w K mg base C c x k p) : MonoP p := by
  obtain ⟨_, _, _, _, _, F, _, _⟩ := h.ex
  exact F.mono
theorem CmC.mono {C : Ct} (h : CmC P w K mg base C c x k p) : MonoP p := by
  obtain ⟨_, _, _, _, _, F⟩ := h.ex
  exact F.mono
end
section
variable {X : Cx} {C : Ct} {B : Nw} {k j c nf : Nat} {ps : List Str} {p : DSp} {EX : QXe} {x z : Str} {np pos : Pos} {e : Expr} {es : List Expr} {da : TAd}
theorem de_mkV {i : Nat} (M : MkC X.prog X.w X.K X.mg X.base C z c nf j ps p) (hr : Room k X.A) (h : j + 1 ≤ k) (ha : DA X C B (e :: es) da) (hx : PassD X C B EX)
    (hN : X.N[i]? = some x := by rfl) (hv : Vis X.env.scope x := by first | exact Or.inl rfl | exact Or.inr (Or.inl rfl) | exact Or.inr (Or.inr rfl))
    (hdb : (x == ("__debug__" : Str)) = false := by decide) (hcd : (x == ("__classdict__" : Str)) = false := by decide)
    (he : starEach (e :: es) X.env = (false, eval e X.env) :: starEach es X.env := by rfl) (hpl : (backTo pos (starEach es X.env)).any (·.1) = false := by rfl) :
    DE X C B (.Call (.Name x np) (e :: es) [] pos) (dMakeV i c nf p EX da) :=
  de_makeV M.M M.F M.hl M.nf (hr.mono (by omega)) hN hv M.hb hx ha hdb hcd he hpl
theorem dMakeV.mono {i : Nat} (hp : MonoP p) (ha : MonoA da) : MonoD (dMakeV i c nf p EX da) := fun env m Q Q' g ⟨h1, h2⟩ => ⟨h1, dMakeF.mono hp ha _ _ _ _ g h2⟩
end
def oI3 (f : Int → Int → Int → Int) : OpN := fun _ m xs Q => match xs with
  | [.f (.int i), .f (.int j), .f (.int k)] => Q (.int (f i j k)) m
  | _ => False
theorem oI3.mono {f : Int → Int → Int → Int} : MonoN (oI3 f) := fun env m xs Q Q' i => by
  unfold oI3
  split
  · exact i _ _
  · exact id
def max3 (i j k : Int) : Int := if (if i < j then j else i) < k then k else (if i < j then j else i)
theorem nu_max3 (i j k : Int) : L2.nuMax3 (.int i) (.int j) (.int k) = some (.int (max3 i j k)) := by
  unfold max3
  show ((if decide (i < j) = true then V.int j else V.int i) |> fun m => L2.nuMax2 m (.int k)) = _
  by_cases h : i < j
  · rw [if_pos (decide_eq_true h), if_pos h]
    show some (if decide (j < k) = true then V.int k else V.int j) = _
    by_cases h2 : j < k
    · rw [if_pos (decide_eq_true h2), if_pos h2]
    · rw [if_neg (by simpa using h2), if_neg h2]
  · rw [if_neg (by simpa using h), if_neg h]
    show some (if decide (i < k) = true then V.int k else V.int i) = _
    by_cases h2 : i < k
    · rw [if_pos (decide_eq_true h2), if_pos h2]
    · rw [if_neg (by simpa using h2), if_neg h2]
section
variable {X : Cx} {C : Ct}
theorem call_max3D (hc : X.calm = true) : CallD X C (.builtin "max") (oI3 max3) := by
  refine ⟨oI3.mono, fun pins s σ H vs us Q I rv q => ?_⟩
  obtain ⟨B, n, env, m, σ', xs, rfl, ok, lx, q⟩ := q
  unfold oI3 at q
  split at q
  · rename_i i j k
    cases lx with
    | cons l1 r =>
      cases r with
      | cons l2 r =>
        cases r with
        | cons l3 r =>
          cases r
          rename_i v1 v2 v3
          have l1 : FzN C X.w X.K n v1 (.int i) := l1
          have l2 : FzN C X.w X.K n v2 (.int j) := l2
          have l3 : FzN C X.w X.K n v3 (.int k) := l3
          cases l1
          cases l2
          cases l3
          exact call_max3Nu hc pins s σ n.H _ us Q I rv ⟨_, _, _, _, rfl, nu_max3 i j k, q n _ ok.good (.refl _) (.int _)⟩
  · exact q.elim
end
end DL

set_option maxHeartbeats 1000000
namespace DL
open PySem PySem.Spec PyProof.Rows L2

/-! ### plain parts: words -/
theorem lc_map {i : Nat} {de : TD} {env : Env'} {f : Dat → Dat} : ∀ {xs : List Dat} {m : Mem} {Q : List Dat → Mem → Prop}, (∀ x ∈ xs, ∀ Q : QL, Q (.f (f x)) m → de (env.set i (some (.f x))) m Q) → Q (xs.map f) m → lcGo (.nm i) dYes de env xs m Q
  | [], m, Q, _, h => h
  | x :: xs, m, Q, hd, h => by
    unfold lcGo
    refine hd x (by simp) _ ?_
    exact lc_map (Q := fun ds m' => Q (f x :: ds) m') (fun y hy => hd y (by simp [hy])) h
theorem lc_filter {i : Nat} {dt : TB} {de : TD} {env : Env'} {f : Dat → Dat} {g : Dat → Bool} : ∀ {xs : List Dat} {m : Mem} {Q : List Dat → Mem → Prop}, (∀ x ∈ xs, ∀ Q : Bool → Mem → Prop, Q (g x) m → dt (env.set i (some (.f x))) m Q) → (∀ x ∈ xs, g x = true → ∀ Q : QL, Q (.f (f x)) m → de (env.set i (some (.f x))) m Q) →
    Q ((xs.filter g).map f) m → lcGo (.nm i) dt de env xs m Q
  | [], m, Q, _, _, h => h
  | x :: xs, m, Q, ht, hd, h => by
    unfold lcGo
    refine ht x (by simp) _ ?_
    cases hg : g x with
    | true =>
      rw [if_pos rfl]
      refine hd x (by simp) hg _ ?_
      refine lc_filter (g := g) (f := f) (Q := fun ds m' => Q (f x :: ds) m') (fun y hy => ht y (by simp [hy])) (fun y hy => hd y (by simp [hy])) ?_
      rw [List.filter_cons_of_pos hg] at h
      exact h
    | false =>
      rw [if_neg (by decide)]
      refine lc_filter (g := g) (f := f) (fun y hy => ht y (by simp [hy])) (fun y hy => hd y (by simp [hy])) ?_
      rw [List.filter_cons_of_neg (by simp [hg])] at h
      exact h
/-- a comprehension with an invariant -/
theorem lc_inv {tg : Tg} {dt : TB} {de : TD} {env : Env'} (I : Nat → List Dat → Mem → Prop) : ∀ {xs : List Dat} {k : Nat} {acc : List Dat} {m : Mem} {Q : List Dat → Mem → Prop}, I k acc m →
    (∀ j x acc m, xs[j]? = some x → I (k + j) acc m → ∃ env2, bind tg (.f x) env = some env2 ∧ dt env2 m fun b m1 => if b = true then de env2 m1 fun y m2 => match y with
      | .f d => I (k + j + 1) (acc ++ [d]) m2
      | .o _ => False
      else I (k + j + 1) acc m1) → MonoB dt → MonoD de → (∀ ds m', I (k + xs.length) (acc ++ ds) m' → Q ds m') → lcGo tg dt de env xs m Q
  | [], k, acc, m, Q, h0, _, _, _, hq => hq [] m (by simpa using h0)
  | x :: xs, k, acc, m, Q, h0, hs, mt, md, hq => by
    obtain ⟨env2, hb, h1⟩ := hs 0 x acc m rfl h0
    unfold lcGo
    rw [hb]
    refine mt _ _ _ _ (fun b m1 h2 => ?_) h1
    have step : ∀ (acc : List Dat) (m1 : Mem) (Q1 : List Dat → Mem → Prop), I (k + 0 + 1) acc m1 → (∀ ds m', I (k + 1 + xs.length) (acc ++ ds) m' → Q1 ds m') → lcGo tg dt de env xs m1 Q1 := fun acc m1 Q1 h3 h4 =>
      lc_inv I (k := k + 1) (acc := acc) h3 (fun j y acc m hy hi => by
        have := hs (j + 1) y acc m (by simpa using hy) (by rw [show k + (j + 1) = k + 1 + j by omega]; exact hi)
        rw [show k + (j + 1) = k + 1 + j by omega] at this
        exact this) mt md h4
    cases b with
    | true =>
      rw [if_pos rfl] at h2 ⊢
      refine md _ _ _ _ (fun y m2 h3 => ?_) h2
      cases y with
      | f d => exact step _ _ _ h3 fun ds m' h4 => hq (d :: ds) m' (by
          rw [List.append_assoc] at h4
          rw [List.length_cons, show k + (xs.length + 1) = k + 1 + xs.length by omega]
          exact h4)
      | o j => exact h3
    | false =>
      rw [if_neg (by decide)] at h2 ⊢
      exact step _ _ _ h2 fun ds m' h4 => hq ds m' (by
          rw [List.length_cons, show k + (xs.length + 1) = k + 1 + xs.length by omega]
          exact h4)
/-- a for with an invariant -/
theorem for_inv {tg : Tg} {tb : TSd} {D : En} (I : Nat → Env' → Mem → Prop) (mb : MonoS tb) : ∀ {xs : List Dat} {k : Nat} {env : Env'} {m : Mem}, I k env m →
    (∀ j x env m, xs[j]? = some x → I (k + j) env m → ∃ env2, bind tg (.f x) env = some env2 ∧ tb { D with nx := I (k + j + 1), ct := I (k + j + 1), bk := D.nx } env2 m) → (∀ env m, I (k + xs.length) env m → D.nx env m) → forGo tg tb D xs env m
  | [], k, env, m, h0, _, hq => hq _ _ (by simpa using h0)
  | x :: xs, k, env, m, h0, hs, hq => by
    obtain ⟨env2, hb, h1⟩ := hs 0 x env m rfl h0
    unfold forGo
    rw [hb]
    have step : ∀ env m, I (k + 0 + 1) env m → forGo tg tb D xs env m := fun env m h3 =>
      for_inv I mb (k := k + 1) h3 (fun j y env m hy hi => by
        have := hs (j + 1) y env m (by simpa using hy) (by rw [show k + (j + 1) = k + 1 + j by omega]; exact hi)
        rw [show k + (j + 1) = k + 1 + j by omega] at this
        exact this) fun env m h4 => hq env m (by
          rw [List.length_cons, show k + (xs.length + 1) = k + 1 + xs.length by omega]
          exact h4)
    exact mb env2 m { D with nx := I (k + 0 + 1), ct := I (k + 0 + 1), bk := D.nx } _ ⟨step, fun _ _ h => h, fun _ _ h => h, step⟩ h1
theorem all_int {k : Nat} : ∀ ns : List Int, (ns.map Dat.int).all (okN k) = true
  | [] => rfl
  | n :: ns => by
    have h : okN k (.int n) = true := by cases k <;> rfl
    rw [List.map_cons, List.all_cons, h, all_int ns]
    rfl
theorem all_intR {k : Nat} : ∀ ns : List Int, (∀ n ∈ ns, n.natAbs.log2 < 1920) → (ns.map Dat.int).all (okR k) = true
  | [], _ => rfl
  | n :: ns, h => by
    have h1 : okR k (.int n) = true := by
      have := h n (by simp)
      cases k <;> exact decide_eq_true this
    rw [List.map_cons, List.all_cons, h1, all_intR ns fun x hx => h x (by simp [hx])]
    rfl
theorem der_ok60 {k : Nat} {env : Env'} {m : Mem} {a : Dat} (h : okN k a = true) : der env m (.f a) = some a := by
  cases a <;> first | rfl | (cases k <;> cases h)
theorem oIn_l {f : Bool → Bool} {env : Env'} {m : Mem} {a : Dat} {bs : List Dat} {Q : QD} (ha : okN 60 a = true) (hb : bs.all (okN 59) = true) (h : Q (.bl (f (bs.any fun b => eqd b a))) m) : oIn f env m (.f a) (.f (.lst bs)) Q := by
  unfold oIn
  rw [der_ok60 ha]
  exact ⟨ha, hb, h⟩
theorem oIn_o {f : Bool → Bool} {env : Env'} {m : Mem} {a : Dat} {i : Nat} {bs : List Dat} {Q : QD} (hi : env[i]? = some (some (.own (.lst bs)))) (ha : okN 60 a = true) (hb : bs.all (okN 59) = true) (h : Q (.bl (f (bs.any fun b => eqd b a))) m) : oIn f env m (.f a) (.o i) Q := by
  unfold oIn
  have e : seqOf env m (.o i) = some bs := by
    unfold seqOf der
    simp only [hi]
    rfl
  rw [der_ok60 ha, e]
  exact ⟨ha, hb, h⟩
theorem oEq_l {f : Bool → Bool} {env : Env'} {m : Mem} {a b : Dat} {Q : QD} (ha : okN 60 a = true) (hb : okN 60 b = true) (h : Q (.bl (f (eqd a b))) m) : oEq f env m (.f a) (.f b) Q := by
  unfold oEq
  rw [der_ok60 ha, der_ok60 hb]
  exact ⟨ha, hb, h⟩
theorem ixN_nat {n j : Nat} (h : j < n) : ixN n (j : Int) = some j := by
  unfold ixN
  rw [if_pos (by omega), if_pos (by omega)]
  simp
theorem atI0 {α : Type} (a : α) (l : List α) : atI (a :: l) 0 = some a := by
  unfold atI ixN
  rw [if_pos (by decide), if_pos (by simp only [List.length_cons]; omega)]
  rfl
theorem atI1 {α : Type} (a b : α) (l : List α) : atI (a :: b :: l) 1 = some b := by
  unfold atI ixN
  rw [if_pos (by decide), if_pos (by simp only [List.length_cons]; omega)]
  rfl
theorem atI2 {α : Type} (a b c : α) (l : List α) : atI (a :: b :: c :: l) 2 = some c := by
  unfold atI ixN
  rw [if_pos (by decide), if_pos (by simp only [List.length_cons]; omega)]
  rfl
theorem atI_nat {α : Type} {l : List α} {i : Nat} {a : α} (h : l[i]? = some a) : atI l (i : Int) = some a := by
  unfold atI
  rw [ixN_nat (List.getElem?_eq_some_iff.mp h).1]
  exact h
theorem atI_int {α : Type} {l : List α} {i : Int} (h0 : 0 ≤ i) (h1 : i < l.length) : ∃ a, atI l i = some a ∧ l[i.toNat]? = some a := by
  have hl : i.toNat < l.length := by omega
  refine ⟨l[i.toNat], ?_, List.getElem?_eq_getElem hl⟩
  have := atI_nat (l := l) (i := i.toNat) (List.getElem?_eq_getElem hl)
  rw [show ((i.toNat : Nat) : Int) = i by omega] at this
  exact this
theorem log2_lt {n k : Nat} (hk : 0 < k) (h : n < 2 ^ k) : n.log2 < k := by
  by_cases h0 : n = 0
  · subst h0; simpa using hk
  · exact (Nat.log2_lt h0).mpr h
theorem sz {n : Nat} (h : n ≤ 16777216) : n ≤ sizeLine := by rw [sizeLine_eq]; exact h
end DL

set_option maxHeartbeats 1000000
namespace DL
open PySem PySem.Spec PyProof.Rows L2

/-! ### plain values: an expression gives v and changes nothing -/
def Ev (d : TD) (env : Env') (m : Mem) (v : Lv) : Prop := ∀ Q : QL, Q v m → d env m Q
def EvB (d : TB) (env : Env') (m : Mem) (b : Bool) : Prop := ∀ Q : Bool → Mem → Prop, Q b m → d env m Q
def EvA (d : TAd) (env : Env') (m : Mem) (vs : List Lv) : Prop := ∀ Q : List Lv → Mem → Prop, Q vs m → d env m Q
def EvN (d : TN) (env : Env') (m : Mem) (xs : List Dat) : Prop := ∀ Q : List Dat → Mem → Prop, Q xs m → d env m Q
def EvI (d : TId) (env : Env') (m : Mem) (xs : List Dat) : Prop := ∀ Q : List Dat → Mem → Prop, Q xs m → d env m Q
def EvO (d : TOd) (env : Env') (m : Mem) (i : Option Int) : Prop := ∀ Q : Option Int → Mem → Prop, Q i m → d env m Q
def Ev1 (f : Op1) (env : Env') (m : Mem) (x : Lv) (z : Dat) : Prop := ∀ Q : QD, Q z m → f env m x Q
def Ev2 (f : Op2) (env : Env') (m : Mem) (x y : Lv) (z : Dat) : Prop := ∀ Q : QD, Q z m → f env m x y Q
def EvM (f : OpN) (env : Env') (m : Mem) (xs : List Lv) (z : Dat) : Prop := ∀ Q : QD, Q z m → f env m xs Q
section
variable {env : Env'} {m : Mem} {d da db : TD} {v x y : Lv} {z : Dat} {b : Bool}
theorem Ev.use (h : Ev d env m v) {Q : QL} (q : Q v m) : d env m Q := h Q q
theorem Ev.eq {w : Lv} (h : Ev d env m v) (e : v = w) : Ev d env m w := e ▸ h
theorem EvB.eq {p : TB} {c : Bool} (h : EvB p env m b) (e : b = c) : EvB p env m c := e ▸ h
theorem EvN.eq {p : TN} {xs ys : List Dat} (h : EvN p env m xs) (e : xs = ys) : EvN p env m ys := e ▸ h
theorem EvI.eq {p : TId} {xs ys : List Dat} (h : EvI p env m xs) (e : xs = ys) : EvI p env m ys := e ▸ h
theorem ev_c {a : Dat} : Ev (dC a) env m (.f a) := fun _ q => q
theorem ev_v {i : Nat} {a : Dat} (e : env[i]? = some (some (.f a)) := by rfl) : Ev (dVar i) env m (.f a) := fun Q q => by unfold dVar; rw [e]; exact q
theorem ev_o {i : Nat} {a : Mo} (e : env[i]? = some (some (.own a)) := by rfl) : Ev (dVar i) env m (.o i) := fun Q q => by unfold dVar; rw [e]; exact q
theorem ev_bin {f : Op2} (ha : Ev da env m x) (hb : Ev db env m y) (hf : Ev2 f env m x y z) : Ev (dBin f da db) env m (.f z) := fun Q q => ha _ (hb _ (hf _ q))
theorem ev_un {f : Op1} (ha : Ev da env m x) (hf : Ev1 f env m x z) : Ev (dUn f da) env m (.f z) := fun Q q => ha _ (hf _ q)
theorem ev_n {f : OpN} {da : TAd} {xs : List Lv} (ha : EvA da env m xs) (hf : EvM f env m xs z) : Ev (dN f da) env m (.f z) := fun Q q => ha _ (hf _ q)
theorem eva_nil : EvA dNil env m [] := fun _ q => q
theorem eva_cons {r : TAd} {xs : List Lv} (h : Ev d env m x) (hr : EvA r env m xs) : EvA (dCons d r) env m (x :: xs) := fun Q q => h _ (hr _ q)
theorem ev_new {p : TN} {xs : List Dat} (h : EvN p env m xs) : Ev (dNew p) env m (.f (.lst xs)) := fun Q q => h _ q
theorem evn_lst {r : TAd} {ls : List Lv} {xs : List Dat} (h : EvA r env m ls) (e : frs ls = some xs) (hl : xs.length ≤ sizeLine) : EvN (nLst r) env m xs := fun Q q => h _ (by simp only [e]; exact ⟨hl, q⟩)
theorem evn_cat {xs ys : List Dat} (ha : Ev da env m x) (hb : Ev db env m y) (ea : lstOf env m x = some xs) (eb : lstOf env m y = some ys) (hl : xs.length + ys.length ≤ sizeLine) : EvN (nCat da db) env m (xs ++ ys) := fun Q q => ha _ (hb _ (by
  simp only [ea, eb]; exact ⟨hl, q⟩))
theorem evn_list {xs : List Dat} (ha : Ev da env m x) (ea : seqOf env m x = some xs) : EvN (nList da) env m xs := fun Q q => ha _ (by
  simp only [ea]; exact q)
theorem evn_sort {xs : List Dat} (ha : Ev da env m x) (ea : seqOf env m x = some xs) (hs : sortOk xs) : EvN (nSort da) env m (sortD xs) := fun Q q => ha _ (by
  simp only [ea]; exact ⟨hs, q⟩)
/-! tests -/
theorem evb_tst (h : Ev d env m (.f (.bl b))) : EvB (dTst d) env m b := fun Q q => h _ q
theorem evb_not {p : TB} (h : EvB p env m b) : EvB (dNot p) env m (!b) := fun Q q => h _ q
theorem evb_and {p q : TB} {c : Bool} (h : EvB p env m b) (h2 : b = true → EvB q env m c) : EvB (dAnd p q) env m (b && c) := fun Q k => h _ (by
  cases b with
  | true => exact h2 rfl _ k
  | false => exact k)
theorem evb_or {p q : TB} {c : Bool} (h : EvB p env m b) (h2 : b = false → EvB q env m c) : EvB (dOr p q) env m (b || c) := fun Q k => h _ (by
  cases b with
  | false => exact h2 rfl _ k
  | true => exact k)
theorem ev_and {c : Bool} (h : Ev da env m (.f (.bl b))) (h2 : b = true → Ev db env m (.f (.bl c))) : Ev (dAndV da db) env m (.f (.bl (b && c))) := fun Q k => h _ (by
  cases b with
  | true => exact h2 rfl _ k
  | false => exact k)
theorem ev_or {c : Bool} (h : Ev da env m (.f (.bl b))) (h2 : b = false → Ev db env m (.f (.bl c))) : Ev (dOrV da db) env m (.f (.bl (b || c))) := fun Q k => h _ (by
  cases b with
  | false => exact h2 rfl _ k
  | true => exact k)
theorem ev_not (h : Ev da env m (.f (.bl b))) : Ev (dNotV da) env m (.f (.bl (!b))) := fun Q k => h _ k
theorem ev_if {p : TB} {u w : Dat} (h : EvB p env m b) (h1 : b = true → Ev da env m (.f u)) (h2 : b = false → Ev db env m (.f w)) : Ev (dIf p da db) env m (.f (if b = true then u else w)) := fun Q k => h _ (by
  cases b with
  | true => exact h1 rfl _ k
  | false => exact h2 rfl _ k)
/-! operators -/
theorem e2_add {i j : Int} : Ev2 oAdd env m (.f (.int i)) (.f (.int j)) (.int (i + j)) := fun Q q => q
theorem e2_addT {xs ys : List Dat} (h : xs.length + ys.length ≤ sizeLine) : Ev2 oAdd env m (.f (.tup xs)) (.f (.tup ys)) (.tup (xs ++ ys)) := fun Q q => ⟨h, q⟩
theorem e2_addS {a c : Str} (h : a.length + c.length ≤ sizeLine) : Ev2 oAdd env m (.f (.str a)) (.f (.str c)) (.str (a ++ c)) := fun Q q => ⟨h, q⟩
theorem e2_i {c : Int → Int → Prop} {g : Int → Int → Dat} {i j : Int} (h : c i j) : Ev2 (oI c g) env m (.f (.int i)) (.f (.int j)) (g i j) := fun Q q => ⟨h, q⟩
theorem e2_i0 {g : Int → Int → Dat} {i j : Int} : Ev2 (oI0 g) env m (.f (.int i)) (.f (.int j)) (g i j) := fun Q q => ⟨trivial, q⟩
theorem e1_u {g : Int → Int} {i : Int} : Ev1 (oU g) env m (.f (.int i)) (.int (g i)) := fun Q q => q
theorem e2_eq {f : Bool → Bool} {x y : Lv} {a c : Dat} (ea : der env m x = some a) (ec : der env m y = some c) (ha : okN 60 a = true) (hc : okN 60 c = true) : Ev2 (oEq f) env m x y (.bl (f (eqd a c))) := fun Q q => by
  unfold oEq; rw [ea, ec]; exact ⟨ha, hc, q⟩
theorem e2_in {f : Bool → Bool} {x y : Lv} {a : Dat} {bs : List Dat} (ea : der env m x = some a) (ec : seqOf env m y = some bs) (ha : okN 60 a = true) (hb : bs.all (okN 59) = true) : Ev2 (oIn f) env m x y (.bl (f (bs.any fun b => eqd b a))) := fun Q q => by
  unfold oIn; rw [ea, ec]; exact ⟨ha, hb, q⟩
theorem e2_isn {f : Bool → Bool} {x : Lv} : Ev2 (oIsN f) env m x (.f .non) (.bl (f (isN x))) := fun Q q => q
theorem e2_ix {x : Lv} {xs : List Dat} {i : Int} {z : Dat} (ex : seqOf env m x = some xs) (h : atI xs i = some z) : Ev2 oIx env m x (.f (.int i)) z := fun Q q => by
  unfold seqOf at ex
  unfold oIx
  split at ex
  · rename_i ys e; cases ex; rw [e]; simp only [h]; exact q
  · rename_i ys e; cases ex; rw [e]; simp only [h]; exact q
  · cases ex
theorem em_tup {ls : List Lv} {xs : List Dat} (e : frs ls = some xs) (hl : xs.length ≤ sizeLine) : EvM oTup env m ls (.tup xs) := fun Q q => by
  unfold oTup; rw [e]; exact ⟨hl, q⟩
theorem em_len {x : Lv} {xs : List Dat} (e : seqOf env m x = some xs) : EvM oLen env m [x] (.int xs.length) := fun Q q => by
  unfold seqOf at e
  unfold oLen
  split at e
  · rename_i ys e2; cases e; simp only [e2]; exact q
  · rename_i ys e2; cases e; simp only [e2]; exact q
  · cases e
theorem em_bs {f : List Bool → Bool} {x : Lv} {xs : List Dat} {bs : List Bool} (e : lstOf env m x = some xs) (eb : bools xs = some bs) : EvM (oBs f) env m [x] (.bl (f bs)) := fun Q q => by
  unfold oBs
  simp only [e, eb]; exact q
theorem em_is {f : List Int → Int} {c : List Int → Prop} {x : Lv} {xs : List Dat} {ns : List Int} (e : seqOf env m x = some xs) (en : intsD xs = some ns) (h : c ns) : EvM (oIs f c) env m [x] (.int (f ns)) := fun Q q => by
  unfold oIs
  simp only [e, en]; exact ⟨h, q⟩
theorem bools_map {α : Type} (g : α → Bool) : ∀ xs : List α, bools (xs.map fun x => .bl (g x)) = some (xs.map g)
  | [] => rfl
  | x :: xs => by
    have h := bools_map g xs
    rw [List.map_cons, bools, h]; rfl
theorem intsD_map {α : Type} (g : α → Int) : ∀ xs : List α, intsD (xs.map fun x => .int (g x)) = some (xs.map g)
  | [] => rfl
  | x :: xs => by
    have h := intsD_map g xs
    rw [List.map_cons, intsD, h]; rfl
/-! calls of pure defs -/
theorem ev_call {p : DSp} {EX : QXe} {da : TAd} {ls : List Lv} {ds : List Dat} {r : Dat} (ha : EvA da env m ls) (e : frs ls = some ds) (h : ∀ (Q : QD) (E : QX), Q r m → p ds m Q E) : Ev (dCall p EX da) env m (.f r) := fun Q q => ha _ (by
  simp only [e]; exact h _ _ q)
/-! what is walked -/
theorem evi_lst {xs : List Dat} (h : Ev d env m (.f (.lst xs))) : EvI (iVal d) env m xs := fun Q q => h _ q
theorem evi_tup {xs : List Dat} (h : Ev d env m (.f (.tup xs))) : EvI (iVal d) env m xs := fun Q q => h _ q
theorem evi_rg1 {j : Int} (h : Ev d env m (.f (.int j))) (h1 : -(2 ^ 62) ≤ j) (h2 : j < 2 ^ 62) : EvI (iRg1 d) env m ((List.range j.toNat).map fun i => .int (i : Nat)) := fun Q q => h _ ⟨h1, h2, by
  unfold rangeD; simpa using q⟩
theorem evi_rg1n {j : Nat} (h : Ev d env m (.f (.int j))) (h2 : j < 2 ^ 62) : EvI (iRg1 d) env m ((List.range j).map fun i => .int (i : Nat)) := by
  have := evi_rg1 h (by omega) (by omega)
  simpa using this
theorem evi_rg2 {i j : Int} (h : Ev da env m (.f (.int i))) (h' : Ev db env m (.f (.int j))) (hb : -(2 ^ 62) ≤ i ∧ i < 2 ^ 62 ∧ -(2 ^ 62) ≤ j ∧ j < 2 ^ 62) : EvI (iRg2 da db) env m (rangeD i (j - i).toNat) := fun Q q => h _ (h' _ ⟨hb, q⟩)
theorem enumD_map {α : Type} (g : α → Dat) : ∀ (k : Nat) (xs : List α), enumD k (xs.map g) = (xs.zipIdx k).map fun p => .tup [.int (p.2 : Nat), g p.1]
  | _, [] => rfl
  | k, x :: xs => by rw [List.map_cons, enumD, enumD_map g (k + 1) xs]; rfl
theorem zipD_map {α β : Type} (g : α → Dat) (h : β → Dat) : ∀ (xs : List α) (ys : List β), zipD (xs.map g) (ys.map h) = (xs.zip ys).map fun p => .tup [g p.1, h p.2]
  | [], _ => by rw [List.map_nil, List.zip_nil_left]; rfl
  | x :: xs, [] => rfl
  | x :: xs, y :: ys => by rw [List.map_cons, List.map_cons, zipD, zipD_map g h xs ys]; rfl
theorem evi_enum {x : List Dat} (h : Ev d env m (.f (.lst x)) ∨ Ev d env m (.f (.tup x))) : EvI (iEnumD d) env m (enumD 0 x) := fun Q q => by
  rcases h with h | h <;> exact h _ q
theorem evi_zipL {xs ys : List Dat} (h : Ev da env m (.f (.lst xs))) (h' : Ev db env m (.f (.lst ys))) : EvI (iZipD da db) env m (zipD xs ys) := fun Q q => h _ (h' _ q)
theorem evi_zipT {xs ys : List Dat} (h : Ev da env m (.f (.tup xs))) (h' : Ev db env m (.f (.tup ys))) : EvI (iZipD da db) env m (zipD xs ys) := fun Q q => h _ (h' _ q)
/-! comprehensions -/
theorem lcGo_map {α : Type} {tg : Tg} {g : α → Dat} {de : TD} {env : Env'} {f : α → Dat} : ∀ {xs : List α} {m : Mem} {Q : List Dat → Mem → Prop}, (∀ x ∈ xs, ∃ env2, bind tg (.f (g x)) env = some env2 ∧ Ev de env2 m (.f (f x))) → Q (xs.map f) m → lcGo tg dYes de env (xs.map g) m Q
  | [], m, Q, _, h => h
  | x :: xs, m, Q, hd, h => by
    obtain ⟨env2, e, h1⟩ := hd x List.mem_cons_self
    rw [List.map_cons]
    unfold lcGo
    rw [e]
    exact h1 _ (lcGo_map (Q := fun ds m' => Q (f x :: ds) m') (fun y hy => hd y (List.mem_cons_of_mem _ hy)) h)
theorem lcGo_filter {α : Type} {tg : Tg} {g : α → Dat} {dt : TB} {de : TD} {env : Env'} {t : α → Bool} {f : α → Dat} : ∀ {xs : List α} {m : Mem} {Q : List Dat → Mem → Prop},
    (∀ x ∈ xs, ∃ env2, bind tg (.f (g x)) env = some env2 ∧ EvB dt env2 m (t x) ∧ (t x = true → Ev de env2 m (.f (f x)))) → Q ((xs.filter t).map f) m → lcGo tg dt de env (xs.map g) m Q
  | [], m, Q, _, h => h
  | x :: xs, m, Q, hd, h => by
    obtain ⟨env2, e, h1, h2⟩ := hd x List.mem_cons_self
    rw [List.map_cons]
    unfold lcGo
    rw [e]
    refine h1 _ ?_
    cases ht : t x with
    | true =>
      rw [if_pos rfl]
      refine h2 ht _ ?_
      refine lcGo_filter (t := t) (f := f) (Q := fun ds m' => Q (f x :: ds) m') (fun y hy => hd y (List.mem_cons_of_mem _ hy)) ?_
      rw [List.filter_cons_of_pos ht] at h
      exact h
    | false =>
      rw [if_neg (by decide)]
      refine lcGo_filter (t := t) (f := f) (fun y hy => hd y (List.mem_cons_of_mem _ hy)) ?_
      rw [List.filter_cons_of_neg (by simp [ht])] at h
      exact h
theorem evn_lc {α : Type} {tg : Tg} {g f : α → Dat} {de : TD} {vs : List Nat} {di : TId} {xs : List α} {ys : List Dat} (hi : EvI di env m ys) (e : ys = xs.map g) (hl : xs.length ≤ sizeLine)
    (h : ∀ x ∈ xs, ∃ env2, bind tg (.f (g x)) (wipeE env vs) = some env2 ∧ Ev de env2 m (.f (f x))) : EvN (nLc tg dYes de vs di) env m (xs.map f) := fun Q q => hi _ (by
  subst e
  exact ⟨by simpa using hl, lcGo_map h q⟩)
theorem evn_lcf {α : Type} {tg : Tg} {g f : α → Dat} {t : α → Bool} {dt : TB} {de : TD} {vs : List Nat} {di : TId} {xs : List α} {ys : List Dat} (hi : EvI di env m ys) (e : ys = xs.map g) (hl : xs.length ≤ sizeLine)
    (h : ∀ x ∈ xs, ∃ env2, bind tg (.f (g x)) (wipeE env vs) = some env2 ∧ EvB dt env2 m (t x) ∧ (t x = true → Ev de env2 m (.f (f x)))) : EvN (nLc tg dt de vs di) env m ((xs.filter t).map f) := fun Q q => hi _ (by
  subst e
  exact ⟨by simpa using hl, lcGo_filter h q⟩)
/-! slices -/
theorem evo_no : EvO dNo env m none := fun _ q => q
theorem evo_p {i : Int} (h : Ev d env m (.f (.int i))) : EvO (dPart d) env m (some i) := fun Q q => h _ q
theorem ev_slL {lo hi : TOd} {a c : Option Int} {xs : List Dat} (h : Ev d env m x) (hl : EvO lo env m a) (hh : EvO hi env m c) (e : der env m x = some (.lst xs)) : Ev (dSl d lo hi) env m (.f (.lst (cutD xs a c))) := fun Q q => h _ (hl _ (hh _ (by
  simp only [e]; exact q)))
theorem ev_slT {lo hi : TOd} {a c : Option Int} {xs : List Dat} (h : Ev d env m x) (hl : EvO lo env m a) (hh : EvO hi env m c) (e : der env m x = some (.tup xs)) : Ev (dSl d lo hi) env m (.f (.tup (cutD xs a c))) := fun Q q => h _ (hl _ (hh _ (by
  simp only [e]; exact q)))
theorem ev_backL {xs : List Dat} (h : Ev d env m x) (e : der env m x = some (.lst xs)) : Ev (dBack d) env m (.f (.lst xs.reverse)) := fun Q q => h _ (by simp only [e]; exact q)
theorem ev_backT {xs : List Dat} (h : Ev d env m x) (e : der env m x = some (.tup xs)) : Ev (dBack d) env m (.f (.tup xs.reverse)) := fun Q q => h _ (by simp only [e]; exact q)
end
/-! statements -/
section
variable {D : En} {env : Env'} {m : Mem} {d : TD} {v : Lv} {a : Dat}
theorem st_seq {s t : TSd} (h : s { D with nx := t D } env m) : sSeq s t D env m := h
theorem st_set {i : Nat} (h : Ev d env m (.f a)) (k : D.nx (env.set i (some (.f a))) m) : sAsg (.nm i) d D env m := h _ k
theorem st_setT {is : List Nat} {as : List Dat} (h : Ev d env m (.f (.tup as))) (hl : as.length = is.length) (k : D.nx (setAll is as env) m) : sAsg (.tp is) d D env m := h _ (by
  show match (if as.length = is.length then some (setAll is as env) else none) with | some env2 => D.nx env2 m | none => False
  rw [if_pos hl]; exact k)
theorem st_setN {i : Nat} {p : TN} {xs : List Dat} (h : EvN p env m xs) (k : D.nx (env.set i (some (.own (.lst xs)))) m) : sSetN i p D env m := h _ k
theorem st_ret (h : Ev d env m (.f a)) (k : D.rt a m) : sRet d D env m := h _ k
theorem st_if {c : TB} {s t : TSd} {b : Bool} (h : EvB c env m b) (k1 : b = true → s D env m) (k2 : b = false → t D env m) : sIf c s t D env m := h _ (by
  cases b with
  | true => exact k1 rfl
  | false => exact k2 rfl)
theorem st_ifT {c : TB} {s t : TSd} (h : EvB c env m true) (k : s D env m) : sIf c s t D env m := h _ k
theorem st_ifF {c : TB} {s t : TSd} (h : EvB c env m false) (k : t D env m) : sIf c s t D env m := h _ k
theorem st_for {tg : Tg} {di : TId} {tb : TSd} {xs : List Dat} (h : EvI di env m xs) (k : forGo tg tb D xs env m) : sFor tg di tb D env m := h _ k
theorem st_app {i : Nat} {xs : List Dat} {de : TD} {z : Dat} (e : env[i]? = some (some (.own (.lst xs)))) (h : Ev de env m (.f z)) (hl : xs.length < sizeLine) (k : D.nx (env.set i (some (.own (.lst (xs ++ [z]))))) m) : sApp (dVar i) de D env m := by
  unfold sApp
  refine ev_o e _ ?_
  have em : moOf env m (.o i) = some (.lst xs) := by unfold moOf; simp only [e]
  simp only [em]
  refine h _ ?_
  simp only [em]
  exact ⟨hl, k⟩
theorem st_drop (h : Ev d env m v) (k : D.nx env m) : sDrop d D env m := h _ k
theorem st_par {i j : Nat} {d1 d2 : TD} {a b : Dat} (h1 : Ev d1 env m (.f a)) (h2 : Ev d2 env m (.f b)) (k : D.nx ((env.set i (some (.f a))).set j (some (.f b))) m) : sPar i j d1 d2 D env m := h1 _ (h2 _ k)
end
end DL

set_option maxHeartbeats 1000000
namespace DL
open PySem PySem.Spec PyProof.Rows L2
/-! ### pure promises by a ghost: the arguments, what is needed, the result -/
def pT {γ : Type} (n : Nat) (args : γ → List Dat) (pre : γ → Prop) (res : γ → Dat) : DSp := fun ds m Q _ => ds.length = n ∧ ∃ g, ds = args g ∧ pre g ∧ Q (res g) m
theorem pT.mono {γ : Type} {n args pre res} : MonoP (pT (γ := γ) n args pre res) := fun ds m Q Q' E E' i j ⟨h1, g, h2, h3, h4⟩ => ⟨h1, g, h2, h3, i _ _ h4⟩
theorem pT.len {γ : Type} {n args pre res} : ∀ ds m Q E, pT (γ := γ) n args pre res ds m Q E → ds.length = n := fun _ _ _ _ h => h.1
section
variable {env : Env'} {m : Mem} {d : TD} {da : TAd} {x : Lv} {s : Dat} {ls : List Lv} {ds : List Dat} {EX : QXe} {γ : Type} {n c : Nat} {args : γ → List Dat} {pre : γ → Prop} {res : γ → Dat}
theorem ev_fn (ha : EvA da env m ls) (g : γ) (e : frs ls = some (args g)) (hn : (args g).length = n) (hp : pre g) : Ev (dCall (pT n args pre res) EX da) env m (.f (res g)) :=
  ev_call ha e fun Q E q => ⟨hn, g, rfl, hp, q⟩
theorem ev_me {p : DSp} {r : Dat} (ho : Ev d env m x) (hs : selfD c m x = some s) (ha : EvA da env m ls) (e : frs ls = some ds) (h : ∀ (Q : QD) (E : QX), Q r m → p (s :: ds) m Q E) : Ev (dMeth c p EX d da) env m (.f r) := fun Q q => ho _ (by
  simp only [hs]
  exact ha _ (by simp only [e]; exact h _ _ q))
theorem ev_meT (ho : Ev d env m x) (hs : selfD c m x = some s) (ha : EvA da env m ls) (e : frs ls = some ds) (g : γ) (eg : s :: ds = args g) (hn : (args g).length = n) (hp : pre g) : Ev (dMeth c (pT n args pre res) EX d da) env m (.f (res g)) :=
  ev_me ho hs ha e fun Q E q => ⟨by rw [eg]; exact hn, g, eg, hp, q⟩
theorem ev_prT (ho : Ev d env m x) (hs : selfD c m x = some s) (g : γ) (eg : [s] = args g) (hn : (args g).length = n) (hp : pre g) : Ev (dProp c (pT n args pre res) d) env m (.f (res g)) := fun Q q => ho _ (by
  simp only [hs]
  exact ⟨by rw [eg]; exact hn, g, eg, hp, q⟩)
theorem em_lenT {i : γ → Int} (hs : selfD c m x = some s) (g : γ) (eg : [s] = args g) (hn : (args g).length = n) (hp : pre g) (h0 : 0 ≤ i g) (h1 : i g < 2 ^ 63) : EvM (oLenI c (pT n args pre fun g => .int (i g))) env m [x] (.int (i g)) := fun Q q => by
  unfold oLenI
  simp only [hs]
  exact ⟨by rw [eg]; exact hn, g, eg, hp, ⟨h0, h1⟩, q⟩
theorem em_strT {z : γ → Str} (hs : selfD c m x = some s) (g : γ) (eg : [s] = args g) (hn : (args g).length = n) (hp : pre g) : EvM (oStrI c (pT n args pre fun g => .str (z g))) env m [x] (.str (z g)) := fun Q q => by
  unfold oStrI
  simp only [hs]
  exact ⟨by rw [eg]; exact hn, g, eg, hp, q⟩
theorem e2_inT {f : Bool → Bool} {b : γ → Bool} {a : Dat} (hs : selfD c m x = some s) (g : γ) (eg : [s, a] = args g) (hn : (args g).length = n) (hp : pre g) : Ev2 (oInI f c (pT n args pre fun g => .bl (b g))) env m (.f a) x (.bl (f (b g))) := fun Q q => by
  unfold oInI
  simp only [hs]
  exact ⟨by rw [eg]; exact hn, g, eg, hp, q⟩
end
section
variable {D : En} {env : Env'} {m : Mem} {da : TAd} {ls : List Lv} {n : Nat}
/-- a body's law from its promise: the start -/
theorem rangeD_succ (k : Int) (r : Nat) : rangeD k (r + 1) = .int k :: rangeD (k + 1) r := by
  unfold rangeD
  rw [List.range_succ_eq_map, List.map_cons, List.map_map]
  congr 1
  · simp
  · refine List.map_congr_left fun a _ => ?_
    simp; omega
theorem rangeD_zero (k : Int) : rangeD k 0 = [] := rfl
theorem lenSet_ev {d : TD} {x : Lv} {ns : List Int} (h : Ev d env m x) (e : seqOf env m x = some (ns.map Dat.int)) (hl : ns.length ≤ 4000) : Ev (dLenSet d) env m (.f (.int (dist ns : Nat))) := fun Q q => h _ (by
  have e2 := intsD_map (fun i : Int => i) ns
  simp only [e]
  have e3 : intsD (ns.map Dat.int) = some ns := by simpa using e2
  simp only [e3]
  exact ⟨hl, q⟩)
theorem evn_lcI {tg : Tg} {dt : TB} {de : TD} {vs : List Nat} {di : TId} {xs : List Dat} {Q : List Dat → Mem → Prop} (hi : EvI di env m xs) (hl : xs.length ≤ sizeLine) (h : lcGo tg dt de (wipeE env vs) xs m Q) : nLc tg dt de vs di env m Q := hi _ ⟨hl, h⟩
theorem seq_eq {s t : TSd} (h : s { D with nx := t D } env m) : sSeq s t D env m := h
end
end DL

set_option maxHeartbeats 1000000
namespace DL.S
open PySem PySem.Spec PyProof.Rows L2 DL
def ft_size : List (Nat × Nat) := [(3, 0)]
def fi_size : Nat → Option Nat := fiOf ft_size
def ft_pairs : List (Nat × Nat) := [(3, 1)]
def fi_pairs : Nat → Option Nat := fiOf ft_pairs
def rd_law_deck (C : Ct)  (EX : QXe) : TSd :=
  (sSeq (sAsg (.nm 1) (dNew (nLc (.nm 2) dYes (dN (oN1 fAbs) (dCons (dVar 2) dNil)) [2] (iVal (dVar 0)))))
  (sRet (dShr (nLst (dCons (dShr (nLc (.nm 2) (dTst (dBin oGe (dVar 2) (dBin oPow (dC (.int 10)) (dC (.int 18))))) (dVar 2) [2] (iVal (dVar 1)))) (dCons (dNew (nCat (dVar 1) (dNew (nLst (dCons (dBin oAdd (dN oLen (dCons (dVar 1) dNil)) (dC (.int 5))) dNil))))) (dCons (dC (.int 0)) dNil)))))))
def rd_law_next (C : Ct)  (EX : QXe) : TSd :=
  (sSeq (sWhile (dTst (dBin (oEq not) (dBin oIx (dVar 0) (dC (.int 0))) (dNew (nLst dNil))))
  (sSeq (sAsg (.nm 5) (dBin oIx (dBin oIx (dVar 0) (dC (.int 0))) (dC (.int 0))))
  (sSeq (sIf (dTst (dBin oGt (dVar 5) (dC (.int 0))))
  (sSeq (sSetI (dBin oFdiv (dVar 5) (dVar 1)) (dBin oIx (dVar 0) (dC (.int 0))) (dC (.int 0)))
  (sRet (dBin oMod (dN (oN1 fInt) (dCons (dVar 5) dNil)) (dVar 1))))
  sNext)
  (sPop0 (dBin oIx (dVar 0) (dC (.int 0)))))))
  (sSeq (sSetI (dBin oAdd (dBin oIx (dVar 0) (dC (.int 2))) (dC (.int 1))) (dVar 0) (dC (.int 2)))
  (sSeq (sAsg (.nm 2) (dBin oIx (dVar 0) (dC (.int 2))))
  (sSeq (sAsg (.nm 3) (dBin oMod (dN (oN1 fInt) (dCons (dBin oIx (dBin oIx (dVar 0) (dC (.int 1))) (dBin oMod (dN (oN1 fInt) (dCons (dVar 2) dNil)) (dN oLen (dCons (dBin oIx (dVar 0) (dC (.int 1))) dNil)))) dNil)) (dC (.int 2147483629))))
  (sSeq (sAsg (.nm 4) (dBin oMod (dN (oN1 fInt) (dCons (dBin oAdd (dBin oAdd (dBin oMul (dVar 3) (dBin oAdd (dC (.int 50331)) (dBin oMul (dC (.int 68111)) (dVar 2)))) (dBin oMul (dBin oMul (dC (.int 41287)) (dVar 2)) (dVar 2))) (dC (.int 19))) dNil)) (dC (.int 2147483587))))
  (sRet (dBin oMod (dBin oFdiv (dBin oMod (dN (oN1 fInt) (dCons (dBin oMul (dVar 4) (dVar 4)) dNil)) (dC (.int 2147483579))) (dC (.int 16))) (dVar 1))))))))
def rd_law_pairs (C : Ct)  (EX : QXe) : TSd :=
  (sSeq (sAsg (.nm 1) (dNew (nLst dNil)))
  (sSeq (sFor (.nm 2) (iRg1 (dVar 0))
  (sAsg (.nm 1) (dNew (nCat (dVar 1) (dNew (nLc (.nm 3) dYes (dN oTup (dCons (dVar 3) (dCons (dVar 2) dNil))) [3] (iRg1 (dVar 2))))))))
  (sRet (dVar 1))))
def rd_law_net (C : Ct) (p_law_next : DSp) (p_law_pairs : DSp) (EX : QXe) : TSd :=
  (sSeq (sAsg (.nm 2) (dBin oIx (dNew (nLst (dCons (dBin oAdd (dC (.int 1)) (dCall p_law_next EX0 (dCons (dVar 0) (dCons (dC (.int 7)) dNil)))) (dCons (dC (.int 4)) (dCons (dC (.int 5)) (dCons (dC (.int 7)) dNil)))))) (dCall p_law_next EX0 (dCons (dVar 0) (dCons (dC (.int 4)) dNil)))))
  (sSeq (sPar3N 3 4 5 (dCall p_law_pairs EX0 (dCons (dVar 2) dNil)) (dCall p_law_next EX0 (dCons (dVar 0) (dCons (dC (.int 4)) dNil))) (nLst dNil))
  (sSeq (sIf (dAnd (dTst (dBin (oEq id) (dVar 4) (dC (.int 0)))) (dTst (dBin oGt (dVar 2) (dC (.int 2)))))
  (sSetN 5 (nCat (dNew (nLc (.nm 6) dYes (dN oTup (dCons (dVar 6) (dCons (dBin oAdd (dVar 6) (dC (.int 1))) dNil))) [6] (iRg1 (dBin oSub (dVar 2) (dC (.int 1)))))) (dNew (nLst (dCons (dN oTup (dCons (dC (.int 0)) (dCons (dBin oSub (dVar 2) (dC (.int 1))) dNil))) dNil)))))
  sNext)
  (sSeq (sIf (dTst (dBin (oEq id) (dVar 4) (dC (.int 1))))
  (sSetN 5 (nLc (.nm 6) dYes (dN oTup (dCons (dCall p_law_next EX0 (dCons (dVar 0) (dCons (dVar 6) dNil))) (dCons (dVar 6) dNil))) [6] (iRg2 (dC (.int 1)) (dVar 2))))
  sNext)
  (sSeq (sFor (.nm 6) (iRg1 (dBin oMul (dBin oIx (dNew (nLst (dCons (dVar 1) (dCons (dCall p_law_next EX0 (dCons (dVar 0) (dCons (dBin oAdd (dVar 1) (dC (.int 1))) dNil))) dNil)))) (dCall p_law_next EX0 (dCons (dVar 0) (dCons (dC (.int 2)) dNil)))) (dN (oN1 fInt) (dCons (dBin oGt (dVar 2) (dC (.int 1))) dNil))))
  (sSeq (sAsg (.nm 7) (dBin oIx (dVar 3) (dCall p_law_next EX0 (dCons (dVar 0) (dCons (dN oLen (dCons (dVar 3) dNil)) dNil)))))
  (sIf (dTst (dBin (oIn not) (dVar 7) (dVar 5)))
  (sApp (dVar 5) (dVar 7))
  sNext)))
  (sKeep 5 (sRet (dN oTup (dCons (dVar 2) (dCons (dNew (nSort (dSl (dVar 5) dNo (dPart (dVar 1))))) dNil))))))))))
def rd_law_same (C : Ct) (p_law_same : DSp) (EX : QXe) : TSd :=
  (sSeq (sIf (dTst (dN (oIsi C) (dCons (dVar 1) (dCons (dN oTup (dCons (dC (.ty "tuple")) (dCons (dC (.ty "list")) dNil))) dNil))))
  (sSeq (sIf (dOr (dTst (dBin (oEq not) (dN (oIsi C) (dCons (dVar 1) (dCons (dC (.ty "tuple")) dNil))) (dN (oIsi C) (dCons (dVar 0) (dCons (dC (.ty "tuple")) dNil))))) (dTst (dBin (oEq not) (dN (oIsi C) (dCons (dVar 1) (dCons (dC (.ty "list")) dNil))) (dN (oIsi C) (dCons (dVar 0) (dCons (dC (.ty "list")) dNil))))))
  (sRet (dC (.bl false)))
  sNext)
  (sRet (dAndV (dBin (oEq id) (dN oLen (dCons (dVar 0) dNil)) (dN oLen (dCons (dVar 1) dNil))) (dN (oBs fun bs => bs.all id) (dCons (dNew (nLc (.tp [2, 3]) dYes (dCall p_law_same EX0 (dCons (dVar 2) (dCons (dVar 3) dNil))) [2, 3] (iZipD (dVar 0) (dVar 1)))) dNil)))))
  sNext)
  (sSeq (sIf (dTst (dBin (oIsN id) (dVar 1) (dC .non)))
  (sRet (dBin (oIsN id) (dVar 0) (dC .non)))
  sNext)
  (sSeq (sIf (dTst (dN (oIsi C) (dCons (dVar 1) (dCons (dC (.ty "str")) dNil))))
  (sRet (dAndV (dN (oIsi C) (dCons (dVar 0) (dCons (dC (.ty "str")) dNil))) (dBin (oEq id) (dVar 0) (dVar 1))))
  sNext)
  (sSeq (sIf (dOr (dTst (dN (oIsi C) (dCons (dVar 1) (dCons (dC (.ty "bool")) dNil)))) (dTst (dN (oIsi C) (dCons (dVar 0) (dCons (dC (.ty "bool")) dNil)))))
  (sRet (dAndV (dN (oIsi C) (dCons (dVar 0) (dCons (dC (.ty "bool")) dNil))) (dAndV (dN (oIsi C) (dCons (dVar 1) (dCons (dC (.ty "bool")) dNil))) (dBin (oEq id) (dVar 0) (dVar 1)))))
  sNext)
  (sSeq (sIf (dTst (dN (oIsi C) (dCons (dVar 1) (dCons (dC (.ty "int")) dNil))))
  (sRet (dAndV (dN (oIsi C) (dCons (dVar 0) (dCons (dC (.ty "int")) dNil))) (dBin (oEq id) (dVar 0) (dVar 1))))
  sNext)
  (sRet (dAndV (dN (oIsi C) (dCons (dVar 1) (dCons (dC (.ty "dict")) dNil))) (dAndV (dN (oIsi C) (dCons (dVar 0) (dCons (dC (.ty "dict")) dNil))) (dBin (oEq id) (dN oRepr (dCons (dVar 0) dNil)) (dN oRepr (dCons (dVar 1) dNil)))))))))))
def rd_law_whole (C : Ct)  (EX : QXe) : TSd :=
  (sRet (dAndV (dN (oIsi C) (dCons (dVar 0) (dCons (dC (.ty "int")) dNil))) (dNotV (dN (oIsi C) (dCons (dVar 0) (dCons (dC (.ty "bool")) dNil))))))
def rd_law_odd (C : Ct) (p_law_next : DSp) (EX : QXe) : TSd :=
  (sSeq (sAsg (.nm 2) (dNew (nLst (dCons (dC .non) (dCons (dC (.bl true)) (dCons (dC (.bl false)) (dCons (dC (.int 0)) (dCons (dC (.int 1)) (dCons (dC (.int 2)) (dCons (dUn (oU fun i => -i) (dC (.int 1))) (dCons (dBin oPow (dC (.int 10)) (dC (.int 30))) (dCons (dC (.str "")) (dCons (dC (.str "0")) (dCons (dC (.str "01")) (dCons (dN oTup dNil) (dCons (dNew (nLst dNil)) (dCons (dC (.dct [])) (dCons (dN oTup (dCons (dC (.int 0)) dNil)) (dCons (dN oTup (dCons (dC (.int 0)) (dCons (dC (.int 1)) dNil))) (dCons (dNew (nLst (dCons (dC (.int 0)) (dCons (dC (.int 1)) dNil)))) (dCons (dN oTup (dCons (dC (.int 1)) (dCons (dC (.int 0)) dNil))) (dCons (dN oTup (dCons (dC (.int 0)) (dCons (dC (.int 0)) dNil))) dNil))))))))))))))))))))))
  (sSeq (sAsg (.nm 2) (dNew (nCat (dVar 2) (dNew (nLst (dCons (dN oTup (dCons (dC (.int 0)) (dCons (dC (.bl true)) dNil))) (dCons (dN oTup (dCons (dC (.bl false)) (dCons (dC (.int 1)) dNil))) (dCons (dN oTup (dCons (dC (.int 0)) (dCons (dC .non) dNil))) (dCons (dN oTup (dCons (dC (.int 0)) (dCons (dC (.str "1")) dNil))) (dCons (dN oTup (dCons (dC (.int 0)) (dCons (dC (.int 1)) (dCons (dC (.int 2)) dNil)))) (dCons (dN oTup (dCons (dC (.int 0)) (dCons (dUn (oU fun i => -i) (dC (.int 1))) dNil))) (dCons (dN oTup (dCons (dC (.int 0)) (dCons (dC (.int 7)) dNil))) (dCons (dN oTup (dCons (dN oTup (dCons (dC (.int 0)) (dCons (dC (.int 1)) dNil))) dNil)) (dCons (dN oTup (dCons (dN oTup (dCons (dC (.int 0)) (dCons (dC (.int 1)) dNil))) (dCons (dC (.int 0)) dNil))) dNil))))))))))))))
  (sSeq (sAsg (.nm 2) (dNew (nCat (dVar 2) (dNew (nLst (dCons (dVar 1) (dCons (dNew (nList (dVar 1))) (dCons (dBack (dVar 1)) (dCons (dBin oAdd (dVar 1) (dVar 1)) (dCons (dN oTup (dCons (dVar 1) dNil)) (dCons (dDct1 0 (dC (.int 1))) (dCons (dN oTup (dCons (dBin oIx (dVar 1) (dC (.int 0))) (dCons (dBin oIx (dVar 1) (dC (.int 0))) dNil))) (dCons (dN oTup (dCons (dC (.int 0)) (dCons (dNew (nLst (dCons (dC (.int 1)) dNil))) dNil))) (dCons (dN oTup (dCons (dC (.int 0)) (dCons (dC (.dct [])) dNil))) dNil))))))))))))))
  (sRet (dBin oIx (dVar 2) (dCall p_law_next EX0 (dCons (dVar 0) (dCons (dN oLen (dCons (dVar 2) dNil)) dNil))))))))
def rd_is_whole (C : Ct)  (EX : QXe) : TSd :=
  (sRet (dAndV (dN (oIsi C) (dCons (dVar 0) (dCons (dC (.ty "int")) dNil))) (dNotV (dN (oIsi C) (dCons (dVar 0) (dCons (dC (.ty "bool")) dNil))))))
def rd_is_below (C : Ct) (p_is_whole : DSp) (EX : QXe) : TSd :=
  (sRet (dAndV (dCall p_is_whole EX0 (dCons (dVar 0) dNil)) (dChain oLe oLt (dC (.int 0)) (dVar 0) (dVar 1))))
def rd_is_pair (C : Ct)  (EX : QXe) : TSd :=
  (sRet (dAndV (dN (oIsi C) (dCons (dVar 0) (dCons (dC (.ty "tuple")) dNil))) (dBin (oEq id) (dN oLen (dCons (dVar 0) dNil)) (dC (.int 2)))))
def rd_is_link (C : Ct) (p_is_pair : DSp) (p_is_below : DSp) (EX : QXe) : TSd :=
  (sSeq (sIf (dOr (dNot (dTst (dCall p_is_pair EX0 (dCons (dVar 0) dNil)))) (dOr (dNot (dTst (dCall p_is_below EX0 (dCons (dBin oIx (dVar 0) (dC (.int 0))) (dCons (dVar 1) dNil))))) (dNot (dTst (dCall p_is_below EX0 (dCons (dBin oIx (dVar 0) (dC (.int 1))) (dCons (dVar 1) dNil)))))))
  (sRet (dC (.bl false)))
  sNext)
  (sRet (dBin (oEq not) (dBin oIx (dVar 0) (dC (.int 0))) (dBin oIx (dVar 0) (dC (.int 1))))))
def rd_net_error (C : Ct) (p_is_whole : DSp) (p_is_link : DSp) (EX : QXe) : TSd :=
  (sSeq (sIf (dOr (dNot (dTst (dCall p_is_whole EX0 (dCons (dVar 0) dNil)))) (dNot (dTst (dChain oLe oLe (dC (.int 1)) (dVar 0) (dC (.int 7))))))
  (sRet (dN oTup (dCons (dC .non) (dCons (dC (.str "nodes")) dNil))))
  sNext)
  (sSeq (sIf (dOr (dNot (dTst (dN (oIsi C) (dCons (dVar 1) (dCons (dC (.ty "tuple")) dNil))))) (dTst (dBin oGt (dN oLen (dCons (dVar 1) dNil)) (dC (.int 8)))))
  (sRet (dN oTup (dCons (dC .non) (dCons (dC (.str "links")) dNil))))
  sNext)
  (sSeq (sFor (.tp [2, 3]) (iEnumD (dVar 1))
  (sSeq (sIf (dNot (dTst (dCall p_is_link EX0 (dCons (dVar 3) (dCons (dVar 0) dNil)))))
  (sRet (dN oTup (dCons (dVar 2) (dCons (dC (.str "link")) dNil))))
  sNext)
  (sIf (dTst (dBin (oIn id) (dNew (nSort (dVar 3))) (dNew (nLc (.nm 4) dYes (dNew (nSort (dVar 4))) [4] (iVal (dSl (dVar 1) dNo (dPart (dVar 2))))))))
  (sRet (dN oTup (dCons (dVar 2) (dCons (dC (.str "again")) dNil))))
  sNext)))
  (sRet (dC .non)))))
def rd_Net_init (C : Ct) (p_net_error : DSp) (EX : QXe) : TSd :=
  (sSeq (sAsg (.nm 3) (dCall p_net_error EX0 (dCons (dVar 1) (dCons (dVar 2) dNil))))
  (sSeq (sIf (dTst (dBin (oIsN not) (dVar 3) (dC .non)))
  (sRaise (mOwn 2 1 (dCons (dVar 3) dNil)) EX)
  sNext)
  (sSeq (sFldD fi_size (dVar 0) (dVar 1))
  (sFldD fi_pairs (dVar 0) (dN oTuple (dCons (dNew (nSort (dNew (nLc (.nm 4) dYes (dN oTup (dCons (dN (oIs minI fun ns => 0 < ns.length) (dCons (dVar 4) dNil)) (dCons (dN (oIs maxI fun ns => 0 < ns.length) (dCons (dVar 4) dNil)) dNil))) [4] (iVal (dVar 2)))))) dNil))))))
end DL.S

set_option maxHeartbeats 1000000
namespace DL.S
open PySem PySem.Spec PyProof.Rows L2 DL

/-- the deck: what is left of great numbers, all numbers, how many draws behind them (c at most); other shared objects behind it -/
def Dk (c : Nat) (tl m : Mem) : Prop := ∃ (rest cells : List Int) (t : Nat), m = [.lst (rest.map Dat.int), .lst [.obj 0, .lst (cells.map Dat.int), .int t]] ++ tl ∧ t ≤ c ∧ cells ≠ [] ∧ cells.length ≤ 100
theorem Dk.mono {c d : Nat} {tl m : Mem} (h : Dk c tl m) (e : c ≤ d) : Dk d tl m := by
  obtain ⟨rest, cells, t, h1, h2, h3⟩ := h
  exact ⟨rest, cells, t, h1, Nat.le_trans h2 e, h3⟩
def noE : List Dat → Mem → Nat → List Dat → Mem → Prop := fun _ _ _ _ _ => False
def lim : Nat := 2 ^ 40
def p_next : DSp := pRel 2 (fun ds m => ∃ (many : Int) (c : Nat) (tl : Mem), ds = [.obj 1, .int many] ∧ 0 < many ∧ many < 2 ^ 40 ∧ Dk c tl m ∧ c < lim)
  (fun ds m r m' => ∃ (many i : Int), ds = [.obj 1, .int many] ∧ r = .int i ∧ 0 ≤ i ∧ i < many ∧ ∀ c tl, Dk c tl m → Dk (c + 1) tl m') noE
theorem okR1 (k : Nat) (i : Int) : okN k (.int i) = true := by cases k <;> rfl
/-- one look at the deck's parts -/
theorem law_next (C : Ct) : ∀ ds m (Q : QD) (E : QX), p_next ds m Q E → rd_law_next C (fun c xs _ m => E c xs m) { nx := fun _ m => Q .non m, rt := Q } (env0 6 ds) m := by
  rintro ds m Q E ⟨_, ⟨many, c, tl, rfl, h0, h1, ⟨rest, cells, t, rfl, ht, hc, h100⟩, hlim⟩, hQ, _⟩
  have hl : many.natAbs.log2 < 9000 := Nat.lt_of_lt_of_le (log2_lt (k := 40) (by decide) (by omega)) (by decide)
  have e0 : env0 6 [.obj 1, .int many] = [some (.f (.obj 1)), some (.f (.int many)), none, none, none, none] := rfl
  rw [e0]
  unfold rd_law_next
  have loop : ∀ (cont : Env' → Mem → Prop) (bk ct : Env' → Mem → Prop) (rest : List Int) (x : Option Sl), (∀ m', (∃ rest' : List Int, m' = [Mo.lst (rest'.map Dat.int), .lst [.obj 0, .lst (cells.map Dat.int), .int t]] ++ tl) → ∀ i, 0 ≤ i → i < many → Q (.int i) m') → (∀ x, cont [some (.f (.obj 1)), some (.f (.int many)), none, none, none, x] ([Mo.lst [], .lst [.obj 0, .lst (cells.map Dat.int), .int t]] ++ tl)) →
    whGo (dTst (dBin (oEq not) (dBin oIx (dVar 0) (dC (.int 0))) (dNew (nLst dNil))))
    (sSeq (sAsg (.nm 5) (dBin oIx (dBin oIx (dVar 0) (dC (.int 0))) (dC (.int 0))))
  (sSeq (sIf (dTst (dBin oGt (dVar 5) (dC (.int 0))))
  (sSeq (sSetI (dBin oFdiv (dVar 5) (dVar 1)) (dBin oIx (dVar 0) (dC (.int 0))) (dC (.int 0)))
  (sRet (dBin oMod (dN (oN1 fInt) (dCons (dVar 5) dNil)) (dVar 1))))
  sNext)
  (sPop0 (dBin oIx (dVar 0) (dC (.int 0))))))
    { nx := cont, rt := Q, bk := bk, ct := ct } (rest.length + 1) [some (.f (.obj 1)), some (.f (.int many)), none, none, none, x] ([.lst (rest.map Dat.int), .lst [.obj 0, .lst (cells.map Dat.int), .int t]] ++ tl) := by
    intro cont bk ct rest
    induction rest with
    | nil =>
      intro x hq hc
      unfold whGo
      simp [dTst, dBin, dVar, dC, oIx, der, moD, atI, ixN, dNew, nLst, dNil, frs, oEq, okN, eqd, eqds]
      exact hc x
    | cons r rest ih =>
      intro x hq hc
      unfold whGo
      simp [dTst, dBin, dVar, dC, oIx, der, moD, atI, ixN, dNew, nLst, dNil, frs, oEq, okN, eqd, eqds, okR1, all_int, sSeq, sAsg, bind, sIf, oI0, oI, sSetI, sRet, dN, dCons, oN1, fInt, sNext, sPop0, moOf, setE, setM, CDivW, h0, hl]
      by_cases hr : 0 < r
      · rw [if_pos hr]
        exact hq _ ⟨(r / many) :: rest, rfl⟩ _ (Int.emod_nonneg _ (by omega)) (Int.emod_lt_of_pos _ h0)
      · rw [if_neg hr]
        exact ih _ hq hc
  refine ⟨rest.length + 1, ?_⟩
  have post : ∀ (rest' : List Int) (t' : Nat), t' ≤ t + 1 → ∀ c' tl', Dk c' tl' ([Mo.lst (rest.map Dat.int), .lst [.obj 0, .lst (cells.map Dat.int), .int t]] ++ tl) → Dk (c' + 1) tl' ([Mo.lst (rest'.map Dat.int), .lst [.obj 0, .lst (cells.map Dat.int), .int t']] ++ tl) := by
    rintro rest' t' h c' tl' ⟨r2, c2, t2, e, h2, h3, h4⟩
    simp at e
    obtain ⟨e1, ⟨e2, e3⟩, e4⟩ := e
    subst e4
    exact ⟨rest', cells, t', rfl, by omega, hc, h100⟩
  refine loop _ _ _ rest none (fun m' ⟨rest', e⟩ i h2 h3 => hQ _ _ ⟨many, i, rfl, rfl, h2, h3, ?_⟩) fun x => ?_
  · subst e
    exact post rest' t (by omega)
  · have hcl : 0 < cells.length := Nat.pos_of_ne_zero (fun h => hc (List.length_eq_zero_iff.mp h))
    obtain ⟨y, hy, hy2⟩ := atI_int (l := cells.map Dat.int) (i := ((t : Int) + 1) % (cells.length : Int)) (Int.emod_nonneg _ (by omega)) (by rw [List.length_map]; exact Int.emod_lt_of_pos _ (by omega))
    obtain ⟨v, rfl⟩ : ∃ v, y = .int v := by
      rw [List.getElem?_map] at hy2
      cases q : cells[(((t : Int) + 1) % (cells.length : Int)).toNat]? with
      | none => rw [q] at hy2; cases hy2
      | some v => rw [q] at hy2; exact ⟨v, (Option.some.inj hy2).symm⟩
    have ht2 : (t : Int) < 2 ^ 40 := by
      have : lim = 2 ^ 40 := rfl
      omega
    have m1 : CMul 68111 ((t : Int) + 1) := .inl ⟨by decide, by decide⟩
    have m2 : CMul 41287 ((t : Int) + 1) := .inl ⟨by decide, by decide⟩
    have m3 : CMul (41287 * ((t : Int) + 1)) ((t : Int) + 1) := .inr ⟨by omega, by omega⟩
    have m4 : ∀ z : Int, CMul (v % 2147483629) z := fun z => .inl ⟨by have := Int.emod_nonneg v (show (2147483629 : Int) ≠ 0 by decide); omega, by have := Int.emod_lt_of_pos v (show (0 : Int) < 2147483629 by decide); omega⟩
    have m5 : ∀ a z : Int, CMul (a % 2147483587) z := fun a z => .inl ⟨by have := Int.emod_nonneg a (show (2147483587 : Int) ≠ 0 by decide); omega, by have := Int.emod_lt_of_pos a (show (0 : Int) < 2147483587 by decide); omega⟩
    have m6 : ∀ z : Int, CDivW z 16 := fun z => ⟨by decide, by decide⟩
    simp [dBin, dVar, dC, oIx, der, moD, atI0, atI1, atI2, hy, sSeq, sAsg, bind, oI0, oI, sSetI, sRet, dN, dCons, dNil, oN1, fInt, moOf, setE, setM, oAdd, oLen, ixN, m1, m2, m3, m4, m5, m6, h0, hcl]
    exact hQ _ _ ⟨many, _, rfl, rfl, Int.emod_nonneg _ (by omega), Int.emod_lt_of_pos _ h0, post [] (t + 1) (by omega)⟩
end DL.S

set_option maxHeartbeats 1000000
namespace DL.S
open PySem PySem.Spec PyProof.Rows L2 DL

def p_deck : DSp := pRel 1 (fun ds m => ∃ ns : List Int, ds = [.lst (ns.map Dat.int)] ∧ ns.length ≤ 63 ∧ m = []) (fun ds m r m' => r = .obj 1 ∧ Dk 0 [] m') noE
def absI (i : Int) : Int := if i < 0 then -i else i
theorem law_deck (C : Ct) : ∀ ds m (Q : QD) (E : QX), p_deck ds m Q E → rd_law_deck C (fun c xs _ m => E c xs m) { nx := fun _ m => Q .non m, rt := Q } (env0 3 ds) m := by
  rintro ds m Q E ⟨_, ⟨ns, rfl, hn, rfl⟩, hQ, _⟩
  have e0 : env0 3 [.lst (ns.map Dat.int)] = [some (.f (.lst (ns.map Dat.int))), none, none] := rfl
  rw [e0]
  unfold rd_law_deck
  have s1 : 100 ≤ sizeLine := sz (by decide)
  show (ns.map Dat.int).length ≤ sizeLine ∧ lcGo _ _ _ _ _ _ _
  refine ⟨by rw [List.length_map]; omega, lc_map (f := fun d => match d with | .int i => .int (absI i) | d => d) (fun x hx Q h => ?_) ?_⟩
  · obtain ⟨i, _, rfl⟩ := List.mem_map.mp hx
    exact h
  have e1 : (ns.map Dat.int).map (fun d => match d with | .int i => .int (absI i) | d => d) = (ns.map absI).map Dat.int := by
    rw [List.map_map, List.map_map]; rfl
  rw [e1]
  show ((ns.map absI).map Dat.int).length ≤ sizeLine ∧ lcGo _ _ _ _ _ _ _
  refine ⟨by rw [List.length_map, List.length_map]; omega, lc_filter (f := id) (g := fun d => match d with | .int i => decide ((10 : Int) ^ 18 ≤ i) | _ => false) (fun x hx Q h => ?_) (fun x hx _ Q h => h) ?_⟩
  · obtain ⟨i, _, rfl⟩ := List.mem_map.mp hx
    exact ⟨⟨by decide, by decide, by decide⟩, trivial, h⟩
  have e2 : (((ns.map absI).map Dat.int).filter (fun d => match d with | .int i => decide ((10 : Int) ^ 18 ≤ i) | _ => false)).map id = ((ns.map absI).filter fun i => decide ((10 : Int) ^ 18 ≤ i)).map Dat.int := by
    rw [List.map_id, List.filter_map]; rfl
  rw [e2]
  simp [dNew, nCat, dVar, lstOf, der, nLst, dN, oLen, dCons, dNil, oAdd, dBin, dC, frs, dShr]
  refine ⟨by omega, by omega, by omega, hQ _ _ ⟨rfl, ?_⟩⟩
  refine ⟨(ns.map absI).filter fun i => decide ((10 : Int) ^ 18 ≤ i), ns.map absI ++ [(ns.length : Int) + 5], 0, ?_, Nat.le_refl _, by simp, by simp; omega⟩
  simp
end DL.S

set_option maxHeartbeats 1000000
namespace DL.S
open PySem PySem.Spec PyProof.Rows L2 DL

/-! ### _law_same of a datum and itself -/
/-- plain data, at most k deep, whose parts can be compared, shown and counted -/
def good : Nat → Dat → Bool
  | _, .non => true
  | _, .bl _ => true
  | _, .int i => decide (i.natAbs.log2 < 1920)
  | _, .str x => PyData.strOk x
  | k + 1, .tup xs => decide (xs.length ≤ 10000) && xs.all (good k)
  | k + 1, .lst xs => decide (xs.length ≤ 10000) && xs.all (good k)
  | _, .dct kvs => okR 60 (.dct kvs) && (decide ((py (.dct kvs)).shown.length ≤ 10000) && PyData.strOk (py (.dct kvs)).shown)
  | _, _ => false
theorem good_tup {k : Nat} {xs : List Dat} (h : good k (.tup xs) = true) : ∃ j, k = j + 1 ∧ xs.length ≤ 10000 ∧ ∀ x ∈ xs, good j x = true := by
  cases k with
  | zero => cases h
  | succ j =>
    rw [good, Bool.and_eq_true] at h
    exact ⟨j, rfl, of_decide_eq_true h.1, List.all_eq_true.mp h.2⟩
theorem good_lst {k : Nat} {xs : List Dat} (h : good k (.lst xs) = true) : ∃ j, k = j + 1 ∧ xs.length ≤ 10000 ∧ ∀ x ∈ xs, good j x = true := by
  cases k with
  | zero => cases h
  | succ j =>
    rw [good, Bool.and_eq_true] at h
    exact ⟨j, rfl, of_decide_eq_true h.1, List.all_eq_true.mp h.2⟩
def p_same (k : Nat) : DSp := pRel 2 (fun ds m => ∃ d, ds = [d, d] ∧ good k d = true) (fun ds m r m' => r = .bl true ∧ m' = m) noE
theorem strOkN (k : Nat) {x : Str} (h : PyData.strOk x = true) : okN k (.str x) = true := by cases k <;> exact h
theorem intOkN (k : Nat) (i : Int) : okN k (.int i) = true := by cases k <;> rfl
theorem blOkN (k : Nat) (i : Bool) : okN k (.bl i) = true := by cases k <;> rfl
theorem eqd_int (i j : Int) : eqd (.int i) (.int j) = (i == j) := by simp [eqd]
theorem eqd_bl (i j : Bool) : eqd (.bl i) (.bl j) = (i == j) := by simp [eqd]
theorem eqd_str (i j : Str) : eqd (.str i) (.str j) = (i == j) := by simp [eqd]
/-- a call that changes nothing and answers v -/
theorem call_is {p : DSp} {EX : QXe} {da : TAd} {env : Env'} {m : Mem} {Q : QL} (xs : List Lv) (ds : List Dat) (ha : ∀ Q : List Lv → Mem → Prop, Q xs m → da env m Q) (hf : frs xs = some ds) (h : p ds m (fun d m2 => Q (.f d) m2) fun c ys m2 => EX c ys env m2) : dCall p EX da env m Q := by
  refine ha _ ?_
  rw [hf]
  exact h
theorem zipD_self : ∀ xs : List Dat, zipD xs xs = xs.map fun x => .tup [x, x]
  | [] => rfl
  | x :: xs => by rw [zipD, zipD_self xs]; rfl
theorem bools_map : ∀ bs : List Bool, bools (bs.map Dat.bl) = some bs
  | [] => rfl
  | b :: bs => by
    show (bools (bs.map Dat.bl)).map (b :: ·) = some (b :: bs)
    rw [bools_map bs]; rfl
/-- the comprehension within -/
theorem same_all {j : Nat} {xs : List Dat} {m : Mem} {env : Env'} {Q : List Dat → Mem → Prop} (he : env.length = 4) (hx : ∀ x ∈ xs, good j x = true) (h : Q (xs.map fun _ => .bl true) m) :
    lcGo (.tp [2, 3]) dYes (dCall (p_same j) EX0 (dCons (dVar 2) (dCons (dVar 3) dNil))) env (zipD xs xs) m Q := by
  rw [zipD_self]
  induction xs generalizing Q with
  | nil => exact h
  | cons x xs ih =>
    rw [List.map_cons]
    unfold lcGo
    match env, he with
    | [e0, e1, e2, e3], _ =>
      have hb : bind (.tp [2, 3]) (.f (.tup [x, x])) [e0, e1, e2, e3] = some [e0, e1, some (.f x), some (.f x)] := by simp [bind, setAll]
      rw [hb]
      dsimp only [dYes]
      rw [if_pos rfl]
      refine ⟨rfl, ⟨x, rfl, hx x (by simp)⟩, fun r m' q => ?_, fun _ _ _ q => q.elim⟩
      obtain ⟨rfl, rfl⟩ := q
      exact ih (Q := fun ds m3 => Q (.bl true :: ds) m3) (fun y hy => hx y (by simp [hy])) h
theorem law_same (C : Ct) (k : Nat) : ∀ ds m (Q : QD) (E : QX), p_same k ds m Q E → rd_law_same C (p_same (k - 1)) (fun c xs _ m => E c xs m) { nx := fun _ m => Q .non m, rt := Q } (env0 4 ds) m := by
  rintro ds m Q E ⟨_, ⟨d, rfl, hd⟩, hQ, _⟩
  have hQ' : Q (.bl true) m := hQ _ _ ⟨rfl, rfl⟩
  have e0 : env0 4 [d, d] = [some (.f d), some (.f d), none, none] := rfl
  rw [e0]
  unfold rd_law_same
  have s1 : 10000 ≤ sizeLine := sz (by decide)
  have s2 : 2 ≤ sizeLine := sz (by decide)
  cases d with
  | non => simp [sSeq, sIf, dTst, dN, oIsi, dCons, dVar, dC, dNil, oTup, frs, s2, derI, der, isaD, isaL, isa1, tyN, isT, sNext, dBin, oIsN, isN, sRet, hQ']
  | bl b => simp [sSeq, sIf, dTst, dN, oIsi, dCons, dVar, dC, dNil, oTup, frs, s2, derI, der, isaD, isaL, isa1, tyN, isT, sNext, dBin, oIsN, isN, sRet, dOr, dAndV, oEq, eqd_bl, blOkN, hQ']
  | int i => simp [sSeq, sIf, dTst, dN, oIsi, dCons, dVar, dC, dNil, oTup, frs, s2, derI, der, isaD, isaL, isa1, tyN, isT, sNext, dBin, oIsN, isN, sRet, dOr, dAndV, oEq, eqd_int, intOkN, hQ']
  | str x =>
    have hx : PyData.strOk x = true := by cases k <;> exact hd
    simp [sSeq, sIf, dTst, dN, oIsi, dCons, dVar, dC, dNil, oTup, frs, s2, derI, der, isaD, isaL, isa1, tyN, isT, sNext, dBin, oIsN, isN, sRet, dOr, dAndV, oEq, eqd_str, strOkN _ hx, hQ']
  | tup xs =>
    obtain ⟨j, rfl, hl, hx⟩ := good_tup hd
    simp [sSeq, sIf, dTst, dN, oIsi, dCons, dVar, dC, dNil, oTup, frs, s2, derI, der, isaD, isaL, isa1, tyN, isT, sNext, dBin, oIsN, isN, sRet, dOr, dAndV, oEq, eqd_int, eqd_bl, intOkN, blOkN, oLen, dNew, nLc, iZipD, zipD_len, oBs]
    refine ⟨by omega, same_all rfl hx ?_⟩
    have eb : bools (xs.map fun _ => Dat.bl true) = some (xs.map fun _ => true) := by
      rw [show (xs.map fun _ => Dat.bl true) = (xs.map fun _ => true).map Dat.bl by rw [List.map_map]; rfl]
      exact bools_map _
    have ea : (xs.map fun _ => true).all id = true := by
      rw [List.all_eq_true]
      intro b hb
      obtain ⟨_, _, rfl⟩ := List.mem_map.mp hb
      rfl
    simp only [seqOf, lstOf, tupOf, der, eb, ea]
    exact hQ'
  | lst xs =>
    obtain ⟨j, rfl, hl, hx⟩ := good_lst hd
    simp [sSeq, sIf, dTst, dN, oIsi, dCons, dVar, dC, dNil, oTup, frs, s2, derI, der, isaD, isaL, isa1, tyN, isT, sNext, dBin, oIsN, isN, sRet, dOr, dAndV, oEq, eqd_int, eqd_bl, intOkN, blOkN, oLen, dNew, nLc, iZipD, zipD_len, oBs]
    refine ⟨by omega, same_all rfl hx ?_⟩
    have eb : bools (xs.map fun _ => Dat.bl true) = some (xs.map fun _ => true) := by
      rw [show (xs.map fun _ => Dat.bl true) = (xs.map fun _ => true).map Dat.bl by rw [List.map_map]; rfl]
      exact bools_map _
    have ea : (xs.map fun _ => true).all id = true := by
      rw [List.all_eq_true]
      intro b hb
      obtain ⟨_, _, rfl⟩ := List.mem_map.mp hb
      rfl
    simp only [seqOf, lstOf, tupOf, der, eb, ea]
    exact hQ'
  | dct kvs =>
    have hx : okR 60 (.dct kvs) = true ∧ (py (.dct kvs)).shown.length ≤ 10000 ∧ PyData.strOk (py (.dct kvs)).shown = true := by
      have h' : (okR 60 (.dct kvs) && (decide ((py (.dct kvs)).shown.length ≤ 10000) && PyData.strOk (py (.dct kvs)).shown)) = true := by cases k <;> exact hd
      rw [Bool.and_eq_true, Bool.and_eq_true] at h'
      exact ⟨h'.1, of_decide_eq_true h'.2.1, h'.2.2⟩
    simp [sSeq, sIf, dTst, dN, oIsi, dCons, dVar, dC, dNil, oTup, frs, s2, derI, der, isaD, isaL, isa1, tyN, isT, sNext, dBin, oIsN, isN, sRet, dOr, dAndV, oEq, eqd_str, oRepr]
    exact ⟨hx.1, by omega, hx.1, by omega, strOkN _ hx.2.2, hQ'⟩
  | _ => cases k <;> cases hd
end DL.S

set_option maxHeartbeats 1000000
namespace K02
open PySem PySem.Spec PyProof.Rows L2 DL DL.S

def plain (d : Dat) : Bool := (tyN d).isSome
def isInt : Dat → Bool
  | .int _ => true
  | _ => false
def below (b : Int) : Dat → Bool
  | .int i => decide (0 ≤ i) && decide (i < b)
  | _ => false
def isPair : Dat → Bool
  | .tup xs => decide (xs.length = 2)
  | _ => false
def linkB (n : Int) : Dat → Bool
  | .tup [.int a, .int b] => (decide (0 ≤ a) && decide (a < n)) && ((decide (0 ≤ b) && decide (b < n)) && decide (a ≠ b))
  | _ => false
theorem q_bl {Q : QD} {a b : Bool} {m : Mem} (h : Q (.bl a) m) (e : b = a) : Q (.bl b) m := e ▸ h
def p_whole : DSp := pRel 1 (fun ds m => ∃ d, ds = [d] ∧ plain d = true) (fun ds m r m' => ∃ d, ds = [d] ∧ r = .bl (isInt d) ∧ m' = m) noE
def p_below : DSp := pRel 2 (fun ds m => ∃ d b, ds = [d, .int b] ∧ plain d = true) (fun ds m r m' => ∃ d b, ds = [d, .int b] ∧ r = .bl (below b d) ∧ m' = m) noE
def p_pair : DSp := pRel 1 (fun ds m => ∃ d, ds = [d] ∧ plain d = true) (fun ds m r m' => ∃ d, ds = [d] ∧ r = .bl (isPair d) ∧ m' = m) noE
def p_link : DSp := pRel 2 (fun ds m => ∃ d n, ds = [d, .int n] ∧ plain d = true ∧ ∀ xs, d = .tup xs → ∀ x ∈ xs, plain x = true) (fun ds m r m' => ∃ d n, ds = [d, .int n] ∧ r = .bl (linkB n d) ∧ m' = m) noE
theorem good_plain {k : Nat} {d : Dat} (h : good k d = true) : plain d = true := by
  cases d <;> first | rfl | (cases k <;> cases h)
theorem law_is_whole (C : Ct) : ∀ ds m (Q : QD) (E : QX), p_whole ds m Q E → rd_is_whole C (fun c xs _ m => E c xs m) { nx := fun _ m => Q .non m, rt := Q } (env0 1 ds) m := by
  rintro ds m Q E ⟨_, ⟨d, rfl, hd⟩, hQ, _⟩
  have hQ' : Q (.bl (isInt d)) m := hQ _ _ ⟨d, rfl, rfl, rfl⟩
  have e0 : env0 1 [d] = [some (.f d)] := rfl
  rw [e0]
  unfold rd_is_whole
  cases d <;> first
    | (simp [sRet, dAndV, dNotV, dN, oIsi, dCons, dVar, dC, dNil, derI, der, isaD, isa1, tyN, isT]; exact hQ')
    | cases hd
theorem law_law_whole (C : Ct) : ∀ ds m (Q : QD) (E : QX), p_whole ds m Q E → DL.S.rd_law_whole C (fun c xs _ m => E c xs m) { nx := fun _ m => Q .non m, rt := Q } (env0 1 ds) m := law_is_whole C
theorem call_whole {da : TAd} {env : Env'} {m : Mem} {Q : QL} (d : Dat) (hd : plain d = true) (ha : ∀ Q : List Lv → Mem → Prop, Q [.f d] m → da env m Q) (h : Q (.f (.bl (isInt d))) m) : dCall p_whole EX0 da env m Q :=
  call_is [.f d] [d] ha rfl ⟨rfl, ⟨d, rfl, hd⟩, fun r m' ⟨d', e1, e2, e3⟩ => by cases e1; subst e2 e3; exact h, fun _ _ _ q => q.elim⟩
theorem call_below {da : TAd} {env : Env'} {m : Mem} {Q : QL} (d : Dat) (b : Int) (hd : plain d = true) (ha : ∀ Q : List Lv → Mem → Prop, Q [.f d, .f (.int b)] m → da env m Q) (h : Q (.f (.bl (below b d))) m) : dCall p_below EX0 da env m Q :=
  call_is [.f d, .f (.int b)] [d, .int b] ha rfl ⟨rfl, ⟨d, b, rfl, hd⟩, fun r m' ⟨d', b', e1, e2, e3⟩ => by cases e1; subst e2 e3; exact h, fun _ _ _ q => q.elim⟩
theorem call_pair {da : TAd} {env : Env'} {m : Mem} {Q : QL} (d : Dat) (hd : plain d = true) (ha : ∀ Q : List Lv → Mem → Prop, Q [.f d] m → da env m Q) (h : Q (.f (.bl (isPair d))) m) : dCall p_pair EX0 da env m Q :=
  call_is [.f d] [d] ha rfl ⟨rfl, ⟨d, rfl, hd⟩, fun r m' ⟨d', e1, e2, e3⟩ => by cases e1; subst e2 e3; exact h, fun _ _ _ q => q.elim⟩
theorem call_link {da : TAd} {env : Env'} {m : Mem} {Q : QL} (d : Dat) (n : Int) (hd : plain d = true) (hx : ∀ xs, d = .tup xs → ∀ x ∈ xs, plain x = true) (ha : ∀ Q : List Lv → Mem → Prop, Q [.f d, .f (.int n)] m → da env m Q) (h : Q (.f (.bl (linkB n d))) m) : dCall p_link EX0 da env m Q :=
  call_is [.f d, .f (.int n)] [d, .int n] ha rfl ⟨rfl, ⟨d, n, rfl, hd, hx⟩, fun r m' ⟨d', b', e1, e2, e3⟩ => by cases e1; subst e2 e3; exact h, fun _ _ _ q => q.elim⟩
theorem law_is_below (C : Ct) : ∀ ds m (Q : QD) (E : QX), p_below ds m Q E → rd_is_below C p_whole (fun c xs _ m => E c xs m) { nx := fun _ m => Q .non m, rt := Q } (env0 2 ds) m := by
  rintro ds m Q E ⟨_, ⟨d, b, rfl, hd⟩, hQ, _⟩
  have hQ' : Q (.bl (below b d)) m := hQ _ _ ⟨d, b, rfl, rfl, rfl⟩
  have e0 : env0 2 [d, .int b] = [some (.f d), some (.f (.int b))] := rfl
  rw [e0]
  unfold rd_is_below sRet dAndV
  refine call_whole d hd (fun Q h => h) ?_
  cases d with
  | int i =>
    simp [isInt, dChain, dVar, dC, oI0, oI]
    by_cases h1 : 0 ≤ i
    · simp only [h1, decide_true]
      exact q_bl hQ' (by simp [below, h1])
    · simp only [h1, decide_false]
      exact q_bl hQ' (by simp [below, h1])
  | _ => first
    | (cases hd; done)
    | exact hQ'
theorem law_is_pair (C : Ct) : ∀ ds m (Q : QD) (E : QX), p_pair ds m Q E → rd_is_pair C (fun c xs _ m => E c xs m) { nx := fun _ m => Q .non m, rt := Q } (env0 1 ds) m := by
  rintro ds m Q E ⟨_, ⟨d, rfl, hd⟩, hQ, _⟩
  have hQ' : Q (.bl (isPair d)) m := hQ _ _ ⟨d, rfl, rfl, rfl⟩
  have e0 : env0 1 [d] = [some (.f d)] := rfl
  rw [e0]
  unfold rd_is_pair
  cases d with
  | tup xs =>
    simp [sRet, dAndV, dNotV, dN, oIsi, dCons, dVar, dC, dNil, derI, der, isaD, isa1, tyN, isT, dBin, oEq, oLen, eqd_int, intOkN]
    refine q_bl hQ' ?_
    rw [isPair, Bool.eq_iff_iff, beq_iff_eq, decide_eq_true_iff]
    omega
  | _ => first
    | (cases hd; done)
    | (simp [sRet, dAndV, dNotV, dN, oIsi, dCons, dVar, dC, dNil, derI, der, isaD, isa1, tyN, isT]; exact hQ')
theorem law_is_link (C : Ct) : ∀ ds m (Q : QD) (E : QX), p_link ds m Q E → rd_is_link C p_pair p_below (fun c xs _ m => E c xs m) { nx := fun _ m => Q .non m, rt := Q } (env0 2 ds) m := by
  rintro ds m Q E ⟨_, ⟨d, n, rfl, hd, hx⟩, hQ, _⟩
  have hQ' : Q (.bl (linkB n d)) m := hQ _ _ ⟨d, n, rfl, rfl, rfl⟩
  have e0 : env0 2 [d, .int n] = [some (.f d), some (.f (.int n))] := rfl
  rw [e0]
  unfold rd_is_link sSeq sIf dOr dNot dTst
  refine call_pair d hd (fun Q h => h) ?_
  by_cases hp : isPair d = true
  · cases d with
    | tup xs =>
      match xs, hp with
      | [a, b], _ =>
        have hp2 : isPair (.tup [a, b]) = true := rfl
        have ha := hx _ rfl a (by simp)
        have hb := hx _ rfl b (by simp)
        simp [hp2]
        refine call_below a n ha (fun Q h => by simp [dCons, dNil, dBin, dVar, dC, oIx, der, atI0, atI1]; exact h) ?_
        by_cases h1 : below n a = true
        · simp [h1]
          refine call_below b n hb (fun Q h => by simp [dCons, dNil, dBin, dVar, dC, oIx, der, atI0, atI1]; exact h) ?_
          by_cases h2 : below n b = true
          · simp [h2, sNext, sRet, dBin, dVar, dC, oIx, der, atI0, atI1]
            cases a with
            | int i =>
              cases b with
              | int j =>
                simp [der, oEq, intOkN, eqd_int]
                rw [below, Bool.and_eq_true, decide_eq_true_iff, decide_eq_true_iff] at h1 h2
                refine q_bl hQ' ?_
                simp only [linkB, h1, h2, decide_true, Bool.and_self, Bool.true_and]
                by_cases e : i = j
                · simp [e]
                · simp [e]
              | _ => cases h2
            | _ => cases h1
          · simp [h2, sRet, dC]
            refine q_bl hQ' ?_
            rw [Bool.not_eq_true] at h2
            cases b with
            | int j =>
              rw [below] at h2
              cases a <;> first | rfl | (rw [linkB, h2]; simp)
            | _ => cases a <;> rfl
        · simp [h1, sRet, dC]
          refine q_bl hQ' ?_
          rw [Bool.not_eq_true] at h1
          cases a with
          | int i =>
            rw [below] at h1
            cases b <;> first | rfl | (rw [linkB, h1]; simp)
          | _ => rfl
    | _ => cases hp
  · simp [hp, sRet, dC]
    refine q_bl hQ' ?_
    cases d with
    | tup xs =>
      match xs, hp with
      | [], _ => rfl
      | [a], _ => cases a <;> rfl
      | [a, b], hp => exact absurd rfl hp
      | a :: b :: c :: r, _ => cases a <;> first | rfl | (cases b <;> rfl)
    | _ => rfl
end K02

set_option maxHeartbeats 1000000
namespace DL
open PySem PySem.Spec PyProof.Rows L2
theorem sortD_ints (ns : List Int) : sortD (ns.map Dat.int) = (ns.mergeSort fun a b => decide (a ≤ b)).map Dat.int := by
  unfold sortD
  refine (List.map_mergeSort (r := fun a b => decide (a ≤ b)) (s := PySem.W.dataLe false py) (f := Dat.int) (l := ns) fun a _ b _ => ?_).symm
  have e := congrFun (congrFun (PySem.W.dataLe_int (β := Int) id) a) b
  exact e.symm
theorem sort2 (a b : Int) : [a, b].mergeSort (fun a b => decide (a ≤ b)) = [min a b, max a b] := by
  by_cases h : a ≤ b
  · rw [Int.min_eq_left h, Int.max_eq_right h]
    simp [List.mergeSort, List.MergeSort.Internal.splitInTwo, List.merge, h]
  · rw [Int.min_eq_right (by omega), Int.max_eq_left (by omega)]
    simp [List.mergeSort, List.MergeSort.Internal.splitInTwo, List.merge, h]
theorem sortOk_ints {ns : List Int} (h : ∀ n ∈ ns, n.natAbs.log2 < 1920) : sortOk (ns.map Dat.int) := by
  refine ⟨?_, ?_, all_intR ns h⟩
  · rw [List.map_map]
    exact PySem.W.AllAlike.of fun _ _ => by simp [py, PySem.W.alike]
  · rw [List.map_map]
    exact PySem.W.Sortable.others fun _ => ⟨by simp [py], by simp [py]⟩
end DL

set_option maxHeartbeats 1000000
namespace K02
open PySem PySem.Spec PyProof.Rows L2 DL DL.S

def nrm : Dat → Dat
  | .tup [.int a, .int b] => .lst [.int (min a b), .int (max a b)]
  | d => d
def errGo (n : Int) : List Dat → Nat → List Dat → Dat
  | _, _, [] => .non
  | seen, k, x :: xs => if linkB n x = true then (if (seen.any fun s => eqd s (nrm x)) = true then .tup [.int k, .str "again"] else errGo n (seen ++ [nrm x]) (k + 1) xs) else .tup [.int k, .str "link"]
def errL (n : Int) : Dat → Dat
  | .tup xs => if xs.length ≤ 8 then errGo n [] 0 xs else .tup [.non, .str "links"]
  | _ => .tup [.non, .str "links"]
def errD (nd ld : Dat) : Dat := match nd with
  | .int n => if 1 ≤ n ∧ n ≤ 7 then errL n ld else .tup [.non, .str "nodes"]
  | _ => .tup [.non, .str "nodes"]
def p_err : DSp := pRel 2 (fun ds m => ∃ nd ld, ds = [nd, ld] ∧ plain nd = true ∧ good 5 ld = true) (fun ds m r m' => ∃ nd ld, ds = [nd, ld] ∧ r = errD nd ld ∧ m' = m) noE
theorem link_is {n : Int} {d : Dat} (h : linkB n d = true) : ∃ a b, d = .tup [.int a, .int b] ∧ 0 ≤ a ∧ a < n ∧ 0 ≤ b ∧ b < n ∧ a ≠ b := by
  cases d with
  | tup xs =>
    match xs, h with
    | [.int a, .int b], h =>
      simp [linkB] at h
      exact ⟨a, b, rfl, h.1.1, h.1.2, h.2.1.1, h.2.1.2, h.2.2⟩
  | _ => cases h
theorem small {i : Int} (h : 0 ≤ i) (h7 : i ≤ 1000000) : i.natAbs.log2 < 1920 := Nat.lt_of_lt_of_le (log2_lt (k := 20) (by decide) (by omega)) (by decide)
theorem sort_link {n : Int} {d : Dat} (hn : n ≤ 7) (h : linkB n d = true) : ∃ xs, d = .tup xs ∧ sortOk xs ∧ Dat.lst (sortD xs) = nrm d ∧ okN 5 (nrm d) = true := by
  obtain ⟨a, b, rfl, h1, h2, h3, h4, h5⟩ := link_is h
  have e : [Dat.int a, .int b] = [a, b].map Dat.int := rfl
  refine ⟨_, rfl, ?_, ?_, ?_⟩
  · rw [e]
    refine sortOk_ints fun x hx => ?_
    rcases List.mem_cons.mp hx with rfl | hx
    · exact small h1 (by omega)
    · rw [List.mem_singleton.mp hx]
      exact small h3 (by omega)
  · rw [e, sortD_ints, sort2]; rfl
  · rfl
theorem cut_pre {α : Type} (xs ys : List α) : DL.cutD (xs ++ ys) none (some (xs.length : Int)) = xs := by
  unfold DL.cutD
  rw [HT.sIx_none, HT.sIx_nat, List.drop_zero, Nat.sub_zero, List.length_append, Nat.min_eq_left (by omega), List.take_left']
  rfl
theorem ne_step {D : En} {n : Int} {x : Dat} {done rest : List Dat} {x2 x3 : Option Sl} {m : Mem} (hn : n ≤ 7) (hd : ∀ d ∈ done, linkB n d = true) (h8 : done.length + rest.length ≤ 8) (gx : good 4 x = true)
    (q1 : linkB n x = false → D.rt (.tup [.int (done.length : Nat), .str "link"]) m) (q2 : linkB n x = true → ((done.map nrm).any fun s => eqd s (nrm x)) = true → D.rt (.tup [.int (done.length : Nat), .str "again"]) m)
    (q3 : linkB n x = true → ((done.map nrm).any fun s => eqd s (nrm x)) = false → D.nx [some (.f (.int n)), some (.f (.tup (done ++ rest))), some (.f (.int (done.length : Nat))), some (.f x), none] m) :
    (sSeq (sIf (dNot (dTst (dCall p_link EX0 (dCons (dVar 3) (dCons (dVar 0) dNil)))))
  (sRet (dN oTup (dCons (dVar 2) (dCons (dC (.str "link")) dNil))))
  sNext)
  (sIf (dTst (dBin (oIn id) (dNew (nSort (dVar 3))) (dNew (nLc (.nm 4) dYes (dNew (nSort (dVar 4))) [4] (iVal (dSl (dVar 1) dNo (dPart (dVar 2))))))))
  (sRet (dN oTup (dCons (dVar 2) (dCons (dC (.str "again")) dNil))))
  sNext)) D [some (.f (.int n)), some (.f (.tup (done ++ rest))), some (.f (.int (done.length : Nat))), some (.f x), none] m := by
  have s1 : 10000 ≤ sizeLine := sz (by decide)
  have s2 : 2 ≤ sizeLine := sz (by decide)
  unfold sSeq sIf dNot dTst
  refine call_link x n (good_plain gx) (fun xs e y hy => ?_) (fun Q h => h) ?_
  · subst e
    obtain ⟨j, hj, _, h⟩ := good_tup gx
    exact good_plain (h y hy)
  cases hl : linkB n x with
  | false =>
    simp [sRet, dN, oTup, dCons, dVar, dC, dNil, DL.frs, s2]
    exact q1 hl
  | true =>
    obtain ⟨xs, rfl, o1, o2, o3⟩ := sort_link hn hl
    simp [sNext, dBin, dNew, nSort, dVar, seqOf, der]
    refine ⟨o1, ?_⟩
    simp [nLc, iVal, dSl, dNo, dPart, dVar, der, cut_pre, wipeE]
    refine ⟨by omega, lc_map (f := nrm) (fun y hy Q h => ?_) ?_⟩
    · obtain ⟨ys, rfl, p1, p2, p3⟩ := sort_link hn (hd y hy)
      show sortOk ys ∧ Q (.f (.lst (sortD ys))) m
      rw [p2]
      exact ⟨p1, h⟩
    · rw [o2]
      have hall : (done.map nrm).all (okN 59) = true := by
        rw [List.all_eq_true]
        intro y hy
        obtain ⟨z, hz, rfl⟩ := List.mem_map.mp hy
        obtain ⟨ys, rfl, p1, p2, p3⟩ := sort_link hn (hd z hz)
        obtain ⟨a, b, e, _⟩ := link_is (hd _ hz)
        rw [e]; rfl
      have h60 : okN 60 (nrm (.tup xs)) = true := by
        obtain ⟨a, b, e, _⟩ := link_is hl
        rw [e]; rfl
      refine oIn_l h60 hall ?_
      cases ha : (done.map nrm).any fun s => eqd s (nrm (.tup xs)) with
      | false =>
        have q := q3 hl ha
        simp only [id]
        rw [if_neg (by decide)]
        exact q
      | true =>
        have q := q2 hl ha
        simp only [id]
        rw [if_pos trivial]
        simp [sRet, dN, oTup, dCons, dVar, dC, dNil, DL.frs, s2]
        exact q
theorem ne_loop {D : En} {n : Int} (hn : n ≤ 7) : ∀ (rest done : List Dat) (x2 x3 : Option Sl) (m : Mem), (∀ d ∈ done, linkB n d = true) → done.length + rest.length ≤ 8 → (∀ d ∈ rest, good 4 d = true) → (errGo n (done.map nrm) done.length rest ≠ .non → D.rt (errGo n (done.map nrm) done.length rest) m) →
    (errGo n (done.map nrm) done.length rest = .non → ∀ env, D.nx env m) →
    forGo (.tp [2, 3]) (sSeq (sIf (dNot (dTst (dCall p_link EX0 (dCons (dVar 3) (dCons (dVar 0) dNil)))))
  (sRet (dN oTup (dCons (dVar 2) (dCons (dC (.str "link")) dNil))))
  sNext)
  (sIf (dTst (dBin (oIn id) (dNew (nSort (dVar 3))) (dNew (nLc (.nm 4) dYes (dNew (nSort (dVar 4))) [4] (iVal (dSl (dVar 1) dNo (dPart (dVar 2))))))))
  (sRet (dN oTup (dCons (dVar 2) (dCons (dC (.str "again")) dNil))))
  sNext)) D (enumD done.length rest) [some (.f (.int n)), some (.f (.tup (done ++ rest))), x2, x3, none] m
  | [], done, x2, x3, m, _, _, _, _, hQ => hQ rfl _
  | x :: rest, done, x2, x3, m, hd, h8, hg, hR, hQ => by
    have gx := hg x (by simp)
    unfold enumD forGo
    have hb : DL.bind (.tp [2, 3]) (.f (.tup [.int (done.length : Nat), x])) [some (.f (.int n)), some (.f (.tup (done ++ x :: rest))), x2, x3, none] = some [some (.f (.int n)), some (.f (.tup (done ++ x :: rest))), some (.f (.int (done.length : Nat))), some (.f x), none] := by simp [DL.bind, setAll]
    rw [hb]
    refine ne_step (x2 := x2) (x3 := x3) hn hd (rest := x :: rest) h8 gx (fun h => ?_) (fun h h' => ?_) fun h h' => ?_
    · have e : errGo n (done.map nrm) done.length (x :: rest) = .tup [.int (done.length : Nat), .str "link"] := by
        rw [errGo, h, if_neg (by decide)]
      rw [e] at hR
      exact hR (by simp)
    · have e : errGo n (done.map nrm) done.length (x :: rest) = .tup [.int (done.length : Nat), .str "again"] := by
        rw [errGo, h, if_pos rfl, if_pos h']
      rw [e] at hR
      exact hR (by simp)
    · have e : errGo n (done.map nrm) done.length (x :: rest) = errGo n ((done ++ [x]).map nrm) (done ++ [x]).length rest := by
        rw [errGo, h, if_pos rfl, if_neg (by rw [h']; decide), List.map_append, List.length_append]
        rfl
      rw [e] at hR hQ
      have := ne_loop (D := D) hn rest (done ++ [x]) (some (.f (.int (done.length : Nat)))) (some (.f x)) m (fun d hd' => by
        rcases List.mem_append.mp hd' with q | q
        · exact hd d q
        · rw [List.mem_singleton.mp q]; exact h) (by simp; simp at h8; omega) (fun d hd' => hg d (by simp [hd'])) hR hQ
      rw [List.length_append, List.append_assoc] at this
      exact this
theorem law_net_error (C : Ct) : ∀ ds m (Q : QD) (E : QX), p_err ds m Q E → rd_net_error C p_whole p_link (fun c xs _ m => E c xs m) { nx := fun _ m => Q .non m, rt := Q } (env0 5 ds) m := by
  rintro ds m Q E ⟨_, ⟨nd, ld, rfl, hn, hl⟩, hQ, _⟩
  have hQ' : Q (errD nd ld) m := hQ _ _ ⟨nd, ld, rfl, rfl, rfl⟩
  have s2 : 2 ≤ sizeLine := sz (by decide)
  have e0 : env0 5 [nd, ld] = [some (.f nd), some (.f ld), none, none, none] := rfl
  rw [e0]
  unfold rd_net_error
  have bad : ∀ {D : En} {env : Env'}, D.rt (.tup [.non, .str "nodes"]) m → sRet (dN oTup (dCons (dC .non) (dCons (dC (.str "nodes")) dNil))) D env m := fun h => by
    simp [sRet, dN, oTup, dCons, dC, dNil, DL.frs, s2]; exact h
  have bad2 : ∀ {D : En} {env : Env'}, D.rt (.tup [.non, .str "links"]) m → sRet (dN oTup (dCons (dC .non) (dCons (dC (.str "links")) dNil))) D env m := fun h => by
    simp [sRet, dN, oTup, dCons, dC, dNil, DL.frs, s2]; exact h
  unfold sSeq
  generalize hF : (sFor _ _ _) = F
  unfold sIf dOr dNot dTst
  refine call_whole nd hn (fun Q h => h) ?_
  cases nd with
  | int n =>
    by_cases h1 : 1 ≤ n
    · by_cases h7 : n ≤ 7
      · have hQ2 : Q (errL n ld) m := by
          have e : errD (.int n) ld = errL n ld := if_pos ⟨h1, h7⟩
          rw [e] at hQ'; exact hQ'
        simp [isInt, dChain, dVar, dC, oI0, oI, h1, h7, sNext]
        cases ld with
        | tup xs =>
          simp [dN, oIsi, dCons, dVar, dC, dNil, derI, der, isaD, isa1, tyN, isT, dBin, oLen, oI0, oI]
          by_cases h8 : xs.length ≤ 8
          · rw [if_neg (by omega)]
            rw [show errL n (.tup xs) = errGo n [] 0 xs from if_pos h8] at hQ2
            obtain ⟨j, hj, _, hx⟩ := good_tup hl
            have hj' : j = 4 := by omega
            subst hj'
            subst hF
            have := ne_loop (D := { nx := fun env m => sRet (dC .non) { nx := fun x m => Q .non m, rt := Q } env m, rt := Q }) h7 xs [] none none m (by simp) (by simpa using h8) hx (fun _ => hQ2) (fun e env => by
              have hQ3 : Q (errGo n [] 0 xs) m := hQ2
              rw [show errGo n [] 0 xs = .non from e] at hQ3
              exact hQ3)
            exact this
          · rw [if_pos (by omega)]
            rw [show errL n (.tup xs) = .tup [.non, .str "links"] from if_neg h8] at hQ2
            exact bad2 hQ2
        | _ => first
          | (cases hl; done)
          | (simp [dN, oIsi, dCons, dVar, dC, dNil, derI, der, isaD, isa1, tyN, isT]; exact bad2 hQ2)
      · have e : errD (.int n) ld = .tup [.non, .str "nodes"] := if_neg (by omega)
        rw [e] at hQ'
        simp [isInt, dChain, dVar, dC, oI0, oI, h1, h7]
        exact bad hQ'
    · have e : errD (.int n) ld = .tup [.non, .str "nodes"] := if_neg (by omega)
      rw [e] at hQ'
      simp [isInt, dChain, dVar, dC, oI0, oI, h1]
      exact bad hQ'
  | _ =>
    simp [isInt]
    exact bad hQ'
end K02

set_option maxHeartbeats 1000000
namespace K02
open PySem PySem.Spec PyProof.Rows L2 DL DL.S

/-- a link with its ends in order, both below n -/
def isOrd (n : Nat) (d : Dat) : Prop := ∃ a b : Nat, d = .tup [.int a, .int b] ∧ a < b ∧ b < n
theorem isOrd.mono {n k : Nat} {d : Dat} (h : isOrd n d) (e : n ≤ k) : isOrd k d := by
  obtain ⟨a, b, h1, h2, h3⟩ := h
  exact ⟨a, b, h1, h2, by omega⟩
def pairsF : Nat → List Dat
  | 0 => []
  | k + 1 => pairsF k ++ (rangeD 0 k).map fun d => .tup [d, .int k]
theorem pairs_ord : ∀ k d, d ∈ pairsF k → isOrd k d
  | 0, d, h => by cases h
  | k + 1, d, h => by
    rcases List.mem_append.mp h with h | h
    · exact (pairs_ord k d h).mono (by omega)
    · obtain ⟨x, hx, rfl⟩ := List.mem_map.mp h
      obtain ⟨i, hi, rfl⟩ := List.mem_map.mp hx
      exact ⟨i, k, by simp, List.mem_range.mp hi, by omega⟩
theorem rangeD_len (k : Int) (r : Nat) : (rangeD k r).length = r := by simp [rangeD]
theorem pairs_len : ∀ k, (pairsF k).length ≤ k * k
  | 0 => Nat.le_refl _
  | k + 1 => by
    have := pairs_len k
    have e : (k + 1) * (k + 1) = k * k + k + k + 1 := by rw [Nat.mul_add, Nat.add_mul]; omega
    rw [pairsF, List.length_append, List.length_map, rangeD_len, e]
    omega
theorem pairs_ne {k : Nat} (h : 1 < k) : 0 < (pairsF k).length := by
  obtain ⟨j, rfl⟩ : ∃ j, k = j + 2 := ⟨k - 2, by omega⟩
  rw [pairsF, List.length_append, List.length_map, rangeD_len]
  omega
def p_pairs : DSp := pRel 1 (fun ds m => ∃ n : Nat, ds = [.int n] ∧ n ≤ 8) (fun ds m r m' => ∃ n : Nat, ds = [.int n] ∧ r = .lst (pairsF n) ∧ m' = m) noE
theorem pairs_step (C : Ct) {D : En} {n : Int} {k : Nat} {m : Mem} {x3 : Option Sl} (hk : k ≤ 8) (h : D.nx [some (.f (.int n)), some (.f (.lst (pairsF (k + 1)))), some (.f (.int k)), none] m) :
    (sAsg (.nm 1) (dNew (nCat (dVar 1) (dNew (nLc (.nm 3) dYes (dN oTup (dCons (dVar 3) (dCons (dVar 2) dNil))) [3] (iRg1 (dVar 2))))))) D [some (.f (.int n)), some (.f (.lst (pairsF k))), some (.f (.int k)), none] m := by
  have s2 : 100 ≤ sizeLine := sz (by decide)
  have hp := pairs_len k
  have hkk : k * k ≤ 64 := Nat.mul_le_mul hk hk
  simp [sAsg, dNew, nCat, dVar, lstOf, der, nLc, iRg1, DL.bind, wipeE]
  refine ⟨by omega, by have := rangeD_len 0 k; omega, lc_map (f := fun d => .tup [d, .int k]) (fun x hx Q h => ?_) ?_⟩
  · obtain ⟨i, hi, rfl⟩ := List.mem_map.mp hx
    simp [dN, oTup, dCons, dVar, dNil, DL.frs]
    have s2' : 2 ≤ sizeLine := by omega
    simp at h
    exact ⟨s2', h⟩
  · have hr := rangeD_len 0 k
    simp [hr]
    first
      | exact h
      | exact ⟨by omega, h⟩
theorem law_law_pairs (C : Ct) : ∀ ds m (Q : QD) (E : QX), p_pairs ds m Q E → rd_law_pairs C (fun c xs _ m => E c xs m) { nx := fun _ m => Q .non m, rt := Q } (env0 4 ds) m := by
  rintro ds m Q E ⟨_, ⟨n, rfl, hn⟩, hQ, _⟩
  have hQ' : Q (.lst (pairsF n)) m := hQ _ _ ⟨n, rfl, rfl, rfl⟩
  have e0 : env0 4 [.int n] = [some (.f (.int n)), none, none, none] := rfl
  rw [e0]
  unfold rd_law_pairs
  have loop : ∀ (r k : Nat) (x2 : Option Sl), k + r = n → ∀ D : En, (∀ x2, D.nx [some (.f (.int n)), some (.f (.lst (pairsF n))), x2, none] m) →
      forGo (.nm 2) (sAsg (.nm 1) (dNew (nCat (dVar 1) (dNew (nLc (.nm 3) dYes (dN oTup (dCons (dVar 3) (dCons (dVar 2) dNil))) [3] (iRg1 (dVar 2))))))) D (rangeD k r) [some (.f (.int n)), some (.f (.lst (pairsF k))), x2, none] m := by
    intro r
    induction r with
    | zero =>
      intro k x2 e D hD
      rw [Nat.add_zero] at e
      subst e
      exact hD _
    | succ r ih =>
      intro k x2 e D hD
      rw [rangeD_succ]
      unfold forGo
      have hb : DL.bind (.nm 2) (.f (.int k)) [some (.f (.int n)), some (.f (.lst (pairsF k))), x2, none] = some [some (.f (.int n)), some (.f (.lst (pairsF k))), some (.f (.int k)), none] := by simp [DL.bind]
      rw [hb]
      refine pairs_step (x3 := none) C (by omega) ?_
      exact ih (k + 1) _ (by omega) D hD
  have := loop n 0 none (by omega)
  unfold sSeq sAsg dNew nLst dNil sFor iRg1
  simp [DL.bind, DL.frs, dVar]
  first
    | exact ⟨by omega, by omega, this _ fun x2 => hQ'⟩
    | exact ⟨by omega, this _ fun x2 => hQ'⟩
end K02

set_option maxHeartbeats 1000000
namespace K02
open PySem PySem.Spec PyProof.Rows L2 DL DL.S

theorem call_next {da : TAd} {env : Env'} {m : Mem} {Q : QL} {tl : Mem} {c : Nat} (many : Int) (h0 : 0 < many) (h1 : many < 2 ^ 40) (hd : Dk c tl m) (hc : c < lim) (ha : ∀ Q : List Lv → Mem → Prop, Q [.f (.obj 1), .f (.int many)] m → da env m Q)
    (h : ∀ i m', 0 ≤ i → i < many → Dk (c + 1) tl m' → Q (.f (.int i)) m') : dCall p_next EX0 da env m Q :=
  call_is [.f (.obj 1), .f (.int many)] [.obj 1, .int many] ha rfl ⟨rfl, ⟨many, c, tl, rfl, h0, h1, hd, hc⟩, fun r m' ⟨many', i, e1, e2, e3, e4, e5⟩ => by
    cases e1; subst e2; exact h i m' e3 e4 (e5 c tl hd), fun _ _ _ q => q.elim⟩
theorem v_f {i : Nat} {env : Env'} {m : Mem} {Q : QL} {d : Dat} (e : env[i]? = some (some (.f d))) (h : Q (.f d) m) : dVar i env m Q := by
  unfold dVar; rw [e]; exact h
theorem v_o {i : Nat} {env : Env'} {m : Mem} {Q : QL} {o : Mo} (e : env[i]? = some (some (.own o))) (h : Q (.o i) m) : dVar i env m Q := by
  unfold dVar; rw [e]; exact h
def pr (p : Int × Int) : Dat := .tup [.int p.1, .int p.2]
theorem sortOk_pairs {ps : List (Int × Int)} (h : ∀ p ∈ ps, p.1.natAbs.log2 < 1920 ∧ p.2.natAbs.log2 < 1920) : sortOk (ps.map pr) := by
  refine ⟨?_, ?_, ?_⟩
  · rw [List.map_map]
    exact PySem.W.AllAlike.of fun _ _ => by simp [pr, py, DL.pys, PySem.W.alike, PySem.W.alikeAll]
  · rw [List.map_map]
    exact PySem.W.Sortable.tuples fun p => ⟨.int p.1, [.int p.2], by simp [pr, py, DL.pys]⟩
  · rw [List.all_eq_true]
    intro d hd
    obtain ⟨p, hp, rfl⟩ := List.mem_map.mp hd
    simp [pr, okR, (h p hp).1, (h p hp).2, sizeLine_eq]
theorem ord_pairs {n : Nat} : ∀ {xs : List Dat}, (∀ x ∈ xs, isOrd n x) → ∃ ps : List (Int × Int), xs = ps.map pr ∧ ∀ p ∈ ps, 0 ≤ p.1 ∧ p.1 < p.2 ∧ p.2 < n
  | [], _ => ⟨[], rfl, by simp⟩
  | x :: xs, h => by
    obtain ⟨ps, rfl, hp⟩ := ord_pairs (n := n) (xs := xs) fun y hy => h y (by simp [hy])
    obtain ⟨a, b, rfl, h1, h2⟩ := h x (by simp)
    refine ⟨((a : Int), (b : Int)) :: ps, rfl, fun p hp' => ?_⟩
    rcases List.mem_cons.mp hp' with rfl | q
    · exact ⟨by simp, by simpa using h1, by simpa using h2⟩
    · exact hp p q
theorem sortOk_ord {n : Nat} (hn : n ≤ 7) {xs : List Dat} (h : ∀ x ∈ xs, isOrd n x) : sortOk xs := by
  obtain ⟨ps, rfl, hp⟩ := ord_pairs h
  refine sortOk_pairs fun p hp' => ?_
  obtain ⟨h1, h2, h3⟩ := hp p hp'
  exact ⟨small h1 (by omega), small (by omega) (by omega)⟩
theorem sortD_mem {xs : List Dat} {x : Dat} (h : x ∈ sortD xs) : x ∈ xs := by
  unfold sortD at h
  exact (List.mergeSort_perm xs _).mem_iff.mp h
theorem sortD_len (xs : List Dat) : (sortD xs).length = xs.length := by
  unfold sortD
  exact List.length_mergeSort xs
theorem cutD_mem {xs : List Dat} {lo hi : Option Int} {x : Dat} (h : x ∈ DL.cutD xs lo hi) : x ∈ xs := List.mem_of_mem_drop (List.mem_of_mem_take h)
theorem cutD_len (xs : List Dat) (lo hi : Option Int) : (DL.cutD xs lo hi).length ≤ xs.length := by
  unfold DL.cutD
  rw [List.length_take, List.length_drop]
  omega
theorem cut_le (xs : List Dat) (k : Nat) : (DL.cutD xs none (some (k : Int))).length ≤ k := by
  unfold DL.cutD
  rw [HT.sIx_none, HT.sIx_nat, List.length_take, Nat.sub_zero]
  omega
/-- a promise with a ghost -/
def pGh {γ : Type} (n : Nat) (pre : γ → List Dat → Mem → Prop) (post : γ → List Dat → Mem → Dat → Mem → Prop) : DSp := fun ds m Q E => ds.length = n ∧ ∃ g, pre g ds m ∧ ∀ r m', post g ds m r m' → Q r m'
theorem pGh.mono {γ : Type} {n pre post} : MonoP (pGh (γ := γ) n pre post) := fun ds m Q Q' E E' i j ⟨h1, g, h2, h3⟩ => ⟨h1, g, h2, fun r m' q => i _ _ (h3 r m' q)⟩
theorem pGh.len {γ : Type} {n pre post} : ∀ ds m Q E, pGh (γ := γ) n pre post ds m Q E → ds.length = n := fun _ _ _ _ h => h.1
def p_net : DSp := pGh (γ := Nat × Mem) 2 (fun g ds m => ds = [.obj 1, .int 8] ∧ Dk g.1 g.2 m ∧ g.1 + 30 < lim)
  (fun g ds m r m' => ∃ (n : Nat) (xs : List Dat), r = .tup [.int n, .lst xs] ∧ 1 ≤ n ∧ n ≤ 7 ∧ xs.length ≤ 8 ∧ (∀ x ∈ xs, isOrd n x) ∧ Dk (g.1 + 30) g.2 m')
theorem call_pairs {da : TAd} {env : Env'} {m : Mem} {Q : QL} (n : Nat) (hn : n ≤ 7) (ha : ∀ Q : List Lv → Mem → Prop, Q [.f (.int n)] m → da env m Q) (h : Q (.f (.lst (pairsF n))) m) : dCall p_pairs EX0 da env m Q :=
  call_is [.f (.int n)] [.int n] ha rfl ⟨rfl, ⟨n, rfl, by omega⟩, fun r m' ⟨n', e1, e2, e3⟩ => by
    have : n' = n := by simp at e1; omega
    subst this e2 e3; exact h, fun _ _ _ q => q.elim⟩
theorem ord_ok {n k : Nat} {d : Dat} (h : isOrd n d) : okN (k + 1) d = true := by
  obtain ⟨a, b, rfl, _⟩ := h
  rw [okN]; simp [okR1]
/-- one turn of the loop of links -/
theorem net_step {D : En} {n : Nat} {x4 x6 x7 : Option Sl} {found : List Dat} {m tl : Mem} {c : Nat} (hn : n ≤ 7) (h1 : 1 < n) (hd : Dk c tl m) (hc : c < lim) (hf : ∀ x ∈ found, isOrd n x) (hL : found.length ≤ 100)
    (h : ∀ m' found' x7, Dk (c + 1) tl m' → (∀ x ∈ found', isOrd n x) → found'.length ≤ found.length + 1 → D.nx [some (.f (.obj 1)), some (.f (.int 8)), some (.f (.int n)), some (.f (.lst (pairsF n))), x4, some (.own (.lst found')), x6, x7] m') :
    (sSeq (sAsg (.nm 7) (dBin oIx (dVar 3) (dCall p_next EX0 (dCons (dVar 0) (dCons (dN oLen (dCons (dVar 3) dNil)) dNil)))))
  (sIf (dTst (dBin (oIn not) (dVar 7) (dVar 5)))
  (sApp (dVar 5) (dVar 7))
  sNext)) D [some (.f (.obj 1)), some (.f (.int 8)), some (.f (.int n)), some (.f (.lst (pairsF n))), x4, some (.own (.lst found)), x6, x7] m := by
  have s2 : 1000 ≤ sizeLine := sz (by decide)
  have p1 := pairs_len n
  have p2 := pairs_ne h1
  have p3 : n * n ≤ 49 := Nat.mul_le_mul hn hn
  unfold sSeq sAsg
  simp only [dBin]
  refine v_f rfl ?_
  refine call_next (tl := tl) (c := c) ((pairsF n).length : Int) (by omega) (by omega) hd hc (fun Q h => by
    simp [dCons, dVar, dN, oLen, dNil, DL.frs, der]
    exact h) fun i m' i0 i1 hd' => ?_
  obtain ⟨d, e1, e2⟩ := atI_int i0 i1
  have ho : isOrd n d := pairs_ord n d (List.mem_of_getElem? e2)
  simp only [oIx, der, e1, DL.bind]
  unfold sIf dTst
  simp only [dBin]
  refine v_f rfl (v_o rfl ?_)
  refine oIn_o (bs := found) rfl (ord_ok ho) (by rw [List.all_eq_true]; exact fun x hx => ord_ok (hf x hx)) ?_
  cases hx : found.any fun b => eqd b d with
  | true => exact h m' found _ hd' hf (by omega)
  | false =>
    show sApp (dVar 5) (dVar 7) D _ _
    simp [sApp, dVar, moOf, setE, setM]
    refine ⟨by omega, h m' _ _ hd' (fun x hx => ?_) (by simp)⟩
    rcases List.mem_append.mp hx with q | q
    · exact hf x q
    · rw [List.mem_singleton.mp q]; exact ho
theorem net_loop {D : En} {n : Nat} {x4 : Option Sl} (hn : n ≤ 7) (h1 : 1 < n) : ∀ (r : Nat) (k : Int) (x6 x7 : Option Sl) (found : List Dat) (m tl : Mem) (c : Nat), Dk c tl m → c + r < lim → (∀ x ∈ found, isOrd n x) → found.length + r ≤ 100 →
    (∀ m' found' x6 x7, Dk (c + r) tl m' → (∀ x ∈ found', isOrd n x) → found'.length ≤ found.length + r → D.nx [some (.f (.obj 1)), some (.f (.int 8)), some (.f (.int n)), some (.f (.lst (pairsF n))), x4, some (.own (.lst found')), x6, x7] m') →
    forGo (.nm 6) (sSeq (sAsg (.nm 7) (dBin oIx (dVar 3) (dCall p_next EX0 (dCons (dVar 0) (dCons (dN oLen (dCons (dVar 3) dNil)) dNil)))))
  (sIf (dTst (dBin (oIn not) (dVar 7) (dVar 5)))
  (sApp (dVar 5) (dVar 7))
  sNext)) D (rangeD k r) [some (.f (.obj 1)), some (.f (.int 8)), some (.f (.int n)), some (.f (.lst (pairsF n))), x4, some (.own (.lst found)), x6, x7] m
  | 0, k, x6, x7, found, m, tl, c, hd, hc, hf, hL, h => h m found x6 x7 hd hf (by omega)
  | r + 1, k, x6, x7, found, m, tl, c, hd, hc, hf, hL, h => by
    rw [rangeD_succ]
    unfold forGo
    have hb : DL.bind (.nm 6) (.f (.int k)) [some (.f (.obj 1)), some (.f (.int 8)), some (.f (.int n)), some (.f (.lst (pairsF n))), x4, some (.own (.lst found)), x6, x7] = some [some (.f (.obj 1)), some (.f (.int 8)), some (.f (.int n)), some (.f (.lst (pairsF n))), x4, some (.own (.lst found)), some (.f (.int k)), x7] := by simp [DL.bind]
    rw [hb]
    refine net_step hn h1 hd (by omega) hf (by omega) fun m' found' x7' hd' hf' hL' => ?_
    exact net_loop hn h1 r (k + 1) _ _ found' m' tl (c + 1) hd' (by omega) hf' (by omega) fun m2 f2 y6 y7 a b e => h m2 f2 y6 y7 (by rw [show c + (r + 1) = c + 1 + r by omega]; exact a) b (by omega)
end K02

set_option maxHeartbeats 1000000
namespace K02
open PySem PySem.Spec PyProof.Rows L2 DL DL.S

theorem seq_i {a b : TSd} {D : En} {env : Env'} {m : Mem} (h : a { D with nx := fun env m => b D env m } env m) : sSeq a b D env m := h
theorem c_i {d : Dat} {env : Env'} {m : Mem} {Q : QL} (h : Q (.f d) m) : dC d env m Q := h
theorem lc_next {tl : Mem} {n : Nat} {x1 x3 x4 x5 x7 : Option Sl} {Q : List Dat → Mem → Prop} : ∀ (r k : Nat) (x6 : Option Sl) (m : Mem) (c : Nat), Dk c tl m → c + r < lim → 1 ≤ k → k + r ≤ n → n ≤ 7 →
    (∀ ds m', Dk (c + r) tl m' → (∀ x ∈ ds, isOrd n x) → ds.length ≤ r → Q ds m') →
    lcGo (.nm 6) dYes (dN oTup (dCons (dCall p_next EX0 (dCons (dVar 0) (dCons (dVar 6) dNil))) (dCons (dVar 6) dNil))) [some (.f (.obj 1)), x1, some (.f (.int n)), x3, x4, x5, x6, x7] (rangeD k r) m Q := by
  intro r
  induction r generalizing Q with
  | zero => intro k x6 m c hd _ _ _ _ h; exact h [] m hd (by simp) (by simp)
  | succ r ih =>
    intro k x6 m c hd hc h1 hk hn h
    have s2 : 1000 ≤ sizeLine := sz (by decide)
    have hlim : lim = 2 ^ 40 := rfl
    rw [rangeD_succ]
    unfold lcGo
    have hb : DL.bind (.nm 6) (.f (.int k)) [some (.f (.obj 1)), x1, some (.f (.int n)), x3, x4, x5, x6, x7] = some [some (.f (.obj 1)), x1, some (.f (.int n)), x3, x4, x5, some (.f (.int k)), x7] := by simp [DL.bind]
    rw [hb]
    simp only [dYes, if_true, dN, dCons]
    refine call_next (tl := tl) (c := c) k (by omega) (by omega) hd (by omega) (fun Q h => h) fun i m1 i0 i1 hd1 => ?_
    refine v_f rfl ?_
    simp only [dNil, DL.frs, oTup]
    refine ⟨by simp only [List.length_cons, List.length_nil]; omega, ?_⟩
    refine ih (k + 1) x6 m1 (c + 1) hd1 (by omega) (by omega) (by omega) hn fun ds m' hd' hds hl => ?_
    refine h _ m' (by rw [show c + (r + 1) = c + 1 + r by omega]; exact hd') (fun x hx => ?_) (by simp; omega)
    rcases List.mem_cons.mp hx with rfl | q
    · exact ⟨i.toNat, k, by rw [show ((i.toNat : Nat) : Int) = i by omega], by omega, by omega⟩
    · exact hds x q
theorem law_law_net (C : Ct) : ∀ ds m (Q : QD) (E : QX), p_net ds m Q E → rd_law_net C p_next p_pairs (fun c xs _ m => E c xs m) { nx := fun _ m => Q .non m, rt := Q } (env0 8 ds) m := by
  rintro ds m Q E ⟨_, ⟨c, tl⟩, ⟨rfl, hd, hc⟩, hQ⟩
  have s2 : 1000 ≤ sizeLine := sz (by decide)
  have hlim : lim = 2 ^ 40 := rfl
  have e0 : env0 8 [.obj 1, .int 8] = [some (.f (.obj 1)), some (.f (.int 8)), none, none, none, none, none, none] := rfl
  rw [e0]
  unfold rd_law_net
  have fin : ∀ (n : Nat) (found : List Dat) (m' : Mem) x4 x6 x7, 1 ≤ n → n ≤ 7 → Dk (c + 30) tl m' → (∀ x ∈ found, isOrd n x) → (sKeep 5 (sRet (dN oTup (dCons (dVar 2) (dCons (dNew (nSort (dSl (dVar 5) dNo (dPart (dVar 1))))) dNil))))) { nx := fun _ m => Q .non m, rt := Q } [some (.f (.obj 1)), some (.f (.int 8)), some (.f (.int n)), some (.f (.lst (pairsF n))), x4, some (.own (.lst found)), x6, x7] m' := by
    intro n found m' x4 x6 x7 h1 h7 hd' hf
    simp [sKeep, sRet, dN, oTup, dCons, dVar, dNew, nSort, dSl, dNo, dPart, der, seqOf, dNil, DL.frs]
    refine ⟨sortOk_ord h7 fun x hx => hf x (cutD_mem hx), by omega, hQ _ _ ⟨n, _, rfl, h1, h7, ?_, fun x hx => hf x (cutD_mem (sortD_mem hx)), hd'⟩⟩
    rw [sortD_len]
    exact cut_le found 8
  have turn : ∀ (n : Nat) (found : List Dat) (m' : Mem) x4 x6 x7 (d : Nat), 1 ≤ n → n ≤ 7 → d ≤ 12 → Dk (c + d) tl m' → (∀ x ∈ found, isOrd n x) → found.length ≤ 10 →
      (sSeq (sFor (.nm 6) (iRg1 (dBin oMul (dBin oIx (dNew (nLst (dCons (dVar 1) (dCons (dCall p_next EX0 (dCons (dVar 0) (dCons (dBin oAdd (dVar 1) (dC (.int 1))) dNil))) dNil)))) (dCall p_next EX0 (dCons (dVar 0) (dCons (dC (.int 2)) dNil)))) (dN (oN1 fInt) (dCons (dBin oGt (dVar 2) (dC (.int 1))) dNil))))
  (sSeq (sAsg (.nm 7) (dBin oIx (dVar 3) (dCall p_next EX0 (dCons (dVar 0) (dCons (dN oLen (dCons (dVar 3) dNil)) dNil)))))
  (sIf (dTst (dBin (oIn not) (dVar 7) (dVar 5)))
  (sApp (dVar 5) (dVar 7))
  sNext)))
  (sKeep 5 (sRet (dN oTup (dCons (dVar 2) (dCons (dNew (nSort (dSl (dVar 5) dNo (dPart (dVar 1))))) dNil)))))) { nx := fun _ m => Q .non m, rt := Q } [some (.f (.obj 1)), some (.f (.int 8)), some (.f (.int n)), some (.f (.lst (pairsF n))), x4, some (.own (.lst found)), x6, x7] m' := by
    intro n found m' x4 x6 x7 d h1 h7 hd12 hd' hf hL
    refine seq_i ?_
    unfold sFor iRg1
    simp only [dBin, dNew, nLst, dCons]
    refine v_f rfl ?_
    refine call_next (tl := tl) (c := c + d) 9 (by omega) (by omega) hd' (by omega) (fun Q h => by
      simp [dCons, dVar, dNil, oAdd, dC, DL.frs]
      exact h) fun i m2 i0 i1 hd2 => ?_
    simp only [dNil, DL.frs]
    refine ⟨by simp only [List.length_cons, List.length_nil]; omega, ?_⟩
    refine call_next (tl := tl) (c := c + d + 1) 2 (by omega) (by omega) hd2 (by omega) (fun Q h => h) fun j m3 j0 j1 hd3 => ?_
    have hi : ∃ q : Nat, q ≤ 8 ∧ atI [Dat.int 8, .int i] j = some (.int q) := by
      rcases (show j = 0 ∨ j = 1 by omega) with rfl | rfl
      · exact ⟨8, by omega, atI0 _ _⟩
      · exact ⟨i.toNat, by omega, by rw [show ((i.toNat : Nat) : Int) = i by omega]; exact atI1 _ _ _⟩
    obtain ⟨q, q8, eq⟩ := hi
    simp only [oIx, der, eq]
    by_cases hn : 1 < n
    · have hn' : (1 : Int) < n := by omega
      simp [dN, oN1, fInt, dCons, dBin, dVar, oGt, oI0, oI, dC, dNil, DL.frs, hn', hn, oMul]
      refine ⟨.inl ⟨by omega, by omega⟩, by omega, ?_⟩
      refine net_loop h7 hn q 0 x6 x7 found m3 tl (c + d + 1 + 1) hd3 (by omega) hf (by omega) fun m4 f4 y6 y7 hd4 hf4 hL4 => ?_
      exact fin n f4 m4 x4 y6 y7 h1 h7 (hd4.mono (by omega)) hf4
    · have hn' : ¬ (1 : Int) < n := by omega
      simp [dN, oN1, fInt, dCons, dBin, dVar, oGt, oI0, oI, dC, dNil, DL.frs, hn', hn, oMul]
      try refine ⟨.inl ⟨by omega, by omega⟩, ?_⟩
      exact fin n found m3 x4 x6 x7 h1 h7 (hd3.mono (by omega)) hf
  refine seq_i ?_
  unfold sAsg
  simp only [dBin, dNew, nLst, dCons]
  refine c_i ?_
  refine call_next (tl := tl) (c := c) 7 (by omega) (by omega) hd (by omega) (fun Q h => h) fun i m1 i0 i1 hd1 => ?_
  simp only [oAdd, dC, dNil, DL.frs]
  refine ⟨by simp only [List.length_cons, List.length_nil]; omega, ?_⟩
  refine call_next (tl := tl) (c := c + 1) 4 (by omega) (by omega) hd1 (by omega) (fun Q h => h) fun j m2 j0 j1 hd2 => ?_
  have hi : ∃ n : Nat, 1 ≤ n ∧ n ≤ 7 ∧ atI [Dat.int (1 + i), .int 4, .int 5, .int 7] j = some (.int n) := by
    rcases (show j = 0 ∨ j = 1 ∨ j = 2 ∨ j = 3 by omega) with rfl | rfl | rfl | rfl
    · exact ⟨(1 + i).toNat, by omega, by omega, by rw [show (((1 + i).toNat : Nat) : Int) = 1 + i by omega]; exact atI0 _ _⟩
    · exact ⟨4, by omega, by omega, atI1 _ _ _⟩
    · exact ⟨5, by omega, by omega, atI2 _ _ _ _⟩
    · exact ⟨7, by omega, by omega, DL.atI_nat (i := 3) rfl⟩
  obtain ⟨n, n1, n7, en⟩ := hi
  simp only [oIx, der, en, DL.bind]
  refine seq_i ?_
  unfold sPar3N
  refine call_pairs n n7 (fun Q h => h) ?_
  refine call_next (tl := tl) (c := c + 1 + 1) 4 (by omega) (by omega) hd2 (by omega) (fun Q h => h) fun kind m3 k0 k1 hd3 => ?_
  simp only [nLst, dNil, DL.frs]
  refine ⟨by simp, ?_⟩
  refine seq_i ?_
  have cont : ∀ (found : List Dat) x6, found.length ≤ 10 → (∀ x ∈ found, isOrd n x) → (kind = 1 → found = []) → (sSeq (sIf (dTst (dBin (oEq id) (dVar 4) (dC (Dat.int 1))))
        (sSetN 5
          (nLc (Tg.nm 6) dYes
            (dN oTup (dCons (dCall p_next EX0 (dCons (dVar 0) (dCons (dVar 6) dNil))) (dCons (dVar 6) dNil))) [6]
            (iRg2 (dC (Dat.int 1)) (dVar 2))))
        sNext) (sSeq (sFor (.nm 6) (iRg1 (dBin oMul (dBin oIx (dNew (nLst (dCons (dVar 1) (dCons (dCall p_next EX0 (dCons (dVar 0) (dCons (dBin oAdd (dVar 1) (dC (.int 1))) dNil))) dNil)))) (dCall p_next EX0 (dCons (dVar 0) (dCons (dC (.int 2)) dNil)))) (dN (oN1 fInt) (dCons (dBin oGt (dVar 2) (dC (.int 1))) dNil))))
  (sSeq (sAsg (.nm 7) (dBin oIx (dVar 3) (dCall p_next EX0 (dCons (dVar 0) (dCons (dN oLen (dCons (dVar 3) dNil)) dNil)))))
  (sIf (dTst (dBin (oIn not) (dVar 7) (dVar 5)))
  (sApp (dVar 5) (dVar 7))
  sNext)))
  (sKeep 5 (sRet (dN oTup (dCons (dVar 2) (dCons (dNew (nSort (dSl (dVar 5) dNo (dPart (dVar 1))))) dNil))))))) { nx := fun _ m => Q .non m, rt := Q } [some (.f (.obj 1)), some (.f (.int 8)), some (.f (.int n)), some (.f (.lst (pairsF n))), some (.f (.int kind)), some (.own (.lst found)), x6, none] m3 := by
    intro found x6 hL hf hk
    refine seq_i ?_
    unfold sIf dTst
    simp only [dBin]
    refine v_f rfl (c_i ?_)
    refine oEq_l (okR1 _ _) (okR1 _ _) ?_
    rw [eqd_int]
    by_cases hk1 : kind = 1
    · subst hk1
      rw [show id ((1 : Int) == 1) = true from rfl]
      simp only [if_true]
      unfold sSetN nLc iRg2
      refine c_i (v_f rfl ⟨⟨by omega, by omega, by omega, by omega⟩, by rw [rangeD_len]; omega, ?_⟩)
      rw [show ((n : Int) - 1).toNat = n - 1 by omega]
      refine lc_next (tl := tl) (n := n) (n - 1) 1 none m3 (c + 1 + 1 + 1) hd3 (by omega) (by omega) (by omega) n7 fun ds m4 hd4 hds hl => ?_
      exact turn n ds m4 _ _ _ (n + 2) n1 n7 (by omega) (by rw [show c + (n + 2) = c + 1 + 1 + 1 + (n - 1) by omega]; exact hd4) hds (by omega)
    · have e : decide (kind = 1) = false := decide_eq_false hk1
      rw [show (id (kind == 1)) = false by simp [hk1]]
      exact turn n found m3 _ _ _ 3 n1 n7 (by omega) (by exact hd3) hf hL
  unfold sIf dAnd dTst
  simp only [dBin]
  refine v_f rfl (c_i ?_)
  refine oEq_l (okR1 _ _) (okR1 _ _) ?_
  rw [eqd_int]
  by_cases hk0 : kind = 0
  · subst hk0
    by_cases h2 : 2 < n
    · have h2' : (2 : Int) < n := by omega
      simp [oGt, oI0, oI, dVar, dC, h2', h2]
      show sSetN 5 _ _ _ _
      unfold sSetN
      simp only [nCat, dNew, nLc, iRg1, dBin]
      simp [dVar, dC, oSub, oI0, oI]
      refine ⟨by omega, by omega, by rw [rangeD_len]; omega, lc_map (f := fun d => match d with | .int i => .tup [.int i, .int (i + 1)] | d => d) (fun x hx Q h => ?_) ?_⟩
      · obtain ⟨i, hi, rfl⟩ := List.mem_map.mp hx
        simp [dN, oTup, dCons, dVar, dBin, oAdd, dC, dNil, DL.frs, wipeE]
        simp at h
        exact ⟨by omega, h⟩
      · have hL := rangeD_len 0 (n - 1)
        simp [nLst, dN, oTup, dCons, dBin, dVar, oI, dC, dNil, DL.frs, lstOf, der]
        refine ⟨by omega, by omega, by omega, ?_⟩
        refine cont _ none (by simp; omega) (fun x hx => ?_) (fun h => absurd h (by decide))
        rcases List.mem_append.mp hx with q | q
        · obtain ⟨y, hy, rfl⟩ := List.mem_map.mp q
          obtain ⟨i, hi, rfl⟩ := List.mem_map.mp hy
          have := List.mem_range.mp hi
          exact ⟨i, i + 1, by simp, by omega, by omega⟩
        · rw [List.mem_singleton.mp q]
          exact ⟨0, n - 1, by simp; omega, by omega, by omega⟩
    · have h2' : ¬ (2 : Int) < n := by omega
      simp [oGt, oI0, oI, dVar, dC, h2', h2]
      exact cont [] none (by simp) (by simp) (fun _ => rfl)
  · have e : (id (kind == 0)) = false := by simp [hk0]
    rw [e]
    exact cont [] none (by simp) (by simp) (fun _ => rfl)
end K02

set_option maxHeartbeats 1000000
namespace K02
open PySem PySem.Spec PyProof.Rows L2 DL DL.S

theorem strOk_app (a b : Str) : PyData.strOk (a ++ b) = (PyData.strOk a && PyData.strOk b) := by
  show (a.cps ++ b.cps).all _ = _
  rw [Array.all_append]; rfl
theorem so1 : PyData.strOk (Str.ofString ", ") = true := by decide +kernel
theorem so2 : PyData.strOk (Str.ofString "") = true := by decide +kernel
theorem so3 : PyData.strOk (Str.ofString "[") = true := by decide +kernel
theorem so4 : PyData.strOk (Str.ofString "]") = true := by decide +kernel
theorem so5 : PyData.strOk (Str.ofString "(") = true := by decide +kernel
theorem so6 : PyData.strOk (Str.ofString ")") = true := by decide +kernel
theorem so7 : PyData.strOk (Str.ofString ",)") = true := by decide +kernel
theorem so8 : PyData.strOk ((Str.ofString ", ").join []) = true := by decide +kernel
theorem strOk_text : ∀ (ts : List Str) (k : Nat) (acc : Str), PyData.strOk acc = true → (∀ t ∈ ts, PyData.strOk t = true) → PyData.strOk (textFrom k acc ts) = true
  | [], k, acc, h, _ => h
  | t :: r, k, acc, h, ht => by
    have h1 : PyData.strOk (acc ++ ((if k > 0 then ", " else "" : String) : Str) ++ t) = true := by
      rw [strOk_app, strOk_app, h, ht t (by simp)]
      split <;> simp [so1, so2]
    exact strOk_text r (k + 1) _ h1 fun x hx => ht x (by simp [hx])
theorem strOk_list {ts : List Str} (h : ∀ t ∈ ts, PyData.strOk t = true) : PyData.strOk (listText ts) = true := by
  unfold listText
  rw [strOk_app, strOk_text ts 0 _ so3 h, so4]; rfl
theorem strOk_join : ∀ {ts : List Str}, (∀ t ∈ ts, PyData.strOk t = true) → PyData.strOk (Str.join ", " ts) = true
  | [], _ => so8
  | [x], h => h x (by simp)
  | x :: y :: r, h => by
    show PyData.strOk (x ++ ", " ++ Str.join ", " (y :: r)) = true
    rw [strOk_app, strOk_app, h x (by simp), strOk_join (ts := y :: r) fun t ht => h t (by simp at ht ⊢; exact .inr ht), so1]; rfl
theorem strOk_tuple {ts : List Str} (h : ∀ t ∈ ts, PyData.strOk t = true) : PyData.strOk (tupleText ts) = true := by
  unfold tupleText
  rw [strOk_app, strOk_app, strOk_join h, so5]
  split <;> simp [so6, so7]
theorem shownAll_mem : ∀ {xs : List Dat} {t : Str}, t ∈ PyData.shownAll (pys xs) → ∃ x ∈ xs, t = (py x).shown
  | [], t, h => by cases h
  | x :: xs, t, h => by
    rw [pys, PyData.shownAll] at h
    rcases List.mem_cons.mp h with rfl | h
    · exact ⟨x, by simp, rfl⟩
    · obtain ⟨y, hy, e⟩ := shownAll_mem h
      exact ⟨y, by simp [hy], e⟩
def shOk : Nat → Dat → Bool
  | k + 1, .tup xs => xs.all (shOk k)
  | k + 1, .lst xs => xs.all (shOk k)
  | _, d => PyData.strOk (py d).shown
theorem sh_of : ∀ {k : Nat} {d : Dat}, shOk k d = true → PyData.strOk (py d).shown = true := by
  intro k
  induction k with
  | zero => intro d h; cases d <;> exact h
  | succ k ih =>
    intro d h
    cases d with
    | tup xs =>
      rw [shOk, List.all_eq_true] at h
      exact strOk_tuple fun t ht => by
        obtain ⟨x, hx, rfl⟩ := shownAll_mem ht
        exact ih (h x hx)
    | lst xs =>
      rw [shOk, List.all_eq_true] at h
      exact strOk_list fun t ht => by
        obtain ⟨x, hx, rfl⟩ := shownAll_mem ht
        exact ih (h x hx)
    | _ => exact h
end K02

set_option maxHeartbeats 1000000
namespace K02
open PySem PySem.Spec PyProof.Rows L2 DL DL.S

/-- what may stand in the rows: good data, shown in few signs -/
def el (d : Dat) : Bool := (good 4 d && okR 30 d) && ((py d).leavesShort 40 && (decide ((py d).bulk ≤ 100) && shOk 10 d))
theorem el_iff {d : Dat} : el d = true ↔ good 4 d = true ∧ okR 30 d = true ∧ (py d).leavesShort 40 = true ∧ (py d).bulk ≤ 100 ∧ shOk 10 d = true := by
  unfold el
  rw [Bool.and_eq_true, Bool.and_eq_true, Bool.and_eq_true, Bool.and_eq_true, decide_eq_true_iff, and_assoc]
theorem leaves_all {B : Nat} : ∀ {xs : List Dat}, PyData.leavesShortAll B (pys xs) = true ↔ ∀ x ∈ xs, (py x).leavesShort B = true
  | [] => by simp [pys, PyData.leavesShortAll]
  | x :: xs => by
    rw [pys, PyData.leavesShortAll, Bool.and_eq_true, leaves_all (xs := xs)]
    simp
theorem bulk_sum : ∀ xs : List Dat, PyData.bulkAll (pys xs) = (xs.map fun x => (py x).bulk + 1).sum
  | [] => rfl
  | x :: xs => by
    rw [pys, PyData.bulkAll, bulk_sum xs]
    simp
theorem bulk_rev (xs : List Dat) : PyData.bulkAll (pys xs.reverse) = PyData.bulkAll (pys xs) := by
  rw [bulk_sum, bulk_sum, List.map_reverse, List.sum_reverse]
theorem el_rev {xs : List Dat} (h : el (.tup xs) = true) : el (.tup xs.reverse) = true := by
  rw [el_iff] at h ⊢
  obtain ⟨h1, h2, h3, h4, h5⟩ := h
  refine ⟨?_, ?_, ?_, ?_, ?_⟩
  · rw [good, Bool.and_eq_true] at h1 ⊢
    rw [List.length_reverse, List.all_reverse]
    exact h1
  · rw [okR] at h2 ⊢
    rw [List.all_reverse]
    exact h2
  · show PyData.leavesShortAll 40 (pys xs.reverse) = true
    rw [leaves_all]
    have h3' : PyData.leavesShortAll 40 (pys xs) = true := h3
    rw [leaves_all] at h3'
    exact fun x hx => h3' x (List.mem_reverse.mp hx)
  · show PyData.bulkAll (pys xs.reverse) ≤ 100
    rw [bulk_rev]
    exact h4
  · rw [shOk] at h5 ⊢
    rw [List.all_reverse]
    exact h5
/-- small pairs -/
def elp : Bool := (List.range 20).all fun a => (List.range 20).all fun b => el (.tup [.int a, .int b])
theorem elp_ok : elp = true := by decide +kernel
theorem el_pair {a b : Nat} (ha : a < 20) (hb : b < 20) : el (.tup [.int a, .int b]) = true := by
  have h := elp_ok
  unfold elp at h
  rw [List.all_eq_true] at h
  have h2 := h a (List.mem_range.mpr ha)
  rw [List.all_eq_true] at h2
  exact h2 b (List.mem_range.mpr hb)
theorem el_ord {n : Nat} (hn : n ≤ 7) {d : Dat} (h : isOrd n d) : el d = true := by
  obtain ⟨a, b, rfl, h1, h2⟩ := h
  exact el_pair (by omega) (by omega)
theorem bulk_le {xs : List Dat} (h : ∀ x ∈ xs, el x = true) : PyData.bulkAll (pys xs) ≤ 101 * xs.length := by
  induction xs with
  | nil => exact Nat.zero_le _
  | cons x xs ih =>
    have h1 := (el_iff.mp (h x (by simp))).2.2.2.1
    have h2 := ih fun y hy => h y (by simp [hy])
    rw [pys, PyData.bulkAll, List.length_cons]
    omega
end K02

set_option maxHeartbeats 1000000
namespace K02
open PySem PySem.Spec PyProof.Rows L2 DL DL.S

def l01 : Dat := .tup [.int 0, .int 1]
def p_odd : DSp := pGh (γ := Nat × Mem) 2 (fun g ds m => ds = [.obj 1, l01] ∧ Dk g.1 g.2 m ∧ g.1 + 1 < lim)
  (fun g ds m r m' => el r = true ∧ Dk (g.1 + 1) g.2 m')
theorem law_law_odd (C : Ct) : ∀ ds m (Q : QD) (E : QX), p_odd ds m Q E → rd_law_odd C p_next (fun c xs _ m => E c xs m) { nx := fun _ m => Q .non m, rt := Q } (env0 3 ds) m := by
  rintro ds m Q E ⟨_, ⟨c, tl⟩, ⟨rfl, hd, hc⟩, hQ⟩
  have s2 : 1000 ≤ sizeLine := sz (by decide)
  have e0 : env0 3 [.obj 1, l01] = [some (.f (.obj 1)), some (.f l01), none] := rfl
  rw [e0]
  unfold rd_law_odd
  refine seq_i ?_
  simp [sAsg, dNew, nLst, dCons, dC, dUn, oU, dBin, oPow, dN, oTup, dNil, DL.frs, DL.bind]
  refine ⟨⟨by decide, by decide, by decide⟩, by omega, by omega, by omega, ?_⟩
  refine seq_i ?_
  simp [sAsg, dNew, nLst, dCons, dC, dUn, oU, dBin, dN, oTup, dNil, DL.frs, DL.bind, nCat, dVar, lstOf, der]
  repeat (with_reducible refine And.intro (by omega) ?_)
  refine seq_i ?_
  simp [sAsg, dNew, nLst, dCons, dC, dUn, oU, dBin, dN, oTup, dNil, DL.frs, DL.bind, nCat, dVar, lstOf, der, l01, nList, seqOf, dBack, oAdd, dDct1, oIx, atI0, atI1]
  repeat (with_reducible refine And.intro (by omega) ?_)
  generalize hX : [Dat.non, Dat.bl true, _, _, _, _, _, _, _, _, _, _, _, _, _, _, _, _, _, _, _, _, _, _, _, _, _, _, _, _, _, _, _, _, _, _, _] = xs
  have hl : xs.length = 37 := by rw [← hX]; rfl
  have hg : ∀ x ∈ xs, el x = true := by
    have : xs.all (el) = true := by
      rw [← hX]
      decide +kernel
    exact List.all_eq_true.mp this
  unfold sRet
  simp only [dBin]
  refine v_f rfl ?_
  refine call_next (tl := tl) (c := c) (37 : Int) (by omega) (by omega) hd (by have : c + 1 < lim := hc; omega) (fun Q h => by
      simp [dCons, dVar, dN, oLen, dNil, DL.frs, der, hl]
      exact h) fun i m' i0 i1 hd' => ?_
  obtain ⟨d, e1, e2⟩ := atI_int (l := xs) i0 (by rw [hl]; exact i1)
  simp only [oIx, der, e1]
  exact hQ _ _ ⟨hg d (List.mem_of_getElem? e2), hd'⟩
end K02

set_option maxHeartbeats 1000000
namespace K02
open PySem PySem.Spec PyProof.Rows L2 DL DL.S
theorem minI2 (i j : Int) : minI [i, j] = min i j := rfl
theorem maxI2 (i j : Int) : maxI [i, j] = max i j := rfl

theorem errGo_non {n : Int} : ∀ {xs : List Dat} {seen : List Dat} {k : Nat}, errGo n seen k xs = .non → ∀ x ∈ xs, linkB n x = true
  | [], _, _, _, x, hx => by cases hx
  | y :: ys, seen, k, h, x, hx => by
    rw [errGo] at h
    by_cases hl : linkB n y = true
    · rw [if_pos hl] at h
      split at h
      · cases h
      · rcases List.mem_cons.mp hx with rfl | q
        · exact hl
        · exact errGo_non h x q
    · rw [if_neg hl] at h; cases h
theorem errD_non {nd ld : Dat} (h : errD nd ld = .non) : ∃ n xs, nd = .int n ∧ ld = .tup xs ∧ 1 ≤ n ∧ n ≤ 7 ∧ xs.length ≤ 8 ∧ ∀ x ∈ xs, linkB n x = true := by
  cases nd with
  | int n =>
    by_cases hn : 1 ≤ n ∧ n ≤ 7
    · rw [errD, if_pos hn] at h
      cases ld with
      | tup xs =>
        by_cases h8 : xs.length ≤ 8
        · rw [errL, if_pos h8] at h
          exact ⟨n, xs, rfl, rfl, hn.1, hn.2, h8, errGo_non h⟩
        · rw [errL, if_neg h8] at h; cases h
      | _ => simp [errL] at h
    · rw [errD, if_neg hn] at h; cases h
  | _ => simp [errD] at h
def ends : Dat → Dat
  | .tup [.int a, .int b] => .tup [.int (min a b), .int (max a b)]
  | d => d
theorem link_ord {n : Int} {d : Dat} (hn : n ≤ 7) (h : linkB n d = true) : isOrd 7 (ends d) := by
  obtain ⟨a, b, rfl, h1, h2, h3, h4, h5⟩ := link_is h
  refine ⟨(min a b).toNat, (max a b).toNat, ?_, by omega, by omega⟩
  rw [ends, show (((min a b).toNat : Nat) : Int) = min a b by omega, show (((max a b).toNat : Nat) : Int) = max a b by omega]
def p_init : DSp := pRel 3 (fun ds m => ∃ m0 nd ld, ds = [.obj m0.length, nd, ld] ∧ m = m0 ++ [.ins 3 []] ∧ plain nd = true ∧ good 5 ld = true)
  (fun ds m r m' => ∃ (m0 : Mem) (nd ld : Dat) (n : Int) (ys : List Dat), ds = [.obj m0.length, nd, ld] ∧ m = m0 ++ [.ins 3 []] ∧ errD nd ld = .non ∧ r = .non ∧ m' = m0 ++ [.ins 3 [.int n, .tup ys]] ∧ ∀ y ∈ ys, isOrd 7 y)
  (fun ds m c xs m' => ∃ m0 nd ld, ds = [.obj m0.length, nd, ld] ∧ m = m0 ++ [.ins 3 []] ∧ errD nd ld ≠ .non ∧ c = 2 ∧ xs = [errD nd ld] ∧ m' = m)
theorem call_err {da : TAd} {env : Env'} {m : Mem} {Q : QL} {nd ld : Dat} (hn : plain nd = true) (hl : good 5 ld = true) (ha : ∀ Q : List Lv → Mem → Prop, Q [.f nd, .f ld] m → da env m Q) (h : Q (.f (errD nd ld)) m) : dCall p_err EX0 da env m Q :=
  call_is [.f nd, .f ld] [nd, ld] ha rfl ⟨rfl, ⟨nd, ld, rfl, hn, hl⟩, fun r m' ⟨a, b, e1, e2, e3⟩ => by cases e1; subst e2 e3; exact h, fun _ _ _ q => q.elim⟩
theorem law_Net_init (C : Ct) : ∀ ds m (Q : QD) (E : QX), p_init ds m Q E → rd_Net_init C p_err (fun c xs _ m => E c xs m) { nx := fun _ m => Q .non m, rt := Q } (env0 5 ds) m := by
  rintro ds m Q E ⟨_, ⟨m0, nd, ld, rfl, rfl, hn, hl⟩, hQ, hE⟩
  have s2 : 1000 ≤ sizeLine := sz (by decide)
  have e0 : env0 5 [.obj m0.length, nd, ld] = [some (.f (.obj m0.length)), some (.f nd), some (.f ld), none, none] := rfl
  rw [e0]
  unfold rd_Net_init
  refine seq_i ?_
  unfold sAsg
  refine call_err hn hl (fun Q h => h) ?_
  simp only [DL.bind, List.set]
  have hge : (m0 ++ [Mo.ins 3 []])[m0.length]? = some (.ins 3 []) := by simp
  refine seq_i ?_
  by_cases he : errD nd ld = .non
  · have q := hQ .non
    obtain ⟨n, xs, rfl, rfl, n1, n7, h8, hx'⟩ := errD_non he
    rw [he]
    simp [sIf, dTst, dBin, oIsN, dVar, dC, sNext]
    rw [if_pos (show isN (.f .non) = true from rfl)]
    refine seq_i ?_
    have f0 : fi_size 3 = some 0 := rfl
    have f1 : fi_pairs 3 = some 1 := rfl
    have set_last : ∀ o : Mo, (m0 ++ [Mo.ins 3 []]).set m0.length o = m0 ++ [o] := fun o => by simp
    have hge2 : ∀ o : Mo, (m0 ++ [o])[m0.length]? = some o := fun o => by simp
    have set_last2 : ∀ o o' : Mo, (m0 ++ [o]).set m0.length o' = m0 ++ [o'] := fun o o' => by simp
    simp only [sFldD]
    refine v_f rfl (v_f rfl ?_)
    simp only [moOf, hge2, f0, setM, setE, set_last2]
    rw [if_neg (by simp)]
    refine ⟨rfl, ?_⟩
    simp only [sFldD, dN, dCons, dNew, nSort, nLc, iVal]
    refine v_f rfl ?_
    refine ⟨by omega, lc_map (f := ends) (fun x hx Q h => ?_) ?_⟩
    · obtain ⟨a, b, rfl, _⟩ := link_is (hx' x hx)
      simp [wipeE, dN, dCons, oIs, seqOf, der, intsD, minI2, maxI2, dVar, dNil, DL.frs, oTup]
      simp [ends] at h
      exact ⟨by omega, h⟩
    · have ho : ∀ y ∈ xs.map ends, isOrd 7 y := fun y hy => by
        obtain ⟨x, hx, rfl⟩ := List.mem_map.mp hy
        exact link_ord n7 (hx' x hx)
      simp only [seqOf, der]
      refine ⟨sortOk_ord (Nat.le_refl _) ho, ?_⟩
      simp only [dNil, oTuple, seqOf, der]
      refine v_f rfl ?_
      simp only [moOf, hge2, f1, setM, setE, set_last2]
      rw [if_neg (by simp)]
      exact ⟨rfl, hQ _ _ ⟨m0, .int n, .tup xs, n, _, rfl, rfl, he, rfl, rfl, fun y hy => ho y (sortD_mem hy)⟩⟩
  · have q := hE 2 [errD nd ld] _ ⟨m0, nd, ld, rfl, rfl, he, rfl, rfl, rfl⟩
    have hb : isN (.f (errD nd ld)) = false := by
      cases hd : errD nd ld <;> first | rfl | exact absurd hd he
    unfold sIf dTst
    simp only [dBin]
    refine v_f rfl (c_i ?_)
    simp only [oIsN, hb]
    rw [if_pos (by decide)]
    simp only [sRaise, mOwn, dCons]
    refine v_f rfl ?_
    simp only [dNil, DL.frs]
    exact ⟨rfl, q⟩
end K02

set_option maxHeartbeats 1000000
namespace DL.S
open PySem PySem.Spec PyProof.Rows L2 DL
theorem law_same0 (C : Ct) (pp : DSp) : ∀ ds m (Q : QD) (E : QX), p_same 0 ds m Q E → rd_law_same C pp (fun c xs _ m => E c xs m) { nx := fun _ m => Q .non m, rt := Q } (env0 4 ds) m := by
  rintro ds m Q E ⟨_, ⟨d, rfl, hd⟩, hQ, _⟩
  have hQ' : Q (.bl true) m := hQ _ _ ⟨rfl, rfl⟩
  have e0 : env0 4 [d, d] = [some (.f d), some (.f d), none, none] := rfl
  rw [e0]
  unfold rd_law_same
  have s2 : 2 ≤ sizeLine := sz (by decide)
  cases d with
  | non => simp [sSeq, sIf, dTst, dN, oIsi, dCons, dVar, dC, dNil, oTup, frs, s2, derI, der, isaD, isaL, isa1, tyN, isT, sNext, dBin, oIsN, isN, sRet, hQ']
  | bl b => simp [sSeq, sIf, dTst, dN, oIsi, dCons, dVar, dC, dNil, oTup, frs, s2, derI, der, isaD, isaL, isa1, tyN, isT, sNext, dBin, oIsN, isN, sRet, dOr, dAndV, oEq, eqd_bl, blOkN, hQ']
  | int i => simp [sSeq, sIf, dTst, dN, oIsi, dCons, dVar, dC, dNil, oTup, frs, s2, derI, der, isaD, isaL, isa1, tyN, isT, sNext, dBin, oIsN, isN, sRet, dOr, dAndV, oEq, eqd_int, intOkN, hQ']
  | str x => simp [sSeq, sIf, dTst, dN, oIsi, dCons, dVar, dC, dNil, oTup, frs, s2, derI, der, isaD, isaL, isa1, tyN, isT, sNext, dBin, oIsN, isN, sRet, dOr, dAndV, oEq, eqd_str, strOkN _ hd, hQ']
  | tup xs => obtain ⟨j, h, _⟩ := good_tup hd; omega
  | lst xs => obtain ⟨j, h, _⟩ := good_lst hd; omega
  | dct kvs =>
    have hx : okR 60 (.dct kvs) = true ∧ (py (.dct kvs)).shown.length ≤ 10000 ∧ PyData.strOk (py (.dct kvs)).shown = true := by
      have h' : (okR 60 (.dct kvs) && (decide ((py (.dct kvs)).shown.length ≤ 10000) && PyData.strOk (py (.dct kvs)).shown)) = true := hd
      rw [Bool.and_eq_true, Bool.and_eq_true] at h'
      exact ⟨h'.1, of_decide_eq_true h'.2.1, h'.2.2⟩
    have s1 : 10000 ≤ sizeLine := sz (by decide)
    simp [sSeq, sIf, dTst, dN, oIsi, dCons, dVar, dC, dNil, oTup, frs, s2, derI, der, isaD, isaL, isa1, tyN, isT, sNext, dBin, oIsN, isN, sRet, dOr, dAndV, oEq, eqd_str, oRepr]
    exact ⟨hx.1, by omega, hx.1, by omega, strOkN _ hx.2.2, hQ'⟩
  | _ => cases hd
end DL.S

set_option maxHeartbeats 1000000
namespace K02
open PySem PySem.Spec PyProof.Rows L2 DL DL.S

/-! ### nets with their links in order -/
abbrev Lk : Type := Nat × Nat
def lk (p : Lk) : Dat := .tup [.int p.1, .int p.2]
def Lk.lt (p q : Lk) : Prop := p.1 < q.1 ∨ (p.1 = q.1 ∧ p.2 < q.2)
def Lk.le (p q : Lk) : Bool := decide (p.1 < q.1 ∨ (p.1 = q.1 ∧ p.2 ≤ q.2))
structure NetOk (n : Nat) (ps : List Lk) : Prop where
  n1 : 1 ≤ n
  n7 : n ≤ 7
  l8 : ps.length ≤ 8
  ord : ∀ p ∈ ps, p.1 < p.2 ∧ p.2 < n
  asc : ps.Pairwise Lk.lt
theorem sortD_lk (ps : List Lk) : sortD (ps.map lk) = (ps.mergeSort Lk.le).map lk := by
  unfold sortD
  refine (List.map_mergeSort (r := Lk.le) (s := PySem.W.dataLe false py) (f := lk) (l := ps) fun a _ b _ => ?_).symm
  have e := congrFun (congrFun (PySem.W.dataLe_ii (β := Lk) (fun p => (p.1 : Int)) (fun p => (p.2 : Int))) a) b
  have e2 : PySem.W.dataLe false py (lk a) (lk b) = decide ((a.1 : Int) < b.1 ∨ ((a.1 : Int) = b.1 ∧ (a.2 : Int) ≤ b.2)) := e
  rw [e2]
  unfold Lk.le
  refine decide_eq_decide.mpr ?_
  omega
theorem Lk.le_total (p q : Lk) : (Lk.le p q || Lk.le q p) = true := by
  unfold Lk.le
  simp only [Bool.or_eq_true, decide_eq_true_eq]
  omega
theorem Lk.le_trans (p q r : Lk) (h1 : Lk.le p q = true) (h2 : Lk.le q r = true) : Lk.le p r = true := by
  unfold Lk.le at *
  simp only [decide_eq_true_eq] at *
  omega
theorem Lk.lt_of {p q : Lk} (h : Lk.le p q = true) (ne : p ≠ q) : Lk.lt p q := by
  unfold Lk.le at h
  simp only [decide_eq_true_eq] at h
  rcases h with h | ⟨h1, h2⟩
  · exact .inl h
  · refine .inr ⟨h1, ?_⟩
    rcases Nat.lt_or_ge p.2 q.2 with z | z
    · exact z
    · exact absurd (Prod.ext h1 (Nat.le_antisymm h2 z)) ne
theorem lk_inj {p q : Lk} (h : lk p = lk q) : p = q := by
  unfold lk at h
  simp at h
  exact Prod.ext (by omega) (by omega)
/-- links found one by one -/
structure Fnd (n : Nat) (xs : List Dat) : Prop where
  ord : ∀ x ∈ xs, isOrd n x
  nd : xs.Nodup
theorem Fnd.snoc {n : Nat} {xs : List Dat} {d : Dat} (h : Fnd n xs) (hd : isOrd n d) (hm : d ∉ xs) : Fnd n (xs ++ [d]) :=
  ⟨fun x hx => by
    rcases List.mem_append.mp hx with q | q
    · exact h.ord x q
    · rw [List.mem_singleton.mp q]; exact hd, List.nodup_append.mpr ⟨h.nd, List.pairwise_singleton _ _, fun a ha b hb e => by
    rw [List.mem_singleton.mp hb] at e; exact hm (e ▸ ha)⟩⟩
theorem Fnd.cut {n : Nat} {xs : List Dat} (h : Fnd n xs) (k : Int) : Fnd n (cutD xs none (some k)) :=
  ⟨fun x hx => h.ord x (cutD_mem hx), by
    unfold DL.cutD
    exact (h.nd.sublist (List.drop_sublist _ _)).sublist (List.take_sublist _ _)⟩
theorem ord_refl {n : Nat} {d : Dat} (h : isOrd n d) : eqd d d = true := by
  obtain ⟨a, b, rfl, _, _⟩ := h
  simp [eqd, eqds]
theorem ord_lks {n : Nat} : ∀ {xs : List Dat}, (∀ x ∈ xs, isOrd n x) → ∃ ps : List Lk, xs = ps.map lk ∧ ∀ p ∈ ps, p.1 < p.2 ∧ p.2 < n
  | [], _ => ⟨[], rfl, by simp⟩
  | x :: xs, h => by
    obtain ⟨ps, rfl, hp⟩ := ord_lks (n := n) (xs := xs) fun y hy => h y (by simp [hy])
    obtain ⟨a, b, rfl, h1, h2⟩ := h x (by simp)
    refine ⟨(a, b) :: ps, rfl, fun p hp' => ?_⟩
    rcases List.mem_cons.mp hp' with rfl | q
    · exact ⟨h1, h2⟩
    · exact hp p q
theorem net_of {n : Nat} {xs : List Dat} (n1 : 1 ≤ n) (n7 : n ≤ 7) (h : Fnd n xs) (hl : xs.length ≤ 8) : ∃ ps, sortD xs = ps.map lk ∧ NetOk n ps := by
  obtain ⟨ps, rfl, hp⟩ := ord_lks h.ord
  refine ⟨ps.mergeSort Lk.le, sortD_lk ps, n1, n7, ?_, fun p hq => hp p ((List.mergeSort_perm ps _).mem_iff.mp hq), ?_⟩
  · rw [List.length_mergeSort]; simpa using hl
  · have s := List.pairwise_mergeSort (le := Lk.le) Lk.le_trans Lk.le_total ps
    have nd : (ps.mergeSort Lk.le).Nodup := (List.mergeSort_perm ps _).nodup_iff.mpr (List.Pairwise.of_map (R := fun a b => a ≠ b) lk (fun a b hne e => hne (congrArg lk e)) h.nd)
    exact (s.and nd).imp fun z => Lk.lt_of z.1 z.2
def p_netS : DSp := pGh (γ := Nat × Mem) 2 (fun g ds m => ds = [.obj 1, .int 8] ∧ Dk g.1 g.2 m ∧ g.1 + 30 < lim)
  (fun g ds m r m' => ∃ (n : Nat) (ps : List Lk), r = .tup [.int n, .lst (ps.map lk)] ∧ NetOk n ps ∧ Dk (g.1 + 30) g.2 m')
def ring1 (d : Dat) : Dat := match d with
  | .int i => .tup [.int i, .int (i + 1)]
  | d => d
theorem ring_nodup (n : Nat) (h : 2 < n) : ((rangeD 0 (n - 1)).map ring1 ++ [Dat.tup [Dat.int 0, Dat.int ((n : Int) - 1)]]).Nodup := by
  have e : (rangeD 0 (n - 1)).map ring1 ++ [Dat.tup [Dat.int 0, Dat.int ((n : Int) - 1)]] = ((List.range (n - 1)).map (fun i => (i, i + 1)) ++ [(0, n - 1)]).map lk := by
    unfold rangeD
    rw [List.map_append, List.map_map, List.map_map]
    congr 1
    · refine List.map_congr_left fun i _ => ?_
      simp [ring1, lk]
    · simp [lk]; omega
  rw [e]
  refine List.Pairwise.map lk (R := fun a b => a ≠ b) (fun a b hne e => hne (lk_inj e)) ?_
  refine List.nodup_append.mpr ⟨List.Pairwise.map _ (R := fun a b => a ≠ b) (fun a b hne e => hne (by simpa using congrArg Prod.fst e)) List.nodup_range, List.pairwise_singleton _ _, fun a ha b hb e => ?_⟩
  obtain ⟨i, hi, rfl⟩ := List.mem_map.mp ha
  rw [List.mem_singleton.mp hb] at e
  simp at e
  omega
/-- one turn of the loop of links -/
theorem net_step2 {D : En} {n : Nat} {x4 x6 x7 : Option Sl} {found : List Dat} {m tl : Mem} {c : Nat} (hn : n ≤ 7) (h1 : 1 < n) (hd : Dk c tl m) (hc : c < lim) (hf : Fnd n found) (hL : found.length ≤ 100)
    (h : ∀ m' found' x7, Dk (c + 1) tl m' → Fnd n found' → found'.length ≤ found.length + 1 → D.nx [some (.f (.obj 1)), some (.f (.int 8)), some (.f (.int n)), some (.f (.lst (pairsF n))), x4, some (.own (.lst found')), x6, x7] m') :
    (sSeq (sAsg (.nm 7) (dBin oIx (dVar 3) (dCall p_next EX0 (dCons (dVar 0) (dCons (dN oLen (dCons (dVar 3) dNil)) dNil)))))
  (sIf (dTst (dBin (oIn not) (dVar 7) (dVar 5)))
  (sApp (dVar 5) (dVar 7))
  sNext)) D [some (.f (.obj 1)), some (.f (.int 8)), some (.f (.int n)), some (.f (.lst (pairsF n))), x4, some (.own (.lst found)), x6, x7] m := by
  have s2 : 1000 ≤ sizeLine := sz (by decide)
  have p1 := pairs_len n
  have p2 := pairs_ne h1
  have p3 : n * n ≤ 49 := Nat.mul_le_mul hn hn
  unfold sSeq sAsg
  simp only [dBin]
  refine v_f rfl ?_
  refine call_next (tl := tl) (c := c) ((pairsF n).length : Int) (by omega) (by omega) hd hc (fun Q h => by
    simp [dCons, dVar, dN, oLen, dNil, DL.frs, der]
    exact h) fun i m' i0 i1 hd' => ?_
  obtain ⟨d, e1, e2⟩ := atI_int i0 i1
  have ho : isOrd n d := pairs_ord n d (List.mem_of_getElem? e2)
  simp only [oIx, der, e1, DL.bind]
  unfold sIf dTst
  simp only [dBin]
  refine v_f rfl (v_o rfl ?_)
  refine oIn_o (bs := found) rfl (ord_ok ho) (by rw [List.all_eq_true]; exact fun x hx => ord_ok (hf.ord x hx)) ?_
  cases hx : found.any fun b => eqd b d with
  | true => exact h m' found _ hd' hf (by omega)
  | false =>
    show sApp (dVar 5) (dVar 7) D _ _
    simp [sApp, dVar, moOf, setE, setM]
    refine ⟨by omega, h m' _ _ hd' (hf.snoc ho fun hm => ?_) (by simp)⟩
    rw [List.any_eq_false] at hx
    exact hx d hm (ord_refl ho)
theorem net_loop2 {D : En} {n : Nat} {x4 : Option Sl} (hn : n ≤ 7) (h1 : 1 < n) : ∀ (r : Nat) (k : Int) (x6 x7 : Option Sl) (found : List Dat) (m tl : Mem) (c : Nat), Dk c tl m → c + r < lim → Fnd n found → found.length + r ≤ 100 →
    (∀ m' found' x6 x7, Dk (c + r) tl m' → Fnd n found' → found'.length ≤ found.length + r → D.nx [some (.f (.obj 1)), some (.f (.int 8)), some (.f (.int n)), some (.f (.lst (pairsF n))), x4, some (.own (.lst found')), x6, x7] m') →
    forGo (.nm 6) (sSeq (sAsg (.nm 7) (dBin oIx (dVar 3) (dCall p_next EX0 (dCons (dVar 0) (dCons (dN oLen (dCons (dVar 3) dNil)) dNil)))))
  (sIf (dTst (dBin (oIn not) (dVar 7) (dVar 5)))
  (sApp (dVar 5) (dVar 7))
  sNext)) D (rangeD k r) [some (.f (.obj 1)), some (.f (.int 8)), some (.f (.int n)), some (.f (.lst (pairsF n))), x4, some (.own (.lst found)), x6, x7] m
  | 0, k, x6, x7, found, m, tl, c, hd, hc, hf, hL, h => h m found x6 x7 hd hf (by omega)
  | r + 1, k, x6, x7, found, m, tl, c, hd, hc, hf, hL, h => by
    rw [rangeD_succ]
    unfold forGo
    have hb : DL.bind (.nm 6) (.f (.int k)) [some (.f (.obj 1)), some (.f (.int 8)), some (.f (.int n)), some (.f (.lst (pairsF n))), x4, some (.own (.lst found)), x6, x7] = some [some (.f (.obj 1)), some (.f (.int 8)), some (.f (.int n)), some (.f (.lst (pairsF n))), x4, some (.own (.lst found)), some (.f (.int k)), x7] := by simp [DL.bind]
    rw [hb]
    refine net_step2 hn h1 hd (by omega) hf (by omega) fun m' found' x7' hd' hf' hL' => ?_
    exact net_loop2 hn h1 r (k + 1) _ _ found' m' tl (c + 1) hd' (by omega) hf' (by omega) fun m2 f2 y6 y7 a b e => h m2 f2 y6 y7 (by rw [show c + (r + 1) = c + 1 + r by omega]; exact a) b (by omega)
theorem lc_next2 {tl : Mem} {n : Nat} {x1 x3 x4 x5 x7 : Option Sl} {Q : List Dat → Mem → Prop} : ∀ (r k : Nat) (x6 : Option Sl) (m : Mem) (c : Nat), Dk c tl m → c + r < lim → 1 ≤ k → k + r ≤ n → n ≤ 7 →
    (∀ ds m', Dk (c + r) tl m' → (∀ x ∈ ds, ∃ a b : Nat, x = .tup [.int a, .int b] ∧ a < b ∧ b < n ∧ k ≤ b) → ds.Nodup → ds.length ≤ r → Q ds m') →
    lcGo (.nm 6) dYes (dN oTup (dCons (dCall p_next EX0 (dCons (dVar 0) (dCons (dVar 6) dNil))) (dCons (dVar 6) dNil))) [some (.f (.obj 1)), x1, some (.f (.int n)), x3, x4, x5, x6, x7] (rangeD k r) m Q := by
  intro r
  induction r generalizing Q with
  | zero => intro k x6 m c hd _ _ _ _ h; exact h [] m hd (by simp) List.nodup_nil (by simp)
  | succ r ih =>
    intro k x6 m c hd hc h1 hk hn h
    have s2 : 1000 ≤ sizeLine := sz (by decide)
    have hlim : lim = 2 ^ 40 := rfl
    rw [rangeD_succ]
    unfold lcGo
    have hb : DL.bind (.nm 6) (.f (.int k)) [some (.f (.obj 1)), x1, some (.f (.int n)), x3, x4, x5, x6, x7] = some [some (.f (.obj 1)), x1, some (.f (.int n)), x3, x4, x5, some (.f (.int k)), x7] := by simp [DL.bind]
    rw [hb]
    simp only [dYes, if_true, dN, dCons]
    refine call_next (tl := tl) (c := c) k (by omega) (by omega) hd (by omega) (fun Q h => h) fun i m1 i0 i1 hd1 => ?_
    refine v_f rfl ?_
    simp only [dNil, DL.frs, oTup]
    refine ⟨by simp only [List.length_cons, List.length_nil]; omega, ?_⟩
    refine ih (k + 1) x6 m1 (c + 1) hd1 (by omega) (by omega) (by omega) hn fun ds m' hd' hds hnd hl => ?_
    refine h _ m' (by rw [show c + (r + 1) = c + 1 + r by omega]; exact hd') (fun x hx => ?_) (List.nodup_cons.mpr ⟨fun hm => ?_, hnd⟩) (by simp; omega)
    · rcases List.mem_cons.mp hx with rfl | q
      · exact ⟨i.toNat, k, by rw [show ((i.toNat : Nat) : Int) = i by omega], by omega, by omega, Nat.le_refl _⟩
      · obtain ⟨a, b, e, h1, h2, h3⟩ := hds x q
        exact ⟨a, b, e, h1, h2, by omega⟩
    · obtain ⟨a, b, e, h1, h2, h3⟩ := hds _ hm
      simp at e
      omega
theorem law_law_net2 (C : Ct) : ∀ ds m (Q : QD) (E : QX), p_netS ds m Q E → rd_law_net C p_next p_pairs (fun c xs _ m => E c xs m) { nx := fun _ m => Q .non m, rt := Q } (env0 8 ds) m := by
  rintro ds m Q E ⟨_, ⟨c, tl⟩, ⟨rfl, hd, hc⟩, hQ⟩
  have s2 : 1000 ≤ sizeLine := sz (by decide)
  have hlim : lim = 2 ^ 40 := rfl
  have e0 : env0 8 [.obj 1, .int 8] = [some (.f (.obj 1)), some (.f (.int 8)), none, none, none, none, none, none] := rfl
  rw [e0]
  unfold rd_law_net
  have fin : ∀ (n : Nat) (found : List Dat) (m' : Mem) x4 x6 x7, 1 ≤ n → n ≤ 7 → Dk (c + 30) tl m' → Fnd n found → (sKeep 5 (sRet (dN oTup (dCons (dVar 2) (dCons (dNew (nSort (dSl (dVar 5) dNo (dPart (dVar 1))))) dNil))))) { nx := fun _ m => Q .non m, rt := Q } [some (.f (.obj 1)), some (.f (.int 8)), some (.f (.int n)), some (.f (.lst (pairsF n))), x4, some (.own (.lst found)), x6, x7] m' := by
    intro n found m' x4 x6 x7 h1 h7 hd' hf
    simp [sKeep, sRet, dN, oTup, dCons, dVar, dNew, nSort, dSl, dNo, dPart, der, seqOf, dNil, DL.frs]
    obtain ⟨ps, e, hps⟩ := net_of h1 h7 (hf.cut 8) (cut_le found 8)
    refine ⟨sortOk_ord h7 fun x hx => hf.ord x (cutD_mem hx), by omega, hQ _ _ ⟨n, ps, ?_, hps, hd'⟩⟩
    rw [e]
  have turn : ∀ (n : Nat) (found : List Dat) (m' : Mem) x4 x6 x7 (d : Nat), 1 ≤ n → n ≤ 7 → d ≤ 12 → Dk (c + d) tl m' → Fnd n found → found.length ≤ 10 →
      (sSeq (sFor (.nm 6) (iRg1 (dBin oMul (dBin oIx (dNew (nLst (dCons (dVar 1) (dCons (dCall p_next EX0 (dCons (dVar 0) (dCons (dBin oAdd (dVar 1) (dC (.int 1))) dNil))) dNil)))) (dCall p_next EX0 (dCons (dVar 0) (dCons (dC (.int 2)) dNil)))) (dN (oN1 fInt) (dCons (dBin oGt (dVar 2) (dC (.int 1))) dNil))))
  (sSeq (sAsg (.nm 7) (dBin oIx (dVar 3) (dCall p_next EX0 (dCons (dVar 0) (dCons (dN oLen (dCons (dVar 3) dNil)) dNil)))))
  (sIf (dTst (dBin (oIn not) (dVar 7) (dVar 5)))
  (sApp (dVar 5) (dVar 7))
  sNext)))
  (sKeep 5 (sRet (dN oTup (dCons (dVar 2) (dCons (dNew (nSort (dSl (dVar 5) dNo (dPart (dVar 1))))) dNil)))))) { nx := fun _ m => Q .non m, rt := Q } [some (.f (.obj 1)), some (.f (.int 8)), some (.f (.int n)), some (.f (.lst (pairsF n))), x4, some (.own (.lst found)), x6, x7] m' := by
    intro n found m' x4 x6 x7 d h1 h7 hd12 hd' hf hL
    refine seq_i ?_
    unfold sFor iRg1
    simp only [dBin, dNew, nLst, dCons]
    refine v_f rfl ?_
    refine call_next (tl := tl) (c := c + d) 9 (by omega) (by omega) hd' (by omega) (fun Q h => by
      simp [dCons, dVar, dNil, oAdd, dC, DL.frs]
      exact h) fun i m2 i0 i1 hd2 => ?_
    simp only [dNil, DL.frs]
    refine ⟨by simp only [List.length_cons, List.length_nil]; omega, ?_⟩
    refine call_next (tl := tl) (c := c + d + 1) 2 (by omega) (by omega) hd2 (by omega) (fun Q h => h) fun j m3 j0 j1 hd3 => ?_
    have hi : ∃ q : Nat, q ≤ 8 ∧ atI [Dat.int 8, .int i] j = some (.int q) := by
      rcases (show j = 0 ∨ j = 1 by omega) with rfl | rfl
      · exact ⟨8, by omega, atI0 _ _⟩
      · exact ⟨i.toNat, by omega, by rw [show ((i.toNat : Nat) : Int) = i by omega]; exact atI1 _ _ _⟩
    obtain ⟨q, q8, eq⟩ := hi
    simp only [oIx, der, eq]
    by_cases hn : 1 < n
    · have hn' : (1 : Int) < n := by omega
      simp [dN, oN1, fInt, dCons, dBin, dVar, oGt, oI0, oI, dC, dNil, DL.frs, hn', hn, oMul]
      refine ⟨.inl ⟨by omega, by omega⟩, by omega, ?_⟩
      refine net_loop2 h7 hn q 0 x6 x7 found m3 tl (c + d + 1 + 1) hd3 (by omega) hf (by omega) fun m4 f4 y6 y7 hd4 hf4 hL4 => ?_
      exact fin n f4 m4 x4 y6 y7 h1 h7 (hd4.mono (by omega)) hf4
    · have hn' : ¬ (1 : Int) < n := by omega
      simp [dN, oN1, fInt, dCons, dBin, dVar, oGt, oI0, oI, dC, dNil, DL.frs, hn', hn, oMul]
      try refine ⟨.inl ⟨by omega, by omega⟩, ?_⟩
      exact fin n found m3 x4 x6 x7 h1 h7 (hd3.mono (by omega)) hf
  refine seq_i ?_
  unfold sAsg
  simp only [dBin, dNew, nLst, dCons]
  refine c_i ?_
  refine call_next (tl := tl) (c := c) 7 (by omega) (by omega) hd (by omega) (fun Q h => h) fun i m1 i0 i1 hd1 => ?_
  simp only [oAdd, dC, dNil, DL.frs]
  refine ⟨by simp only [List.length_cons, List.length_nil]; omega, ?_⟩
  refine call_next (tl := tl) (c := c + 1) 4 (by omega) (by omega) hd1 (by omega) (fun Q h => h) fun j m2 j0 j1 hd2 => ?_
  have hi : ∃ n : Nat, 1 ≤ n ∧ n ≤ 7 ∧ atI [Dat.int (1 + i), .int 4, .int 5, .int 7] j = some (.int n) := by
    rcases (show j = 0 ∨ j = 1 ∨ j = 2 ∨ j = 3 by omega) with rfl | rfl | rfl | rfl
    · exact ⟨(1 + i).toNat, by omega, by omega, by rw [show (((1 + i).toNat : Nat) : Int) = 1 + i by omega]; exact atI0 _ _⟩
    · exact ⟨4, by omega, by omega, atI1 _ _ _⟩
    · exact ⟨5, by omega, by omega, atI2 _ _ _ _⟩
    · exact ⟨7, by omega, by omega, DL.atI_nat (i := 3) rfl⟩
  obtain ⟨n, n1, n7, en⟩ := hi
  simp only [oIx, der, en, DL.bind]
  refine seq_i ?_
  unfold sPar3N
  refine call_pairs n n7 (fun Q h => h) ?_
  refine call_next (tl := tl) (c := c + 1 + 1) 4 (by omega) (by omega) hd2 (by omega) (fun Q h => h) fun kind m3 k0 k1 hd3 => ?_
  simp only [nLst, dNil, DL.frs]
  refine ⟨by simp, ?_⟩
  refine seq_i ?_
  have cont : ∀ (found : List Dat) x6, found.length ≤ 10 → Fnd n found → (kind = 1 → found = []) → (sSeq (sIf (dTst (dBin (oEq id) (dVar 4) (dC (Dat.int 1))))
        (sSetN 5
          (nLc (Tg.nm 6) dYes
            (dN oTup (dCons (dCall p_next EX0 (dCons (dVar 0) (dCons (dVar 6) dNil))) (dCons (dVar 6) dNil))) [6]
            (iRg2 (dC (Dat.int 1)) (dVar 2))))
        sNext) (sSeq (sFor (.nm 6) (iRg1 (dBin oMul (dBin oIx (dNew (nLst (dCons (dVar 1) (dCons (dCall p_next EX0 (dCons (dVar 0) (dCons (dBin oAdd (dVar 1) (dC (.int 1))) dNil))) dNil)))) (dCall p_next EX0 (dCons (dVar 0) (dCons (dC (.int 2)) dNil)))) (dN (oN1 fInt) (dCons (dBin oGt (dVar 2) (dC (.int 1))) dNil))))
  (sSeq (sAsg (.nm 7) (dBin oIx (dVar 3) (dCall p_next EX0 (dCons (dVar 0) (dCons (dN oLen (dCons (dVar 3) dNil)) dNil)))))
  (sIf (dTst (dBin (oIn not) (dVar 7) (dVar 5)))
  (sApp (dVar 5) (dVar 7))
  sNext)))
  (sKeep 5 (sRet (dN oTup (dCons (dVar 2) (dCons (dNew (nSort (dSl (dVar 5) dNo (dPart (dVar 1))))) dNil))))))) { nx := fun _ m => Q .non m, rt := Q } [some (.f (.obj 1)), some (.f (.int 8)), some (.f (.int n)), some (.f (.lst (pairsF n))), some (.f (.int kind)), some (.own (.lst found)), x6, none] m3 := by
    intro found x6 hL hf hk
    refine seq_i ?_
    unfold sIf dTst
    simp only [dBin]
    refine v_f rfl (c_i ?_)
    refine oEq_l (okR1 _ _) (okR1 _ _) ?_
    rw [eqd_int]
    by_cases hk1 : kind = 1
    · subst hk1
      rw [show id ((1 : Int) == 1) = true from rfl]
      simp only [if_true]
      unfold sSetN nLc iRg2
      refine c_i (v_f rfl ⟨⟨by omega, by omega, by omega, by omega⟩, by rw [rangeD_len]; omega, ?_⟩)
      rw [show ((n : Int) - 1).toNat = n - 1 by omega]
      refine lc_next2 (tl := tl) (n := n) (n - 1) 1 none m3 (c + 1 + 1 + 1) hd3 (by omega) (by omega) (by omega) n7 fun ds m4 hd4 hds hnd hl => ?_
      exact turn n ds m4 _ _ _ (n + 2) n1 n7 (by omega) (by rw [show c + (n + 2) = c + 1 + 1 + 1 + (n - 1) by omega]; exact hd4) ⟨fun x hx => by obtain ⟨a, b, e, h1, h2, _⟩ := hds x hx; exact ⟨a, b, e, h1, h2⟩, hnd⟩ (by omega)
    · have e : decide (kind = 1) = false := decide_eq_false hk1
      rw [show (id (kind == 1)) = false by simp [hk1]]
      exact turn n found m3 _ _ _ 3 n1 n7 (by omega) (by exact hd3) hf hL
  unfold sIf dAnd dTst
  simp only [dBin]
  refine v_f rfl (c_i ?_)
  refine oEq_l (okR1 _ _) (okR1 _ _) ?_
  rw [eqd_int]
  by_cases hk0 : kind = 0
  · subst hk0
    by_cases h2 : 2 < n
    · have h2' : (2 : Int) < n := by omega
      simp [oGt, oI0, oI, dVar, dC, h2', h2]
      show sSetN 5 _ _ _ _
      unfold sSetN
      simp only [nCat, dNew, nLc, iRg1, dBin]
      simp [dVar, dC, oSub, oI0, oI]
      refine ⟨by omega, by omega, by rw [rangeD_len]; omega, lc_map (f := fun d => match d with | .int i => .tup [.int i, .int (i + 1)] | d => d) (fun x hx Q h => ?_) ?_⟩
      · obtain ⟨i, hi, rfl⟩ := List.mem_map.mp hx
        simp [dN, oTup, dCons, dVar, dBin, oAdd, dC, dNil, DL.frs, wipeE]
        simp at h
        exact ⟨by omega, h⟩
      · have hL := rangeD_len 0 (n - 1)
        simp [nLst, dN, oTup, dCons, dBin, dVar, oI, dC, dNil, DL.frs, lstOf, der]
        refine ⟨by omega, by omega, by omega, ?_⟩
        refine cont _ none (by simp; omega) ⟨fun x hx => ?_, ?_⟩ (fun h => absurd h (by decide))
        rotate_left
        · exact ring_nodup n h2
        rcases List.mem_append.mp hx with q | q
        · obtain ⟨y, hy, rfl⟩ := List.mem_map.mp q
          obtain ⟨i, hi, rfl⟩ := List.mem_map.mp hy
          have := List.mem_range.mp hi
          exact ⟨i, i + 1, by simp, by omega, by omega⟩
        · rw [List.mem_singleton.mp q]
          exact ⟨0, n - 1, by simp; omega, by omega, by omega⟩
    · have h2' : ¬ (2 : Int) < n := by omega
      simp [oGt, oI0, oI, dVar, dC, h2', h2]
      exact cont [] none (by simp) ⟨by simp, List.nodup_nil⟩ (fun _ => rfl)
  · have e : (id (kind == 0)) = false := by simp [hk0]
    rw [e]
    exact cont [] none (by simp) ⟨by simp, List.nodup_nil⟩ (fun _ => rfl)
end K02

set_option maxHeartbeats 1000000
namespace K02
open PySem PySem.Spec PyProof.Rows L2 DL DL.S

/-- Net.__init__, told in full -/
def p_initS : DSp := pRel 3 (fun ds m => ∃ m0 nd ld, ds = [.obj m0.length, nd, ld] ∧ m = m0 ++ [.ins 3 []] ∧ plain nd = true ∧ good 5 ld = true)
  (fun ds m r m' => ∃ (m0 : Mem) (n : Int) (xs : List Dat), ds = [.obj m0.length, .int n, .tup xs] ∧ m = m0 ++ [.ins 3 []] ∧ errD (.int n) (.tup xs) = .non ∧ r = .non ∧ m' = m0 ++ [.ins 3 [.int n, .tup (sortD (xs.map ends))]])
  (fun ds m c xs m' => ∃ m0 nd ld, ds = [.obj m0.length, nd, ld] ∧ m = m0 ++ [.ins 3 []] ∧ errD nd ld ≠ .non ∧ c = 2 ∧ xs = [errD nd ld] ∧ m' = m)
theorem law_Net_initS (C : Ct) : ∀ ds m (Q : QD) (E : QX), p_initS ds m Q E → rd_Net_init C p_err (fun c xs _ m => E c xs m) { nx := fun _ m => Q .non m, rt := Q } (env0 5 ds) m := by
  rintro ds m Q E ⟨_, ⟨m0, nd, ld, rfl, rfl, hn, hl⟩, hQ, hE⟩
  have s2 : 1000 ≤ sizeLine := sz (by decide)
  have e0 : env0 5 [.obj m0.length, nd, ld] = [some (.f (.obj m0.length)), some (.f nd), some (.f ld), none, none] := rfl
  rw [e0]
  unfold rd_Net_init
  refine seq_i ?_
  unfold sAsg
  refine call_err hn hl (fun Q h => h) ?_
  simp only [DL.bind, List.set]
  have hge : (m0 ++ [Mo.ins 3 []])[m0.length]? = some (.ins 3 []) := by simp
  refine seq_i ?_
  by_cases he : errD nd ld = .non
  · have q := hQ .non
    obtain ⟨n, xs, rfl, rfl, n1, n7, h8, hx'⟩ := errD_non he
    rw [he]
    simp [sIf, dTst, dBin, oIsN, dVar, dC, sNext]
    rw [if_pos (show isN (.f .non) = true from rfl)]
    refine seq_i ?_
    have f0 : fi_size 3 = some 0 := rfl
    have f1 : fi_pairs 3 = some 1 := rfl
    have set_last : ∀ o : Mo, (m0 ++ [Mo.ins 3 []]).set m0.length o = m0 ++ [o] := fun o => by simp
    have hge2 : ∀ o : Mo, (m0 ++ [o])[m0.length]? = some o := fun o => by simp
    have set_last2 : ∀ o o' : Mo, (m0 ++ [o]).set m0.length o' = m0 ++ [o'] := fun o o' => by simp
    simp only [sFldD]
    refine v_f rfl (v_f rfl ?_)
    simp only [moOf, hge2, f0, setM, setE, set_last2]
    rw [if_neg (by simp)]
    refine ⟨rfl, ?_⟩
    simp only [sFldD, dN, dCons, dNew, nSort, nLc, iVal]
    refine v_f rfl ?_
    refine ⟨by omega, lc_map (f := ends) (fun x hx Q h => ?_) ?_⟩
    · obtain ⟨a, b, rfl, _⟩ := link_is (hx' x hx)
      simp [wipeE, dN, dCons, oIs, seqOf, der, intsD, minI2, maxI2, dVar, dNil, DL.frs, oTup]
      simp [ends] at h
      exact ⟨by omega, h⟩
    · have ho : ∀ y ∈ xs.map ends, isOrd 7 y := fun y hy => by
        obtain ⟨x, hx, rfl⟩ := List.mem_map.mp hy
        exact link_ord n7 (hx' x hx)
      simp only [seqOf, der]
      refine ⟨sortOk_ord (Nat.le_refl _) ho, ?_⟩
      simp only [dNil, oTuple, seqOf, der]
      refine v_f rfl ?_
      simp only [moOf, hge2, f1, setM, setE, set_last2]
      rw [if_neg (by simp)]
      exact ⟨rfl, hQ _ _ ⟨m0, n, xs, rfl, rfl, he, rfl, rfl⟩⟩
  · have q := hE 2 [errD nd ld] _ ⟨m0, nd, ld, rfl, rfl, he, rfl, rfl, rfl⟩
    have hb : isN (.f (errD nd ld)) = false := by
      cases hd : errD nd ld <;> first | rfl | exact absurd hd he
    unfold sIf dTst
    simp only [dBin]
    refine v_f rfl (c_i ?_)
    simp only [oIsN, hb]
    rw [if_pos (by decide)]
    simp only [sRaise, mOwn, dCons]
    refine v_f rfl ?_
    simp only [dNil, DL.frs]
    exact ⟨rfl, q⟩

/-- the net as a datum -/
def netD (n : Nat) (ps : List Lk) : Dat := .ins 3 [.int n, .tup (ps.map lk)]
section
variable {n : Nat} {ps : List Lk}
theorem good_lk {k : Nat} {p : Lk} (h1 : p.1 < 100) (h2 : p.2 < 100) : good (k + 2) (lk p) = true := by
  unfold lk
  rw [good]
  have a : (p.1 : Int).natAbs.log2 < 1920 := small (by omega) (by omega)
  have b : (p.2 : Int).natAbs.log2 < 1920 := small (by omega) (by omega)
  have a' : p.1.log2 < 1920 := a
  have b' : p.2.log2 < 1920 := b
  simp [good, a', b']
theorem NetOk.good5 (h : NetOk n ps) : good 5 (.tup (ps.map lk)) = true := by
  have h7 := h.n7
  have h8 := h.l8
  rw [good, Bool.and_eq_true, List.all_eq_true]
  refine ⟨decide_eq_true (by simp; omega), fun x hx => ?_⟩
  obtain ⟨p, hp, rfl⟩ := List.mem_map.mp hx
  have := h.ord p hp
  exact good_lk (by omega) (by omega)
theorem ends_lk {p : Lk} (h : p.1 < p.2) : ends (lk p) = lk p := by
  unfold lk ends
  simp only [Dat.tup.injEq, List.cons.injEq, Dat.int.injEq, and_true]
  omega
theorem sort_lks (h : NetOk n ps) : sortD ((ps.map lk).map ends) = ps.map lk := by
  have e : (ps.map lk).map ends = ps.map lk := by
    rw [List.map_map]
    exact List.map_congr_left fun p hp => ends_lk (h.ord p hp).1
  rw [e, sortD_lk]
  congr 1
  refine List.mergeSort_of_pairwise (h.asc.imp fun {p q} z => ?_)
  unfold Lk.le
  rcases z with z | ⟨z1, z2⟩
  · exact decide_eq_true (.inl z)
  · exact decide_eq_true (.inr ⟨z1, Nat.le_of_lt z2⟩)
theorem nrm_lk {p : Lk} (h : p.1 < p.2) : nrm (lk p) = .lst [.int p.1, .int p.2] := by
  unfold lk nrm
  simp only [Dat.lst.injEq, List.cons.injEq, Dat.int.injEq, and_true]
  omega
theorem link_lk {p : Lk} (h1 : p.1 < p.2) (h2 : p.2 < n) : linkB n (lk p) = true := by
  unfold lk linkB
  simp
  omega
theorem errGo_asc : ∀ (rest done : List Lk) (k : Nat), (∀ p ∈ done ++ rest, p.1 < p.2 ∧ p.2 < n) → (done ++ rest).Pairwise Lk.lt → errGo n (done.map fun p => nrm (lk p)) k (rest.map lk) = .non
  | [], _, _, _, _ => by simp [errGo]
  | p :: rest, done, k, ho, ha => by
    have hp := ho p (by simp)
    rw [List.map_cons, errGo, if_pos (link_lk hp.1 hp.2), if_neg]
    · have e : (done.map fun p => nrm (lk p)) ++ [nrm (lk p)] = (done ++ [p]).map fun p => nrm (lk p) := by simp
      rw [e]
      exact errGo_asc rest (done ++ [p]) (k + 1) (by simpa using ho) (by simpa using ha)
    · rw [List.any_map, List.any_eq_true]
      rintro ⟨q, hq, he⟩
      have hq' := ho q (by simp [hq])
      have lt : Lk.lt q p := (List.pairwise_append.mp ha).2.2 q hq p (by simp)
      have he' : eqd (nrm (lk q)) (nrm (lk p)) = true := he
      rw [nrm_lk hq'.1, nrm_lk hp.1] at he'
      simp [eqd, eqds] at he'
      unfold Lk.lt at lt
      omega
theorem err_lks (h : NetOk n ps) : errD (.int n) (.tup (ps.map lk)) = .non := by
  have n1 := h.n1
  have n7 := h.n7
  show (if (1 : Int) ≤ n ∧ (n : Int) ≤ 7 then errL n (.tup (ps.map lk)) else _) = _
  rw [if_pos (by omega)]
  show (if (ps.map lk).length ≤ 8 then errGo n [] 0 (ps.map lk) else _) = _
  rw [if_pos (by simpa using h.l8)]
  exact errGo_asc ps [] 0 (by simpa using h.ord) (by simpa using h.asc)
/-- Net(nodes, tuple(links)) -/
theorem ev_net {env : Env'} {m : Mem} {da : TAd} {EX : QXe} (h : NetOk n ps) (hb : belM m.length m = true) (ha : EvA da env m [.f (.int n), .f (.tup (ps.map lk))]) : Ev (dMakeF 3 2 p_initS EX da) env m (.f (netD n ps)) := fun Q q => ha _ (by
  have n7 := h.n7
  show p_initS [.obj m.length, .int n, .tup (ps.map lk)] (m ++ [.ins 3 []]) _ _
  refine ⟨rfl, ⟨m, _, _, rfl, rfl, ?_, h.good5⟩, ?_, ?_⟩
  · show plain (.int n) = true
    rfl
  · rintro r m' ⟨m0, n', xs, e1, e2, e3, rfl, rfl⟩
    have e4 : m0 = m := by
      have := congrArg (fun l => l.dropLast) e2
      simpa using this.symm
    subst e4
    have e5 : n' = (n : Int) := by simp at e1; omega
    have e6 : xs = ps.map lk := by simp at e1; exact e1.2.symm
    subst e5 e6
    rw [sort_lks h]
    refine ⟨rfl, m0, _, rfl, rfl, rfl, hb, ?_, q⟩
    have z : ∀ qs : List Lk, bels m0.length (qs.map lk) = true := fun qs => by
      induction qs with
      | nil => rfl
      | cons p qs ih => rw [List.map_cons, bels, ih]; rfl
    simp [bels, bel, z]
  · rintro c xs m' ⟨m0, nd, ld, e1, e2, e3, _⟩
    have e5 : nd = .int n := by simp at e1; exact e1.2.1.symm
    have e6 : ld = .tup (ps.map lk) := by simp at e1; exact e1.2.2.symm
    subst e5 e6
    exact absurd (err_lks h) e3)
end
end K02

set_option maxHeartbeats 1000000
namespace DL.S
open PySem PySem.Spec PyProof.Rows L2 DL K02

/-! ### data that can be compared and shown -/
def vd (k B : Nat) (d : Dat) : Bool := (good k d && okR k d) && ((py d).leavesShort 40 && (decide ((py d).bulk ≤ B) && PyData.strOk (py d).shown))
structure Vd (k B : Nat) (d : Dat) : Prop where
  good : DL.S.good k d = true
  okR : DL.okR k d = true
  short : (py d).leavesShort 40 = true
  bulk : (py d).bulk ≤ B
  str : PyData.strOk (py d).shown = true
theorem vd_iff {k B : Nat} {d : Dat} : vd k B d = true ↔ Vd k B d := by
  unfold vd
  rw [Bool.and_eq_true, Bool.and_eq_true, Bool.and_eq_true, Bool.and_eq_true, decide_eq_true_iff]
  exact ⟨fun h => ⟨h.1.1, h.1.2, h.2.1, h.2.2.1, h.2.2.2⟩, fun h => ⟨⟨h.1, h.2⟩, h.3, h.4, h.5⟩⟩
theorem good_up1 {d : Dat} {k : Nat} (h : good k d = true) : good (k + 1) d = true := by
  induction k generalizing d with
  | zero => cases d <;> first | exact h | (simp [good] at h)
  | succ k ih =>
    cases d with
    | tup xs =>
      rw [good, Bool.and_eq_true, List.all_eq_true] at h ⊢
      exact ⟨h.1, fun x hx => ih (h.2 x hx)⟩
    | lst xs =>
      rw [good, Bool.and_eq_true, List.all_eq_true] at h ⊢
      exact ⟨h.1, fun x hx => ih (h.2 x hx)⟩
    | _ => exact h
theorem okR_up1 : ∀ {k : Nat} {d : Dat}, okR k d = true → okR (k + 1) d = true := by
  intro k
  induction k with
  | zero => intro d h; cases d <;> first | exact h | (simp [okR] at h)
  | succ k ih =>
    intro d h
    cases d with
    | tup xs =>
      rw [okR, List.all_eq_true] at h ⊢
      exact fun x hx => ih (h x hx)
    | lst xs =>
      rw [okR, List.all_eq_true] at h ⊢
      exact fun x hx => ih (h x hx)
    | dct kvs =>
      rw [okR, List.all_eq_true] at h ⊢
      intro x hx
      have := h x hx
      rw [Bool.and_eq_true] at this ⊢
      exact ⟨ih this.1, ih this.2⟩
    | _ => exact h
theorem good_le {j k : Nat} {d : Dat} (e : j ≤ k) (h : good j d = true) : good k d = true := by
  obtain ⟨i, rfl⟩ : ∃ i, k = j + i := ⟨k - j, by omega⟩
  induction i with
  | zero => exact h
  | succ i ih => exact good_up1 (ih (by omega))
theorem okR_le1 {j k : Nat} {d : Dat} (e : j ≤ k) (h : okR j d = true) : okR k d = true := by
  obtain ⟨i, rfl⟩ : ∃ i, k = j + i := ⟨k - j, by omega⟩
  induction i with
  | zero => exact h
  | succ i ih => exact okR_up1 (ih (by omega))
theorem Vd.up {j k A B : Nat} {d : Dat} (h : Vd j A d) (e : j ≤ k) (e2 : A ≤ B) : Vd k B d := ⟨good_le e h.good, okR_le1 e h.okR, h.short, Nat.le_trans h.bulk e2, h.str⟩
theorem bulk_all {B : Nat} : ∀ {xs : List Dat}, (∀ x ∈ xs, (py x).bulk ≤ B) → PyData.bulkAll (pys xs) ≤ (B + 1) * xs.length
  | [], _ => Nat.zero_le _
  | x :: xs, h => by
    have h1 := h x (by simp)
    have h2 := bulk_all (xs := xs) fun y hy => h y (by simp [hy])
    rw [pys, PyData.bulkAll, List.length_cons, Nat.mul_add]
    omega
theorem Vd.tup {k B L A : Nat} {xs : List Dat} (h : ∀ x ∈ xs, Vd k B x) (hl : xs.length ≤ L) (hL : L ≤ 10000) (hA : (B + 1) * L ≤ A) : Vd (k + 1) A (.tup xs) := by
  refine ⟨?_, ?_, leaves_all.mpr fun x hx => (h x hx).short, ?_, strOk_tuple fun t ht => ?_⟩
  · rw [DL.S.good, Bool.and_eq_true, List.all_eq_true]
    exact ⟨decide_eq_true (by omega), fun x hx => (h x hx).good⟩
  · rw [DL.okR, List.all_eq_true]
    exact fun x hx => (h x hx).okR
  · have h1 := bulk_all (xs := xs) fun x hx => (h x hx).bulk
    exact Nat.le_trans (Nat.le_trans h1 (Nat.mul_le_mul_left _ hl)) hA
  · obtain ⟨x, hx, rfl⟩ := shownAll_mem ht
    exact (h x hx).str
theorem Vd.lst {k B L A : Nat} {xs : List Dat} (h : ∀ x ∈ xs, Vd k B x) (hl : xs.length ≤ L) (hL : L ≤ 10000) (hA : (B + 1) * L ≤ A) : Vd (k + 1) A (.lst xs) := by
  refine ⟨?_, ?_, leaves_all.mpr fun x hx => (h x hx).short, ?_, strOk_list fun t ht => ?_⟩
  · rw [DL.S.good, Bool.and_eq_true, List.all_eq_true]
    exact ⟨decide_eq_true (by omega), fun x hx => (h x hx).good⟩
  · rw [DL.okR, List.all_eq_true]
    exact fun x hx => (h x hx).okR
  · have h1 := bulk_all (xs := xs) fun x hx => (h x hx).bulk
    exact Nat.le_trans (Nat.le_trans h1 (Nat.mul_le_mul_left _ hl)) hA
  · obtain ⟨x, hx, rfl⟩ := shownAll_mem ht
    exact (h x hx).str
theorem Vd.int {k : Nat} {i : Int} (h : vd 0 0 (.int i) = true) : Vd k 0 (.int i) := (vd_iff.mp h).up (Nat.zero_le _) (Nat.le_refl _)
/-- small ints -/
theorem vd_small : ((List.range 300).all fun i => vd 0 0 (.int (i : Nat)) && vd 0 0 (.int (-(i : Nat)))) = true := by decide +kernel
theorem Vd.nat {k B : Nat} {i : Nat} (h : i < 300) : Vd k B (.int i) := by
  have := List.all_eq_true.mp vd_small i (List.mem_range.mpr h)
  rw [Bool.and_eq_true] at this
  exact (vd_iff.mp this.1).up (Nat.zero_le _) (Nat.zero_le _)
theorem Vd.i {k B : Nat} {i : Int} (h0 : -300 < i) (h1 : i < 300) : Vd k B (.int i) := by
  by_cases h : 0 ≤ i
  · have := Vd.nat (k := k) (B := B) (i := i.toNat) (by omega)
    rwa [show ((i.toNat : Nat) : Int) = i by omega] at this
  · have := List.all_eq_true.mp vd_small (-i).toNat (List.mem_range.mpr (by omega))
    rw [Bool.and_eq_true, show (-(((-i).toNat : Nat) : Int)) = i by omega] at this
    exact (vd_iff.mp this.2).up (Nat.zero_le _) (Nat.zero_le _)
theorem Vd.bl {k B : Nat} (b : Bool) : Vd k B (.bl b) := by
  cases b
  · exact (vd_iff.mp (show vd 0 0 (.bl false) = true by decide +kernel)).up (Nat.zero_le _) (Nat.zero_le _)
  · exact (vd_iff.mp (show vd 0 0 (.bl true) = true by decide +kernel)).up (Nat.zero_le _) (Nat.zero_le _)
theorem Vd.non {k B : Nat} : Vd k B .non := (vd_iff.mp (show vd 0 0 .non = true by decide +kernel)).up (Nat.zero_le _) (Nat.zero_le _)
theorem Vd.shown {k B : Nat} {d : Dat} (h : Vd k B d) (hB : B ≤ 100000) : (py d).shown.length ≤ sizeLine := by
  have h1 := PyData.shown_le_bulk 40 (by omega) _ h.short
  have h2 := h.bulk
  refine Nat.le_trans (m := 10000000) (by omega) (sz (by decide))
/-- repr(e) -/
theorem em_repr {k B : Nat} {d : Dat} {x : Lv} {env : Env'} {m : Mem} (e : der env m x = some d) (h : Vd k B d) (hk : k ≤ 60) (hB : B ≤ 100000) : EvM oRepr env m [x] (.str (py d).shown) := fun Q q => by
  unfold oRepr
  simp only [e]
  exact ⟨okR_le1 hk h.okR, h.shown hB, q⟩
theorem Vd.plain {k B : Nat} {d : Dat} (h : Vd k B d) : plain d = true := good_plain h.good
theorem Vd.okStr {k B j : Nat} {d : Dat} (h : Vd k B d) : okN j (.str (py d).shown) = true := strOkN j h.str
/-- repr again is the same -/
theorem eqd_strs (s : Str) : eqd (.str s) (.str s) = true := by simp [eqd]
end DL.S

set_option maxHeartbeats 1000000
namespace DL.S
open PySem PySem.Spec PyProof.Rows L2 DL
def rd_ascends (C : Ct) (p_is_below : DSp) (EX : QXe) : TSd :=
  (sSeq (sIf (dOr (dNot (dTst (dN (oIsi C) (dCons (dVar 0) (dCons (dC (.ty "tuple")) dNil))))) (dNot (dTst (dN (oBs fun bs => bs.all id) (dCons (dNew (nLc (.nm 4) dYes (dCall p_is_below EX0 (dCons (dVar 4) (dCons (dVar 1) dNil))) [4] (iVal (dVar 0)))) dNil)))))
  (sRet (dC (.bl false)))
  sNext)
  (sRet (dN (oBs fun bs => bs.all id) (dCons (dNew (nLc (.tp [2, 3]) dYes (dBin oLt (dVar 2) (dVar 3)) [2, 3] (iZipD (dVar 0) (dSl (dVar 0) (dPart (dC (.int 1))) dNo)))) dNil))))
def rd_is_outage (C : Ct) (p_ascends : DSp) (p_Net_len : DSp) (EX : QXe) : TSd :=
  (sRet (dCall p_ascends EX0 (dCons (dVar 1) (dCons (dN (oLenI 3 p_Net_len) (dCons (dVar 0) dNil)) dNil))))
def rd_Net_len (C : Ct)  (EX : QXe) : TSd :=
  (sRet (dN oLen (dCons (dFld fi_pairs (dVar 0)) dNil)))
def rd_law_outage (C : Ct) (p_law_next : DSp) (EX : QXe) : TSd :=
  (sSeq (sAsg (.nm 2) (dBin oAdd (dC (.int 2)) (dCall p_law_next EX0 (dCons (dVar 0) (dCons (dC (.int 4)) dNil)))))
  (sRet (dN oTuple (dCons (dNew (nLc (.nm 3) (dTst (dBin (oEq id) (dCall p_law_next EX0 (dCons (dVar 0) (dCons (dVar 2) dNil))) (dC (.int 0)))) (dVar 3) [3] (iRg1 (dVar 1)))) dNil))))
def rd_law_ascends (C : Ct) (p_law_whole : DSp) (EX : QXe) : TSd :=
  (sSeq (sIf (dOr (dNot (dTst (dN (oIsi C) (dCons (dVar 0) (dCons (dC (.ty "tuple")) dNil))))) (dNot (dTst (dN (oBs fun bs => bs.all id) (dCons (dNew (nLc (.nm 2) dYes (dAndV (dCall p_law_whole EX0 (dCons (dVar 2) dNil)) (dChain oLe oLt (dC (.int 0)) (dVar 2) (dVar 1))) [2] (iVal (dVar 0)))) dNil)))))
  (sRet (dC (.bl false)))
  sNext)
  (sRet (dAndV (dBin (oEq id) (dNew (nSort (dNew (nList (dVar 0))))) (dNew (nList (dVar 0)))) (dBin (oEq id) (dLenSet (dVar 0)) (dN oLen (dCons (dVar 0) dNil))))))
end DL.S

set_option maxHeartbeats 1000000
namespace DL.S
open PySem PySem.Spec PyProof.Rows L2 DL K02
local macro_rules | `(tactic| walk_at "ev") => `(tactic| repeat' (first
  | exact ev_c | exact ev_v rfl | exact ev_o rfl | exact eva_nil | exact e2_i0 | exact e2_add | exact e1_u | exact e2_isn | exact evo_no | exact sz (Nat.le_of_ble_eq_true rfl)
  | ((with_reducible show DL.frs _ = some _); exact rfl)
  | apply ev_bin | apply ev_un | apply ev_n | apply eva_cons | apply ev_new | apply evn_lst | apply em_tup | apply evo_p))

/-! ### ascending tuples -/
def lts (ns : List Int) : Bool := (ns.zip (ns.drop 1)).all fun p => decide (p.1 < p.2)
def ascN (b : Int) (ns : List Int) : Bool := (ns.all fun i => decide (0 ≤ i) && decide (i < b)) && lts ns
def ascB (b : Int) : Dat → Bool
  | .tup xs => match intsD xs with
    | some ns => ascN b ns
    | none => false
  | _ => false
theorem ascB_tup {b : Int} {xs : List Dat} : ascB b (.tup xs) = match intsD xs with
    | some ns => ascN b ns
    | none => false := rfl
theorem all_below {b : Int} : ∀ {xs : List Dat}, xs.all (below b) = true → ∃ ns : List Int, xs = ns.map Dat.int ∧ ns.all (fun i => decide (0 ≤ i) && decide (i < b)) = true
  | [], _ => ⟨[], rfl, rfl⟩
  | x :: xs, h => by
    rw [List.all_cons, Bool.and_eq_true] at h
    obtain ⟨ns, rfl, h2⟩ := all_below h.2
    cases x with
    | int i => exact ⟨i :: ns, rfl, by rw [List.all_cons, h2, Bool.and_true]; exact h.1⟩
    | _ => cases h.1
theorem intsD_m (ns : List Int) : intsD (ns.map Dat.int) = some ns := by
  have := intsD_map (fun i : Int => i) ns
  simpa using this
theorem not_below {b : Int} {xs : List Dat} (h : xs.all (below b) = false) : ascB b (.tup xs) = false := by
  rw [ascB_tup]
  cases e : intsD xs with
  | none => rfl
  | some ns =>
    have e2 : ∀ {xs : List Dat} {ns : List Int}, intsD xs = some ns → xs = ns.map Dat.int := by
      intro xs
      induction xs with
      | nil => intro ns e; cases e; rfl
      | cons x xs ih =>
        intro ns e
        cases x with
        | int i =>
          unfold intsD at e
          cases e3 : intsD xs with
          | none => rw [e3] at e; cases e
          | some ms => rw [e3] at e; cases e; rw [ih e3]; rfl
        | _ => cases e
    rw [e2 e] at h
    show ascN b ns = false
    unfold ascN
    rw [List.all_map] at h
    have h' : (ns.all fun i => decide (0 ≤ i) && decide (i < b)) = false := h
    rw [h', Bool.false_and]
theorem cutD1 {α : Type} (xs : List α) : DL.cutD xs (some 1) none = xs.drop 1 := by
  unfold DL.cutD
  rw [HT.sIx_none, show (1 : Int) = ((1 : Nat) : Int) from rfl, HT.sIx_nat]
  cases xs with
  | nil => rfl
  | cons x xs =>
    rw [List.length_cons, show min 1 (xs.length + 1) = 1 by omega]
    rw [List.take_of_length_le (by simp)]
def p_asc : DSp := pT 2 (fun g : Dat × Int => [g.1, .int g.2]) (fun g => good 9 g.1 = true) (fun g => .bl (ascB g.2 g.1))
def isTup : Dat → Bool
  | .tup _ => true
  | _ => false
theorem isi_tup {C : Ct} {env : Env'} {m : Mem} {d : Dat} (h : plain d = true) : EvM (oIsi C) env m [.f d, .f (.ty "tuple")] (.bl (isTup d)) := fun Q q => by
  cases d <;> first | exact q | (cases h)
theorem good_len {k : Nat} {xs : List Dat} (h : good k (.tup xs) = true) : xs.length ≤ 10000 := let ⟨_, _, h, _⟩ := good_tup h; h
theorem ev_below {env : Env'} {m : Mem} {da : TAd} {x : Dat} {b : Int} (hx : plain x = true) (ha : EvA da env m [.f x, .f (.int b)]) : Ev (dCall p_below EX0 da) env m (.f (.bl (below b x))) :=
  ev_call ha rfl fun Q E q => ⟨rfl, ⟨x, b, rfl, hx⟩, fun r m' ⟨d, b', e1, e2, e3⟩ => by cases e1; subst e2 e3; exact q, fun _ _ _ z => z.elim⟩
theorem law_ascends (C : Ct) : ∀ ds m (Q : QD) (E : QX), p_asc ds m Q E → rd_ascends C p_below (fun c xs _ m => E c xs m) { nx := fun _ m => Q .non m, rt := Q } (env0 5 ds) m := by
  rintro _ m Q E ⟨_, ⟨d, b⟩, rfl, hg, hq⟩
  have hpl : plain d = true := good_plain hg
  show rd_ascends C p_below _ _ [some (.f d), some (.f (.int b)), none, none, none] m
  unfold rd_ascends
  refine st_seq ?_
  cases d with
  | tup xs =>
    have hl := good_len hg
    obtain ⟨j, _, _, hx⟩ := good_tup hg
    have hs : xs.length ≤ sizeLine := sz (by omega)
    have e1 : EvN (nLc (.nm 4) dYes (dCall p_below EX0 (dCons (dVar 4) (dCons (dVar 1) dNil))) [4] (iVal (dVar 0))) [some (.f (.tup xs)), some (.f (.int b)), none, none, none] m (xs.map fun x => .bl (below b x)) :=
      evn_lc (g := id) (xs := xs) (evi_tup (ev_v rfl)) (by simp) hs fun x hxm => ⟨_, rfl, ev_below (good_plain (hx x hxm)) (eva_cons (ev_v rfl) (eva_cons (ev_v rfl) eva_nil))⟩
    have e2 : EvB (dNot (dTst (dN (oBs fun bs => bs.all id) (dCons (dNew (nLc (.nm 4) dYes (dCall p_below EX0 (dCons (dVar 4) (dCons (dVar 1) dNil))) [4] (iVal (dVar 0)))) dNil)))) [some (.f (.tup xs)), some (.f (.int b)), none, none, none] m (!(xs.all (below b))) := by
      have z := evb_not (evb_tst (ev_n (eva_cons (ev_new e1) eva_nil) (em_bs (f := fun bs => bs.all id) rfl (DL.bools_map _ _))))
      rw [List.all_map] at z
      exact z
    refine st_if (evb_or (evb_not (evb_tst (ev_n (eva_cons (ev_v rfl) (eva_cons ev_c eva_nil)) (isi_tup hpl)))) fun _ => e2) (fun hb => ?_) fun hb => ?_
    · refine st_ret ev_c ?_
      have h1 : xs.all (below b) = false := by simpa [isTup] using hb
      rw [← not_below h1]
      exact hq
    · have h1 : xs.all (below b) = true := by simpa [isTup] using hb
      obtain ⟨ns, rfl, h2⟩ := all_below h1
      have e3 : EvI (iZipD (dVar 0) (dSl (dVar 0) (dPart (dC (.int 1))) dNo)) [some (.f (.tup (ns.map Dat.int))), some (.f (.int b)), none, none, none] m ((ns.zip (ns.drop 1)).map fun p => .tup [.int p.1, .int p.2]) := by
        have z := evi_zipT (db := dSl (dVar 0) (dPart (dC (.int 1))) dNo) (ev_v (env := [some (.f (.tup (ns.map Dat.int))), some (.f (.int b)), none, none, none]) (m := m) (i := 0) rfl) (ev_slT (ev_v (i := 0) rfl) (evo_p ev_c) evo_no rfl)
        rw [cutD1, ← List.map_drop, zipD_map] at z
        exact z
      have hl2 : (ns.zip (ns.drop 1)).length ≤ sizeLine := sz (by
        rw [List.length_zip]
        simp at hl
        omega)
      have e4 := evn_lc (tg := .tp [2, 3]) (vs := [2, 3]) (de := dBin oLt (dVar 2) (dVar 3)) (f := fun p : Int × Int => .bl (decide (p.1 < p.2))) e3 rfl hl2 fun p hp => ⟨_, rfl, ev_bin (ev_v rfl) (ev_v rfl) e2_i0⟩
      have z := ev_n (eva_cons (ev_new e4) eva_nil) (em_bs (f := fun bs => bs.all id) rfl (DL.bools_map _ _))
      refine st_ret z ?_
      rw [List.all_map]
      have e5 : ascB b (.tup (ns.map Dat.int)) = lts ns := by
        rw [ascB_tup, intsD_m]
        show ascN b ns = _
        unfold ascN
        rw [h2, Bool.true_and]
      have hq' : Q (.bl (ascB b (.tup (ns.map Dat.int)))) m := hq
      rw [e5] at hq'
      exact hq'
  | _ =>
    exact st_ifT (evb_or (c := true) (b := true) (evb_not (evb_tst (b := false) (ev_n (eva_cons (ev_v rfl) (eva_cons ev_c eva_nil)) (isi_tup hpl)))) fun z => by cases z) (st_ret ev_c hq)
end DL.S

set_option maxHeartbeats 1000000
namespace DL
open PySem PySem.Spec PyProof.Rows L2
theorem ev_fld {env : Env'} {m : Mem} {d : TD} {x : Lv} {fi : Nat → Option Nat} {c k : Nat} {xs : List Dat} {y : Dat} (h : Ev d env m x) (e : insOf env m x = some (c, xs)) (e1 : fi c = some k) (e2 : xs[k]? = some y) : Ev (dFld fi d) env m (.f y) := fun Q q => h _ (by
  simp only [e, e1, e2]; exact q)
theorem ev_chain {env : Env'} {m : Mem} {f g : Op2} {da db dc : TD} {x y z : Lv} {b c : Bool} (ha : Ev da env m x) (hb : Ev db env m y) (hf : Ev2 f env m x y (.bl b)) (hc : b = true → Ev dc env m z) (hg : b = true → Ev2 g env m y z (.bl c)) : Ev (dChain f g da db dc) env m (.f (.bl (b && c))) := fun Q q => ha _ (hb _ (hf _ (by
  cases b with
  | true => exact hc rfl _ (hg rfl _ q)
  | false => exact q)))
end DL
namespace DL.S
open PySem PySem.Spec PyProof.Rows L2 DL K02

/-! ### len of a net, is_outage -/
def p_nlen : DSp := pT 1 (fun g : Nat × List Lk => [netD g.1 g.2]) (fun _ => True) (fun g => .int g.2.length)
theorem law_Net_len (C : Ct) : ∀ ds m (Q : QD) (E : QX), p_nlen ds m Q E → rd_Net_len C (fun c xs _ m => E c xs m) { nx := fun _ m => Q .non m, rt := Q } (env0 1 ds) m := by
  rintro _ m Q E ⟨_, ⟨n, ps⟩, rfl, _, hq⟩
  refine st_ret (ev_n (eva_cons (ev_fld (ev_v rfl) rfl (show fi_pairs 3 = some 1 from rfl) rfl) eva_nil) (em_len (xs := ps.map lk) rfl)) ?_
  rw [List.length_map]
  exact hq
theorem em_nlen {env : Env'} {m : Mem} {n : Nat} {ps : List Lk} (h : ps.length ≤ 8) : EvM (oLenI 3 p_nlen) env m [.f (netD n ps)] (.int ps.length) :=
  em_lenT (i := fun g : Nat × List Lk => (g.2.length : Int)) rfl (n, ps) rfl rfl trivial (by show (0 : Int) ≤ (ps.length : Int); omega) (by show (ps.length : Int) < 2 ^ 63; omega)
def p_isout : DSp := pT 2 (fun g : (Nat × List Lk) × Dat => [netD g.1.1 g.1.2, g.2]) (fun g => good 9 g.2 = true ∧ g.1.2.length ≤ 8) (fun g => .bl (ascB g.1.2.length g.2))
theorem law_is_outage (C : Ct) : ∀ ds m (Q : QD) (E : QX), p_isout ds m Q E → rd_is_outage C p_asc p_nlen (fun c xs _ m => E c xs m) { nx := fun _ m => Q .non m, rt := Q } (env0 2 ds) m := by
  rintro _ m Q E ⟨_, ⟨⟨n, ps⟩, d⟩, rfl, ⟨hg, h8⟩, hq⟩
  exact st_ret (ev_fn (eva_cons (ev_v rfl) (eva_cons (ev_n (eva_cons (ev_v rfl) eva_nil) (em_nlen h8)) eva_nil)) (d, (ps.length : Int)) rfl rfl hg) hq

/-! ### a drawn outage -/
structure OutOk (many : Nat) (o : List Nat) : Prop where
  asc : o.Pairwise (· < ·)
  lt : ∀ l ∈ o, l < many
def outD (o : List Nat) : Dat := .tup (o.map fun l : Nat => .int (l : Nat))
theorem asc_len {many : Nat} : ∀ {o : List Nat} {k : Nat}, o.Pairwise (· < ·) → (∀ l ∈ o, k ≤ l ∧ l < many) → o.length ≤ many - k
  | [], _, _, _ => Nat.zero_le _
  | l :: o, k, h, hl => by
    rw [List.pairwise_cons] at h
    have h0 := hl l (by simp)
    have := asc_len (many := many) (k := l + 1) h.2 fun x hx => ⟨h.1 x hx, (hl x (by simp [hx])).2⟩
    rw [List.length_cons]
    omega
theorem OutOk.len {many : Nat} {o : List Nat} (h : OutOk many o) : o.length ≤ many := by
  have := asc_len (k := 0) h.asc fun l hl => ⟨Nat.zero_le _, h.lt l hl⟩
  omega
def p_out : DSp := pGh (γ := Nat × Mem × Nat) 2 (fun g ds m => ds = [.obj 1, .int g.2.2] ∧ g.2.2 ≤ 10 ∧ Dk g.1 g.2.1 m ∧ g.1 + 20 < lim)
  (fun g ds m r m' => ∃ o, r = outD o ∧ OutOk g.2.2 o ∧ Dk (g.1 + 11) g.2.1 m')
theorem out_go {tl : Mem} {many : Nat} {few : Int} {x1 : Option Sl} (h0 : 0 < few) (h1 : few < 100) : ∀ (r k : Nat) (x3 : Option Sl) (m : Mem) (c : Nat) (Q : List Dat → Mem → Prop), Dk c tl m → c + r < lim → k + r = many →
    (∀ (o : List Nat) m', o.Pairwise (· < ·) → (∀ l ∈ o, k ≤ l ∧ l < many) → Dk (c + r) tl m' → Q (o.map fun l : Nat => .int (l : Nat)) m') →
    lcGo (.nm 3) (dTst (dBin (oEq id) (dCall p_next EX0 (dCons (dVar 0) (dCons (dVar 2) dNil))) (dC (.int 0)))) (dVar 3) [some (.f (.obj 1)), x1, some (.f (.int few)), x3] (rangeD k r) m Q
  | 0, k, x3, m, c, Q, hd, hc, hk, h => h [] m List.Pairwise.nil (by simp) hd
  | r + 1, k, x3, m, c, Q, hd, hc, hk, h => by
    rw [rangeD_succ]
    unfold lcGo
    have hb : DL.bind (.nm 3) (.f (.int k)) [some (.f (.obj 1)), x1, some (.f (.int few)), x3] = some [some (.f (.obj 1)), x1, some (.f (.int few)), some (.f (.int k))] := by simp [DL.bind]
    rw [hb]
    dsimp only
    unfold dTst
    simp only [dBin]
    refine call_next few h0 (by omega) hd (by omega) (eva_cons (ev_v rfl) (eva_cons (ev_v rfl) eva_nil)) fun i m1 i0 i1 hd1 => ?_
    refine ev_c _ ?_
    refine oEq_l (okR1 _ _) rfl ?_
    show (if id (eqd (.int i) (.int 0)) = true then _ else _)
    split
    · refine ev_v rfl _ ?_
      dsimp only
      refine out_go (many := many) h0 h1 r (k + 1) x3 m1 (c + 1) _ hd1 (by omega) (by omega) fun o m' ho hl hd' => ?_
      refine h (k :: o) m' (List.Pairwise.cons (fun l hlm => by have := (hl l hlm).1; omega) ho) (fun l hlm => ?_) (by rw [show c + (r + 1) = c + 1 + r by omega]; exact hd')
      rcases List.mem_cons.mp hlm with rfl | q
      · omega
      · have := hl l q; omega
    · refine out_go (many := many) h0 h1 r (k + 1) x3 m1 (c + 1) _ hd1 (by omega) (by omega) fun o m' ho hl hd' => ?_
      exact h o m' ho (fun l hlm => by have := hl l hlm; omega) (by rw [show c + (r + 1) = c + 1 + r by omega]; exact hd')
theorem law_law_outage (C : Ct) : ∀ ds m (Q : QD) (E : QX), p_out ds m Q E → rd_law_outage C p_next (fun c xs _ m => E c xs m) { nx := fun _ m => Q .non m, rt := Q } (env0 4 ds) m := by
  rintro ds m Q E ⟨_, ⟨c, tl, many⟩, ⟨rfl, h10, hd, hc⟩, hQ⟩
  have h10 : many ≤ 10 := h10
  have hc : c + 20 < lim := hc
  have hlim : lim = 2 ^ 40 := rfl
  show rd_law_outage C p_next _ _ [some (.f (.obj 1)), some (.f (.int many)), none, none] m
  unfold rd_law_outage
  refine st_seq ?_
  unfold sAsg
  simp only [dBin]
  refine ev_c _ ?_
  refine call_next 4 (by omega) (by omega) hd (by omega) (eva_cons (ev_v rfl) (eva_cons ev_c eva_nil)) fun i m1 i0 i1 hd1 => ?_
  refine e2_add _ ?_
  simp only [DL.bind, List.set]
  unfold sRet
  simp only [dN, dCons, dNew]
  have hl : (many : Int) < 2 ^ 62 := by omega
  refine evn_lcI (xs := rangeD 0 many) (by
    have z := evi_rg1n (env := [some (Sl.f (.obj 1)), some (.f (.int many)), some (.f (.int (2 + i))), none]) (m := m1) (ev_v (i := 1) rfl) (by omega)
    have e : (List.range many).map (fun i => Dat.int (i : Nat)) = rangeD 0 many := by unfold rangeD; simp
    rw [e] at z
    exact z) (by unfold rangeD; simp; exact sz (by omega)) ?_
  refine out_go (many := many) (by omega) (by omega) many 0 none m1 (c + 1) _ hd1 (by omega) (by omega) fun o m' ho hl hd' => ?_
  simp only [dNil, oTuple, seqOf, der]
  exact hQ _ _ ⟨o, rfl, ⟨ho, fun l hlm => (hl l hlm).2⟩, hd'.mono (by show c + 1 + many ≤ c + 11; omega)⟩
end DL.S

set_option maxHeartbeats 1000000
namespace DL.S
open PySem PySem.Spec PyProof.Rows L2 DL K02

theorem step_dd (xs : List Int) (v : Int) : step_dedup xs v = if (xs.any (· == v)) = true then xs else xs ++ [v] := rfl
theorem first_len (ns : List Int) : ∀ i, i ≤ ns.length → (firstMet (fun i => ns.getD i 0) i).length = i → firstMet (fun i => ns.getD i 0) i = ns.take i ∧ (ns.take i).Nodup
  | 0, _, _ => ⟨rfl, by simp⟩
  | i + 1, hi, h => by
    have le := firstMet_length_le (fun i => ns.getD i 0) i
    rw [firstMet_succ, step_dd] at h ⊢
    by_cases ha : ((firstMet (fun i => ns.getD i 0) i).any (· == ns.getD i 0)) = true
    · rw [if_pos ha] at h; omega
    · rw [if_neg ha] at h ⊢
      have h' : (firstMet (fun i => ns.getD i 0) i).length = i := by simp at h; exact h
      obtain ⟨e, nd⟩ := first_len ns i (by omega) h'
      have lt : i < ns.length := by omega
      have e1 : ns.getD i 0 = ns[i] := by rw [List.getD_eq_getElem?_getD, List.getElem?_eq_getElem lt]; rfl
      have e2 : ns.take (i + 1) = ns.take i ++ [ns[i]] := by rw [List.take_add_one, List.getElem?_eq_getElem lt]; rfl
      rw [e] at ha ⊢
      rw [e2, e1]
      refine ⟨rfl, List.nodup_append.mpr ⟨nd, List.pairwise_singleton _ _, fun a ha' b hb hab => ?_⟩⟩
      rw [List.mem_singleton.mp hb] at hab
      refine ha (List.any_eq_true.mpr ⟨a, ha', ?_⟩)
      rw [e1, hab]; simp
theorem dist_iff (ns : List Int) : dist ns = ns.length ↔ ns.Nodup := by
  unfold dist
  constructor
  · intro h
    have := (first_len ns ns.length (Nat.le_refl _) h).2
    rwa [List.take_length] at this
  · intro h
    rw [RZ.firstMet_nodup h ns.length (Nat.le_refl _), List.take_length]
theorem lts_iff : ∀ ns : List Int, lts ns = true ↔ ns.Pairwise (· < ·)
  | [] => by simp [lts]
  | [a] => by simp [lts]
  | a :: b :: ns => by
    have ih := lts_iff (b :: ns)
    have e : lts (a :: b :: ns) = (decide (a < b) && lts (b :: ns)) := rfl
    rw [e, Bool.and_eq_true, ih, decide_eq_true_iff]
    constructor
    · rintro ⟨h1, h2⟩
      refine List.Pairwise.cons (fun x hx => ?_) h2
      rcases List.mem_cons.mp hx with rfl | q
      · exact h1
      · exact Int.lt_trans h1 ((List.pairwise_cons.mp h2).1 x q)
    · intro h
      obtain ⟨h1, h2⟩ := List.pairwise_cons.mp h
      exact ⟨h1 b (by simp), h2⟩
theorem sort_lts (ns : List Int) : (decide (ns.mergeSort (fun a b => decide (a ≤ b)) = ns) && decide (dist ns = ns.length)) = lts ns := by
  have key : (ns.mergeSort (fun a b => decide (a ≤ b)) = ns ∧ dist ns = ns.length) ↔ lts ns = true := by
    rw [lts_iff, dist_iff]
    constructor
    · rintro ⟨h1, h2⟩
      have s := List.pairwise_mergeSort (le := fun a b : Int => decide (a ≤ b)) (fun a b c h1 h2 => by simp at *; omega) (fun a b => by simp; omega) ns
      rw [h1] at s
      exact (s.and h2).imp fun {a b} z => by
        have z1 : a ≤ b := by simpa using z.1
        have z2 : a ≠ b := z.2
        omega
    · intro h
      refine ⟨List.mergeSort_of_pairwise (h.imp fun {a b} z => by simp; omega), h.imp fun {a b} z => Int.ne_of_lt z⟩
  cases h : lts ns with
  | true =>
    obtain ⟨h1, h2⟩ := key.mpr h
    simp [h1, h2]
  | false =>
    have : ¬ (ns.mergeSort (fun a b => decide (a ≤ b)) = ns ∧ dist ns = ns.length) := fun z => by rw [key.mp z] at h; cases h
    simpa using this
theorem eqds_ints : ∀ xs ys : List Int, eqds (xs.map Dat.int) (ys.map Dat.int) = decide (xs = ys)
  | [], [] => rfl
  | [], y :: ys => rfl
  | x :: xs, [] => rfl
  | x :: xs, y :: ys => by
    rw [List.map_cons, List.map_cons, eqds, eqds_ints xs ys]
    by_cases h1 : x = y
    · by_cases h2 : xs = ys
      · simp [h1, h2, eqd]
      · simp [h1, h2, eqd]
    · simp [h1, eqd]
theorem ev_whole {env : Env'} {m : Mem} {da : TAd} {x : Dat} (hx : plain x = true) (ha : EvA da env m [.f x]) : Ev (dCall p_whole EX0 da) env m (.f (.bl (K02.isInt x))) :=
  ev_call ha rfl fun Q E q => ⟨rfl, ⟨x, rfl, hx⟩, fun r m' ⟨d, e1, e2, e3⟩ => by cases e1; subst e2 e3; exact q, fun _ _ _ z => z.elim⟩
def p_lasc : DSp := pT 2 (fun g : Dat × Int => [g.1, .int g.2]) (fun g => good 9 g.1 = true ∧ ∀ xs, g.1 = .tup xs → xs.length ≤ 4000) (fun g => .bl (ascB g.2 g.1))
theorem law_law_ascends (C : Ct) : ∀ ds m (Q : QD) (E : QX), p_lasc ds m Q E → rd_law_ascends C p_whole (fun c xs _ m => E c xs m) { nx := fun _ m => Q .non m, rt := Q } (env0 3 ds) m := by
  rintro _ m Q E ⟨_, ⟨d, b⟩, rfl, ⟨hg, h4⟩, hq⟩
  have hpl : plain d = true := good_plain hg
  show rd_law_ascends C p_whole _ _ [some (.f d), some (.f (.int b)), none] m
  unfold rd_law_ascends
  refine st_seq ?_
  cases d with
  | tup xs =>
    have hl : xs.length ≤ 4000 := h4 xs rfl
    obtain ⟨j, hj, _, hx⟩ := good_tup hg
    have hs : xs.length ≤ sizeLine := sz (by omega)
    have e0 : ∀ x ∈ xs, Ev (dAndV (dCall p_whole EX0 (dCons (dVar 2) dNil)) (dChain oLe oLt (dC (.int 0)) (dVar 2) (dVar 1))) [some (.f (.tup xs)), some (.f (.int b)), some (.f x)] m (.f (.bl (below b x))) := fun x hxm => by
      have e1 := ev_whole (env := [some (Sl.f (.tup xs)), some (.f (.int b)), some (.f x)]) (m := m) (good_plain (hx x hxm)) (eva_cons (ev_v (i := 2) rfl) eva_nil)
      cases x with
      | int i => exact (ev_and e1 fun _ => ev_chain ev_c (ev_v rfl) e2_i0 (fun _ => ev_v rfl) (fun _ => e2_i0)).eq (by simp [K02.isInt, below])
      | _ => exact ev_and (b := false) (c := true) e1 (fun z => by cases z)
    have e1 : EvN (nLc (.nm 2) dYes (dAndV (dCall p_whole EX0 (dCons (dVar 2) dNil)) (dChain oLe oLt (dC (.int 0)) (dVar 2) (dVar 1))) [2] (iVal (dVar 0))) [some (.f (.tup xs)), some (.f (.int b)), none] m (xs.map fun x => .bl (below b x)) :=
      evn_lc (g := id) (xs := xs) (evi_tup (ev_v rfl)) (by simp) hs fun x hxm => ⟨_, rfl, e0 x hxm⟩
    have e2 := evb_not (evb_tst (ev_n (eva_cons (ev_new e1) eva_nil) (em_bs (f := fun bs => bs.all id) rfl (DL.bools_map _ _))))
    rw [List.all_map] at e2
    refine st_if (evb_or (evb_not (evb_tst (ev_n (eva_cons (ev_v rfl) (eva_cons ev_c eva_nil)) (isi_tup hpl)))) fun _ => e2) (fun hb => ?_) fun hb => ?_
    · refine st_ret ev_c ?_
      have h1 : xs.all (below b) = false := by simpa [isTup] using hb
      rw [← not_below h1]
      exact hq
    · have h1 : xs.all (below b) = true := by simpa [isTup] using hb
      obtain ⟨ns, rfl, h2⟩ := all_below h1
      have hlog : ∀ n ∈ ns, n.natAbs.log2 < 1920 := fun n hn => by
        have := hx (.int n) (List.mem_map_of_mem hn)
        cases j <;> simpa [good] using this
      have hl' : ns.length ≤ 4000 := by simpa using hl
      have a1 : Ev (dNew (nSort (dNew (nList (dVar 0))))) [some (.f (.tup (ns.map Dat.int))), some (.f (.int b)), none] m (.f (.lst ((ns.mergeSort (fun a b => decide (a ≤ b))).map Dat.int))) := by
        have z := ev_new (evn_sort (ev_new (evn_list (ev_v (env := [some (Sl.f (.tup (ns.map Dat.int))), some (.f (.int b)), none]) (m := m) (i := 0) rfl) rfl)) rfl (sortOk_ints hlog))
        rw [sortD_ints] at z
        exact z
      have a2 : Ev (dNew (nList (dVar 0))) [some (.f (.tup (ns.map Dat.int))), some (.f (.int b)), none] m (.f (.lst (ns.map Dat.int))) := ev_new (evn_list (ev_v rfl) rfl)
      have a3 := ev_bin a1 a2 (e2_eq (f := id) rfl rfl (by rw [okN]; exact all_int _) (by rw [okN]; exact all_int _))
      have a4 : Ev (dBin (oEq id) (dLenSet (dVar 0)) (dN oLen (dCons (dVar 0) dNil))) [some (.f (.tup (ns.map Dat.int))), some (.f (.int b)), none] m (.f (.bl (decide (dist ns = ns.length)))) := by
        refine (ev_bin (lenSet_ev (ev_v rfl) rfl hl') (ev_n (eva_cons (ev_v rfl) eva_nil) (em_len (xs := ns.map Dat.int) rfl)) (e2_eq (f := id) rfl rfl (okR1 _ _) (okR1 _ _))).eq ?_
        rw [List.length_map]
        show Lv.f (.bl (((dist ns : Nat) : Int) == (ns.length : Int))) = _
        congr 2
        by_cases h : dist ns = ns.length <;> simp [h]
        omega
      refine st_ret ((ev_and a3 fun _ => a4).eq (?_ : _ = Lv.f (.bl (lts ns)))) ?_
      · rw [show id (eqd (.lst ((ns.mergeSort (fun a b => decide (a ≤ b))).map Dat.int)) (.lst (ns.map Dat.int))) = decide (ns.mergeSort (fun a b => decide (a ≤ b)) = ns) from eqds_ints _ _, sort_lts]
      · have e5 : ascB b (.tup (ns.map Dat.int)) = lts ns := by
          rw [ascB_tup, intsD_m]
          show ascN b ns = _
          unfold ascN
          rw [h2, Bool.true_and]
        have hq' : Q (.bl (ascB b (.tup (ns.map Dat.int)))) m := hq
        rw [e5] at hq'
        exact hq'
  | _ =>
    exact st_ifT (evb_or (c := true) (b := true) (evb_not (evb_tst (b := false) (ev_n (eva_cons (ev_v rfl) (eva_cons ev_c eva_nil)) (isi_tup hpl)))) fun z => by cases z) (st_ret ev_c hq)
end DL.S

set_option maxHeartbeats 1000000
namespace DL.S
open PySem PySem.Spec PyProof.Rows L2 DL K02
/-! ### all outages -/
def subs : List Nat → List (List Nat)
  | [] => [[]]
  | x :: xs => subs xs ++ (subs xs).map (x :: ·)
theorem mem_subs : ∀ {xs o : List Nat}, xs.Pairwise (· < ·) → o.Pairwise (· < ·) → (∀ l ∈ o, l ∈ xs) → o ∈ subs xs
  | [], o, _, _, h => by
    cases o with
    | nil => simp [subs]
    | cons l o => exact absurd (h l (by simp)) (by simp)
  | x :: xs, o, hx, ho, h => by
    rw [List.pairwise_cons] at hx
    rw [subs, List.mem_append]
    by_cases hm : x ∈ o
    · refine .inr ?_
      cases o with
      | nil => cases hm
      | cons l o =>
        rw [List.pairwise_cons] at ho
        have e : l = x := by
          rcases List.mem_cons.mp (h l (by simp)) with q | q
          · exact q
          · rcases List.mem_cons.mp hm with z | z
            · exact z.symm
            · have := ho.1 x z
              have := hx.1 l q
              omega
        subst e
        refine List.mem_map.mpr ⟨o, mem_subs hx.2 ho.2 fun y hy => ?_, rfl⟩
        rcases List.mem_cons.mp (h y (by simp [hy])) with q | q
        · have := ho.1 y hy; omega
        · exact q
    · refine .inl (mem_subs hx.2 ho fun y hy => ?_)
      rcases List.mem_cons.mp (h y hy) with q | q
      · rw [q] at hy; exact absurd hy hm
      · exact q
theorem OutOk.subs {many : Nat} {o : List Nat} (h : OutOk many o) (h8 : many ≤ 8) : o ∈ DL.S.subs (List.range 8) :=
  mem_subs (by decide) h.asc fun l hl => List.mem_range.mpr (Nat.lt_of_lt_of_le (h.lt l hl) h8)
theorem outs_shown : ((subs (List.range 8)).all fun o => vd 0 30 (.str (py (outD o)).shown)) = true := by decide +kernel
theorem OutOk.shown {many : Nat} {o : List Nat} (h : OutOk many o) (h8 : many ≤ 8) : Vd 0 30 (.str (py (outD o)).shown) := vd_iff.mp (List.all_eq_true.mp outs_shown o (h.subs h8))
theorem OutOk.item {many k B : Nat} {o : List Nat} (h : OutOk many o) (h8 : many ≤ 8) : ∀ x ∈ o.map (fun l : Nat => Dat.int (l : Nat)), Vd k B x := fun x hx => by
  obtain ⟨l, hl, rfl⟩ := List.mem_map.mp hx
  have := h.lt l hl
  exact Vd.nat (by omega)
theorem OutOk.vd {many : Nat} {o : List Nat} (h : OutOk many o) (h8 : many ≤ 8) : Vd 1 10 (outD o) :=
  Vd.tup (B := 0) (L := 8) (h.item h8) (by simp; have := h.len; omega) (by omega) (by omega)
end DL.S

set_option maxHeartbeats 1000000
namespace DL
open PySem PySem.Spec PyProof.Rows L2
theorem asg_i {tg : Tg} {de : TD} {D : En} {env : Env'} {m : Mem} (h : de env m fun x m1 => match bind tg x env with | some env2 => D.nx env2 m1 | none => False) : sAsg tg de D env m := h
theorem sq_set {i : Nat} {d : TD} {u : TSd} {a : Dat} {D : En} {env : Env'} {m : Mem} (h : Ev d env m (.f a)) (k : u D (env.set i (some (.f a))) m) : sSeq (sAsg (.nm i) d) u D env m := h _ k
theorem sq_setT {is : List Nat} {d : TD} {u : TSd} {as : List Dat} {D : En} {env : Env'} {m : Mem} (h : Ev d env m (.f (.tup as))) (hl : as.length = is.length) (k : u D (setAll is as env) m) : sSeq (sAsg (.tp is) d) u D env m :=
  st_seq (st_setT h hl k)
theorem sq_asg {tg : Tg} {de : TD} {u : TSd} {D : En} {env : Env'} {m : Mem} (h : de env m fun x m1 => match bind tg x env with | some env2 => u D env2 m1 | none => False) : sSeq (sAsg tg de) u D env m := h
theorem sq_if {c : TB} {s t u : TSd} {D : En} {env : Env'} {m : Mem} (h : c env m fun b m1 => if b = true then s { D with nx := u D } env m1 else t { D with nx := u D } env m1) : sSeq (sIf c s t) u D env m := h
theorem sq_for {tg : Tg} {di : TId} {tb u : TSd} {D : En} {env : Env'} {m : Mem} (h : di env m fun xs m1 => forGo tg tb { D with nx := u D } xs env m1) : sSeq (sFor tg di tb) u D env m := h
theorem sq_next {u : TSd} {D : En} {env : Env'} {m : Mem} (h : u D env m) : sNext { D with nx := u D } env m := h
theorem cat_i {da db : TD} {env : Env'} {m : Mem} {Q : QL} (h : da env m fun x m1 => db env m1 fun y m2 => ∃ xs ys, lstOf env m2 x = some xs ∧ lstOf env m2 y = some ys ∧ xs.length + ys.length ≤ sizeLine ∧ Q (.f (.lst (xs ++ ys))) m2) (ma : MonoD da) (mb : MonoD db) : dNew (nCat da db) env m Q :=
  ma _ _ _ _ (fun x m1 h1 => mb _ _ _ _ (fun y m2 ⟨xs, ys, e1, e2, h2, h3⟩ => by
    simp only [e1, e2]; exact ⟨h2, h3⟩) h1) h
/-- a list that is known, and one that is drawn -/
theorem catL_i {da : TD} {p : TN} {xs : List Dat} {env : Env'} {m : Mem} {Q : QL} (ha : Ev da env m (.f (.lst xs))) (h : p env m fun ys m2 => xs.length + ys.length ≤ sizeLine ∧ Q (.f (.lst (xs ++ ys))) m2) : dNew (nCat da (dNew p)) env m Q := ha _ h
theorem par_i {i j : Nat} {d1 d2 : TD} {D : En} {env : Env'} {m : Mem} (h : d1 env m fun x m1 => d2 env m1 fun y m2 => match x, y with
    | .f a, .f b => D.nx ((env.set i (some (.f a))).set j (some (.f b))) m2
    | _, _ => False) : sPar i j d1 d2 D env m := h
theorem if_i {c : TB} {s t : TSd} {D : En} {env : Env'} {m : Mem} (h : c env m fun b m1 => if b = true then s D env m1 else t D env m1) : sIf c s t D env m := h
theorem ret_i {de : TD} {D : En} {env : Env'} {m : Mem} (h : de env m fun x m1 => match x with
    | .f d => D.rt d m1
    | .o _ => False) : sRet de D env m := h
theorem for_i {tg : Tg} {di : TId} {tb : TSd} {D : En} {env : Env'} {m : Mem} (h : di env m fun xs m1 => forGo tg tb D xs env m1) : sFor tg di tb D env m := h
/-- a for over ints from k on: an invariant of the turn's number -/
theorem for_rg {tb : TSd} {D : En} {i : Nat} (I : Nat → Env' → Mem → Prop) : ∀ (r : Nat) (k : Nat) (env : Env') (m : Mem), I k env m →
    (∀ j env m, I j env m → k ≤ j → j < k + r → ∀ D' : En, (∀ env m, I (j + 1) env m → D'.nx env m) → (∀ env m, I (j + 1) env m → D'.ct env m) → (∀ d m, D.rt d m → D'.rt d m) → (∀ env m, D.nx env m → D'.bk env m) → tb D' (env.set i (some (.f (.int (j : Nat))))) m) →
    (∀ env m, I (k + r) env m → D.nx env m) → forGo (.nm i) tb D (rangeD k r) env m
  | 0, k, env, m, h0, _, hq => hq _ _ h0
  | r + 1, k, env, m, h0, hs, hq => by
    rw [rangeD_succ]
    unfold forGo
    show tb _ (env.set i (some (.f (.int (k : Nat))))) m
    have go : ∀ env m, I (k + 1) env m → forGo (.nm i) tb D (rangeD ((k : Int) + 1) r) env m := fun env m h => by
      have z := for_rg (tb := tb) (D := D) (i := i) I r (k + 1) env m h (fun j env m hj h1 h2 D' a b c d => hs j env m hj (by omega) (by omega) D' a b c d) (fun env m h => hq env m (by rw [show k + (r + 1) = k + 1 + r by omega]; exact h))
      rw [show (((k + 1 : Nat) : Nat) : Int) = (k : Int) + 1 by omega] at z
      exact z
    exact hs k env m h0 (Nat.le_refl _) (by omega) _ go go (fun _ _ h => h) fun _ _ h => h
end DL
namespace DL.S
open PySem PySem.Spec PyProof.Rows L2 DL K02
theorem bels_ints (k : Nat) : ∀ ns : List Int, bels k (ns.map Dat.int) = true
  | [] => rfl
  | n :: ns => by rw [List.map_cons, bels, bels_ints k ns]; rfl
theorem dk_bel {c : Nat} {m : Mem} (h : Dk c [] m) : belM m.length m = true := by
  obtain ⟨rest, cells, t, rfl, _⟩ := h
  simp [belM, bels_ints, bels, DL.bel]
section
variable {da : TAd} {env : Env'} {m tl : Mem} {Q : QL} {c : Nat}
theorem call_deck {is : List Int} (hl : is.length ≤ 63) (hm : m = []) (ha : EvA da env m [.f (.lst (is.map Dat.int))]) (h : ∀ m', Dk 0 [] m' → Q (.f (.obj 1)) m') : dCall p_deck EX0 da env m Q := by
  subst hm
  exact call_is [.f (.lst (is.map Dat.int))] [.lst (is.map Dat.int)] ha rfl ⟨rfl, ⟨is, rfl, hl, rfl⟩, fun r m1 ⟨e, hd⟩ => by subst e; exact h m1 hd, fun _ _ _ q => q.elim⟩
theorem call_netS (hd : Dk c tl m) (hc : c + 30 < lim) (ha : EvA da env m [.f (.obj 1), .f (.int 8)])
    (h : ∀ (n : Nat) (ps : List Lk) m', NetOk n ps → Dk (c + 30) tl m' → Q (.f (.tup [.int n, .lst (ps.map lk)])) m') : dCall p_netS EX0 da env m Q :=
  call_is [.f (.obj 1), .f (.int 8)] [.obj 1, .int 8] ha rfl ⟨rfl, (c, tl), ⟨rfl, hd, hc⟩, fun r m' ⟨n, ps, e, h1, h2⟩ => by subst e; exact h n ps m' h1 h2⟩
theorem call_out {many : Nat} (h10 : many ≤ 10) (hd : Dk c tl m) (hc : c + 20 < lim) (ha : EvA da env m [.f (.obj 1), .f (.int many)])
    (h : ∀ o m', OutOk many o → Dk (c + 11) tl m' → Q (.f (outD o)) m') : dCall p_out EX0 da env m Q :=
  call_is [.f (.obj 1), .f (.int many)] [.obj 1, .int many] ha rfl ⟨rfl, (c, tl, many), ⟨rfl, h10, hd, hc⟩, fun r m' ⟨o, e, h1, h2⟩ => by subst e; exact h o m' h1 h2⟩
theorem ev_same {k : Nat} {d : Dat} (hd : good k d = true) (ha : EvA da env m [.f d, .f d]) : Ev (dCall (p_same k) EX0 da) env m (.f (.bl true)) :=
  ev_call ha rfl fun Q E q => ⟨rfl, ⟨d, rfl, hd⟩, fun r m' ⟨e2, e3⟩ => by subst e2 e3; exact q, fun _ _ _ q => q.elim⟩
end
end DL.S
namespace DL
open PySem PySem.Spec PyProof.Rows L2 DL.S K02
theorem for_mem {tb : TSd} {D : En} {i : Nat} (I : Env' → Mem → Prop) : ∀ {xs : List Dat} {env : Env'} {m : Mem}, I env m →
    (∀ x ∈ xs, ∀ env m, I env m → ∀ D' : En, (∀ env m, I env m → D'.nx env m) → (∀ env m, I env m → D'.ct env m) → (∀ d m, D.rt d m → D'.rt d m) → (∀ env m, D.nx env m → D'.bk env m) → tb D' (env.set i (some (.f x))) m) →
    (∀ env m, I env m → D.nx env m) → forGo (.nm i) tb D xs env m
  | [], env, m, h0, _, hq => hq _ _ h0
  | x :: xs, env, m, h0, hs, hq => by
    unfold forGo
    show tb _ (env.set i (some (.f x))) m
    have go : ∀ env m, I env m → forGo (.nm i) tb D xs env m := fun env m h => for_mem I h (fun y hy => hs y (List.mem_cons_of_mem _ hy)) hq
    exact hs x List.mem_cons_self env m h0 _ go go (fun _ _ h => h) fun _ _ h => h
theorem dyes_i {env : Env'} {m : Mem} {Q : Bool → Mem → Prop} (h : Q true m) : dYes env m Q := h
/-- a comprehension that draws -/
theorem lc_draw {tl : Mem} {P : Dat → Prop} {k i : Nat} {de : TD} {env : Env'} (step : ∀ (j : Int) (m : Mem) (c : Nat), Dk c tl m → c + 20 + k < lim → ∀ Q : QL, (∀ r m', P r → Dk (c + k) tl m' → Q (.f r) m') → de (env.set i (some (.f (.int j)))) m Q) :
    ∀ (r : Nat) (j : Int) (m : Mem) (c : Nat) (Q : List Dat → Mem → Prop), Dk c tl m → c + k * r + 20 < lim → (∀ ds m', (∀ x ∈ ds, P x) → ds.length = r → Dk (c + k * r) tl m' → Q ds m') → lcGo (.nm i) dYes de env (rangeD j r) m Q
  | 0, j, m, c, Q, hd, hc, h => h [] m (by simp) rfl hd
  | r + 1, j, m, c, Q, hd, hc, h => by
    rw [Nat.mul_add] at hc
    rw [rangeD_succ]
    unfold lcGo
    have hb : DL.bind (.nm i) (.f (.int j)) env = some (env.set i (some (.f (.int j)))) := rfl
    rw [hb]
    refine dyes_i ?_
    rw [if_pos rfl]
    refine step j m c hd (by omega) _ fun d m' hp hd' => ?_
    refine lc_draw step r (j + 1) m' (c + k) _ hd' (by omega) fun ds m2 h1 h2 h3 => ?_
    refine h (d :: ds) m2 (fun x hx => ?_) (by simp [h2]) (by rw [Nat.mul_add]; rw [show c + (k * r + k * 1) = c + k + k * r by omega]; exact h3)
    rcases List.mem_cons.mp hx with rfl | q
    · exact hp
    · exact h1 x q
end DL

set_option maxHeartbeats 1000000
namespace DL.S
open PySem PySem.Spec PyProof.Rows L2 DL
def rd_Net_nodes (C : Ct)  (EX : QXe) : TSd :=
  (sRet (dFld fi_size (dVar 0)))
def rd_Net_links (C : Ct)  (EX : QXe) : TSd :=
  (sRet (dFld fi_pairs (dVar 0)))
def rd_Net_at (C : Ct)  (EX : QXe) : TSd :=
  (sRet (dN oTuple (dCons (dNew (nLc (.tp [2, 3]) (dTst (dBin (oIn id) (dVar 1) (dVar 3))) (dVar 2) [2, 3] (iEnumD (dFld fi_pairs (dVar 0))))) dNil)))
def rd_Net_far (C : Ct)  (EX : QXe) : TSd :=
  (sSeq (sAsg (.tp [3, 4]) (dBin oIx (dFld fi_pairs (dVar 0)) (dVar 1)))
  (sRet (dIf (dTst (dBin (oEq id) (dVar 2) (dVar 3))) (dVar 4) (dVar 3))))
def rd_Net_contains (C : Ct) (p_is_link : DSp) (EX : QXe) : TSd :=
  (sRet (dIf (dTst (dCall p_is_link EX0 (dCons (dVar 1) (dCons (dFld fi_size (dVar 0)) dNil)))) (dBin (oIn id) (dVar 1) (dFld fi_pairs (dVar 0))) (dC (.bl false))))
def rd_Net_eq (C : Ct)  (EX : QXe) : TSd :=
  (sRet (dAndV (dN (oIsi C) (dCons (dVar 1) (dCons (dC (.cls 3)) dNil))) (dAndV (dBin (oEq id) (dFld fi_size (dVar 0)) (dFld fi_size (dVar 1))) (dBin (oEq id) (dFld fi_pairs (dVar 0)) (dFld fi_pairs (dVar 1))))))
def rd_Net_str (C : Ct)  (EX : QXe) : TSd :=
  (sRet (dJoin [(dFmt (dFld fi_size (dVar 0))), (dC (.str " nodes, ")), (dFmt (dN oLen (dCons (dFld fi_pairs (dVar 0)) dNil))), (dC (.str " links"))]))
def rd_law_mixed (C : Ct) (p_law_next : DSp) (EX : QXe) : TSd :=
  (sSeq (sParNN 2 3 (nList (dVar 1)) (nLst dNil))
  (sSeq (sWhile (dTst (dBin (oEq not) (dVar 2) (dNew (nLst dNil))))
  (sSeq (sPopN 4 (dVar 2) (dCall p_law_next EX0 (dCons (dVar 0) (dCons (dN oLen (dCons (dVar 2) dNil)) dNil))))
  (sApp (dVar 3) (dBin oIx (dNew (nLst (dCons (dVar 4) (dCons (dBack (dVar 4)) dNil)))) (dCall p_law_next EX0 (dCons (dVar 0) (dCons (dC (.int 2)) dNil)))))))
  (sKeep 3 (sRet (dN oTuple (dCons (dVar 3) dNil))))))
end DL.S

set_option maxHeartbeats 1000000
namespace K02
open PySem PySem.Spec PyProof.Rows L2 DL DL.S

/-! ### a net of links in any order, either way about -/
def lkb (q : Lk × Bool) : Dat := if q.2 = true then .tup [.int q.1.2, .int q.1.1] else lk q.1
theorem ends_lkb {q : Lk × Bool} (h : q.1.1 < q.1.2) : ends (lkb q) = lk q.1 := by
  unfold lkb
  split
  · unfold ends lk
    simp only [Dat.tup.injEq, List.cons.injEq, Dat.int.injEq, and_true]
    omega
  · exact ends_lk h
theorem nrm_lkb {q : Lk × Bool} (h : q.1.1 < q.1.2) : nrm (lkb q) = .lst [.int q.1.1, .int q.1.2] := by
  unfold lkb
  split
  · unfold nrm
    simp only [Dat.lst.injEq, List.cons.injEq, Dat.int.injEq, and_true]
    omega
  · exact nrm_lk h
theorem link_lkb {n : Nat} {q : Lk × Bool} (h1 : q.1.1 < q.1.2) (h2 : q.1.2 < n) : linkB n (lkb q) = true := by
  unfold lkb
  split
  · unfold linkB
    simp
    omega
  · exact link_lk h1 h2
/-- links that make a net -/
structure MixOk (n : Nat) (qs : List (Lk × Bool)) : Prop where
  n1 : 1 ≤ n
  n7 : n ≤ 7
  l8 : qs.length ≤ 8
  ord : ∀ q ∈ qs, q.1.1 < q.1.2 ∧ q.1.2 < n
  nd : (qs.map (·.1)).Nodup
theorem errGo_mix {n : Nat} : ∀ (rest done : List (Lk × Bool)) (k : Nat), (∀ p ∈ done ++ rest, p.1.1 < p.1.2 ∧ p.1.2 < n) → ((done ++ rest).map (·.1)).Nodup → errGo n (done.map fun p => nrm (lkb p)) k (rest.map lkb) = .non
  | [], _, _, _, _ => by simp [errGo]
  | p :: rest, done, k, ho, ha => by
    have hp := ho p (by simp)
    rw [List.map_cons, errGo, if_pos (link_lkb hp.1 hp.2), if_neg]
    · have e : (done.map fun p => nrm (lkb p)) ++ [nrm (lkb p)] = (done ++ [p]).map fun p => nrm (lkb p) := by simp
      rw [e]
      exact errGo_mix rest (done ++ [p]) (k + 1) (by simpa using ho) (by simpa using ha)
    · rw [List.any_map, List.any_eq_true]
      rintro ⟨q, hq, he⟩
      have hq' := ho q (by simp [hq])
      have he' : eqd (nrm (lkb q)) (nrm (lkb p)) = true := he
      rw [nrm_lkb hq'.1, nrm_lkb hp.1] at he'
      simp [eqd, eqds] at he'
      rw [List.map_append, List.map_cons] at ha
      have := (List.nodup_append.mp ha).2.2 q.1 (List.mem_map.mpr ⟨q, hq, rfl⟩) p.1 (by simp)
      exact this (Prod.ext (by omega) (by omega))
section
variable {n : Nat} {qs : List (Lk × Bool)}
theorem err_mix (h : MixOk n qs) : errD (.int n) (.tup (qs.map lkb)) = .non := by
  have n1 := h.n1
  have n7 := h.n7
  show (if (1 : Int) ≤ n ∧ (n : Int) ≤ 7 then errL n (.tup (qs.map lkb)) else _) = _
  rw [if_pos (by omega)]
  show (if (qs.map lkb).length ≤ 8 then errGo n [] 0 (qs.map lkb) else _) = _
  rw [if_pos (by simpa using h.l8)]
  exact errGo_mix qs [] 0 (by simpa using h.ord) (by simpa using h.nd)
theorem sort_mix (h : MixOk n qs) : sortD ((qs.map lkb).map ends) = ((qs.map (·.1)).mergeSort Lk.le).map lk := by
  have e : (qs.map lkb).map ends = (qs.map (·.1)).map lk := by
    rw [List.map_map, List.map_map]
    exact List.map_congr_left fun q hq => ends_lkb (h.ord q hq).1
  rw [e, sortD_lk]
theorem good_lkb {q : Lk × Bool} (h1 : q.1.1 < 300) (h2 : q.1.2 < 300) : Vd 1 4 (lkb q) := by
  unfold lkb
  split
  · exact Vd.tup (B := 0) (L := 2) (fun x hx => by
      simp only [List.mem_cons, List.not_mem_nil, or_false] at hx
      rcases hx with rfl | rfl
      · exact Vd.nat h2
      · exact Vd.nat h1) (by simp) (by omega) (by omega)
  · exact Vd.tup (B := 0) (L := 2) (fun x hx => by
      simp only [List.mem_cons, List.not_mem_nil, or_false] at hx
      rcases hx with rfl | rfl
      · exact Vd.nat h1
      · exact Vd.nat h2) (by simp) (by omega) (by omega)
theorem MixOk.vd (h : MixOk n qs) : Vd 2 60 (.tup (qs.map lkb)) := by
  have n7 := h.n7
  refine Vd.tup (B := 4) (L := 8) (fun x hx => ?_) (by simpa using h.l8) (by omega) (by omega)
  obtain ⟨q, hq, rfl⟩ := List.mem_map.mp hx
  have := h.ord q hq
  exact good_lkb (q := q) (by omega) (by omega)
/-- the start of an instance, behind its arguments -/
def mkB (c nf : Nat) (p : DSp) (EX : QXe) (env : Env') (xs : List Lv) (m1 : Mem) (Q : QL) : Prop := match frs xs with
  | some ds => p (.obj m1.length :: ds) (m1 ++ [.ins c []]) (fun d m2 => d = .non ∧ ∃ m3 ys, m2 = m3 ++ [.ins c ys] ∧ m3.length = m1.length ∧ ys.length = nf ∧ belM m1.length m3 = true ∧ bels m1.length ys = true ∧ Q (.f (.ins c ys)) m3)
    (fun c' ys m2 => ∃ m3 y, m2 = m3 ++ [y] ∧ m3.length = m1.length ∧ belM m1.length m3 = true ∧ bels m1.length ys = true ∧ EX c' ys env m3)
  | none => False
theorem mk_i {c nf : Nat} {p : DSp} {EX : QXe} {da : TAd} {env : Env'} {m : Mem} {Q : QL} (h : da env m fun xs m1 => mkB c nf p EX env xs m1 Q) : dMakeF c nf p EX da env m Q := h
theorem mkB_net {env : Env'} {m : Mem} {EX : QXe} {Q : QL} (h : MixOk n qs) (hb : belM m.length m = true) (q : Q (.f (netD n ((qs.map (·.1)).mergeSort Lk.le))) m) : mkB 3 2 p_initS EX env [.f (.int n), .f (.tup (qs.map lkb))] m Q := by
  have n7 := h.n7
  show p_initS [.obj m.length, .int n, .tup (qs.map lkb)] (m ++ [.ins 3 []]) _ _
  refine ⟨rfl, ⟨m, _, _, rfl, rfl, ?_, good_le (by omega) h.vd.good⟩, ?_, ?_⟩
  · show plain (.int n) = true
    rfl
  · rintro r m' ⟨m0, n', xs, e1, e2, e3, rfl, rfl⟩
    have e4 : m0 = m := by
      have := congrArg (fun l => l.dropLast) e2
      simpa using this.symm
    subst e4
    have e5 : n' = (n : Int) := by simp at e1; omega
    have e6 : xs = qs.map lkb := by simp at e1; exact e1.2.symm
    subst e5 e6
    rw [sort_mix h]
    refine ⟨rfl, m0, _, rfl, rfl, rfl, hb, ?_, q⟩
    have z : ∀ qs : List Lk, bels m0.length (qs.map lk) = true := fun qs => by
      induction qs with
      | nil => rfl
      | cons p qs ih => rw [List.map_cons, bels, ih]; rfl
    simp [bels, bel, z]
  · rintro c xs m' ⟨m0, nd, ld, e1, e2, e3, _⟩
    have e5 : nd = .int n := by simp at e1; exact e1.2.1.symm
    have e6 : ld = .tup (qs.map lkb) := by simp at e1; exact e1.2.2.symm
    subst e5 e6
    exact absurd (err_mix h) e3
theorem ev_netM {env : Env'} {m : Mem} {da : TAd} {EX : QXe} (h : MixOk n qs) (hb : belM m.length m = true) (ha : EvA da env m [.f (.int n), .f (.tup (qs.map lkb))]) : Ev (dMakeF 3 2 p_initS EX da) env m (.f (netD n ((qs.map (·.1)).mergeSort Lk.le))) := fun Q q => ha _ (mkB_net h hb q)
end
theorem lt_irrefl {p : Lk} : ¬ Lk.lt p p := by unfold Lk.lt; omega
theorem lt_asymm {p q : Lk} (h : Lk.lt p q) (h' : Lk.lt q p) : False := by unfold Lk.lt at *; omega
theorem lt_le {p q : Lk} (h : Lk.lt p q) : Lk.le p q = true := by
  unfold Lk.lt at h
  unfold Lk.le
  rcases h with z | ⟨z1, z2⟩
  · exact decide_eq_true (.inl z)
  · exact decide_eq_true (.inr ⟨z1, Nat.le_of_lt z2⟩)
theorem le_antisymm {p q : Lk} (h : Lk.le p q = true) (h' : Lk.le q p = true) : p = q := by
  unfold Lk.le at *
  simp only [decide_eq_true_eq] at *
  exact Prod.ext (by omega) (by omega)
theorem asc_nodup {ps : List Lk} (h : ps.Pairwise Lk.lt) : ps.Nodup := h.imp fun {a b} z e => by subst e; exact lt_irrefl z
theorem sort_perm {ps rs : List Lk} (h : rs.Perm ps) (ha : ps.Pairwise Lk.lt) : rs.mergeSort Lk.le = ps :=
  List.Perm.eq_of_pairwise (le := fun a b => Lk.le a b = true) (fun a b _ _ h1 h2 => le_antisymm h1 h2) (List.pairwise_mergeSort Lk.le_trans Lk.le_total rs) (ha.imp fun {a b} z => lt_le z) ((List.mergeSort_perm rs Lk.le).trans h)
theorem mix_of {n : Nat} {ps : List Lk} {qs : List (Lk × Bool)} (h : NetOk n ps) (hp : (qs.map (·.1)).Perm ps) : MixOk n qs where
  n1 := h.n1
  n7 := h.n7
  l8 := by have := hp.length_eq; simp at this; have := h.l8; omega
  ord := fun q hq => h.ord q.1 (hp.mem_iff.mp (List.mem_map.mpr ⟨q, hq, rfl⟩))
  nd := hp.nodup_iff.mpr (asc_nodup h.asc)
end K02

set_option maxHeartbeats 1000000
namespace DL
open PySem PySem.Spec PyProof.Rows L2
theorem ev_fmtI {env : Env'} {m : Mem} {d : TD} {i : Int} (h : Ev d env m (.f (.int i))) (hs : i.natAbs.log2 < 1920) : Ev (dFmt d) env m (.f (.str (toString i))) := fun Q q => h _ ⟨hs, q⟩
theorem ev_fmtS {env : Env'} {m : Mem} {d : TD} {y : Str} (h : Ev d env m (.f (.str y))) (hs : y.length ≤ sizeLine) : Ev (dFmt d) env m (.f (.str y)) := fun Q q => h _ ⟨hs, q⟩
theorem ejs_cons {t : TD} {ts : List TD} {acc y : Str} {env : Env'} {m : Mem} {Q : Str → Mem → Prop} (h : Ev t env m (.f (.str y))) (hl : (acc ++ y).length ≤ sizeLine) (k : dJs ts (acc ++ y) env m Q) : dJs (t :: ts) acc env m Q := h _ ⟨hl, k⟩
theorem ejs_nil {acc : Str} {env : Env'} {m : Mem} {Q : Str → Mem → Prop} (k : Q acc m) : dJs [] acc env m Q := k
end DL
namespace DL.S
open PySem PySem.Spec PyProof.Rows L2 DL K02

/-! ### a net's nodes, links, at, far, in, ==, str -/
def p_nnodes : DSp := pT 1 (fun g : Nat × List Lk => [netD g.1 g.2]) (fun _ => True) (fun g => .int g.1)
theorem law_Net_nodes (C : Ct) : ∀ ds m (Q : QD) (E : QX), p_nnodes ds m Q E → rd_Net_nodes C (fun c xs _ m => E c xs m) { nx := fun _ m => Q .non m, rt := Q } (env0 1 ds) m := by
  rintro _ m Q E ⟨_, ⟨n, ps⟩, rfl, _, hq⟩
  exact st_ret (ev_fld (ev_v rfl) rfl (show fi_size 3 = some 0 from rfl) rfl) hq
def p_nlinks : DSp := pT 1 (fun g : Nat × List Lk => [netD g.1 g.2]) (fun _ => True) (fun g => .tup (g.2.map lk))
theorem law_Net_links (C : Ct) : ∀ ds m (Q : QD) (E : QX), p_nlinks ds m Q E → rd_Net_links C (fun c xs _ m => E c xs m) { nx := fun _ m => Q .non m, rt := Q } (env0 1 ds) m := by
  rintro _ m Q E ⟨_, ⟨n, ps⟩, rfl, _, hq⟩
  exact st_ret (ev_fld (ev_v rfl) rfl (show fi_pairs 3 = some 1 from rfl) rfl) hq
/-- the indexes of the links at a node -/
def atL (ps : List Lk) (i : Int) : List Nat := (ps.zipIdx.filter fun p => decide ((p.1.1 : Int) = i ∨ (p.1.2 : Int) = i)).map (·.2)
theorem eqd_ii (a b : Int) : eqd (.int a) (.int b) = decide (a = b) := by
  rw [eqd_int]
  by_cases h : a = b <;> simp [h]
def p_nat : DSp := pT 2 (fun g : (Nat × List Lk) × Int => [netD g.1.1 g.1.2, .int g.2]) (fun g => g.1.2.length ≤ 8) (fun g => .tup ((atL g.1.2 g.2).map fun k : Nat => .int (k : Nat)))
theorem law_Net_at (C : Ct) : ∀ ds m (Q : QD) (E : QX), p_nat ds m Q E → rd_Net_at C (fun c xs _ m => E c xs m) { nx := fun _ m => Q .non m, rt := Q } (env0 4 ds) m := by
  rintro _ m Q E ⟨_, ⟨⟨n, ps⟩, i⟩, rfl, h8, hq⟩
  have h8 : ps.length ≤ 8 := h8
  show rd_Net_at C _ _ [some (.f (netD n ps)), some (.f (.int i)), none, none] m
  unfold rd_Net_at
  have e1 : EvN (nLc (.tp [2, 3]) (dTst (dBin (oIn id) (dVar 1) (dVar 3))) (dVar 2) [2, 3] (iEnumD (dFld fi_pairs (dVar 0)))) [some (.f (netD n ps)), some (.f (.int i)), none, none] m ((atL ps i).map fun k : Nat => .int (k : Nat)) := by
    have := evn_lcf (env := [some (.f (netD n ps)), some (.f (.int i)), none, none]) (m := m) (tg := .tp [2, 3]) (dt := dTst (dBin (oIn id) (dVar 1) (dVar 3))) (de := dVar 2) (vs := [2, 3]) (di := iEnumD (dFld fi_pairs (dVar 0)))
      (xs := ps.zipIdx) (g := fun p => .tup [.int (p.2 : Nat), lk p.1]) (f := fun p => .int (p.2 : Nat)) (t := fun p => decide ((p.1.1 : Int) = i ∨ (p.1.2 : Int) = i))
      (evi_enum (.inr (ev_fld (ev_v rfl) rfl (show fi_pairs 3 = some 1 from rfl) rfl))) (enumD_map lk 0 ps) (by simp; exact sz (by omega)) (fun p hp => ⟨_, rfl, ?_, fun _ => ev_v rfl⟩)
    · refine this.eq ?_
      unfold atL
      rw [List.map_map]
      rfl
    · refine (evb_tst (ev_bin (ev_v rfl) (ev_v rfl) (e2_in (f := id) (bs := [.int p.1.1, .int p.1.2]) rfl rfl (okR1 _ _) rfl))).eq ?_
      simp [eqd_ii]
  exact st_ret (ev_n (eva_cons (ev_new e1) eva_nil) (fun Q q => by simp only [oTuple, seqOf, der]; exact q)) hq
def farL (ps : List Lk) (k : Nat) (i : Int) : Int := if i = ((ps.getD k (0, 0)).1 : Int) then (ps.getD k (0, 0)).2 else (ps.getD k (0, 0)).1
def p_nfar : DSp := pT 3 (fun g : (Nat × List Lk) × Nat × Int => [netD g.1.1 g.1.2, .int g.2.1, .int g.2.2]) (fun g => g.2.1 < g.1.2.length) (fun g => .int (farL g.1.2 g.2.1 g.2.2))
theorem law_Net_far (C : Ct) : ∀ ds m (Q : QD) (E : QX), p_nfar ds m Q E → rd_Net_far C (fun c xs _ m => E c xs m) { nx := fun _ m => Q .non m, rt := Q } (env0 5 ds) m := by
  rintro _ m Q E ⟨_, ⟨⟨n, ps⟩, k, i⟩, rfl, hk, hq⟩
  have hk : k < ps.length := hk
  show rd_Net_far C _ _ [some (.f (netD n ps)), some (.f (.int k)), some (.f (.int i)), none, none] m
  have eg : ps.getD k (0, 0) = ps[k] := by rw [List.getD_eq_getElem?_getD, List.getElem?_eq_getElem hk]; rfl
  have ek : atI (ps.map lk) k = some (lk ps[k]) := by
    refine DL.atI_nat ?_
    rw [List.getElem?_map, List.getElem?_eq_getElem hk]; rfl
  have hq : Q (.int (if i = (ps[k].1 : Int) then ps[k].2 else ps[k].1)) m := by
    have e : farL ps k i = if i = (ps[k].1 : Int) then (ps[k].2 : Int) else ps[k].1 := by unfold farL; rw [eg]
    rw [← e]; exact hq
  generalize ps[k] = p at ek hq
  refine sq_setT (as := [.int p.1, .int p.2]) (ev_bin (ev_fld (ev_v rfl) rfl (show fi_pairs 3 = some 1 from rfl) rfl) (ev_v rfl) (e2_ix (xs := ps.map lk) rfl ek)) rfl ?_
  show sRet _ _ [some (.f (netD n ps)), some (.f (.int k)), some (.f (.int i)), some (.f (.int p.1)), some (.f (.int p.2))] m
  refine st_ret ((ev_if (u := .int p.2) (w := .int p.1) (evb_tst (ev_bin (ev_v rfl) (ev_v rfl) (e2_eq (f := id) rfl rfl (okR1 _ _) (okR1 _ _)))) (fun _ => ev_v rfl) (fun _ => ev_v rfl))) ?_
  rw [eqd_ii]
  have e : (if (id (decide (i = (p.1 : Int)))) = true then Dat.int p.2 else .int p.1) = .int (if i = (p.1 : Int) then p.2 else p.1) := by
    by_cases z : i = (p.1 : Int) <;> simp [z]
  rw [e]
  exact hq
/-- what a net's class is among the others, as a law's text says it -/
structure CtN (C : Ct) : Prop where
  own : C.own 3 = true
  tup : C.isaB 3 "tuple" = some false
  net : C.isaI 3 3 = some true
  non : C.isaT "NoneType" 3 = some false
  tupT : C.isaT "tuple" 3 = some false
  intT : C.isaT "int" 3 = some false
  strT : C.isaT "str" 3 = some false
  dctT : C.isaT "dict" 3 = some false
/-- plain, or an instance that is no tuple -/
def isPl (C : Ct) (d : Dat) : Prop := plain d = true ∨ ∃ c xs, d = .ins c xs ∧ C.own c = true ∧ C.isaB c "tuple" = some false
theorem isPl.tup {C : Ct} {env : Env'} {m : Mem} {d : Dat} (h : isPl C d) : EvM (oIsi C) env m [.f d, .f (.ty "tuple")] (.bl (isTup d)) := by
  rcases h with h | ⟨c, xs, rfl, ho, hb⟩
  · exact isi_tup h
  · intro Q q
    simp [oIsi, derI, der, isaD, isa1, tyN, ho, hb]
    exact q
def p_pairX (C : Ct) : DSp := pT 1 (fun d : Dat => [d]) (isPl C) (fun d => .bl (isPair d))
theorem law_is_pairX (C : Ct) : ∀ ds m (Q : QD) (E : QX), p_pairX C ds m Q E → rd_is_pair C (fun c xs _ m => E c xs m) { nx := fun _ m => Q .non m, rt := Q } (env0 1 ds) m := by
  rintro _ m Q E ⟨_, d, rfl, h, hq⟩
  rcases h with h | ⟨c, xs, rfl, ho, hb⟩
  · exact law_is_pair C [d] m Q E ⟨rfl, ⟨d, rfl, h⟩, fun r m' ⟨d', e1, e2, e3⟩ => by cases e1; subst e2 e3; exact hq, fun _ _ _ z => z.elim⟩
  · refine st_ret (ev_and (b := false) (c := false) (ev_n (eva_cons (ev_v rfl) (eva_cons ev_c eva_nil)) (isPl.tup (.inr ⟨c, xs, rfl, ho, hb⟩))) (fun z => by cases z)) hq
theorem pair_weak (C : Ct) : ∀ ds m (Q : QD) (E : QX), p_pair ds m Q E → p_pairX C ds m Q E := by
  rintro _ m Q E ⟨_, ⟨d, rfl, h⟩, hq, _⟩
  exact ⟨rfl, d, rfl, .inl h, hq _ _ ⟨d, rfl, rfl, rfl⟩⟩
def p_linkX (C : Ct) : DSp := pT 2 (fun g : Dat × Int => [g.1, .int g.2]) (fun g => isPl C g.1 ∧ ∀ xs, g.1 = .tup xs → ∀ x ∈ xs, plain x = true) (fun g => .bl (linkB g.2 g.1))
theorem link_weak (C : Ct) : ∀ ds m (Q : QD) (E : QX), p_link ds m Q E → p_linkX C ds m Q E := by
  rintro _ m Q E ⟨_, ⟨d, n, rfl, h, hx⟩, hq, _⟩
  exact ⟨rfl, (d, n), rfl, ⟨.inl h, hx⟩, hq _ _ ⟨d, n, rfl, rfl, rfl⟩⟩
theorem call_pairX {C : Ct} {da : TAd} {env : Env'} {m : Mem} {Q : QL} (d : Dat) (hd : isPl C d) (ha : ∀ Q : List Lv → Mem → Prop, Q [.f d] m → da env m Q) (h : Q (.f (.bl (isPair d))) m) : dCall (p_pairX C) EX0 da env m Q :=
  ev_fn (n := 1) (args := fun d : Dat => [d]) (res := fun d => .bl (isPair d)) (ls := [.f d]) ha d rfl rfl hd Q h
theorem law_is_linkX (C : Ct) : ∀ ds m (Q : QD) (E : QX), p_linkX C ds m Q E → rd_is_link C (p_pairX C) p_below (fun c xs _ m => E c xs m) { nx := fun _ m => Q .non m, rt := Q } (env0 2 ds) m := by
  rintro _ m Q E ⟨_, ⟨d, n⟩, rfl, ⟨hd, hx⟩, hQ'⟩
  have hQ' : Q (.bl (linkB n d)) m := hQ'
  have hx : ∀ xs, d = .tup xs → ∀ x ∈ xs, plain x = true := hx
  show rd_is_link C (p_pairX C) p_below _ _ [some (.f d), some (.f (.int n))] m
  unfold rd_is_link sSeq sIf dOr dNot dTst
  refine call_pairX d hd (fun Q h => h) ?_
  by_cases hp : isPair d = true
  · cases d with
    | tup xs =>
      match xs, hp with
      | [a, b], _ =>
        have hp2 : isPair (.tup [a, b]) = true := rfl
        have ha := hx _ rfl a (by simp)
        have hb := hx _ rfl b (by simp)
        simp [hp2]
        refine call_below a n ha (fun Q h => by simp [dCons, dNil, dBin, dVar, dC, oIx, der, atI0, atI1]; exact h) ?_
        by_cases h1 : below n a = true
        · simp [h1]
          refine call_below b n hb (fun Q h => by simp [dCons, dNil, dBin, dVar, dC, oIx, der, atI0, atI1]; exact h) ?_
          by_cases h2 : below n b = true
          · simp [h2, sNext, sRet, dBin, dVar, dC, oIx, der, atI0, atI1]
            cases a with
            | int i =>
              cases b with
              | int j =>
                simp [der, oEq, intOkN, eqd_int]
                rw [below, Bool.and_eq_true, decide_eq_true_iff, decide_eq_true_iff] at h1 h2
                refine q_bl hQ' ?_
                simp only [linkB, h1, h2, decide_true, Bool.and_self, Bool.true_and]
                by_cases e : i = j
                · simp [e]
                · simp [e]
              | _ => cases h2
            | _ => cases h1
          · simp [h2, sRet, dC]
            refine q_bl hQ' ?_
            rw [Bool.not_eq_true] at h2
            cases b with
            | int j =>
              rw [below] at h2
              cases a <;> first | rfl | (rw [linkB, h2]; simp)
            | _ => cases a <;> rfl
        · simp [h1, sRet, dC]
          refine q_bl hQ' ?_
          rw [Bool.not_eq_true] at h1
          cases a with
          | int i =>
            rw [below] at h1
            cases b <;> first | rfl | (rw [linkB, h1]; simp)
          | _ => rfl
    | _ => cases hp
  · simp [hp, sRet, dC]
    refine q_bl hQ' ?_
    cases d with
    | tup xs =>
      match xs, hp with
      | [], _ => rfl
      | [a], _ => cases a <;> rfl
      | [a, b], hp => exact absurd rfl hp
      | a :: b :: c :: r, _ => cases a <;> first | rfl | (cases b <;> rfl)
    | _ => rfl
/-- what may be asked for: comparable, or an instance that is no tuple -/
def inOk (C : Ct) (d : Dat) : Prop := good 5 d = true ∨ ∃ c xs, d = .ins c xs ∧ C.own c = true ∧ C.isaB c "tuple" = some false
theorem inOk.pl {C : Ct} {d : Dat} (h : inOk C d) : isPl C d := h.imp good_plain id
theorem inOk.items {C : Ct} {d : Dat} (h : inOk C d) : ∀ xs, d = .tup xs → ∀ x ∈ xs, plain x = true := fun xs e x hx => by
  subst e
  rcases h with h | ⟨c, ys, e, _⟩
  · rw [good, Bool.and_eq_true, List.all_eq_true] at h
    exact good_plain (h.2 x hx)
  · cases e
def conB (n : Int) (ps : List Lk) (d : Dat) : Bool := linkB n d && (ps.map lk).any fun b => eqd b d
def p_ncon (C : Ct) : DSp := pT 2 (fun g : (Nat × List Lk) × Dat => [netD g.1.1 g.1.2, g.2]) (fun g => inOk C g.2) (fun g => .bl (conB g.1.1 g.1.2 g.2))
theorem okN_lks (ps : List Lk) : (ps.map lk).all (okN 59) = true := by
  rw [List.all_eq_true]
  intro x hx
  obtain ⟨p, _, rfl⟩ := List.mem_map.mp hx
  rfl
theorem law_Net_contains (C : Ct) : ∀ ds m (Q : QD) (E : QX), p_ncon C ds m Q E → rd_Net_contains C (p_linkX C) (fun c xs _ m => E c xs m) { nx := fun _ m => Q .non m, rt := Q } (env0 2 ds) m := by
  rintro _ m Q E ⟨_, ⟨⟨n, ps⟩, d⟩, rfl, h, hq⟩
  have h : inOk C d := h
  have hq : Q (.bl (conB n ps d)) m := hq
  refine st_ret (ev_if (u := .bl ((ps.map lk).any fun b => eqd b d)) (w := .bl false) (evb_tst (ev_fn (γ := Dat × Int) (eva_cons (ev_v rfl) (eva_cons (ev_fld (ev_v rfl) rfl (show fi_size 3 = some 0 from rfl) rfl) eva_nil)) (d, (n : Int)) rfl rfl ⟨h.pl, h.items⟩)) (fun z => ?_) (fun _ => ev_c)) ?_
  · have z : linkB n d = true := z
    obtain ⟨a, b, rfl, _⟩ := link_is z
    exact ev_bin (ev_v rfl) (ev_fld (ev_v rfl) rfl (show fi_pairs 3 = some 1 from rfl) rfl) (e2_in (f := id) (bs := ps.map lk) rfl rfl rfl (okN_lks ps))
  · refine (show ∀ r, r = Dat.bl (conB n ps d) → Q r m from fun r e => e ▸ hq) _ ?_
    unfold conB
    cases linkB (n : Int) d <;> rfl

/-! == of nets -/
abbrev EqG : Type := (Nat × List Lk) × (Dat ⊕ (Nat × List Lk))
def eqA (x : Dat ⊕ (Nat × List Lk)) : Dat := match x with
  | .inl d => d
  | .inr q => netD q.1 q.2
def eqB (g : EqG) : Bool := match g.2 with
  | .inl _ => false
  | .inr q => decide (g.1 = q)
/-- a value of a built-in kind that is no net -/
def noNet (C : Ct) (d : Dat) : Prop := ∃ t, tyN d = some t ∧ C.isaT t 3 = some false
def eqOk (C : Ct) (x : Dat ⊕ (Nat × List Lk)) : Prop := match x with
  | .inl d => noNet C d
  | .inr _ => C.own 3 = true ∧ C.isaI 3 3 = some true
def p_neq (C : Ct) : DSp := pT 2 (fun g : EqG => [netD g.1.1 g.1.2, eqA g.2]) (fun g => g.1.2.length ≤ 8 ∧ eqOk C g.2) (fun g => .bl (eqB g))
theorem lks_eqd : ∀ ps qs : List Lk, eqds (ps.map lk) (qs.map lk) = decide (ps = qs)
  | [], [] => rfl
  | [], _ :: _ => rfl
  | _ :: _, [] => rfl
  | p :: ps, q :: qs => by
    rw [List.map_cons, List.map_cons, eqds, lks_eqd ps qs]
    have e : eqd (lk p) (lk q) = decide (p = q) := by
      unfold lk
      simp only [eqd, eqds, eqd_ii, Bool.and_true]
      obtain ⟨a, b⟩ := p
      obtain ⟨c, d⟩ := q
      rw [Bool.eq_iff_iff]
      simp
      omega
    rw [e, Bool.eq_iff_iff]
    simp
theorem isi_net {C : Ct} {env : Env'} {m : Mem} {x : Dat ⊕ (Nat × List Lk)} (h : eqOk C x) : EvM (oIsi C) env m [.f (eqA x), .f (.cls 3)] (.bl (match x with | .inl _ => false | .inr _ => true)) := by
  intro Q q
  cases x with
  | inl d =>
    obtain ⟨t, e1, e2⟩ := h
    have e3 : derI env m (.f d) = some d := by cases d <;> first | rfl | cases e1
    show oIsi C env m [.f d, .f (.cls 3)] Q
    simp only [oIsi, e3, isaD, isa1, e1, e2]
    exact q
  | inr g =>
    obtain ⟨e1, e2⟩ := h
    simp [oIsi, eqA, netD, derI, der, isaD, isa1, tyN, e1, e2]
    exact q
theorem law_Net_eq (C : Ct) : ∀ ds m (Q : QD) (E : QX), p_neq C ds m Q E → rd_Net_eq C (fun c xs _ m => E c xs m) { nx := fun _ m => Q .non m, rt := Q } (env0 2 ds) m := by
  rintro _ m Q E ⟨_, ⟨⟨n, ps⟩, x⟩, rfl, ⟨h8, h⟩, hq⟩
  have h : eqOk C x := h
  cases x with
  | inl d =>
    exact st_ret (ev_and (b := false) (c := false) (ev_n (eva_cons (ev_v rfl) (eva_cons ev_c eva_nil)) (isi_net (x := .inl d) h)) (fun z => by cases z)) hq
  | inr g =>
    obtain ⟨n', qs⟩ := g
    have hok : okN 60 (.tup (ps.map lk)) = true := okN_lks ps
    have hok' : okN 60 (.tup (qs.map lk)) = true := okN_lks qs
    refine st_ret (ev_and (ev_n (eva_cons (ev_v rfl) (eva_cons ev_c eva_nil)) (isi_net (x := .inr (n', qs)) h)) fun _ => ev_and
      (ev_bin (ev_fld (ev_v rfl) rfl (show fi_size 3 = some 0 from rfl) rfl) (ev_fld (ev_v rfl) rfl (show fi_size 3 = some 0 from rfl) rfl) (e2_eq (f := id) (a := .int n) (c := .int n') rfl rfl (okR1 _ _) (okR1 _ _))) fun _ =>
      ev_bin (ev_fld (ev_v rfl) rfl (show fi_pairs 3 = some 1 from rfl) rfl) (ev_fld (ev_v rfl) rfl (show fi_pairs 3 = some 1 from rfl) rfl) (e2_eq (f := id) (a := .tup (ps.map lk)) (c := .tup (qs.map lk)) rfl rfl hok hok')) ?_
    have e : (true && (id (eqd (.int (n : Int)) (.int (n' : Int))) && id (eqd (.tup (ps.map lk)) (.tup (qs.map lk))))) = eqB ((n, ps), .inr (n', qs)) := by
      have e1 : eqd (.tup (ps.map lk)) (.tup (qs.map lk)) = decide (ps = qs) := by rw [eqd, lks_eqd]
      rw [e1, eqd_ii]
      unfold eqB
      rw [Bool.eq_iff_iff]
      simp
      omega
    rw [e]
    exact hq
/-! str of a net -/
def strL (n l : Nat) : Str := (((Str.empty ++ (toString (n : Int) : Str)) ++ (" nodes, " : Str)) ++ (toString (l : Int) : Str)) ++ (" links" : Str)
def wordsL (n l : Nat) : Str := (((py (.int n)).shown ++ (" nodes, " : Str)) ++ (py (.int l)).shown) ++ (" links" : Str)
theorem str_words : ((List.range 8).all fun n => (List.range 9).all fun l => decide (strL n l = wordsL n l) && decide ((strL n l).length ≤ 40)) = true := by decide +kernel
theorem strL_eq {n l : Nat} (hn : n ≤ 7) (hl : l ≤ 8) : strL n l = wordsL n l ∧ (strL n l).length ≤ 40 := by
  have := List.all_eq_true.mp (List.all_eq_true.mp str_words n (List.mem_range.mpr (by omega))) l (List.mem_range.mpr (by omega))
  rw [Bool.and_eq_true, decide_eq_true_iff, decide_eq_true_iff] at this
  exact this
def p_nstr : DSp := pT 1 (fun g : Nat × List Lk => [netD g.1 g.2]) (fun g => g.1 ≤ 7 ∧ g.2.length ≤ 8) (fun g => .str (strL g.1 g.2.length))
theorem appLen (a b : Str) : a.length ≤ (a ++ b).length := by
  rw [show (a ++ b).length = a.length + b.length from ?_]
  · omega
  · first | exact Str.length_append a b | simp
theorem law_Net_str (C : Ct) : ∀ ds m (Q : QD) (E : QX), p_nstr ds m Q E → rd_Net_str C (fun c xs _ m => E c xs m) { nx := fun _ m => Q .non m, rt := Q } (env0 1 ds) m := by
  rintro _ m Q E ⟨_, ⟨n, ps⟩, rfl, ⟨hn, h8⟩, hq⟩
  have hn : n ≤ 7 := hn
  have h8 : ps.length ≤ 8 := h8
  have hl := (strL_eq hn h8).2
  have hq : Q (.str (strL n ps.length)) m := hq
  have s2 : 1000 ≤ sizeLine := sz (by decide)
  have l3 : ∀ (n : Nat), n ≤ 8 → (n : Int).natAbs.log2 < 1920 := fun n h => small (i := (n : Int)) (by omega) (by omega)
  have a4 := appLen ((((Str.empty ++ (toString (n : Int) : Str)) ++ (" nodes, " : Str)) ++ (toString ((ps.length : Nat) : Int) : Str))) (" links" : Str)
  have a3 := appLen (((Str.empty ++ (toString (n : Int) : Str)) ++ (" nodes, " : Str))) (toString ((ps.length : Nat) : Int) : Str)
  have a2 := appLen ((Str.empty ++ (toString (n : Int) : Str))) (" nodes, " : Str)
  have hl' : (((((Str.empty ++ (toString (n : Int) : Str)) ++ (" nodes, " : Str)) ++ (toString ((ps.length : Nat) : Int) : Str)) ++ (" links" : Str))).length ≤ 40 := hl
  show rd_Net_str C _ _ [some (.f (netD n ps))] m
  unfold rd_Net_str sRet dJoin
  refine ejs_cons (ev_fmtI (ev_fld (ev_v rfl) rfl (show fi_size 3 = some 0 from rfl) rfl) (l3 n (by omega))) (by omega) ?_
  refine ejs_cons ev_c (by omega) ?_
  refine ejs_cons (ev_fmtI (ev_n (eva_cons (ev_fld (ev_v rfl) rfl (show fi_pairs 3 = some 1 from rfl) rfl) eva_nil) (em_len (xs := ps.map lk) rfl)) (by rw [List.length_map]; exact l3 _ h8)) (by rw [List.length_map]; omega) ?_
  rw [List.length_map]
  exact ejs_cons ev_c (by omega) (ejs_nil hq)
end DL.S

set_option maxHeartbeats 1000000
namespace DL
open PySem PySem.Spec PyProof.Rows L2
theorem eraseIdx_map' {α β : Type} (f : α → β) : ∀ (l : List α) (k : Nat), (l.map f).eraseIdx k = (l.eraseIdx k).map f
  | [], _ => rfl
  | a :: l, 0 => rfl
  | a :: l, k + 1 => by rw [List.map_cons, List.eraseIdx_cons_succ, List.eraseIdx_cons_succ, List.map_cons, eraseIdx_map' f l k]
theorem oLen_mono : MonoN oLen := fun env m xs Q Q' i h => by
  unfold oLen at h ⊢
  split at h
  · split at h <;> first | exact i _ _ h | exact ⟨h.1, i _ _ h.2⟩ | exact h.elim
  · exact h.elim
theorem nLst_mono {d : TAd} (hd : MonoA d) : MonoN' (nLst d) := fun env m Q Q' i q => hd _ _ _ _ (fun xs m1 h => by
  split at h
  · exact ⟨h.1, i _ _ h.2⟩
  · exact h) q
theorem dBack_mono {d : TD} (hd : MonoD d) : MonoD (dBack d) := fun env m Q Q' i q => hd _ _ _ _ (fun x m1 h => by
  split at h <;> first | exact i _ _ h | exact h.elim) q
theorem dNew_mono {p : TN} (h : MonoN' p) : MonoD (dNew p) := fun env m Q Q' i q => h _ _ _ _ (fun xs m1 => i _ _) q
theorem popN_i {i j : Nat} {xs : List Dat} {di : TD} {D : En} {env : Env'} {m : Mem} (e : env[i]? = some (some (.own (.lst xs)))) (h : di env m fun v m2 => match v with
    | .f (.int k) => match xs[k.toNat]? with
      | some y => 0 ≤ k ∧ k < 2 ^ 63 ∧ D.nx ((env.set i (some (.own (.lst (xs.eraseIdx k.toNat))))).set j (some (.f y))) m2
      | none => False
    | _ => False) (hm : MonoD di) : sPopN j (dVar i) di D env m := by
  unfold sPopN dVar
  simp only [e, moOf]
  refine hm _ _ _ _ (fun v m2 h2 => ?_) h
  cases v with
  | f d => cases d <;> first | exact h2.elim | exact h2
  | o k => exact h2.elim
/-- xs.append(e), where e draws -/
theorem app_i {i : Nat} {xs : List Dat} {de : TD} {D : En} {env : Env'} {m : Mem} (e : env[i]? = some (some (.own (.lst xs)))) (h : de env m fun v m2 => match v with
    | .f z => xs.length < sizeLine ∧ D.nx (env.set i (some (.own (.lst (xs ++ [z]))))) m2
    | _ => False) (hm : MonoD de) : sApp (dVar i) de D env m := by
  unfold sApp dVar
  simp only [e, moOf]
  refine hm _ _ _ _ (fun v m2 h2 => ?_) h
  cases v with
  | f d => exact h2
  | o k => exact h2.elim
end DL
namespace DL.S
open PySem PySem.Spec PyProof.Rows L2 DL K02

/-! ### links in a drawn order, each one as it is or turned about -/
def mixD (qs : List (Lk × Bool)) : Dat := .tup (qs.map lkb)
def p_mix : DSp := pGh (γ := Nat × Mem × List Lk) 2 (fun g ds m => ds = [.obj 1, .lst (g.2.2.map lk)] ∧ g.2.2.length ≤ 8 ∧ Dk g.1 g.2.1 m ∧ g.1 + 40 < lim)
  (fun g ds m r m' => ∃ qs : List (Lk × Bool), r = mixD qs ∧ (qs.map (·.1)).Perm g.2.2 ∧ Dk (g.1 + 16) g.2.1 m')
theorem pop_perm {ls : List Lk} {k : Nat} {p : Lk} (h : ls[k]? = some p) : (p :: ls.eraseIdx k).Perm ls := by
  induction ls generalizing k with
  | nil => simp at h
  | cons a ls ih =>
    cases k with
    | zero => simp at h; subst h; simp
    | succ k =>
      rw [List.getElem?_cons_succ] at h
      rw [List.eraseIdx_cons_succ]
      exact (List.Perm.swap a p _).trans ((ih h).cons a)
theorem while_i {c : TB} {tb : TSd} {D : En} {env : Env'} {m : Mem} {k : Nat} (h : whGo c tb D k env m) : sWhile c tb D env m := ⟨k, h⟩
theorem mix_loop {D : En} {tl : Mem} {ps : List Lk} : ∀ (r : Nat) (ls : List Lk) (qs : List (Lk × Bool)) (x4 : Option Sl) (m : Mem) (c : Nat), ls.length = r → ps.length ≤ 8 → Dk c tl m → c + 2 * r + 2 < lim → (qs.map (·.1) ++ ls).Perm ps →
    (∀ (qs : List (Lk × Bool)) x4 m', (qs.map (·.1)).Perm ps → Dk (c + 2 * r) tl m' → D.nx [some (.f (.obj 1)), some (.f (.lst (ps.map lk))), some (.own (.lst [])), some (.own (.lst (qs.map lkb))), x4] m') →
    whGo (dTst (dBin (oEq not) (dVar 2) (dNew (nLst dNil))))
      (sSeq (sPopN 4 (dVar 2) (dCall p_next EX0 (dCons (dVar 0) (dCons (dN oLen (dCons (dVar 2) dNil)) dNil))))
        (sApp (dVar 3) (dBin oIx (dNew (nLst (dCons (dVar 4) (dCons (dBack (dVar 4)) dNil)))) (dCall p_next EX0 (dCons (dVar 0) (dCons (dC (.int 2)) dNil))))))
      D (r + 1) [some (.f (.obj 1)), some (.f (.lst (ps.map lk))), some (.own (.lst (ls.map lk))), some (.own (.lst (qs.map lkb))), x4] m
  | 0, ls, qs, x4, m, c, hl, h8, hd, hc, hp, h => by
    have e : ls = [] := List.length_eq_zero_iff.mp hl
    subst e
    have ev : EvB (dTst (dBin (oEq not) (dVar 2) (dNew (nLst dNil)))) [some (.f (.obj 1)), some (.f (.lst (ps.map lk))), some (.own (.lst [])), some (.own (.lst (qs.map lkb))), x4] m false :=
      (evb_tst (ev_bin (ev_o rfl) (ev_new (evn_lst eva_nil rfl (Nat.zero_le _))) (e2_eq (f := not) (a := .lst []) (c := .lst []) rfl rfl rfl rfl))).eq rfl
    unfold whGo
    refine ev _ ?_
    exact h qs x4 m (by simpa using hp) hd
  | r + 1, ls, qs, x4, m, c, hl, h8, hd, hc, hp, h => by
    have s2 : 1000 ≤ sizeLine := sz (by decide)
    have hlim : lim = 2 ^ 40 := rfl
    have hls : (ls.map lk).length = ls.length := List.length_map ..
    have hlen := hp.length_eq
    rw [List.length_append, List.length_map] at hlen
    have okl : okN 60 (.lst (ls.map lk)) = true := okN_lks ls
    have ne : eqd (.lst (ls.map lk)) (.lst []) = false := by
      cases ls with
      | nil => simp at hl
      | cons a ls => rfl
    have ev : EvB (dTst (dBin (oEq not) (dVar 2) (dNew (nLst dNil)))) [some (.f (.obj 1)), some (.f (.lst (ps.map lk))), some (.own (.lst (ls.map lk))), some (.own (.lst (qs.map lkb))), x4] m true :=
      (evb_tst (ev_bin (ev_o rfl) (ev_new (evn_lst eva_nil rfl (Nat.zero_le _))) (e2_eq (f := not) (a := .lst (ls.map lk)) (c := .lst []) rfl rfl okl rfl))).eq (by rw [ne]; rfl)
    unfold whGo
    refine ev _ ?_
    rw [if_pos rfl]
    refine seq_i ?_
    refine popN_i (xs := ls.map lk) rfl ?_ (dCall.mono pRel.mono (dCons.mono (dVar.mono _) (dCons.mono (dN.mono oLen_mono (dCons.mono (dVar.mono _) dNil.mono)) dNil.mono)))
    refine call_next (tl := tl) (c := c) ((r : Int) + 1) (by omega) (by omega) hd (by omega) (eva_cons (ev_v rfl) (eva_cons (ev_n (eva_cons (ev_o rfl) eva_nil) (fun Q q => by
      refine em_len (x := .o 2) (xs := ls.map lk) rfl _ ?_
      rw [hls, hl]
      exact q)) eva_nil)) fun i m1 i0 i1 hd1 => ?_
    obtain ⟨k, rfl⟩ : ∃ k : Nat, i = k := ⟨i.toNat, by omega⟩
    have hk : k < ls.length := by omega
    obtain ⟨p, hpk⟩ : ∃ p, ls[k]? = some p := ⟨_, List.getElem?_eq_getElem hk⟩
    have e1 : (ls.map lk)[(k : Int).toNat]? = some (lk p) := by
      rw [Int.toNat_natCast, List.getElem?_map, hpk]; rfl
    dsimp only
    rw [e1]
    refine ⟨by omega, by omega, ?_⟩
    rw [Int.toNat_natCast, eraseIdx_map']
    show sApp (dVar 3) _ _ [some (.f (.obj 1)), some (.f (.lst (ps.map lk))), some (.own (.lst ((ls.eraseIdx k).map lk))), some (.own (.lst (qs.map lkb))), some (.f (lk p))] m1
    refine app_i (xs := qs.map lkb) rfl ?_ (dBin.mono oIx.mono (dNew_mono (nLst_mono (dCons.mono (dVar.mono _) (dCons.mono (dBack_mono (dVar.mono _)) dNil.mono)))) (dCall.mono pRel.mono (dCons.mono (dVar.mono _) (dCons.mono (dC.mono _) dNil.mono))))
    simp only [dBin]
    refine (ev_new (evn_lst (xs := [lk p, .tup [.int p.2, .int p.1]]) (eva_cons (ev_v (a := lk p) rfl) (eva_cons (ev_backT (xs := [.int p.1, .int p.2]) (ev_v (a := lk p) rfl) rfl) eva_nil)) rfl (sz (Nat.le_of_ble_eq_true rfl)))).use ?_
    refine call_next (tl := tl) (c := c + 1) 2 (by omega) (by omega) hd1 (by omega) (eva_cons (ev_v rfl) (eva_cons ev_c eva_nil)) fun j m2 j0 j1 hd2 => ?_
    have ej : ∃ b : Bool, atI [lk p, .tup [.int p.2, .int p.1]] j = some (lkb (p, b)) := by
      rcases (show j = 0 ∨ j = 1 by omega) with rfl | rfl
      · exact ⟨false, atI0 _ _⟩
      · exact ⟨true, atI1 _ _ _⟩
    obtain ⟨b, ej⟩ := ej
    refine e2_ix (x := .f (.lst [lk p, .tup [.int p.2, .int p.1]])) rfl ej _ ?_
    refine ⟨by rw [List.length_map]; omega, ?_⟩
    have e2 : qs.map lkb ++ [lkb (p, b)] = (qs ++ [(p, b)]).map lkb := by simp
    rw [e2]
    have er : (ls.eraseIdx k).length = r := by rw [List.length_eraseIdx, if_pos hk]; omega
    refine mix_loop r (ls.eraseIdx k) (qs ++ [(p, b)]) _ m2 (c + 1 + 1) er h8 hd2 (by omega) ?_ fun qs' x4' m' hp' hd' => h qs' x4' m' hp' (by rw [show c + 2 * (r + 1) = c + 1 + 1 + 2 * r by omega]; exact hd')
    have z := pop_perm hpk
    rw [List.map_append, List.append_assoc]
    exact (z.append_left _).trans hp
theorem law_law_mixed (C : Ct) : ∀ ds m (Q : QD) (E : QX), p_mix ds m Q E → rd_law_mixed C p_next (fun c xs _ m => E c xs m) { nx := fun _ m => Q .non m, rt := Q } (env0 5 ds) m := by
  rintro _ m Q E ⟨_, ⟨c, tl, ps⟩, ⟨rfl, h8, hd, hc⟩, hQ⟩
  have h8 : ps.length ≤ 8 := h8
  have hd : Dk c tl m := hd
  have hc : c + 40 < lim := hc
  show rd_law_mixed C p_next _ _ [some (.f (.obj 1)), some (.f (.lst (ps.map lk))), none, none, none] m
  unfold rd_law_mixed
  refine seq_i ?_
  unfold sParNN
  refine (evn_list (xs := ps.map lk) (ev_v rfl) rfl) _ ?_
  refine (evn_lst eva_nil rfl (Nat.zero_le _)) _ ?_
  dsimp only
  refine seq_i ?_
  refine while_i (k := ps.length + 1) ?_
  refine mix_loop (ps := ps) ps.length ps [] none m c rfl h8 hd (by omega) (by simp) fun qs x4 m' hp hd' => ?_
  dsimp only
  show sRet (dN oTuple (dCons (dVar 3) dNil)) _ [some (.f (.obj 1)), some (.f (.lst (ps.map lk))), some (.own (.lst [])), some (.f (.lst (qs.map lkb))), x4] m'
  refine st_ret (a := mixD qs) (ev_n (eva_cons (ev_v rfl) eva_nil) (fun Q q => by simp only [oTuple, seqOf, der]; exact q)) ?_
  exact hQ _ _ ⟨qs, rfl, hp, hd'.mono (by omega)⟩
theorem call_mix {da : TAd} {env : Env'} {m tl : Mem} {Q : QL} {c : Nat} {ps : List Lk} (h8 : ps.length ≤ 8) (hd : Dk c tl m) (hc : c + 40 < lim) (ha : EvA da env m [.f (.obj 1), .f (.lst (ps.map lk))])
    (h : ∀ qs m', (qs.map (·.1)).Perm ps → Dk (c + 16) tl m' → Q (.f (mixD qs)) m') : dCall p_mix EX0 da env m Q :=
  call_is [.f (.obj 1), .f (.lst (ps.map lk))] [.obj 1, .lst (ps.map lk)] ha rfl ⟨rfl, (c, tl, ps), ⟨rfl, h8, hd, hc⟩, fun r m' ⟨qs, e, h1, h2⟩ => by subst e; exact h qs m' h1 h2⟩
end DL.S

set_option maxHeartbeats 1000000
namespace DL
open PySem PySem.Spec PyProof.Rows L2
theorem ev_dct1 {env : Env'} {m : Mem} {d : TD} {i : Int} {y : Dat} (h : Ev d env m (.f y)) : Ev (dDct1 i d) env m (.f (.dct [(.int i, y)])) := fun Q q => h _ q
end DL
namespace DL.S
open PySem PySem.Spec PyProof.Rows L2 DL K02
local macro_rules | `(tactic| walk_at "ev") => `(tactic| repeat' (first
  | exact ev_c | exact ev_v rfl | exact ev_o rfl | exact eva_nil | exact e2_i0 | exact e2_add | exact e1_u | exact e2_isn | exact evo_no | exact sz (Nat.le_of_ble_eq_true rfl)
  | ((with_reducible show DL.frs _ = some _); exact rfl) | ((with_reducible show der _ _ _ = some _); exact rfl) | ((with_reducible show lstOf _ _ _ = some _); exact rfl) | ((with_reducible show seqOf _ _ _ = some _); exact rfl)
  | ((with_reducible show atI _ _ = some _); exact atI0 _ _)
  | apply ev_bin | apply ev_un | apply ev_n | apply eva_cons | apply ev_new | apply evn_lst | apply em_tup | apply evo_p | apply ev_slT | apply ev_backT | apply evn_list | apply evn_cat | apply e2_addT | apply ev_dct1))

/-! ### a value of another kind, or nearly a pair; for any small link -/
theorem cpowX : CPow 10 30 := by unfold CPow; decide
def odd1 : List Dat := [.non, .bl true, .bl false, .int 0, .int 1, .int 2, .int (-1), .int 1000000000000000000000000000000, .str "", .str "0", .str "01", .tup [], .lst [], .dct [], .tup [.int 0], .tup [.int 0, .int 1], .lst [.int 0, .int 1], .tup [.int 1, .int 0], .tup [.int 0, .int 0]]
def odd2 : List Dat := [.tup [.int 0, .bl true], .tup [.bl false, .int 1], .tup [.int 0, .non], .tup [.int 0, .str "1"], .tup [.int 0, .int 1, .int 2], .tup [.int 0, .int (-1)], .tup [.int 0, .int 7], .tup [.tup [.int 0, .int 1]], .tup [.tup [.int 0, .int 1], .int 0]]
def odd3 (a b : Nat) : List Dat := [.tup [.int a, .int b], .lst [.int a, .int b], .tup [.int b, .int a], .tup [.int a, .int b, .int a, .int b], .tup [.tup [.int a, .int b]], .dct [(.int 0, .int 1)], .tup [.int a, .int a], .tup [.int 0, .lst [.int 1]], .tup [.int 0, .dct []]]
def oddL (a b : Nat) : List Dat := odd1 ++ odd2 ++ odd3 a b
theorem odd_vd : ((odd1 ++ odd2).all (vd 3 100) && ((List.range 9).all fun a => (List.range 9).all fun b => (odd3 a b).all (vd 3 100))) = true := by decide +kernel
theorem oddL_vd {a b : Nat} (ha : a ≤ 8) (hb : b ≤ 8) : ∀ x ∈ oddL a b, Vd 3 100 x := fun x hx => by
  have h := odd_vd
  rw [Bool.and_eq_true] at h
  rcases List.mem_append.mp hx with q | q
  · exact vd_iff.mp (List.all_eq_true.mp h.1 x q)
  · exact vd_iff.mp (List.all_eq_true.mp (List.all_eq_true.mp (List.all_eq_true.mp h.2 a (List.mem_range.mpr (by omega))) b (List.mem_range.mpr (by omega))) x q)
def p_oddX : DSp := pGh (γ := (Nat × Mem) × Nat × Nat) 2 (fun g ds m => ds = [.obj 1, .tup [.int g.2.1, .int g.2.2]] ∧ (g.2.1 ≤ 8 ∧ g.2.2 ≤ 8) ∧ Dk g.1.1 g.1.2 m ∧ g.1.1 + 1 < lim)
  (fun g ds m r m' => Vd 3 100 r ∧ Dk (g.1.1 + 1) g.1.2 m')
theorem law_law_oddX (C : Ct) : ∀ ds m (Q : QD) (E : QX), p_oddX ds m Q E → rd_law_odd C p_next (fun c xs _ m => E c xs m) { nx := fun _ m => Q .non m, rt := Q } (env0 3 ds) m := by
  rintro _ m Q E ⟨_, ⟨⟨c, tl⟩, a, b⟩, ⟨rfl, ⟨ha, hb⟩, hd, hc⟩, hQ⟩
  have ha : a ≤ 8 := ha
  have hb : b ≤ 8 := hb
  have hd : Dk c tl m := hd
  have hc : c + 1 < lim := hc
  show rd_law_odd C p_next _ _ [some (.f (.obj 1)), some (.f (.tup [.int a, .int b])), none] m
  unfold rd_law_odd
  refine sq_set (a := .lst odd1) ?_ ?_
  · walk_at "ev"
    · exact e2_i cpowX
  simp only [List.set]
  refine sq_set (a := .lst (odd1 ++ odd2)) ?_ ?_
  · walk_at "ev"
  simp only [List.set]
  refine sq_set (a := .lst (oddL a b)) ?_ ?_
  · unfold oddL
    walk_at "ev"
    all_goals exact e2_ix (xs := [.int a, .int b]) rfl (atI0 _ _)
  simp only [List.set]
  unfold sRet
  simp only [dBin]
  refine (ev_v (a := .lst (oddL a b)) rfl).use ?_
  refine call_next 37 (by omega) (by omega) hd (by omega) (eva_cons (ev_v rfl) (eva_cons (ev_n (eva_cons (ev_v rfl) eva_nil) (em_len (xs := oddL a b) rfl)) eva_nil)) fun j m3 j0 j1 hd3 => ?_
  obtain ⟨r, er1, er2⟩ := atI_int (l := oddL a b) j0 (by show j < ((37 : Nat) : Int); omega)
  refine e2_ix (x := .f (.lst (oddL a b))) rfl er1 _ ?_
  exact hQ _ _ ⟨oddL_vd ha hb r (List.mem_of_getElem? er2), hd3⟩
theorem call_oddX {da : TAd} {env : Env'} {m tl : Mem} {Q : QL} {c a b : Nat} (ha' : a ≤ 8) (hb : b ≤ 8) (hd : Dk c tl m) (hc : c + 1 < lim) (ha : EvA da env m [.f (.obj 1), .f (.tup [.int a, .int b])])
    (h : ∀ r m', Vd 3 100 r → Dk (c + 1) tl m' → Q (.f r) m') : dCall p_oddX EX0 da env m Q :=
  call_is [.f (.obj 1), .f (.tup [.int a, .int b])] [.obj 1, .tup [.int a, .int b]] ha rfl ⟨rfl, ((c, tl), a, b), ⟨rfl, ⟨ha', hb⟩, hd, hc⟩, fun r m' ⟨h1, h2⟩ => h r m' h1 h2⟩
end DL.S

set_option maxHeartbeats 1000000
namespace DL.S
open PySem PySem.Spec PyProof.Rows L2 DL
def rd_beside (C : Ct)  (p_Net_at : DSp) (p_Net_far : DSp) (EX : QXe) : TSd :=
  (sRet (dNew (nSort (dNew (nLc (.nm 3) (dTst (dBin (oIn not) (dVar 3) (dVar 1))) (dMeth 3 p_Net_far EX0 (dVar 0) (dCons (dVar 3) (dCons (dVar 2) dNil))) [3] (iVal (dMeth 3 p_Net_at EX0 (dVar 0) (dCons (dVar 2) dNil))))))))
def rd_spread (C : Ct) (p_beside : DSp) (EX : QXe) : TSd :=
  (sSeq (sSetDk 3 (dVar 2) (dC (.int 0)))
  (sSeq (sAsg (.nm 4) (dNew (nLst (dCons (dVar 2) dNil))))
  (sSeq (sWhile (dTst (dBin (oEq not) (dVar 4) (dNew (nLst dNil))))
  (sSeq (sSetN 5 (nLst dNil))
  (sSeq (sFor (.nm 6) (iVal (dVar 4))
  (sFor (.nm 7) (iVal (dCall p_beside EX0 (dCons (dVar 0) (dCons (dVar 1) (dCons (dVar 6) dNil)))))
  (sIf (dTst (dBin (oInDk not) (dVar 7) (dVar 3)))
  (sSeq (sPutDk (dBin oAdd (dBin oIxDk (dVar 3) (dVar 6)) (dC (.int 1))) (dVar 3) (dVar 7))
  (sApp (dVar 5) (dVar 7)))
  sNext)))
  (sKeep 5 (sAsg (.nm 4) (dVar 5))))))
  (sKeep 3 (sRet (dVar 3))))))
def rd_way (C : Ct) (p_spread : DSp) (p_beside : DSp) (EX : QXe) : TSd :=
  (sSeq (sAsg (.nm 4) (dCall p_spread EX0 (dCons (dVar 0) (dCons (dVar 1) (dCons (dVar 3) dNil)))))
  (sSeq (sIf (dTst (dBin (oInDk not) (dVar 2) (dVar 4)))
  (sRet (dC .non))
  sNext)
  (sSeq (sSetN 5 (nLst (dCons (dVar 2) dNil)))
  (sSeq (sWhile (dTst (dBin (oEq not) (dBin oIx (dVar 5) (dUn (oU fun i => -i) (dC (.int 1)))) (dVar 3)))
  (sSeq (sAsg (.nm 6) (dBin oIx (dVar 5) (dUn (oU fun i => -i) (dC (.int 1)))))
  (sApp (dVar 5) (dBin oIx (dNew (nLc (.nm 7) (dTst (dBin (oEq id) (dBin oIxDk (dVar 4) (dVar 7)) (dBin oSub (dBin oIxDk (dVar 4) (dVar 6)) (dC (.int 1))))) (dVar 7) [7] (iVal (dCall p_beside EX0 (dCons (dVar 0) (dCons (dVar 1) (dCons (dVar 6) dNil))))))) (dC (.int 0))))))
  (sKeep 5 (sRet (dN oTuple (dCons (dVar 5) dNil))))))))
end DL.S

set_option maxHeartbeats 1000000
namespace DL.S
open PySem PySem.Spec PyProof.Rows L2 DL K02

/-! ### nodes beside one another by unbroken links; how far they are (no program in sight) -/
def farN (p : Lk) (v : Nat) : Nat := if v = p.1 then p.2 else p.1
/-- the unbroken links at a node -/
def opn (ps : List Lk) (o : List Nat) (v : Nat) : List (Lk × Nat) := ps.zipIdx.filter fun q => decide (q.1.1 = v ∨ q.1.2 = v) && !decide (q.2 ∈ o)
def adj (ps : List Lk) (o : List Nat) (v : Nat) : List Nat := ((opn ps o v).map fun q => farN q.1 v).mergeSort fun a b => decide (a ≤ b)
theorem mem_adj {n : Nat} {ps : List Lk} {o : List Nat} (h : NetOk n ps) {u v : Nat} : u ∈ adj ps o v ↔ ∃ k p, ps[k]? = some p ∧ k ∉ o ∧ ((p.1 = v ∧ p.2 = u) ∨ (p.2 = v ∧ p.1 = u)) := by
  unfold adj opn
  rw [(List.mergeSort_perm _ _).mem_iff, List.mem_map]
  constructor
  · rintro ⟨⟨p, k⟩, hq, rfl⟩
    rw [List.mem_filter, Bool.and_eq_true, decide_eq_true_iff, Bool.not_eq_true', decide_eq_false_iff_not] at hq
    obtain ⟨h1, h2, h3⟩ := hq
    have hp : ps[k]? = some p := List.mk_mem_zipIdx_iff_getElem?.mp h1
    have ho := h.ord p (List.mem_of_getElem? hp)
    refine ⟨k, p, hp, h3, ?_⟩
    unfold farN
    have h2 : p.1 = v ∨ p.2 = v := h2
    by_cases e : v = p.1
    · exact .inl ⟨e.symm, by rw [if_pos e]⟩
    · rcases h2 with z | z
      · exact absurd z.symm e
      · exact .inr ⟨z, by rw [if_neg e]⟩
  · rintro ⟨k, p, hp, ho, hc⟩
    have hord := h.ord p (List.mem_of_getElem? hp)
    refine ⟨(p, k), ?_, ?_⟩
    · rw [List.mem_filter, Bool.and_eq_true, decide_eq_true_iff, Bool.not_eq_true', decide_eq_false_iff_not]
      refine ⟨List.mk_mem_zipIdx_iff_getElem?.mpr hp, ?_, ho⟩
      rcases hc with z | z
      · exact .inl z.1
      · exact .inr z.1
    · show farN p v = u
      unfold farN
      rcases hc with ⟨z1, z2⟩ | ⟨z1, z2⟩
      · rw [if_pos z1.symm]; exact z2
      · rw [if_neg (by omega)]; exact z2
theorem adj_symm {n : Nat} {ps : List Lk} {o : List Nat} (h : NetOk n ps) {u v : Nat} (hu : u ∈ adj ps o v) : v ∈ adj ps o u := by
  rw [mem_adj h] at hu ⊢
  obtain ⟨k, p, h1, h2, h3⟩ := hu
  exact ⟨k, p, h1, h2, h3.elim (fun z => .inr ⟨z.2, z.1⟩) (fun z => .inl ⟨z.2, z.1⟩)⟩
theorem adj_lt {n : Nat} {ps : List Lk} {o : List Nat} (h : NetOk n ps) {u v : Nat} (hu : u ∈ adj ps o v) : u < n ∧ v < n := by
  rw [mem_adj h] at hu
  obtain ⟨k, p, h1, h2, h3⟩ := hu
  have := h.ord p (List.mem_of_getElem? h1)
  omega
/-! levels, for any way of being beside -/
section
variable (n : Nat) (A : Nat → List Nat) (g : Nat)
def lev : Nat → Nat → Option Nat
  | 0, v => if v = g then some 0 else none
  | k + 1, v => match lev k v with
    | some d => some d
    | none => if ((List.range n).any fun u => decide (lev k u = some k) && decide (v ∈ A u)) = true then some (k + 1) else none
end
section
variable {n : Nat} {A : Nat → List Nat} {g : Nat}
theorem lev_succ (k v : Nat) : lev n A g (k + 1) v = match lev n A g k v with
    | some d => some d
    | none => if ((List.range n).any fun u => decide (lev n A g k u = some k) && decide (v ∈ A u)) = true then some (k + 1) else none := rfl
theorem lev_le {k v d : Nat} (h : lev n A g k v = some d) : d ≤ k := by
  induction k generalizing d with
  | zero =>
    unfold lev at h
    split at h
    · cases h; exact Nat.le_refl _
    · cases h
  | succ k ih =>
    unfold lev at h
    split at h
    · cases h; have := ih ‹_›; omega
    · split at h
      · cases h; exact Nat.le_refl _
      · cases h
theorem lev_up {k v d : Nat} (h : lev n A g k v = some d) : lev n A g (k + 1) v = some d := by
  unfold lev
  rw [h]
theorem lev_ups {k j v d : Nat} (h : lev n A g k v = some d) : lev n A g (k + j) v = some d := by
  induction j with
  | zero => exact h
  | succ j ih => exact lev_up ih
/-- what is told at a later level was told at its own -/
theorem lev_at {k v d : Nat} (h : lev n A g k v = some d) : lev n A g d v = some d := by
  induction k generalizing d with
  | zero =>
    have := lev_le h
    have e : d = 0 := by omega
    subst e; exact h
  | succ k ih =>
    have h' := h
    unfold lev at h
    split at h
    · cases h; exact ih ‹_›
    · split at h
      · cases h; exact h'
      · cases h
/-- where it comes from -/
theorem lev_pre {k v d : Nat} (h : lev n A g k v = some (d + 1)) : ∃ u, u < n ∧ lev n A g k u = some d ∧ v ∈ A u := by
  have h1 := lev_at h
  have hk := lev_le h
  unfold lev at h1
  split at h1
  · cases h1
    have := lev_le (d := d + 1) ‹_›
    omega
  · split at h1
    · rename_i hc
      obtain ⟨u, hu, hc⟩ := List.any_eq_true.mp hc
      rw [Bool.and_eq_true, decide_eq_true_iff, decide_eq_true_iff] at hc
      refine ⟨u, List.mem_range.mp hu, ?_, hc.2⟩
      have := lev_ups (j := k - d) hc.1
      rwa [show d + (k - d) = k by omega] at this
    · cases h1
/-- beside what is told early enough -/
theorem lev_next {k u v d : Nat} (h : lev n A g k u = some d) (hd : d < k) (hu : u < n) (hv : v ∈ A u) : ∃ e, lev n A g k v = some e ∧ e ≤ d + 1 := by
  have h1 := lev_at h
  have h2 : ∃ e, lev n A g (d + 1) v = some e := by
    unfold lev
    split
    · exact ⟨_, rfl⟩
    · rw [if_pos (List.any_eq_true.mpr ⟨u, List.mem_range.mpr hu, by rw [Bool.and_eq_true, decide_eq_true_iff, decide_eq_true_iff]; exact ⟨h1, hv⟩⟩)]
      exact ⟨_, rfl⟩
  obtain ⟨e, he⟩ := h2
  have le := lev_le he
  refine ⟨e, ?_, le⟩
  have := lev_ups (j := k - (d + 1)) he
  rwa [show d + 1 + (k - (d + 1)) = k by omega] at this
/-- a level without nodes: no more come -/
theorem lev_stop {k : Nat} (h : ∀ u, u < n → lev n A g k u ≠ some k) (j v : Nat) : lev n A g (k + j) v = lev n A g k v := by
  have key : ∀ j, (∀ v, lev n A g (k + j) v = lev n A g k v) := by
    intro j
    induction j with
    | zero => intro v; rfl
    | succ j ih =>
      intro v
      rw [show k + (j + 1) = k + j + 1 from rfl, lev_succ, ih v]
      cases e : lev n A g k v with
      | some d => rfl
      | none =>
        dsimp only
        rw [if_neg]
        rw [List.any_eq_true]
        rintro ⟨u, hu, hc⟩
        rw [Bool.and_eq_true, decide_eq_true_iff, decide_eq_true_iff, ih u] at hc
        have le := lev_le hc.1
        have ej : j = 0 := by omega
        subst ej
        exact h u (List.mem_range.mp hu) hc.1
  exact key j v
/-! how many are told -/
def cnt (n : Nat) (A : Nat → List Nat) (g k : Nat) : Nat := ((List.range n).filter fun v => (lev n A g k v).isSome).length
theorem filter_more {α : Type} {p q : α → Bool} : ∀ {l : List α}, (∀ x ∈ l, p x = true → q x = true) → (l.filter p).length ≤ (l.filter q).length ∧ ((∃ x ∈ l, q x = true ∧ p x = false) → (l.filter p).length + 1 ≤ (l.filter q).length)
  | [], _ => ⟨Nat.le_refl _, fun ⟨_, h, _⟩ => by cases h⟩
  | x :: l, h => by
    obtain ⟨h1, h2⟩ := filter_more (l := l) fun y hy => h y (List.mem_cons_of_mem _ hy)
    cases hp : p x with
    | true =>
      have hq := h x List.mem_cons_self hp
      rw [List.filter_cons_of_pos hp, List.filter_cons_of_pos hq, List.length_cons, List.length_cons]
      refine ⟨by omega, fun ⟨y, hy, a, b⟩ => ?_⟩
      rcases List.mem_cons.mp hy with rfl | q
      · rw [hp] at b; cases b
      · have := h2 ⟨y, q, a, b⟩; omega
    | false =>
      rw [List.filter_cons_of_neg (by rw [hp]; decide)]
      cases hq : q x with
      | true =>
        rw [List.filter_cons_of_pos hq, List.length_cons]
        exact ⟨by omega, fun _ => by omega⟩
      | false =>
        rw [List.filter_cons_of_neg (by rw [hq]; decide)]
        refine ⟨h1, fun ⟨y, hy, a, b⟩ => ?_⟩
        rcases List.mem_cons.mp hy with rfl | z
        · rw [hq] at a; cases a
        · exact h2 ⟨y, z, a, b⟩
theorem cnt_le (k : Nat) : cnt n A g k ≤ n := by
  unfold cnt
  have := List.length_filter_le (fun v => (lev n A g k v).isSome) (List.range n)
  simpa using this
theorem cnt_step {k : Nat} (h : ∃ u, u < n ∧ lev n A g (k + 1) u = some (k + 1)) : cnt n A g k + 1 ≤ cnt n A g (k + 1) := by
  refine (filter_more (fun v _ hv => ?_)).2 ?_
  · obtain ⟨d, hd⟩ := Option.isSome_iff_exists.mp hv
    rw [lev_up hd]; rfl
  · obtain ⟨u, hu, e⟩ := h
    refine ⟨u, List.mem_range.mpr hu, by rw [e]; rfl, ?_⟩
    cases z : lev n A g k u with
    | none => rfl
    | some d =>
      have := lev_up z
      rw [e] at this
      cases this
      have := lev_le z
      omega
theorem cnt_ge (hg : g < n) {k : Nat} (h : ∀ j ≤ k, ∃ u, u < n ∧ lev n A g j u = some j) : k + 1 ≤ cnt n A g k := by
  induction k with
  | zero =>
    have : 0 < cnt n A g 0 := by
      unfold cnt
      refine List.length_pos_iff.mpr fun e => ?_
      have : g ∈ (List.range n).filter fun v => (lev n A g 0 v).isSome := List.mem_filter.mpr ⟨List.mem_range.mpr hg, by unfold lev; rw [if_pos rfl]; rfl⟩
      rw [e] at this
      cases this
    omega
  | succ k ih =>
    have h1 := ih fun j hj => h j (by omega)
    have h2 := cnt_step (h (k + 1) (Nat.le_refl _))
    omega
/-- all are told -/
theorem cnt_all {k v : Nat} (h : n ≤ cnt n A g k) (hv : v < n) : ∃ d, lev n A g k v = some d := by
  cases e : lev n A g k v with
  | some d => exact ⟨d, rfl⟩
  | none =>
    exfalso
    have := (filter_more (l := List.range n) (p := fun v => (lev n A g k v).isSome) (q := fun _ => true) (fun _ _ _ => rfl)).2 ⟨v, List.mem_range.mpr hv, rfl, by rw [e]; rfl⟩
    rw [List.filter_eq_self.mpr (fun _ _ => rfl), List.length_range] at this
    unfold cnt at h
    omega
/-- the levels end before n, or with all told -/
theorem lev_end (hg : g < n) {k : Nat} (he : ∀ u, u < n → lev n A g k u ≠ some k) (hb : ∀ j < k, ∃ u, u < n ∧ lev n A g j u = some j) : k ≤ n ∧ ∀ v, v < n → lev n A g (n - 1) v = lev n A g k v := by
  have h1 : k ≤ n := by
    cases k with
    | zero => omega
    | succ k =>
      have a := cnt_ge (k := k) hg fun j hj => hb j (by omega)
      have b := cnt_le (n := n) (A := A) (g := g) k
      omega
  refine ⟨h1, fun v hv => ?_⟩
  by_cases hk : k ≤ n - 1
  · have := lev_stop he (n - 1 - k) v
    rwa [show k + (n - 1 - k) = n - 1 by omega] at this
  · have ek : k = n - 1 + 1 := by omega
    have a := cnt_ge hg (k := n - 1) fun j hj => hb j (by omega)
    obtain ⟨d, hd⟩ := cnt_all (n := n) (A := A) (g := g) (k := n - 1) (by omega) hv
    rw [hd, ek, lev_up hd]
/-! a table of nodes and how far they are, as it is filled -/
def getN (kn : List (Nat × Nat)) (v : Nat) : Option Nat := (kn.find? fun p => decide (p.1 = v)).map (·.2)
theorem getN_none {kn : List (Nat × Nat)} {v : Nat} : getN kn v = none ↔ v ∉ kn.map (·.1) := by
  induction kn with
  | nil => simp [getN]
  | cons p kn ih =>
    by_cases e : p.1 = v
    · simp [getN, List.find?_cons, e]
    · have : getN (p :: kn) v = getN kn v := by simp [getN, List.find?_cons, e]
      rw [this, ih, List.map_cons, List.mem_cons, not_or]
      exact ⟨fun h => ⟨fun z => e z.symm, h⟩, fun h => h.2⟩
theorem getN_snoc {kn : List (Nat × Nat)} {w d v : Nat} (h : getN kn w = none) : getN (kn ++ [(w, d)]) v = if v = w then some d else getN kn v := by
  induction kn with
  | nil =>
    by_cases e : w = v
    · simp [getN, List.find?_cons, e]
    · have e' : ¬ v = w := fun z => e z.symm
      simp [getN, List.find?_cons, e, e']
  | cons p kn ih =>
    by_cases e : p.1 = v
    · have ne : ¬ v = w := fun z => by
        rw [getN_none, List.map_cons, List.mem_cons, not_or] at h
        exact h.1 (by rw [e]; exact z.symm)
      simp [getN, List.find?_cons, e, ne]
    · have h' : getN kn w = none := by
        rw [getN_none] at h ⊢
        exact fun z => h (List.mem_cons_of_mem _ z)
      have a : getN (p :: kn ++ [(w, d)]) v = getN (kn ++ [(w, d)]) v := by simp [getN, List.find?_cons, e]
      have b : getN (p :: kn) v = getN kn v := by simp [getN, List.find?_cons, e]
      rw [a, b, ih h']
/-- within a round: acc has been looked at -/
structure Mid (n : Nat) (A : Nat → List Nat) (g k : Nat) (acc : List Nat) (kn : List (Nat × Nat)) (more : List Nat) : Prop where
  mem : ∀ v, v ∈ more ↔ v ∈ acc ∧ lev n A g k v = none
  get : ∀ v, getN kn v = match lev n A g k v with
    | some d => some d
    | none => if v ∈ more then some (k + 1) else none
  nd : (kn.map (·.1)).Nodup
  lt : ∀ p ∈ kn, p.1 < n ∧ p.2 ≤ n
  ml : more.length ≤ kn.length
theorem Mid.new {k w : Nat} {acc : List Nat} {kn : List (Nat × Nat)} {more : List Nat} (h : Mid n A g k acc kn more) (hw : getN kn w = none) (hn : w < n) (hk : k < n) : Mid n A g k (acc ++ [w]) (kn ++ [(w, k + 1)]) (more ++ [w]) := by
  have hl : lev n A g k w = none ∧ w ∉ more := by
    have := h.get w
    rw [hw] at this
    cases e : lev n A g k w with
    | some d => rw [e] at this; cases this
    | none =>
      rw [e] at this
      refine ⟨rfl, fun z => ?_⟩
      simp [z] at this
  refine ⟨fun v => ?_, fun v => ?_, ?_, fun p hp => ?_, by simp; exact h.ml⟩
  · rw [List.mem_append, List.mem_append, List.mem_singleton, h.mem]
    constructor
    · rintro (⟨a, b⟩ | rfl)
      · exact ⟨.inl a, b⟩
      · exact ⟨.inr rfl, hl.1⟩
    · rintro ⟨a | rfl, b⟩
      · exact .inl ⟨a, b⟩
      · exact .inr rfl
  · rw [getN_snoc hw, h.get v]
    by_cases e : v = w
    · subst e
      rw [if_pos rfl, hl.1]
      simp
    · rw [if_neg e]
      cases lev n A g k v with
      | some d => rfl
      | none => simp [e]
  · rw [List.map_append, List.nodup_append]
    refine ⟨h.nd, by simp, fun a ha b hb e => ?_⟩
    simp at hb
    subst hb e
    exact getN_none.mp hw ha
  · rcases List.mem_append.mp hp with q | q
    · exact h.lt p q
    · rw [List.mem_singleton.mp q]; exact ⟨hn, by show k + 1 ≤ n; omega⟩
theorem Mid.old {k w d : Nat} {acc : List Nat} {kn : List (Nat × Nat)} {more : List Nat} (h : Mid n A g k acc kn more) (hw : getN kn w = some d) : Mid n A g k (acc ++ [w]) kn more := by
  refine ⟨fun v => ?_, h.get, h.nd, h.lt, h.ml⟩
  rw [List.mem_append, List.mem_singleton, h.mem]
  constructor
  · exact fun ⟨a, b⟩ => ⟨.inl a, b⟩
  · rintro ⟨a | rfl, b⟩
    · exact ⟨a, b⟩
    · have := h.get v
      rw [hw, b] at this
      by_cases z : v ∈ more
      · exact ⟨((h.mem v).mp z).1, b⟩
      · simp [z] at this
/-- at the start of a round -/
structure Rnd (n : Nat) (A : Nat → List Nat) (g k : Nat) (kn : List (Nat × Nat)) (E : List Nat) : Prop where
  mem : ∀ v, v ∈ E ↔ lev n A g k v = some k
  get : ∀ v, getN kn v = lev n A g k v
  nd : (kn.map (·.1)).Nodup
  lt : ∀ p ∈ kn, p.1 < n ∧ p.2 ≤ n
  el : E.length ≤ kn.length
theorem Rnd.start (hg : g < n) : Rnd n A g 0 [(g, 0)] [g] := by
  refine ⟨fun v => ?_, fun v => ?_, by simp, fun p hp => ?_, by simp⟩
  · unfold lev
    rw [List.mem_singleton]
    by_cases e : v = g <;> simp [e]
  · unfold lev
    by_cases e : v = g
    · simp [getN, e]
    · have e' : ¬ g = v := fun z => e z.symm
      simp [getN, e, e']
  · rw [List.mem_singleton.mp hp]; exact ⟨hg, Nat.zero_le _⟩
theorem Rnd.mid {k : Nat} {kn : List (Nat × Nat)} {E : List Nat} (h : Rnd n A g k kn E) : Mid n A g k [] kn [] := by
  refine ⟨fun v => by simp, fun v => ?_, h.nd, h.lt, by simp⟩
  rw [h.get v]
  cases lev n A g k v <;> simp
theorem Rnd.next {k : Nat} {kn kn' : List (Nat × Nat)} {E more : List Nat} (h : Rnd n A g k kn E) (hE : ∀ u ∈ E, u < n) (m : Mid n A g k (E.flatMap A) kn' more) : Rnd n A g (k + 1) kn' more := by
  have key : ∀ v, lev n A g k v = none → (v ∈ more ↔ lev n A g (k + 1) v = some (k + 1)) := fun v e => by
    rw [m.mem, lev_succ, e]
    dsimp only
    have : v ∈ E.flatMap A ↔ ((List.range n).any fun u => decide (lev n A g k u = some k) && decide (v ∈ A u)) = true := by
      rw [List.mem_flatMap, List.any_eq_true]
      constructor
      · rintro ⟨u, hu, hv⟩
        exact ⟨u, List.mem_range.mpr (hE u hu), by rw [Bool.and_eq_true, decide_eq_true_iff, decide_eq_true_iff]; exact ⟨(h.mem u).mp hu, hv⟩⟩
      · rintro ⟨u, hu, hc⟩
        rw [Bool.and_eq_true, decide_eq_true_iff, decide_eq_true_iff] at hc
        exact ⟨u, (h.mem u).mpr hc.1, hc.2⟩
    rw [this]
    by_cases z : ((List.range n).any fun u => decide (lev n A g k u = some k) && decide (v ∈ A u)) = true
    · simp [z]
    · rw [if_neg z]
      simp [z]
  refine ⟨fun v => ?_, fun v => ?_, m.nd, m.lt, m.ml⟩
  · cases e : lev n A g k v with
    | none => exact key v e
    | some d =>
      rw [m.mem, e, lev_up e]
      have := lev_le e
      constructor
      · rintro ⟨_, z⟩; cases z
      · intro z; cases z; omega
  · rw [m.get v]
    cases e : lev n A g k v with
    | some d => exact (lev_up e).symm
    | none =>
      dsimp only
      by_cases z : v ∈ more
      · rw [if_pos z, (key v e).mp z]
      · rw [if_neg z]
        cases e2 : lev n A g (k + 1) v with
        | none => rfl
        | some d =>
          have hd := lev_le e2
          have hd2 : d = k + 1 := by
            by_cases q : d ≤ k
            · have := lev_at e2
              have := lev_ups (j := k - d) this
              rw [show d + (k - d) = k by omega, e] at this
              cases this
            · omega
          subst hd2
          exact absurd ((key v e).mpr e2) z
end
end DL.S

set_option maxHeartbeats 1000000
namespace DL.S
open PySem PySem.Spec PyProof.Rows L2 DL K02

/-! ### beside, spread -/
def natsD (ns : List Nat) : List Dat := ns.map fun k : Nat => .int (k : Nat)
theorem nat_sort (ns : List Nat) : sortD (natsD ns) = natsD (ns.mergeSort fun a b => decide (a ≤ b)) := by
  have e : natsD ns = (ns.map fun k : Nat => (k : Int)).map Dat.int := by rw [List.map_map]; rfl
  rw [e, sortD_ints]
  have e2 := List.map_mergeSort (r := fun a b : Nat => decide (a ≤ b)) (s := fun a b : Int => decide (a ≤ b)) (f := fun k : Nat => (k : Int)) (l := ns) fun a _ b _ => decide_eq_decide.mpr (by omega)
  rw [← e2, List.map_map]; rfl
theorem okN_nats {k : Nat} (ns : List Nat) : (natsD ns).all (okN k) = true := by
  rw [List.all_eq_true]
  intro x hx
  obtain ⟨p, _, rfl⟩ := List.mem_map.mp hx
  exact okR1 _ _
theorem any_nats (ns : List Nat) (k : Nat) : ((natsD ns).any fun b => eqd b (.int (k : Nat))) = decide (k ∈ ns) := by
  rw [Bool.eq_iff_iff, List.any_eq_true, decide_eq_true_iff]
  constructor
  · rintro ⟨x, hx, he⟩
    obtain ⟨j, hj, rfl⟩ := List.mem_map.mp hx
    rw [eqd_ii, decide_eq_true_iff] at he
    have : j = k := by omega
    exact this ▸ hj
  · intro h
    exact ⟨_, List.mem_map.mpr ⟨k, h, rfl⟩, by rw [eqd_ii]; simp⟩
theorem far_cast {ps : List Lk} {k v : Nat} {p : Lk} (h : ps[k]? = some p) : farL ps k (v : Int) = (farN p v : Nat) := by
  have eg : ps.getD k (0, 0) = p := by rw [List.getD_eq_getElem?_getD, h]; rfl
  unfold farL farN
  rw [eg]
  by_cases e : v = p.1
  · rw [if_pos (by omega), if_pos e]
  · rw [if_neg (by omega), if_neg e]
def p_beside : DSp := pT 3 (fun g : (Nat × List Lk) × List Nat × Nat => [netD g.1.1 g.1.2, outD g.2.1, .int g.2.2]) (fun g => NetOk g.1.1 g.1.2) (fun g => .lst (natsD (adj g.1.2 g.2.1 g.2.2)))
theorem small_nats {ns : List Nat} (h : ∀ k ∈ ns, k < 1000) : sortOk (natsD ns) := by
  have e : natsD ns = (ns.map fun k : Nat => (k : Int)).map Dat.int := by rw [natsD, List.map_map]; rfl
  rw [e]
  refine sortOk_ints fun i hi => ?_
  obtain ⟨k, hk, rfl⟩ := List.mem_map.mp hi
  have := h k hk
  exact small (by omega) (by omega)
theorem law_beside (C : Ct) : ∀ ds m (Q : QD) (E : QX), p_beside ds m Q E → rd_beside C p_nat p_nfar (fun c xs _ m => E c xs m) { nx := fun _ m => Q .non m, rt := Q } (env0 4 ds) m := by
  rintro _ m Q E ⟨_, ⟨⟨n, ps⟩, o, v⟩, rfl, h, hq⟩
  have h : NetOk n ps := h
  have h8 := h.l8
  show rd_beside C p_nat p_nfar _ _ [some (.f (netD n ps)), some (.f (outD o)), some (.f (.int v)), none] m
  unfold rd_beside
  have ea : Ev (dMeth 3 p_nat EX0 (dVar 0) (dCons (dVar 2) dNil)) [some (.f (netD n ps)), some (.f (outD o)), some (.f (.int v)), none] m (.f (.tup ((atL ps v).map fun k : Nat => .int (k : Nat)))) :=
    ev_me (ev_v rfl) rfl (eva_cons (ev_v rfl) eva_nil) rfl fun Q E q => ⟨rfl, ((n, ps), (v : Int)), rfl, h8, q⟩
  have e1 : EvN (nLc (.nm 3) (dTst (dBin (oIn not) (dVar 3) (dVar 1))) (dMeth 3 p_nfar EX0 (dVar 0) (dCons (dVar 3) (dCons (dVar 2) dNil))) [3] (iVal (dMeth 3 p_nat EX0 (dVar 0) (dCons (dVar 2) dNil)))) [some (.f (netD n ps)), some (.f (outD o)), some (.f (.int v)), none] m (natsD ((opn ps o v).map fun q => farN q.1 v)) := by
    have z := evn_lcf (env := [some (.f (netD n ps)), some (.f (outD o)), some (.f (.int v)), none]) (m := m) (tg := .nm 3) (dt := dTst (dBin (oIn not) (dVar 3) (dVar 1))) (de := dMeth 3 p_nfar EX0 (dVar 0) (dCons (dVar 3) (dCons (dVar 2) dNil))) (vs := [3]) (di := iVal (dMeth 3 p_nat EX0 (dVar 0) (dCons (dVar 2) dNil)))
      (xs := ps.zipIdx.filter fun p => decide ((p.1.1 : Int) = v ∨ (p.1.2 : Int) = v)) (g := fun q => .int (q.2 : Nat)) (f := fun q => .int (farN q.1 v : Nat)) (t := fun q => !decide (q.2 ∈ o)) (evi_tup ea) (by unfold atL; rw [List.map_map]; rfl)
      (by have := List.length_filter_le (fun p : Lk × Nat => decide ((p.1.1 : Int) = v ∨ (p.1.2 : Int) = v)) ps.zipIdx; rw [List.length_zipIdx] at this; exact sz (by omega)) (fun q hq => ⟨_, rfl, ?_, fun _ => ?_⟩)
    · refine z.eq ?_
      unfold opn natsD
      rw [List.filter_filter, List.map_map]
      have e : (fun a : Lk × Nat => !decide (a.2 ∈ o) && decide ((a.1.1 : Int) = v ∨ (a.1.2 : Int) = v)) = fun q : Lk × Nat => decide (q.1.1 = v ∨ q.1.2 = v) && !decide (q.2 ∈ o) := by
        funext a
        rw [Bool.and_comm]
        congr 1
        exact decide_eq_decide.mpr (by omega)
      rw [e]
      rfl
    · refine (evb_tst (ev_bin (ev_v rfl) (ev_v rfl) (e2_in (f := not) (a := .int q.2) (bs := natsD o) rfl rfl (okR1 _ _) (okN_nats o)))).eq ?_
      rw [any_nats]
    · have hp : ps[q.2]? = some q.1 := List.mk_mem_zipIdx_iff_getElem?.mp (List.mem_filter.mp hq).1
      have hlt := (List.getElem?_eq_some_iff.mp hp).1
      refine Ev.eq (v := .f (.int (farL ps q.2 v))) (ev_me (ev_v rfl) rfl (eva_cons (ev_v rfl) (eva_cons (ev_v rfl) eva_nil)) rfl fun Q E k => ⟨rfl, ((n, ps), q.2, (v : Int)), rfl, hlt, k⟩) ?_
      rw [far_cast hp]
  have hs : ∀ k ∈ (opn ps o v).map (fun q => farN q.1 v), k < 1000 := fun k hk => by
    have : k ∈ adj ps o v := (List.mergeSort_perm _ _).mem_iff.mpr hk
    have := adj_lt h this
    have := h.n7
    omega
  refine st_ret (a := .lst (natsD (adj ps o v))) (ev_new ((evn_sort (ev_new e1) rfl (small_nats hs)).eq ?_)) hq
  rw [nat_sort]
  rfl
theorem ev_beside {env : Env'} {m : Mem} {da : TAd} {n v : Nat} {ps : List Lk} {o : List Nat} (h : NetOk n ps) (ha : EvA da env m [.f (netD n ps), .f (outD o), .f (.int v)]) : Ev (dCall p_beside EX0 da) env m (.f (.lst (natsD (adj ps o v)))) :=
  ev_call ha rfl fun Q E q => ⟨rfl, ((n, ps), o, v), rfl, h, q⟩

theorem nodup_len : ∀ {n : Nat} {l : List Nat}, l.Nodup → (∀ x ∈ l, x < n) → l.length ≤ n
  | 0, l, _, h => by
    cases l with
    | nil => simp
    | cons a l => exact absurd (h a (by simp)) (by omega)
  | n + 1, l, hn, h => by
    by_cases hm : n ∈ l
    · have e := List.length_erase_of_mem hm
      have := nodup_len (n := n) (l := l.erase n) (hn.erase n) fun x hx => by
        have h1 := h x (List.mem_of_mem_erase hx)
        have h2 : x ≠ n := fun z => by
          subst z
          exact (List.Nodup.not_mem_erase hn) hx
        omega
      omega
    · have := nodup_len (n := n) (l := l) hn fun x hx => by
        have h1 := h x hx
        have h2 : x ≠ n := fun z => hm (z ▸ hx)
        omega
      omega
def knD (kn : List (Nat × Nat)) : List (Int × Dat) := kn.map fun p => ((p.1 : Int), .int (p.2 : Nat))
theorem getI_kn (kn : List (Nat × Nat)) (v : Nat) : getI (knD kn) (v : Int) = (getN kn v).map fun d => .int (d : Nat) := by
  induction kn with
  | nil => rfl
  | cons p kn ih =>
    by_cases e : p.1 = v
    · have e' : (p.1 : Int) = v := by omega
      simp [knD, getI, getN, List.find?_cons, e, e']
    · have e' : ¬ (p.1 : Int) = v := by omega
      have a : getI (knD (p :: kn)) (v : Int) = getI (knD kn) v := by simp [knD, getI, List.find?_cons, e']
      have b : getN (p :: kn) v = getN kn v := by simp [getN, List.find?_cons, e]
      rw [a, b, ih]
theorem kn_nd {kn : List (Nat × Nat)} (h : (kn.map (·.1)).Nodup) : ((knD kn).map (·.1)).Nodup := by
  have e : (knD kn).map (·.1) = (kn.map (·.1)).map fun k : Nat => (k : Int) := by
    unfold knD
    rw [List.map_map, List.map_map]; rfl
  rw [e]
  exact List.Pairwise.map _ (fun a b hab z => hab (by omega)) h
theorem any_kn (kn : List (Nat × Nat)) (v : Nat) : ((knD kn).any fun p => decide (p.1 = (v : Int))) = (getN kn v).isSome := by
  induction kn with
  | nil => rfl
  | cons p kn ih =>
    by_cases e : p.1 = v
    · have e' : (p.1 : Int) = v := by omega
      simp [knD, getN, List.find?_cons, e, e']
    · have e' : ¬ (p.1 : Int) = v := by omega
      have b : getN (p :: kn) v = getN kn v := by simp [getN, List.find?_cons, e]
      have a : ((knD (p :: kn)).any fun p => decide (p.1 = (v : Int))) = ((knD kn).any fun p => decide (p.1 = (v : Int))) := by simp [knD, e']
      rw [a, b, ih]
theorem put_kn {kn : List (Nat × Nat)} {w d : Nat} (h : getN kn w = none) : putI (knD kn) (w : Int) (.int (d : Nat)) = knD (kn ++ [(w, d)]) := by
  unfold putI
  rw [any_kn, h]
  simp [knD]
theorem e2_inDk {f : Bool → Bool} {env : Env'} {m : Mem} {x : Lv} {ks : List (Int × Dat)} {k : Int} (h : iDct env m x = some ks) (nd : (ks.map (·.1)).Nodup) : Ev2 (oInDk f) env m (.f (.int k)) x (.bl (f (getI ks k).isSome)) := fun Q q => by
  unfold oInDk
  simp only [h]
  exact ⟨nd, q⟩
theorem e2_ixDk {env : Env'} {m : Mem} {x : Lv} {ks : List (Int × Dat)} {k : Int} {d : Dat} (h : iDct env m x = some ks) (nd : (ks.map (·.1)).Nodup) (hg : getI ks k = some d) : Ev2 oIxDk env m x (.f (.int k)) d := fun Q q => by
  unfold oIxDk
  simp only [h, hg]
  exact ⟨nd, q⟩
theorem st_putDk {i : Nat} {ks : List (Int × Dat)} {de di : TD} {k : Int} {z : Dat} {D : En} {env : Env'} {m : Mem} (e : env[i]? = some (some (.own (.dct (asDct ks))))) (he : Ev de env m (.f z)) (hi : Ev di env m (.f (.int k))) (nd : (ks.map (·.1)).Nodup) (hl : ks.length < sizeLine)
    (h : D.nx (env.set i (some (.own (.dct (asDct (putI ks k z)))))) m) : sPutDk de (dVar i) di D env m := by
  unfold sPutDk
  refine he _ (ev_o e _ (hi _ ?_))
  have em : moOf env m (.o i) = some (.dct (asDct ks)) := by unfold moOf; simp only [e]
  simp only [em, intKeys_as]
  exact ⟨nd, hl, h⟩
theorem iDct_own {env : Env'} {m : Mem} {i : Nat} {ks : List (Int × Dat)} (e : env[i]? = some (some (.own (.dct (asDct ks))))) : iDct env m (.o i) = some ks := by
  unfold iDct der
  simp only [e, moD]
  exact intKeys_as ks
theorem iDct_f {env : Env'} {m : Mem} {ks : List (Int × Dat)} : iDct env m (.f (.dct (asDct ks))) = some ks := by
  unfold iDct der
  exact intKeys_as ks
section
variable {n g k : Nat} {A : Nat → List Nat} {ps : List Lk} {o : List Nat} {m : Mem} {x4 : Option Sl}
theorem sp_inner {D : En} {u : Nat} (hu : lev n A g k u = some k) (hk : k < n) (h7 : n ≤ 7) : ∀ (ws acc : List Nat) (kn : List (Nat × Nat)) (more : List Nat) (x7 : Option Sl), (∀ w ∈ ws, w < n) → Mid n A g k acc kn more →
    (∀ kn' more' x7, Mid n A g k (acc ++ ws) kn' more' → D.nx [some (.f (netD n ps)), some (.f (outD o)), some (.f (.int g)), some (.own (.dct (asDct (knD kn')))), x4, some (.own (.lst (natsD more'))), some (.f (.int u)), x7] m) →
    forGo (.nm 7) (sIf (dTst (dBin (oInDk not) (dVar 7) (dVar 3)))
  (sSeq (sPutDk (dBin oAdd (dBin oIxDk (dVar 3) (dVar 6)) (dC (.int 1))) (dVar 3) (dVar 7))
  (sApp (dVar 5) (dVar 7)))
  sNext) D (natsD ws) [some (.f (netD n ps)), some (.f (outD o)), some (.f (.int g)), some (.own (.dct (asDct (knD kn)))), x4, some (.own (.lst (natsD more))), some (.f (.int u)), x7] m
  | [], acc, kn, more, x7, _, hM, h => h kn more x7 (by simpa using hM)
  | w :: ws, acc, kn, more, x7, hw, hM, h => by
    have hwn := hw w (by simp)
    have kl : kn.length ≤ 7 := by
      have := nodup_len hM.nd (n := n) fun x hx => by
        obtain ⟨p, hp, rfl⟩ := List.mem_map.mp hx
        exact (hM.lt p hp).1
      simp at this
      omega
    have s2 : 1000 ≤ sizeLine := sz (by decide)
    have ml := hM.ml
    have nd := kn_nd hM.nd
    have gu : getN kn u = some k := by rw [hM.get u, hu]
    show forGo _ _ _ (.int (w : Nat) :: natsD ws) _ _
    unfold forGo
    show (sIf _ _ _) _ [some (.f (netD n ps)), some (.f (outD o)), some (.f (.int g)), some (.own (.dct (asDct (knD kn)))), x4, some (.own (.lst (natsD more))), some (.f (.int u)), some (.f (.int w))] m
    have ev : EvB (dTst (dBin (oInDk not) (dVar 7) (dVar 3))) [some (.f (netD n ps)), some (.f (outD o)), some (.f (.int g)), some (.own (.dct (asDct (knD kn)))), x4, some (.own (.lst (natsD more))), some (.f (.int u)), some (.f (.int w))] m (not (getN kn w).isSome) :=
      (evb_tst (ev_bin (ev_v rfl) (ev_o rfl) (e2_inDk (f := not) (iDct_own rfl) nd))).eq (by rw [getI_kn]; cases getN kn w <;> rfl)
    cases hg : getN kn w with
    | some d =>
      refine st_ifF (ev.eq (by rw [hg]; rfl)) ?_
      show forGo _ _ _ _ _ _
      exact sp_inner hu hk h7 ws (acc ++ [w]) kn more _ (fun x hx => hw x (by simp [hx])) (hM.old hg) fun kn' more' y7 hM' => h kn' more' y7 (by simpa using hM')
    | none =>
      refine st_ifT (ev.eq (by rw [hg]; rfl)) ?_
      refine seq_i ?_
      refine st_putDk (ks := knD kn) (k := (w : Int)) (z := .int ((k : Int) + 1)) rfl (ev_bin (ev_bin (ev_o rfl) (ev_v rfl) (e2_ixDk (k := (u : Int)) (d := .int (k : Nat)) (iDct_own rfl) nd (by rw [getI_kn, gu]; rfl))) ev_c e2_add) (ev_v rfl) nd (by simp [knD]; omega) ?_
      rw [show ((k : Int) + 1) = ((k + 1 : Nat) : Int) by omega, put_kn hg]
      show sApp (dVar 5) (dVar 7) _ [some (.f (netD n ps)), some (.f (outD o)), some (.f (.int g)), some (.own (.dct (asDct (knD (kn ++ [(w, k + 1)]))))), x4, some (.own (.lst (natsD more))), some (.f (.int u)), some (.f (.int w))] m
      refine st_app rfl (ev_v rfl) (by simp [natsD]; omega) ?_
      show forGo _ _ _ _ [some (.f (netD n ps)), some (.f (outD o)), some (.f (.int g)), some (.own (.dct (asDct (knD (kn ++ [(w, k + 1)]))))), x4, some (.own (.lst (natsD more ++ [.int w]))), some (.f (.int u)), some (.f (.int w))] m
      rw [show natsD more ++ [.int (w : Nat)] = natsD (more ++ [w]) by simp [natsD]]
      exact sp_inner hu hk h7 ws (acc ++ [w]) _ _ _ (fun x hx => hw x (by simp [hx])) (hM.new hg hwn hk) fun kn' more' y7 hM' => h kn' more' y7 (by simpa using hM')
end
end DL.S

set_option maxHeartbeats 2000000
namespace K04
open PySem PySem.Spec PyProof.Rows L2 DL DL.S
def top (i : Nat) : Stmt := PySem.Challenge.pw_sparerows_k04_nets_of_links.main.body.getD i (.Pass ⟨0, 0, 0, 0⟩)
def inCls (s : Stmt) (i : Nat) : Stmt := match s with
  | .ClassDef _ _ _ body _ _ _ _ _ _ _ => body.getD i (.Pass ⟨0, 0, 0, 0⟩)
  | _ => .Pass ⟨0, 0, 0, 0⟩
def tab : Tab := { names := ["SpareError", "BadLink", "BadNet", "Net"], flds := [[], ["index"], ["error"], ["size", "pairs"]], owns := [3], ii := [], ib := [], it := [] }
def ft_error : List (Nat × Nat) := [(2, 0)]
def fi_error : Nat → Option Nat := fiOf ft_error
def ft_index : List (Nat × Nat) := [(1, 0)]
def fi_index : Nat → Option Nat := fiOf ft_index
def ise : List (Nat × Nat × Bool) := [(1, 1, true), (2, 1, false), (2, 2, true)]
def isE : Nat → Nat → Option Bool := fi2 ise
def ts_SpareError : List (Nat × Bool) := [(2, true), (1, true)]
def tst_SpareError : Nat → Option Bool := tsOf ts_SpareError
structure Txt (K : PySem.W.Frag) (mg : Str → Option Value) (C : Ct) : Prop where
  ns : NoSys K
  ct : CtOk C K
  f_abs : mg "abs" = none
  f_all : mg "all" = none
  f_bool : mg "bool" = none
  f_dict : mg "dict" = none
  f_enumerate : mg "enumerate" = none
  f_int : mg "int" = none
  f_isinstance : mg "isinstance" = none
  f_len : mg "len" = none
  f_list : mg "list" = none
  f_max : mg "max" = none
  f_min : mg "min" = none
  f_range : mg "range" = none
  f_repr : mg "repr" = none
  f_sorted : mg "sorted" = none
  f_str : mg "str" = none
  f_tuple : mg "tuple" = none
  f_zip : mg "zip" = none
  c_MAX_LINKS : ∃ t, mg "MAX_LINKS" = some (.int 8 t)
  c_MAX_NODES : ∃ t, mg "MAX_NODES" = some (.int 7 t)
  k_BadLink : mg "BadLink" = some (.ref (C.addr 1))
  k_BadNet : mg "BadNet" = some (.ref (C.addr 2))
  k_Net : mg "Net" = some (.ref (C.addr 3))
  fl_pairs : FiOk K C "pairs" fi_pairs
  fl_size : FiOk K C "size" fi_size
  xf_error : XfiOk K C "error" fi_error
  xf_index : XfiOk K C "index" fi_index
  isE : IsEOk K C isE
  g_SpareError : mg "SpareError" = some (.ref (C.addr 0))
  tst_SpareError : ∀ c b, tst_SpareError c = some b → PySem.W.exmOne K (.ref (C.addr c)) (.ref (C.addr 0)) = some b
section
variable {P : Program} {w : World} {K : PySem.W.Frag} {mg : Str → Option Value} {base : Heap} {C : Ct}
abbrev st_is_whole : Stmt := (top 8)
theorem sc_is_whole : FnScope ["value"] ["value"] (defScope st_is_whole) := ⟨rfl, rfl, rfl, by decide +kernel, rfl, by decide +kernel, by decide +kernel⟩
theorem wk_is_whole (T : Txt K mg C) {K0 : Nat} {f : Addr} {fd : FuncData} {p : DSp} (mono : MonoP p) (len : ∀ ds m Q E, p ds m Q E → ds.length = 1)
    (F : FunD K "is_whole" "is_whole" (defArgs st_is_whole) (defBody st_is_whole) (defScope st_is_whole) [] [] f fd)
    (law : ∀ ds m (Q : QD) (E : QX), p ds m Q E → rd_is_whole C  (fun c xs _ m => E c xs m) { nx := fun _ m => Q .non m, rt := Q } (env0 1 ds) m) : DF P w K mg base C (K0 + 1) f fd ["value"] p := by
  refine df_of (k := K0) (d := rd_is_whole C ) F sc_is_whole mono len ?_ law
  intro cdv A outer s H E B EX hr tk
  exact (dss_one (ds_ret (de_and (de_b (call_isiD T.ct) T.f_isinstance boot_isinstance (da_cons (de_var 0) (da_cons (de_tyN T.f_int boot_int) da_nil))) (de_one (de_not (de_b (call_isiD T.ct) T.f_isinstance boot_isinstance (da_cons (de_var 0) (da_cons (de_tyN T.f_bool boot_bool) da_nil))))))))

abbrev st_is_below : Stmt := (top 9)
theorem sc_is_below : FnScope ["value", "bound"] ["value", "bound"] (defScope st_is_below) := ⟨rfl, rfl, rfl, by decide +kernel, rfl, by decide +kernel, by decide +kernel⟩
theorem wk_is_below (T : Txt K mg C) {K0 : Nat} {f : Addr} {fd : FuncData} {p_is_whole : DSp} {k_is_whole : Nat} {p : DSp} (mono : MonoP p) (len : ∀ ds m Q E, p ds m Q E → ds.length = 2) (c_is_whole : FnC P w K mg base C "is_whole" k_is_whole ["value"] p_is_whole) (h_is_whole : k_is_whole ≤ K0)
    (F : FunD K "is_below" "is_below" (defArgs st_is_below) (defBody st_is_below) (defScope st_is_below) [] [] f fd)
    (law : ∀ ds m (Q : QD) (E : QX), p ds m Q E → rd_is_below C p_is_whole (fun c xs _ m => E c xs m) { nx := fun _ m => Q .non m, rt := Q } (env0 2 ds) m) : DF P w K mg base C (K0 + 1) f fd ["value", "bound"] p := by
  refine df_of (k := K0) (d := rd_is_below C p_is_whole) F sc_is_below mono len ?_ law
  intro cdv A outer s H E B EX hr tk
  exact (dss_one (ds_ret (de_and (de_fn c_is_whole hr (by omega) (da_cons (de_var 0) da_nil) passD0) (de_one (de_chain op_leD op_ltD de_int (de_var 0) (de_var 1))))))

abbrev st_is_pair : Stmt := (top 10)
theorem sc_is_pair : FnScope ["value"] ["value"] (defScope st_is_pair) := ⟨rfl, rfl, rfl, by decide +kernel, rfl, by decide +kernel, by decide +kernel⟩
theorem wk_is_pair (T : Txt K mg C) {K0 : Nat} {f : Addr} {fd : FuncData} {p : DSp} (mono : MonoP p) (len : ∀ ds m Q E, p ds m Q E → ds.length = 1)
    (F : FunD K "is_pair" "is_pair" (defArgs st_is_pair) (defBody st_is_pair) (defScope st_is_pair) [] [] f fd)
    (law : ∀ ds m (Q : QD) (E : QX), p ds m Q E → rd_is_pair C  (fun c xs _ m => E c xs m) { nx := fun _ m => Q .non m, rt := Q } (env0 1 ds) m) : DF P w K mg base C (K0 + 1) f fd ["value"] p := by
  refine df_of (k := K0) (d := rd_is_pair C ) F sc_is_pair mono len ?_ law
  intro cdv A outer s H E B EX hr tk
  exact (dss_one (ds_ret (de_and (de_b (call_isiD T.ct) T.f_isinstance boot_isinstance (da_cons (de_var 0) (da_cons (de_tyN T.f_tuple boot_tuple) da_nil))) (de_one (de_cmp (op_eqR hr) (de_b call_lenD T.f_len boot_len (da_cons (de_var 0) da_nil)) de_int)))))

abbrev st_is_link : Stmt := (top 12)
theorem sc_is_link : FnScope ["value", "nodes"] ["value", "nodes"] (defScope st_is_link) := ⟨rfl, rfl, rfl, by decide +kernel, rfl, by decide +kernel, by decide +kernel⟩
theorem wk_is_link (T : Txt K mg C) {K0 : Nat} {f : Addr} {fd : FuncData} {p_is_pair : DSp} {k_is_pair : Nat} {p_is_below : DSp} {k_is_below : Nat} {p : DSp} (mono : MonoP p) (len : ∀ ds m Q E, p ds m Q E → ds.length = 2) (c_is_pair : FnC P w K mg base C "is_pair" k_is_pair ["value"] p_is_pair) (h_is_pair : k_is_pair ≤ K0) (c_is_below : FnC P w K mg base C "is_below" k_is_below ["value", "bound"] p_is_below) (h_is_below : k_is_below ≤ K0)
    (F : FunD K "is_link" "is_link" (defArgs st_is_link) (defBody st_is_link) (defScope st_is_link) [] [] f fd)
    (law : ∀ ds m (Q : QD) (E : QX), p ds m Q E → rd_is_link C p_is_pair p_is_below (fun c xs _ m => E c xs m) { nx := fun _ m => Q .non m, rt := Q } (env0 2 ds) m) : DF P w K mg base C (K0 + 1) f fd ["value", "nodes"] p := by
  refine df_of (k := K0) (d := rd_is_link C p_is_pair p_is_below) F sc_is_link mono len ?_ law
  intro cdv A outer s H E B EX hr tk
  exact (dss_cons (ds_if (DW.dt (dw_or (dt_not (dt_val (de_fn c_is_pair hr (by omega) (da_cons (de_var 0) da_nil) passD0))) (dw_or (dt_not (dt_val (de_fn c_is_below hr (by omega) (da_cons (de_ix ix_D (de_var 0) de_int) (da_cons (de_var 1) da_nil)) passD0))) (dw_or1 (dt_not (dt_val (de_fn c_is_below hr (by omega) (da_cons (de_ix ix_D (de_var 0) de_int) (da_cons (de_var 1) da_nil)) passD0))))))) (dss_one (ds_ret de_bl)) dss_nil)
  (dss_one (ds_ret (de_cmp (op_neR hr) (de_ix ix_D (de_var 0) de_int) (de_ix ix_D (de_var 0) de_int)))))

abbrev st_net_error : Stmt := (top 13)
theorem sc_net_error : FnScope ["nodes", "links", "index", "link", "other"] ["nodes", "links"] (defScope st_net_error) := ⟨rfl, rfl, rfl, by decide +kernel, rfl, by decide +kernel, by decide +kernel⟩
theorem wk_net_error (T : Txt K mg C) {K0 : Nat} {f : Addr} {fd : FuncData} {p_is_whole : DSp} {k_is_whole : Nat} {p_is_link : DSp} {k_is_link : Nat} {p : DSp} (mono : MonoP p) (len : ∀ ds m Q E, p ds m Q E → ds.length = 2) (c_is_whole : FnC P w K mg base C "is_whole" k_is_whole ["value"] p_is_whole) (h_is_whole : k_is_whole ≤ K0) (c_is_link : FnC P w K mg base C "is_link" k_is_link ["value", "nodes"] p_is_link) (h_is_link : k_is_link ≤ K0)
    (F : FunD K "net_error" "net_error" (defArgs st_net_error) (defBody st_net_error) (defScope st_net_error) [] [] f fd)
    (law : ∀ ds m (Q : QD) (E : QX), p ds m Q E → rd_net_error C p_is_whole p_is_link (fun c xs _ m => E c xs m) { nx := fun _ m => Q .non m, rt := Q } (env0 5 ds) m) : DF P w K mg base C (K0 + 1) f fd ["nodes", "links"] p := by
  refine df_of (k := K0) (d := rd_net_error C p_is_whole p_is_link) F sc_net_error mono len ?_ law
  intro cdv A outer s H E B EX hr tk
  exact (dss_cons (ds_if (DW.dt (dw_or (dt_not (dt_val (de_fn c_is_whole hr (by omega) (da_cons (de_var 0) da_nil) passD0))) (dw_or1 (dt_not (dt_chain op_leD op_leD de_int (de_var 0) (de_gInt T.c_MAX_NODES)))))) (dss_one (ds_ret (de_tup (da_cons de_non (da_cons de_str da_nil))))) dss_nil)
  (dss_cons (ds_if (DW.dt (dw_or (dt_not (dt_val (de_b (call_isiD T.ct) T.f_isinstance boot_isinstance (da_cons (de_var 1) (da_cons (de_tyN T.f_tuple boot_tuple) da_nil))))) (dw_or1 (dt_cmp op_gtD (de_b call_lenD T.f_len boot_len (da_cons (de_var 1) da_nil)) (de_gInt T.c_MAX_LINKS))))) (dss_one (ds_ret (de_tup (da_cons de_non (da_cons de_str da_nil))))) dss_nil)
  (dss_cons (ds_for (passes_of rfl) rfl (di_enum rfl T.f_enumerate (de_var 1)) (tg_tp rfl (tgs_v sc_net_error.nd (tgs_v sc_net_error.nd tgs_nil))) (dss_cons (ds_if (dt_not (dt_val (de_fn c_is_link hr (by omega) (da_cons (de_var 3) (da_cons (de_var 0) da_nil)) passD0))) (dss_one (ds_ret (de_tup (da_cons (de_var 2) (da_cons de_str da_nil))))) dss_nil)
  (dss_one (ds_if (dt_cmp (op_inR hr) (DN.de (dn_sortedR hr T.ns T.f_sorted (de_var 3))) (DN.de (dn_comp [("other", 4)] rfl sc_net_error.nd (di_val (de_sl (de_var 1) do_none (do_some (de_var 2)))) (fun _ _ _ _ _ => (tg_v sc_net_error.nd)) (fun _ _ _ _ _ => dts_nil) (fun _ _ _ _ _ => (DN.de (dn_sortedR hr T.ns T.f_sorted (de_var 4)))) (blkB_ok (by kernel_rfl)) (by decide)))) (dss_one (ds_ret (de_tup (da_cons (de_var 2) (da_cons de_str da_nil))))) dss_nil))))
  (dss_one (ds_ret de_non)))))

abbrev st_Net_init : Stmt := (inCls (top 14) 0)
theorem sc_Net_init : FnScope ["self", "nodes", "links", "error", "link"] ["self", "nodes", "links"] (defScope st_Net_init) := ⟨rfl, rfl, rfl, by decide +kernel, rfl, by decide +kernel, by decide +kernel⟩
theorem wk_Net_init (T : Txt K mg C) {K0 : Nat} {f : Addr} {fd : FuncData} {p_net_error : DSp} {k_net_error : Nat} {p : DSp} (mono : MonoP p) (len : ∀ ds m Q E, p ds m Q E → ds.length = 3) (c_net_error : FnC P w K mg base C "net_error" k_net_error ["nodes", "links"] p_net_error) (h_net_error : k_net_error ≤ K0) (x_BadNet : XcC P w K mg base C "BadNet" 2 ["error"]) (h_BadNet : 2 ≤ K0)
    (F : FunD K "__init__" "Net.__init__" (defArgs st_Net_init) (defBody st_Net_init) (defScope st_Net_init) [] [] f fd)
    (law : ∀ ds m (Q : QD) (E : QX), p ds m Q E → rd_Net_init C p_net_error (fun c xs _ m => E c xs m) { nx := fun _ m => Q .non m, rt := Q } (env0 5 ds) m) : DF P w K mg base C (K0 + 1) f fd ["self", "nodes", "links"] p := by
  refine df_of (k := K0) (d := rd_Net_init C p_net_error) F sc_Net_init mono len ?_ law
  intro cdv A outer s H E B EX hr tk
  exact (dss_cons (ds_setV sc_Net_init.nd (de_fn c_net_error hr (by omega) (da_cons (de_var 1) (da_cons (de_var 2) da_nil)) passD0))
  (dss_cons (ds_if (dt_cmp op_notNd (de_var 3) de_non) (dss_one (ds_raise rfl tk (dm_x x_BadNet hr (by omega) (da_cons (de_var 3) da_nil)))) dss_nil)
  (dss_cons (ds_fld T.fl_size (de_var 0) (de_var 1))
  (dss_one (ds_fld T.fl_pairs (de_var 0) (de_t call_tupleD T.f_tuple boot_tuple (da_cons (DN.de (dn_sortedR hr T.ns T.f_sorted (DN.de (dn_comp [("link", 4)] rfl sc_Net_init.nd (di_val (de_var 2)) (fun _ _ _ _ _ => (tg_v sc_Net_init.nd)) (fun _ _ _ _ _ => dts_nil) (fun _ _ _ _ _ => (de_tup (da_cons (de_b (call_minD rfl) T.f_min boot_min (da_cons (de_var 4) da_nil)) (da_cons (de_b (call_maxD rfl) T.f_max boot_max (da_cons (de_var 4) da_nil)) da_nil)))) (blkB_ok (by kernel_rfl)) (by decide))))) da_nil)))))))

abbrev st_Net_nodes : Stmt := (inCls (top 14) 1)
theorem sc_Net_nodes : FnScope ["self"] ["self"] (defScope st_Net_nodes) := ⟨rfl, rfl, rfl, by decide +kernel, rfl, by decide +kernel, by decide +kernel⟩
theorem wk_Net_nodes (T : Txt K mg C) {K0 : Nat} {f : Addr} {fd : FuncData} {p : DSp} (mono : MonoP p) (len : ∀ ds m Q E, p ds m Q E → ds.length = 1)
    (F : FunD K "nodes" "Net.nodes" (defArgs st_Net_nodes) (defBody st_Net_nodes) (defScope st_Net_nodes) [] [] f fd)
    (law : ∀ ds m (Q : QD) (E : QX), p ds m Q E → rd_Net_nodes C  (fun c xs _ m => E c xs m) { nx := fun _ m => Q .non m, rt := Q } (env0 1 ds) m) : DF P w K mg base C (K0 + 1) f fd ["self"] p := by
  refine df_of (k := K0) (d := rd_Net_nodes C ) F sc_Net_nodes mono len ?_ law
  intro cdv A outer s H E B EX hr tk
  exact (dss_one (ds_ret (de_fld T.fl_size (de_var 0) rfl)))

abbrev st_Net_links : Stmt := (inCls (top 14) 2)
theorem sc_Net_links : FnScope ["self"] ["self"] (defScope st_Net_links) := ⟨rfl, rfl, rfl, by decide +kernel, rfl, by decide +kernel, by decide +kernel⟩
theorem wk_Net_links (T : Txt K mg C) {K0 : Nat} {f : Addr} {fd : FuncData} {p : DSp} (mono : MonoP p) (len : ∀ ds m Q E, p ds m Q E → ds.length = 1)
    (F : FunD K "links" "Net.links" (defArgs st_Net_links) (defBody st_Net_links) (defScope st_Net_links) [] [] f fd)
    (law : ∀ ds m (Q : QD) (E : QX), p ds m Q E → rd_Net_links C  (fun c xs _ m => E c xs m) { nx := fun _ m => Q .non m, rt := Q } (env0 1 ds) m) : DF P w K mg base C (K0 + 1) f fd ["self"] p := by
  refine df_of (k := K0) (d := rd_Net_links C ) F sc_Net_links mono len ?_ law
  intro cdv A outer s H E B EX hr tk
  exact (dss_one (ds_ret (de_fld T.fl_pairs (de_var 0) rfl)))

abbrev st_Net_of : Stmt := (inCls (top 14) 5)
theorem sc_Net_of : FnScope ["cls", "links", "most", "index", "link", "node"] ["cls", "links"] (defScope st_Net_of) := ⟨rfl, rfl, rfl, by decide +kernel, rfl, by decide +kernel, by decide +kernel⟩
def rd_Net_of (C : Ct) (p_is_pair : DSp) (p_is_whole : DSp) (p_Net_init : DSp) (EX : QXe) : TSd :=
  (sSeq (sAsg (.nm 2) (dC (.int 0)))
  (sSeq (sFor (.tp [3, 4]) (iEnumD (dVar 1))
  (sSeq (sIf (dOr (dNot (dTst (dCall p_is_pair EX0 (dCons (dVar 4) dNil)))) (dOr (dNot (dTst (dN (oBs fun bs => bs.all id) (dCons (dNew (nLc (.nm 5) dYes (dAndV (dCall p_is_whole EX0 (dCons (dVar 5) dNil)) (dBin oGe (dVar 5) (dC (.int 0)))) [5] (iVal (dVar 4)))) dNil)))) (dTst (dBin (oEq id) (dBin oIx (dVar 4) (dC (.int 0))) (dBin oIx (dVar 4) (dC (.int 1)))))))
  (sRaise (mOwn 1 1 (dCons (dVar 3) dNil)) EX)
  sNext)
  (sAsg (.nm 2) (dN (oI3 max3) (dCons (dVar 2) (dCons (dBin oIx (dVar 4) (dC (.int 0))) (dCons (dBin oIx (dVar 4) (dC (.int 1))) dNil)))))))
  (sRet (dMakeV 0 3 2 p_Net_init EX (dCons (dBin oAdd (dVar 2) (dC (.int 1))) (dCons (dN oTuple (dCons (dVar 1) dNil)) dNil))))))
theorem wk_Net_of (T : Txt K mg C) {K0 : Nat} {f : Addr} {fd : FuncData} {p_is_pair : DSp} {k_is_pair : Nat} {p_is_whole : DSp} {k_is_whole : Nat} {p_Net_init : DSp} {k_Net : Nat} {p : DSp} (mono : MonoP p) (len : ∀ ds m Q E, p ds m Q E → ds.length = 2) (c_is_pair : FnC P w K mg base C "is_pair" k_is_pair ["value"] p_is_pair) (h_is_pair : k_is_pair ≤ K0) (c_is_whole : FnC P w K mg base C "is_whole" k_is_whole ["value"] p_is_whole) (h_is_whole : k_is_whole ≤ K0) (m_Net : MkC P w K mg base C "Net" 3 2 k_Net ["self", "nodes", "links"] p_Net_init) (h_Net : k_Net + 1 ≤ K0) (x_BadLink : XcC P w K mg base C "BadLink" 1 ["index"]) (h_BadLink : 2 ≤ K0)
    (F : FunD K "of" "Net.of" (defArgs st_Net_of) (defBody st_Net_of) (defScope st_Net_of) [] [] f fd)
    (law : ∀ ds m (Q : QD) (E : QX), p ds m Q E → rd_Net_of C p_is_pair p_is_whole p_Net_init (fun c xs _ m => E c xs m) { nx := fun _ m => Q .non m, rt := Q } (env0 6 ds) m) : DRp P w K mg base C (K0 + 1) f (pStar 1 p) := by
  refine dr_star (ps := ["cls"]) (pv := "links") (k := K0) (d := rd_Net_of C p_is_pair p_is_whole p_Net_init) F sc_Net_of mono len (fun kV doc pm an cdv ct => StX.bind_star1 (B := fun xs => bindArgs (PySem.W.fnOf "of" "Net.of" (defArgs st_Net_of) (defBody st_Net_of) (defScope st_Net_of) .none kV doc pm an cdv ct) ⟨xs, []⟩) (fun _ => rfl) fun _ r rs => rfl) ?_ law
  intro cdv A outer s H E B EX hr tk
  exact (dss_cons (ds_setV sc_Net_of.nd de_int)
  (dss_cons (ds_for (passes_of rfl) rfl (di_enum rfl T.f_enumerate (de_var 1)) (tg_tp rfl (tgs_v sc_Net_of.nd (tgs_v sc_Net_of.nd tgs_nil))) (dss_cons (ds_if (DW.dt (dw_or (dt_not (dt_val (de_fn c_is_pair hr (by omega) (da_cons (de_var 4) da_nil) passD0))) (dw_or (dt_not (dt_val (de_b (call_allD rfl) T.f_all boot_all (da_cons (DN.de (dn_comp [("node", 5)] rfl sc_Net_of.nd (di_val (de_var 4)) (fun _ _ _ _ _ => (tg_v sc_Net_of.nd)) (fun _ _ _ _ _ => dts_nil) (fun _ _ _ _ _ => (de_and (de_fn c_is_whole hr (by omega) (da_cons (de_var 5) da_nil) passD0) (de_one (de_cmp op_geD (de_var 5) de_int)))) (blkB_ok (by kernel_rfl)) (by decide))) da_nil)))) (dw_or1 (dt_cmp (op_eqR hr) (de_ix ix_D (de_var 4) de_int) (de_ix ix_D (de_var 4) de_int)))))) (dss_one (ds_raise rfl tk (dm_x x_BadLink hr (by omega) (da_cons (de_var 3) da_nil)))) dss_nil)
  (dss_one (ds_setV sc_Net_of.nd (de_b (call_max3D rfl) T.f_max boot_max (da_cons (de_var 2) (da_cons (de_ix ix_D (de_var 4) de_int) (da_cons (de_ix ix_D (de_var 4) de_int) da_nil))))))))
  (dss_one (ds_ret (de_mkV m_Net hr (by omega) (da_cons (de_bin op_addD (de_var 2) de_int) (da_cons (de_t call_tupleD T.f_tuple boot_tuple (da_cons (de_var 1) da_nil)) da_nil)) (TakesD.pass tk))))))

abbrev st_law_deck : Stmt := (top 16)
theorem sc_law_deck : FnScope ["_law_script", "_law_cells", "_law_number"] ["_law_script"] (defScope st_law_deck) := ⟨rfl, rfl, rfl, by decide +kernel, rfl, by decide +kernel, by decide +kernel⟩
theorem wk_law_deck (T : Txt K mg C) {K0 : Nat} {f : Addr} {fd : FuncData} {p : DSp} (mono : MonoP p) (len : ∀ ds m Q E, p ds m Q E → ds.length = 1)
    (F : FunD K "_law_deck" "_law_deck" (defArgs st_law_deck) (defBody st_law_deck) (defScope st_law_deck) [] [] f fd)
    (law : ∀ ds m (Q : QD) (E : QX), p ds m Q E → rd_law_deck C  (fun c xs _ m => E c xs m) { nx := fun _ m => Q .non m, rt := Q } (env0 3 ds) m) : DF P w K mg base C (K0 + 1) f fd ["_law_script"] p := by
  refine df_of (k := K0) (d := rd_law_deck C ) F sc_law_deck mono len ?_ law
  intro cdv A outer s H E B EX hr tk
  exact (dss_cons (ds_setC [("_law_number", 2)] rfl sc_law_deck.nd (di_val (de_var 0)) (fun _ _ _ _ _ => (tg_v sc_law_deck.nd)) (fun _ _ _ _ _ => dts_nil) (fun _ _ _ _ _ => (de_b call_absD T.f_abs boot_abs (da_cons (de_var 2) da_nil))) (blkB_ok (by kernel_rfl)) (by decide))
  (dss_one (ds_ret (DN.shr (dn_lst (da_cons (DN.shr (dn_comp [("_law_number", 2)] rfl sc_law_deck.nd (di_val (de_var 1)) (fun _ _ _ _ _ => (tg_v sc_law_deck.nd)) (fun _ _ _ _ _ => (dts_one (dt_cmp op_geD (de_var 2) (de_bin op_powD de_int de_int)))) (fun _ _ _ _ _ => (de_var 2)) (blkB_ok (by kernel_rfl)) (by decide))) (da_cons (DN.de (dn_cat (de_var 1) (DN.de (dn_lst (da_cons (de_bin op_addD (de_b call_lenD T.f_len boot_len (da_cons (de_var 1) da_nil)) de_int) da_nil))))) (da_cons de_int da_nil))))))))

abbrev st_law_next : Stmt := (top 17)
theorem sc_law_next : FnScope ["_law_deck_here", "_law_many", "_law_turn", "_law_number", "_law_mixed", "_law_rest"] ["_law_deck_here", "_law_many"] (defScope st_law_next) := ⟨rfl, rfl, rfl, by decide +kernel, rfl, by decide +kernel, by decide +kernel⟩
theorem wk_law_next (T : Txt K mg C) {K0 : Nat} {f : Addr} {fd : FuncData} {p : DSp} (mono : MonoP p) (len : ∀ ds m Q E, p ds m Q E → ds.length = 2)
    (F : FunD K "_law_next" "_law_next" (defArgs st_law_next) (defBody st_law_next) (defScope st_law_next) [] [] f fd)
    (law : ∀ ds m (Q : QD) (E : QX), p ds m Q E → rd_law_next C  (fun c xs _ m => E c xs m) { nx := fun _ m => Q .non m, rt := Q } (env0 6 ds) m) : DF P w K mg base C (K0 + 1) f fd ["_law_deck_here", "_law_many"] p := by
  refine df_of (k := K0) (d := rd_law_next C ) F sc_law_next mono len ?_ law
  intro cdv A outer s H E B EX hr tk
  exact (dss_cons (ds_while (passes_of rfl) (dt_cmp (op_neR hr) (de_ix ix_D (de_var 0) de_int) (DN.de (dn_lst da_nil))) (dss_cons (ds_setV sc_law_next.nd (de_ix ix_D (de_ix ix_D (de_var 0) de_int) de_int))
  (dss_cons (ds_if (dt_cmp op_gtD (de_var 5) de_int) (dss_cons (ds_setI (de_bin op_fdivWD (de_var 5) (de_var 1)) (de_ix ix_D (de_var 0) de_int) de_int)
  (dss_one (ds_ret (de_bin op_modD (de_t call_intD T.f_int boot_int (da_cons (de_var 5) da_nil)) (de_var 1))))) dss_nil)
  (dss_one (ds_pop0 (de_ix ix_D (de_var 0) de_int))))))
  (dss_cons (ds_setI (de_bin op_addD (de_ix ix_D (de_var 0) de_int) de_int) (de_var 0) de_int)
  (dss_cons (ds_setV sc_law_next.nd (de_ix ix_D (de_var 0) de_int))
  (dss_cons (ds_setV sc_law_next.nd (de_bin op_modD (de_t call_intD T.f_int boot_int (da_cons (de_ix ix_D (de_ix ix_D (de_var 0) de_int) (de_bin op_modD (de_t call_intD T.f_int boot_int (da_cons (de_var 2) da_nil)) (de_b call_lenD T.f_len boot_len (da_cons (de_ix ix_D (de_var 0) de_int) da_nil)))) da_nil)) de_int))
  (dss_cons (ds_setV sc_law_next.nd (de_bin op_modD (de_t call_intD T.f_int boot_int (da_cons (de_bin op_addD (de_bin op_addD (de_bin op_mulD (de_var 3) (de_bin op_addD de_int (de_bin op_mulD de_int (de_var 2)))) (de_bin op_mulD (de_bin op_mulD de_int (de_var 2)) (de_var 2))) de_int) da_nil)) de_int))
  (dss_one (ds_ret (de_bin op_modD (de_bin op_fdivWD (de_bin op_modD (de_t call_intD T.f_int boot_int (da_cons (de_bin op_mulD (de_var 4) (de_var 4)) da_nil)) de_int) de_int) (de_var 1)))))))))

abbrev st_law_pairs : Stmt := (top 18)
theorem sc_law_pairs : FnScope ["_law_nodes", "_law_found", "_law_other", "_law_one"] ["_law_nodes"] (defScope st_law_pairs) := ⟨rfl, rfl, rfl, by decide +kernel, rfl, by decide +kernel, by decide +kernel⟩
theorem wk_law_pairs (T : Txt K mg C) {K0 : Nat} {f : Addr} {fd : FuncData} {p : DSp} (mono : MonoP p) (len : ∀ ds m Q E, p ds m Q E → ds.length = 1)
    (F : FunD K "_law_pairs" "_law_pairs" (defArgs st_law_pairs) (defBody st_law_pairs) (defScope st_law_pairs) [] [] f fd)
    (law : ∀ ds m (Q : QD) (E : QX), p ds m Q E → rd_law_pairs C  (fun c xs _ m => E c xs m) { nx := fun _ m => Q .non m, rt := Q } (env0 4 ds) m) : DF P w K mg base C (K0 + 1) f fd ["_law_nodes"] p := by
  refine df_of (k := K0) (d := rd_law_pairs C ) F sc_law_pairs mono len ?_ law
  intro cdv A outer s H E B EX hr tk
  exact (dss_cons (ds_setV sc_law_pairs.nd (DN.de (dn_lst da_nil)))
  (dss_cons (ds_for (passes_of rfl) rfl (di_range1 rfl T.f_range (de_var 0)) (tg_v sc_law_pairs.nd) (dss_one (ds_setV sc_law_pairs.nd (DN.de (dn_cat (de_var 1) (DN.de (dn_comp [("_law_one", 3)] rfl sc_law_pairs.nd (di_range1 rfl T.f_range (de_var 2)) (fun _ _ _ _ _ => (tg_v sc_law_pairs.nd)) (fun _ _ _ _ _ => dts_nil) (fun _ _ _ _ _ => (de_tup (da_cons (de_var 3) (da_cons (de_var 2) da_nil)))) (blkB_ok (by kernel_rfl)) (by decide))))))))
  (dss_one (ds_ret (de_var 1)))))

abbrev st_law_net : Stmt := (top 19)
theorem sc_law_net : FnScope ["_law_deck_here", "_law_most", "_law_nodes", "_law_pairs_here", "_law_kind", "_law_found", "_law_k", "_law_pair"] ["_law_deck_here", "_law_most"] (defScope st_law_net) := ⟨rfl, rfl, rfl, by decide +kernel, rfl, by decide +kernel, by decide +kernel⟩
theorem wk_law_net (T : Txt K mg C) {K0 : Nat} {f : Addr} {fd : FuncData} {p_law_next : DSp} {k_law_next : Nat} {p_law_pairs : DSp} {k_law_pairs : Nat} {p : DSp} (mono : MonoP p) (len : ∀ ds m Q E, p ds m Q E → ds.length = 2) (c_law_next : FnC P w K mg base C "_law_next" k_law_next ["_law_deck_here", "_law_many"] p_law_next) (h_law_next : k_law_next ≤ K0) (c_law_pairs : FnC P w K mg base C "_law_pairs" k_law_pairs ["_law_nodes"] p_law_pairs) (h_law_pairs : k_law_pairs ≤ K0)
    (F : FunD K "_law_net" "_law_net" (defArgs st_law_net) (defBody st_law_net) (defScope st_law_net) [] [] f fd)
    (law : ∀ ds m (Q : QD) (E : QX), p ds m Q E → rd_law_net C p_law_next p_law_pairs (fun c xs _ m => E c xs m) { nx := fun _ m => Q .non m, rt := Q } (env0 8 ds) m) : DF P w K mg base C (K0 + 1) f fd ["_law_deck_here", "_law_most"] p := by
  refine df_of (k := K0) (d := rd_law_net C p_law_next p_law_pairs) F sc_law_net mono len ?_ law
  intro cdv A outer s H E B EX hr tk
  exact (dss_cons (ds_setV sc_law_net.nd (de_ix ix_D (DN.de (dn_lst (da_cons (de_bin op_addD de_int (de_fn c_law_next hr (by omega) (da_cons (de_var 0) (da_cons de_int da_nil)) passD0)) (da_cons de_int (da_cons de_int (da_cons de_int da_nil)))))) (de_fn c_law_next hr (by omega) (da_cons (de_var 0) (da_cons de_int da_nil)) passD0)))
  (dss_cons (ds_par3N rfl sc_law_net.nd rfl rfl rfl (by decide) (by decide) (by decide) rfl rfl rfl (de_fn c_law_pairs hr (by omega) (da_cons (de_var 2) da_nil) passD0) (de_fn c_law_next hr (by omega) (da_cons (de_var 0) (da_cons de_int da_nil)) passD0) (dn_lst da_nil) (by rfl))
  (dss_cons (ds_if (DW.dt (dw_and (dt_cmp (op_eqR hr) (de_var 4) de_int) (dw_and1 (dt_cmp op_gtD (de_var 2) de_int)))) (dss_one (ds_setNV sc_law_net.nd (dn_cat (DN.de (dn_comp [("_law_k", 6)] rfl sc_law_net.nd (di_range1 rfl T.f_range (de_bin op_subD (de_var 2) de_int)) (fun _ _ _ _ _ => (tg_v sc_law_net.nd)) (fun _ _ _ _ _ => dts_nil) (fun _ _ _ _ _ => (de_tup (da_cons (de_var 6) (da_cons (de_bin op_addD (de_var 6) de_int) da_nil)))) (blkB_ok (by kernel_rfl)) (by decide))) (DN.de (dn_lst (da_cons (de_tup (da_cons de_int (da_cons (de_bin op_subD (de_var 2) de_int) da_nil))) da_nil)))))) dss_nil)
  (dss_cons (ds_if (dt_cmp (op_eqR hr) (de_var 4) de_int) (dss_one (ds_setCN [("_law_k", 6)] rfl sc_law_net.nd (di_range2 rfl T.f_range de_int (de_var 2)) (fun _ _ _ _ _ => (tg_v sc_law_net.nd)) (fun _ _ _ _ _ => dts_nil) (fun _ _ _ _ _ => (de_tup (da_cons (de_fn c_law_next hr (by omega) (da_cons (de_var 0) (da_cons (de_var 6) da_nil)) passD0) (da_cons (de_var 6) da_nil)))) (blkB_ok (by kernel_rfl)) (by decide))) dss_nil)
  (dss_cons (ds_for (passes_of rfl) rfl (di_range1 rfl T.f_range (de_bin op_mulD (de_ix ix_D (DN.de (dn_lst (da_cons (de_var 1) (da_cons (de_fn c_law_next hr (by omega) (da_cons (de_var 0) (da_cons (de_bin op_addD (de_var 1) de_int) da_nil)) passD0) da_nil)))) (de_fn c_law_next hr (by omega) (da_cons (de_var 0) (da_cons de_int da_nil)) passD0)) (de_t call_intD T.f_int boot_int (da_cons (de_cmp op_gtD (de_var 2) de_int) da_nil)))) (tg_v sc_law_net.nd) (dss_cons (ds_setV sc_law_net.nd (de_ix ix_D (de_var 3) (de_fn c_law_next hr (by omega) (da_cons (de_var 0) (da_cons (de_b call_lenD T.f_len boot_len (da_cons (de_var 3) da_nil)) da_nil)) passD0)))
  (dss_one (ds_if (dt_cmp (op_ninR hr) (de_var 7) (de_var 5)) (dss_one (ds_app (de_var 5) (de_var 7))) dss_nil))))
  (dss_one (ds_keep 5 (ds_ret (de_tup (da_cons (de_var 2) (da_cons (DN.de (dn_sortedR hr T.ns T.f_sorted (de_sl (de_var 5) do_none (do_some (de_var 1))))) da_nil)))))))))))

abbrev st_law_same : Stmt := (top 20)
theorem sc_law_same : FnScope ["_law_found", "_law_due_here", "_law_one", "_law_other"] ["_law_found", "_law_due_here"] (defScope st_law_same) := ⟨rfl, rfl, rfl, by decide +kernel, rfl, by decide +kernel, by decide +kernel⟩
theorem wk_law_same (T : Txt K mg C) {K0 : Nat} {f : Addr} {fd : FuncData} {p_law_same : DSp} {k_law_same : Nat} {p : DSp} (mono : MonoP p) (len : ∀ ds m Q E, p ds m Q E → ds.length = 2) (c_law_same : FnCG P w K mg base C "_law_same" k_law_same ["_law_found", "_law_due_here"] p_law_same) (h_law_same : k_law_same ≤ K0)
    (F : FunD K "_law_same" "_law_same" (defArgs st_law_same) (defBody st_law_same) (defScope st_law_same) [] [] f fd)
    (law : ∀ ds m (Q : QD) (E : QX), p ds m Q E → rd_law_same C p_law_same (fun c xs _ m => E c xs m) { nx := fun _ m => Q .non m, rt := Q } (env0 4 ds) m) : DG P w K mg base C (K0 + 1) f fd ["_law_found", "_law_due_here"] p := by
  refine dg_of (k := K0) (d := rd_law_same C p_law_same) F sc_law_same mono len ?_ law
  intro cdv A outer s H E B EX hrg tk
  have hr := hrg.room
  have gd := hrg.gd
  exact (dss_cons (ds_if (dt_val (de_b (call_isiD T.ct) T.f_isinstance boot_isinstance (da_cons (de_var 1) (da_cons (de_tup (da_cons (de_tyN T.f_tuple boot_tuple) (da_cons (de_tyN T.f_list boot_list) da_nil))) da_nil)))) (dss_cons (ds_if (DW.dt (dw_or (dt_cmp (op_neR hr) (de_b (call_isiD T.ct) T.f_isinstance boot_isinstance (da_cons (de_var 1) (da_cons (de_tyN T.f_tuple boot_tuple) da_nil))) (de_b (call_isiD T.ct) T.f_isinstance boot_isinstance (da_cons (de_var 0) (da_cons (de_tyN T.f_tuple boot_tuple) da_nil)))) (dw_or1 (dt_cmp (op_neR hr) (de_b (call_isiD T.ct) T.f_isinstance boot_isinstance (da_cons (de_var 1) (da_cons (de_tyN T.f_list boot_list) da_nil))) (de_b (call_isiD T.ct) T.f_isinstance boot_isinstance (da_cons (de_var 0) (da_cons (de_tyN T.f_list boot_list) da_nil))))))) (dss_one (ds_ret de_bl)) dss_nil)
  (dss_one (ds_ret (de_and (de_cmp (op_eqR hr) (de_b call_lenD T.f_len boot_len (da_cons (de_var 0) da_nil)) (de_b call_lenD T.f_len boot_len (da_cons (de_var 1) da_nil))) (de_one (de_b (call_allD rfl) T.f_all boot_all (da_cons (DN.de (dn_comp [("_law_one", 2), ("_law_other", 3)] rfl sc_law_same.nd (di_zip rfl T.f_zip (de_var 0) (de_var 1)) (fun _ _ _ _ _ => (tg_tp rfl (tgs_v sc_law_same.nd (tgs_v sc_law_same.nd tgs_nil)))) (fun _ _ _ _ _ => dts_nil) (fun _ _ _ _ _ => (de_fnG c_law_same hrg (by omega) (da_cons (de_var 2) (da_cons (de_var 3) da_nil)) passD0)) (blkB_ok (by kernel_rfl)) (by decide))) da_nil))))))) dss_nil)
  (dss_cons (ds_if (dt_cmp op_isNd (de_var 1) de_non) (dss_one (ds_ret (de_cmp op_isNd (de_var 0) de_non))) dss_nil)
  (dss_cons (ds_if (dt_val (de_b (call_isiD T.ct) T.f_isinstance boot_isinstance (da_cons (de_var 1) (da_cons (de_tyN T.f_str boot_str) da_nil)))) (dss_one (ds_ret (de_and (de_b (call_isiD T.ct) T.f_isinstance boot_isinstance (da_cons (de_var 0) (da_cons (de_tyN T.f_str boot_str) da_nil))) (de_one (de_cmp (op_eqR hr) (de_var 0) (de_var 1)))))) dss_nil)
  (dss_cons (ds_if (DW.dt (dw_or (dt_val (de_b (call_isiD T.ct) T.f_isinstance boot_isinstance (da_cons (de_var 1) (da_cons (de_tyN T.f_bool boot_bool) da_nil)))) (dw_or1 (dt_val (de_b (call_isiD T.ct) T.f_isinstance boot_isinstance (da_cons (de_var 0) (da_cons (de_tyN T.f_bool boot_bool) da_nil))))))) (dss_one (ds_ret (de_and (de_b (call_isiD T.ct) T.f_isinstance boot_isinstance (da_cons (de_var 0) (da_cons (de_tyN T.f_bool boot_bool) da_nil))) (de_and (de_b (call_isiD T.ct) T.f_isinstance boot_isinstance (da_cons (de_var 1) (da_cons (de_tyN T.f_bool boot_bool) da_nil))) (de_one (de_cmp (op_eqR hr) (de_var 0) (de_var 1))))))) dss_nil)
  (dss_cons (ds_if (dt_val (de_b (call_isiD T.ct) T.f_isinstance boot_isinstance (da_cons (de_var 1) (da_cons (de_tyN T.f_int boot_int) da_nil)))) (dss_one (ds_ret (de_and (de_b (call_isiD T.ct) T.f_isinstance boot_isinstance (da_cons (de_var 0) (da_cons (de_tyN T.f_int boot_int) da_nil))) (de_one (de_cmp (op_eqR hr) (de_var 0) (de_var 1)))))) dss_nil)
  (dss_one (ds_ret (de_and (de_b (call_isiD T.ct) T.f_isinstance boot_isinstance (da_cons (de_var 1) (da_cons (de_tyN T.f_dict boot_dict) da_nil))) (de_and (de_b (call_isiD T.ct) T.f_isinstance boot_isinstance (da_cons (de_var 0) (da_cons (de_tyN T.f_dict boot_dict) da_nil))) (de_one (de_cmp (op_eqR hr) (de_b (reprR hr gd T.ns) T.f_repr boot_repr (da_cons (de_var 0) da_nil)) (de_b (reprR hr gd T.ns) T.f_repr boot_repr (da_cons (de_var 1) da_nil)))))))))))))

abbrev st_law_whole : Stmt := (top 21)
theorem sc_law_whole : FnScope ["_law_value"] ["_law_value"] (defScope st_law_whole) := ⟨rfl, rfl, rfl, by decide +kernel, rfl, by decide +kernel, by decide +kernel⟩
theorem wk_law_whole (T : Txt K mg C) {K0 : Nat} {f : Addr} {fd : FuncData} {p : DSp} (mono : MonoP p) (len : ∀ ds m Q E, p ds m Q E → ds.length = 1)
    (F : FunD K "_law_whole" "_law_whole" (defArgs st_law_whole) (defBody st_law_whole) (defScope st_law_whole) [] [] f fd)
    (law : ∀ ds m (Q : QD) (E : QX), p ds m Q E → rd_law_whole C  (fun c xs _ m => E c xs m) { nx := fun _ m => Q .non m, rt := Q } (env0 1 ds) m) : DF P w K mg base C (K0 + 1) f fd ["_law_value"] p := by
  refine df_of (k := K0) (d := rd_law_whole C ) F sc_law_whole mono len ?_ law
  intro cdv A outer s H E B EX hr tk
  exact (dss_one (ds_ret (de_and (de_b (call_isiD T.ct) T.f_isinstance boot_isinstance (da_cons (de_var 0) (da_cons (de_tyN T.f_int boot_int) da_nil))) (de_one (de_not (de_b (call_isiD T.ct) T.f_isinstance boot_isinstance (da_cons (de_var 0) (da_cons (de_tyN T.f_bool boot_bool) da_nil))))))))

abbrev st_law_odd : Stmt := (top 22)
theorem sc_law_odd : FnScope ["_law_deck_here", "_law_link", "_law_some"] ["_law_deck_here", "_law_link"] (defScope st_law_odd) := ⟨rfl, rfl, rfl, by decide +kernel, rfl, by decide +kernel, by decide +kernel⟩
theorem wk_law_odd (T : Txt K mg C) {K0 : Nat} {f : Addr} {fd : FuncData} {p_law_next : DSp} {k_law_next : Nat} {p : DSp} (mono : MonoP p) (len : ∀ ds m Q E, p ds m Q E → ds.length = 2) (c_law_next : FnC P w K mg base C "_law_next" k_law_next ["_law_deck_here", "_law_many"] p_law_next) (h_law_next : k_law_next ≤ K0)
    (F : FunD K "_law_odd" "_law_odd" (defArgs st_law_odd) (defBody st_law_odd) (defScope st_law_odd) [] [] f fd)
    (law : ∀ ds m (Q : QD) (E : QX), p ds m Q E → rd_law_odd C p_law_next (fun c xs _ m => E c xs m) { nx := fun _ m => Q .non m, rt := Q } (env0 3 ds) m) : DF P w K mg base C (K0 + 1) f fd ["_law_deck_here", "_law_link"] p := by
  refine df_of (k := K0) (d := rd_law_odd C p_law_next) F sc_law_odd mono len ?_ law
  intro cdv A outer s H E B EX hr tk
  exact (dss_cons (ds_setV sc_law_odd.nd (DN.de (dn_lst (da_cons de_non (da_cons de_bl (da_cons de_bl (da_cons de_int (da_cons de_int (da_cons de_int (da_cons (de_un un_negD de_int) (da_cons (de_bin op_powD de_int de_int) (da_cons de_str (da_cons de_str (da_cons de_str (da_cons (de_tup da_nil) (da_cons (DN.de (dn_lst da_nil)) (da_cons de_dct0 (da_cons (de_tup (da_cons de_int da_nil)) (da_cons (de_tup (da_cons de_int (da_cons de_int da_nil))) (da_cons (DN.de (dn_lst (da_cons de_int (da_cons de_int da_nil)))) (da_cons (de_tup (da_cons de_int (da_cons de_int da_nil))) (da_cons (de_tup (da_cons de_int (da_cons de_int da_nil))) da_nil))))))))))))))))))))))
  (dss_cons (ds_setV sc_law_odd.nd (DN.de (dn_cat (de_var 2) (DN.de (dn_lst (da_cons (de_tup (da_cons de_int (da_cons de_bl da_nil))) (da_cons (de_tup (da_cons de_bl (da_cons de_int da_nil))) (da_cons (de_tup (da_cons de_int (da_cons de_non da_nil))) (da_cons (de_tup (da_cons de_int (da_cons de_str da_nil))) (da_cons (de_tup (da_cons de_int (da_cons de_int (da_cons de_int da_nil)))) (da_cons (de_tup (da_cons de_int (da_cons (de_un un_negD de_int) da_nil))) (da_cons (de_tup (da_cons de_int (da_cons de_int da_nil))) (da_cons (de_tup (da_cons (de_tup (da_cons de_int (da_cons de_int da_nil))) da_nil)) (da_cons (de_tup (da_cons (de_tup (da_cons de_int (da_cons de_int da_nil))) (da_cons de_int da_nil))) da_nil))))))))))))))
  (dss_cons (ds_setV sc_law_odd.nd (DN.de (dn_cat (de_var 2) (DN.de (dn_lst (da_cons (de_var 1) (da_cons (DN.de (dn_list rfl T.f_list boot_list (de_var 1))) (da_cons (de_back (de_var 1)) (da_cons (de_bin op_addD (de_var 1) (de_var 1)) (da_cons (de_tup (da_cons (de_var 1) da_nil)) (da_cons (de_dct1 de_int) (da_cons (de_tup (da_cons (de_ix ix_D (de_var 1) de_int) (da_cons (de_ix ix_D (de_var 1) de_int) da_nil))) (da_cons (de_tup (da_cons de_int (da_cons (DN.de (dn_lst (da_cons de_int da_nil))) da_nil))) (da_cons (de_tup (da_cons de_int (da_cons de_dct0 da_nil))) da_nil))))))))))))))
  (dss_one (ds_ret (de_ix ix_D (de_var 2) (de_fn c_law_next hr (by omega) (da_cons (de_var 0) (da_cons (de_b call_lenD T.f_len boot_len (da_cons (de_var 2) da_nil)) da_nil)) passD0)))))))

abbrev st_law_due : Stmt := (top 23)
theorem sc_law_due : FnScope ["_law_links", "_law_k", "_law_nodes", "_law_plain", "_law_again", "_law_link", "_law_node"] ["_law_links"] (defScope st_law_due) := ⟨rfl, rfl, rfl, by decide +kernel, rfl, by decide +kernel, by decide +kernel⟩
def rd_law_due (C : Ct) (p_law_whole : DSp) (EX : QXe) : TSd :=
  (sSeq (sFor (.nm 1) (iRg1 (dN oLen (dCons (dVar 0) dNil)))
  (sSeq (sAsg (.nm 5) (dBin oIx (dVar 0) (dVar 1)))
  (sSeq (sIf (dOr (dNot (dTst (dN (oIsi C) (dCons (dVar 5) (dCons (dC (.ty "tuple")) dNil))))) (dOr (dTst (dBin (oEq not) (dN oLen (dCons (dVar 5) dNil)) (dC (.int 2)))) (dNot (dTst (dN (oBs fun bs => bs.all id) (dCons (dNew (nLc (.nm 6) dYes (dCall p_law_whole EX0 (dCons (dVar 6) dNil)) [6] (iVal (dVar 5)))) dNil))))))
  (sRet (dN oTup (dCons (dC (.str "BadLink")) (dCons (dVar 1) dNil))))
  sNext)
  (sIf (dOr (dTst (dBin oLt (dN (oIs minI fun ns => 0 < ns.length) (dCons (dVar 5) dNil)) (dC (.int 0)))) (dTst (dBin (oEq id) (dBin oIx (dVar 5) (dC (.int 0))) (dBin oIx (dVar 5) (dC (.int 1))))))
  (sRet (dN oTup (dCons (dC (.str "BadLink")) (dCons (dVar 1) dNil))))
  sNext))))
  (sSeq (sAsg (.nm 2) (dBin oAdd (dC (.int 1)) (dN (oIs maxI fun ns => 0 < ns.length) (dCons (dNew (nCat (dNew (nLst (dCons (dC (.int 0)) dNil))) (dNew (nLc (.nm 5) dYes (dN (oIs maxI fun ns => 0 < ns.length) (dCons (dVar 5) dNil)) [5] (iVal (dVar 0)))))) dNil))))
  (sSeq (sIf (dTst (dBin oGt (dVar 2) (dC (.int 7))))
  (sRet (dN oTup (dCons (dC (.str "BadNet")) (dCons (dN oTup (dCons (dC .non) (dCons (dC (.str "nodes")) dNil))) dNil))))
  sNext)
  (sSeq (sIf (dTst (dBin oGt (dN oLen (dCons (dVar 0) dNil)) (dC (.int 8))))
  (sRet (dN oTup (dCons (dC (.str "BadNet")) (dCons (dN oTup (dCons (dC .non) (dCons (dC (.str "links")) dNil))) dNil))))
  sNext)
  (sSeq (sAsg (.nm 3) (dNew (nLc (.nm 5) dYes (dN oTup (dCons (dN (oIs minI fun ns => 0 < ns.length) (dCons (dVar 5) dNil)) (dCons (dN (oIs maxI fun ns => 0 < ns.length) (dCons (dVar 5) dNil)) dNil))) [5] (iVal (dVar 0)))))
  (sSeq (sAsg (.nm 4) (dNew (nLc (.nm 1) (dTst (dBin (oIn id) (dBin oIx (dVar 3) (dVar 1)) (dSl (dVar 3) dNo (dPart (dVar 1))))) (dVar 1) [1] (iRg1 (dN oLen (dCons (dVar 3) dNil))))))
  (sSeq (sIf (dTst (dBin (oEq not) (dVar 4) (dNew (nLst dNil))))
  (sRet (dN oTup (dCons (dC (.str "BadNet")) (dCons (dN oTup (dCons (dBin oIx (dVar 4) (dC (.int 0))) (dCons (dC (.str "again")) dNil))) dNil))))
  sNext)
  (sRet (dN oTup (dCons (dVar 2) (dCons (dN oTuple (dCons (dNew (nSort (dVar 3))) dNil)) dNil)))))))))))
theorem wk_law_due (T : Txt K mg C) {K0 : Nat} {f : Addr} {fd : FuncData} {p_law_whole : DSp} {k_law_whole : Nat} {p : DSp} (mono : MonoP p) (len : ∀ ds m Q E, p ds m Q E → ds.length = 1) (c_law_whole : FnC P w K mg base C "_law_whole" k_law_whole ["_law_value"] p_law_whole) (h_law_whole : k_law_whole ≤ K0)
    (F : FunD K "_law_due" "_law_due" (defArgs st_law_due) (defBody st_law_due) (defScope st_law_due) [] [] f fd)
    (law : ∀ ds m (Q : QD) (E : QX), p ds m Q E → rd_law_due C p_law_whole (fun c xs _ m => E c xs m) { nx := fun _ m => Q .non m, rt := Q } (env0 7 ds) m) : DF P w K mg base C (K0 + 1) f fd ["_law_links"] p := by
  refine df_of (k := K0) (d := rd_law_due C p_law_whole) F sc_law_due mono len ?_ law
  intro cdv A outer s H E B EX hr tk
  exact (dss_cons (ds_for (passes_of rfl) rfl (di_range1 rfl T.f_range (de_b call_lenD T.f_len boot_len (da_cons (de_var 0) da_nil))) (tg_v sc_law_due.nd) (dss_cons (ds_setV sc_law_due.nd (de_ix ix_D (de_var 0) (de_var 1)))
  (dss_cons (ds_if (DW.dt (dw_or (dt_not (dt_val (de_b (call_isiD T.ct) T.f_isinstance boot_isinstance (da_cons (de_var 5) (da_cons (de_tyN T.f_tuple boot_tuple) da_nil))))) (dw_or (dt_cmp (op_neR hr) (de_b call_lenD T.f_len boot_len (da_cons (de_var 5) da_nil)) de_int) (dw_or1 (dt_not (dt_val (de_b (call_allD rfl) T.f_all boot_all (da_cons (DN.de (dn_comp [("_law_node", 6)] rfl sc_law_due.nd (di_val (de_var 5)) (fun _ _ _ _ _ => (tg_v sc_law_due.nd)) (fun _ _ _ _ _ => dts_nil) (fun _ _ _ _ _ => (de_fn c_law_whole hr (by omega) (da_cons (de_var 6) da_nil) passD0)) (blkB_ok (by kernel_rfl)) (by decide))) da_nil)))))))) (dss_one (ds_ret (de_tup (da_cons de_str (da_cons (de_var 1) da_nil))))) dss_nil)
  (dss_one (ds_if (DW.dt (dw_or (dt_cmp op_ltD (de_b (call_minD rfl) T.f_min boot_min (da_cons (de_var 5) da_nil)) de_int) (dw_or1 (dt_cmp (op_eqR hr) (de_ix ix_D (de_var 5) de_int) (de_ix ix_D (de_var 5) de_int))))) (dss_one (ds_ret (de_tup (da_cons de_str (da_cons (de_var 1) da_nil))))) dss_nil)))))
  (dss_cons (ds_setV sc_law_due.nd (de_bin op_addD de_int (de_b (call_maxD rfl) T.f_max boot_max (da_cons (DN.de (dn_cat (DN.de (dn_lst (da_cons de_int da_nil))) (DN.de (dn_comp [("_law_link", 5)] rfl sc_law_due.nd (di_val (de_var 0)) (fun _ _ _ _ _ => (tg_v sc_law_due.nd)) (fun _ _ _ _ _ => dts_nil) (fun _ _ _ _ _ => (de_b (call_maxD rfl) T.f_max boot_max (da_cons (de_var 5) da_nil))) (blkB_ok (by kernel_rfl)) (by decide))))) da_nil))))
  (dss_cons (ds_if (dt_cmp op_gtD (de_var 2) de_int) (dss_one (ds_ret (de_tup (da_cons de_str (da_cons (de_tup (da_cons de_non (da_cons de_str da_nil))) da_nil))))) dss_nil)
  (dss_cons (ds_if (dt_cmp op_gtD (de_b call_lenD T.f_len boot_len (da_cons (de_var 0) da_nil)) de_int) (dss_one (ds_ret (de_tup (da_cons de_str (da_cons (de_tup (da_cons de_non (da_cons de_str da_nil))) da_nil))))) dss_nil)
  (dss_cons (ds_setV sc_law_due.nd (DN.de (dn_comp [("_law_link", 5)] rfl sc_law_due.nd (di_val (de_var 0)) (fun _ _ _ _ _ => (tg_v sc_law_due.nd)) (fun _ _ _ _ _ => dts_nil) (fun _ _ _ _ _ => (de_tup (da_cons (de_b (call_minD rfl) T.f_min boot_min (da_cons (de_var 5) da_nil)) (da_cons (de_b (call_maxD rfl) T.f_max boot_max (da_cons (de_var 5) da_nil)) da_nil)))) (blkB_ok (by kernel_rfl)) (by decide))))
  (dss_cons (ds_setC [("_law_k", 1)] rfl sc_law_due.nd (di_range1 rfl T.f_range (de_b call_lenD T.f_len boot_len (da_cons (de_var 3) da_nil))) (fun _ _ _ _ _ => (tg_v sc_law_due.nd)) (fun _ _ _ _ _ => (dts_one (dt_cmp (op_inR hr) (de_ix ix_D (de_var 3) (de_var 1)) (de_sl (de_var 3) do_none (do_some (de_var 1)))))) (fun _ _ _ _ _ => (de_var 1)) (blkB_ok (by kernel_rfl)) (by decide))
  (dss_cons (ds_if (dt_cmp (op_neR hr) (de_var 4) (DN.de (dn_lst da_nil))) (dss_one (ds_ret (de_tup (da_cons de_str (da_cons (de_tup (da_cons (de_ix ix_D (de_var 4) de_int) (da_cons de_str da_nil))) da_nil))))) dss_nil)
  (dss_one (ds_ret (de_tup (da_cons (de_var 2) (da_cons (de_t call_tupleD T.f_tuple boot_tuple (da_cons (DN.de (dn_sortedR hr T.ns T.f_sorted (de_var 3))) da_nil)) da_nil))))))))))))

abbrev st_law_of : Stmt := (top 24)
theorem sc_law_of : FnScope ["_law_links", "_law_many", "_law_more"] ["_law_links"] (defScope st_law_of) := ⟨rfl, rfl, rfl, by decide +kernel, rfl, by decide +kernel, by decide +kernel⟩
def rd_law_of (C : Ct)  (p_Net_of : DSp) (EX : QXe) : TSd :=
  (sSeq (sAsg (.nm 1) (dN oLen (dCons (dVar 0) dNil)))
  (sSeq (sIf (dTst (dBin (oEq id) (dVar 1) (dC (.int 0))))
  (sRet (dCm 3 p_Net_of EX dNil))
  sNext)
  (sSeq (sIf (dTst (dBin (oEq id) (dVar 1) (dC (.int 1))))
  (sRet (dCm 3 p_Net_of EX (dCons (dBin oIx (dVar 0) (dC (.int 0))) dNil)))
  sNext)
  (sSeq (sIf (dTst (dBin (oEq id) (dVar 1) (dC (.int 2))))
  (sRet (dCm 3 p_Net_of EX (dCons (dBin oIx (dVar 0) (dC (.int 0))) (dCons (dBin oIx (dVar 0) (dC (.int 1))) dNil))))
  sNext)
  (sSeq (sIf (dTst (dBin (oEq id) (dVar 1) (dC (.int 3))))
  (sRet (dCm 3 p_Net_of EX (dCons (dBin oIx (dVar 0) (dC (.int 0))) (dCons (dBin oIx (dVar 0) (dC (.int 1))) (dCons (dBin oIx (dVar 0) (dC (.int 2))) dNil)))))
  sNext)
  (sSeq (sIf (dTst (dBin (oEq id) (dVar 1) (dC (.int 4))))
  (sRet (dCm 3 p_Net_of EX (dCons (dBin oIx (dVar 0) (dC (.int 0))) (dCons (dBin oIx (dVar 0) (dC (.int 1))) (dCons (dBin oIx (dVar 0) (dC (.int 2))) (dCons (dBin oIx (dVar 0) (dC (.int 3))) dNil))))))
  sNext)
  (sSeq (sIf (dTst (dBin (oEq id) (dVar 1) (dC (.int 5))))
  (sRet (dCm 3 p_Net_of EX (dCons (dBin oIx (dVar 0) (dC (.int 0))) (dCons (dBin oIx (dVar 0) (dC (.int 1))) (dCons (dBin oIx (dVar 0) (dC (.int 2))) (dCons (dBin oIx (dVar 0) (dC (.int 3))) (dCons (dBin oIx (dVar 0) (dC (.int 4))) dNil)))))))
  sNext)
  (sSeq (sIf (dTst (dBin (oEq id) (dVar 1) (dC (.int 6))))
  (sRet (dCm 3 p_Net_of EX (dCons (dBin oIx (dVar 0) (dC (.int 0))) (dCons (dBin oIx (dVar 0) (dC (.int 1))) (dCons (dBin oIx (dVar 0) (dC (.int 2))) (dCons (dBin oIx (dVar 0) (dC (.int 3))) (dCons (dBin oIx (dVar 0) (dC (.int 4))) (dCons (dBin oIx (dVar 0) (dC (.int 5))) dNil))))))))
  sNext)
  (sSeq (sIf (dTst (dBin (oEq id) (dVar 1) (dC (.int 7))))
  (sRet (dCm 3 p_Net_of EX (dCons (dBin oIx (dVar 0) (dC (.int 0))) (dCons (dBin oIx (dVar 0) (dC (.int 1))) (dCons (dBin oIx (dVar 0) (dC (.int 2))) (dCons (dBin oIx (dVar 0) (dC (.int 3))) (dCons (dBin oIx (dVar 0) (dC (.int 4))) (dCons (dBin oIx (dVar 0) (dC (.int 5))) (dCons (dBin oIx (dVar 0) (dC (.int 6))) dNil)))))))))
  sNext)
  (sSeq (sIf (dTst (dBin (oEq id) (dVar 1) (dC (.int 8))))
  (sRet (dCm 3 p_Net_of EX (dCons (dBin oIx (dVar 0) (dC (.int 0))) (dCons (dBin oIx (dVar 0) (dC (.int 1))) (dCons (dBin oIx (dVar 0) (dC (.int 2))) (dCons (dBin oIx (dVar 0) (dC (.int 3))) (dCons (dBin oIx (dVar 0) (dC (.int 4))) (dCons (dBin oIx (dVar 0) (dC (.int 5))) (dCons (dBin oIx (dVar 0) (dC (.int 6))) (dCons (dBin oIx (dVar 0) (dC (.int 7))) dNil))))))))))
  sNext)
  (sSeq (sIf (dTst (dBin (oEq id) (dVar 1) (dC (.int 9))))
  (sRet (dCm 3 p_Net_of EX (dCons (dBin oIx (dVar 0) (dC (.int 0))) (dCons (dBin oIx (dVar 0) (dC (.int 1))) (dCons (dBin oIx (dVar 0) (dC (.int 2))) (dCons (dBin oIx (dVar 0) (dC (.int 3))) (dCons (dBin oIx (dVar 0) (dC (.int 4))) (dCons (dBin oIx (dVar 0) (dC (.int 5))) (dCons (dBin oIx (dVar 0) (dC (.int 6))) (dCons (dBin oIx (dVar 0) (dC (.int 7))) (dCons (dBin oIx (dVar 0) (dC (.int 8))) dNil)))))))))))
  sNext)
  (sSeq (sAsg (.nm 2) (dNew (nLst (dCons (dBin oIx (dVar 0) (dC (.int 5))) (dCons (dBin oIx (dVar 0) (dC (.int 6))) (dCons (dBin oIx (dVar 0) (dC (.int 7))) (dCons (dBin oIx (dVar 0) (dC (.int 8))) (dCons (dBin oIx (dVar 0) (dC (.int 9))) dNil))))))))
  (sRet (dCm 3 p_Net_of EX (dCons (dBin oIx (dVar 0) (dC (.int 0))) (dCons (dBin oIx (dVar 0) (dC (.int 1))) (dCons (dBin oIx (dVar 0) (dC (.int 2))) (dCons (dBin oIx (dVar 0) (dC (.int 3))) (dCons (dBin oIx (dVar 0) (dC (.int 4))) (dCons (dBin oIx (dVar 2) (dC (.int 0))) (dCons (dBin oIx (dVar 2) (dC (.int 1))) (dCons (dBin oIx (dVar 2) (dC (.int 2))) (dCons (dBin oIx (dVar 2) (dC (.int 3))) (dCons (dBin oIx (dVar 2) (dC (.int 4))) dNil))))))))))))))))))))))))
theorem wk_law_of (T : Txt K mg C) {K0 : Nat} {f : Addr} {fd : FuncData} {p_Net_of : DSp} {k_Net_of : Nat} {p : DSp} (mono : MonoP p) (len : ∀ ds m Q E, p ds m Q E → ds.length = 1) (z_Net_of : CmC P w K mg base C 3 "of" k_Net_of p_Net_of) (h_Net_of : k_Net_of ≤ K0)
    (F : FunD K "_law_of" "_law_of" (defArgs st_law_of) (defBody st_law_of) (defScope st_law_of) [] [] f fd)
    (law : ∀ ds m (Q : QD) (E : QX), p ds m Q E → rd_law_of C  p_Net_of (fun c xs _ m => E c xs m) { nx := fun _ m => Q .non m, rt := Q } (env0 3 ds) m) : DF P w K mg base C (K0 + 1) f fd ["_law_links"] p := by
  refine df_of (k := K0) (d := rd_law_of C  p_Net_of) F sc_law_of mono len ?_ law
  intro cdv A outer s H E B EX hr tk
  exact (dss_cons (ds_setV sc_law_of.nd (de_b call_lenD T.f_len boot_len (da_cons (de_var 0) da_nil)))
  (dss_cons (ds_if (dt_cmp (op_eqR hr) (de_var 1) de_int) (dss_one (ds_ret (de_cm0 z_Net_of (de_gCls T.k_Net) hr (by omega) (TakesD.pass tk)))) dss_nil)
  (dss_cons (ds_if (dt_cmp (op_eqR hr) (de_var 1) de_int) (dss_one (ds_ret (de_cm z_Net_of (de_gCls T.k_Net) hr (by omega) (da_cons (de_ix ix_D (de_var 0) de_int) da_nil) (TakesD.pass tk)))) dss_nil)
  (dss_cons (ds_if (dt_cmp (op_eqR hr) (de_var 1) de_int) (dss_one (ds_ret (de_cm z_Net_of (de_gCls T.k_Net) hr (by omega) (da_cons (de_ix ix_D (de_var 0) de_int) (da_cons (de_ix ix_D (de_var 0) de_int) da_nil)) (TakesD.pass tk)))) dss_nil)
  (dss_cons (ds_if (dt_cmp (op_eqR hr) (de_var 1) de_int) (dss_one (ds_ret (de_cm z_Net_of (de_gCls T.k_Net) hr (by omega) (da_cons (de_ix ix_D (de_var 0) de_int) (da_cons (de_ix ix_D (de_var 0) de_int) (da_cons (de_ix ix_D (de_var 0) de_int) da_nil))) (TakesD.pass tk)))) dss_nil)
  (dss_cons (ds_if (dt_cmp (op_eqR hr) (de_var 1) de_int) (dss_one (ds_ret (de_cm z_Net_of (de_gCls T.k_Net) hr (by omega) (da_cons (de_ix ix_D (de_var 0) de_int) (da_cons (de_ix ix_D (de_var 0) de_int) (da_cons (de_ix ix_D (de_var 0) de_int) (da_cons (de_ix ix_D (de_var 0) de_int) da_nil)))) (TakesD.pass tk)))) dss_nil)
  (dss_cons (ds_if (dt_cmp (op_eqR hr) (de_var 1) de_int) (dss_one (ds_ret (de_cm z_Net_of (de_gCls T.k_Net) hr (by omega) (da_cons (de_ix ix_D (de_var 0) de_int) (da_cons (de_ix ix_D (de_var 0) de_int) (da_cons (de_ix ix_D (de_var 0) de_int) (da_cons (de_ix ix_D (de_var 0) de_int) (da_cons (de_ix ix_D (de_var 0) de_int) da_nil))))) (TakesD.pass tk)))) dss_nil)
  (dss_cons (ds_if (dt_cmp (op_eqR hr) (de_var 1) de_int) (dss_one (ds_ret (de_cm z_Net_of (de_gCls T.k_Net) hr (by omega) (da_cons (de_ix ix_D (de_var 0) de_int) (da_cons (de_ix ix_D (de_var 0) de_int) (da_cons (de_ix ix_D (de_var 0) de_int) (da_cons (de_ix ix_D (de_var 0) de_int) (da_cons (de_ix ix_D (de_var 0) de_int) (da_cons (de_ix ix_D (de_var 0) de_int) da_nil)))))) (TakesD.pass tk)))) dss_nil)
  (dss_cons (ds_if (dt_cmp (op_eqR hr) (de_var 1) de_int) (dss_one (ds_ret (de_cm z_Net_of (de_gCls T.k_Net) hr (by omega) (da_cons (de_ix ix_D (de_var 0) de_int) (da_cons (de_ix ix_D (de_var 0) de_int) (da_cons (de_ix ix_D (de_var 0) de_int) (da_cons (de_ix ix_D (de_var 0) de_int) (da_cons (de_ix ix_D (de_var 0) de_int) (da_cons (de_ix ix_D (de_var 0) de_int) (da_cons (de_ix ix_D (de_var 0) de_int) da_nil))))))) (TakesD.pass tk)))) dss_nil)
  (dss_cons (ds_if (dt_cmp (op_eqR hr) (de_var 1) de_int) (dss_one (ds_ret (de_cm z_Net_of (de_gCls T.k_Net) hr (by omega) (da_cons (de_ix ix_D (de_var 0) de_int) (da_cons (de_ix ix_D (de_var 0) de_int) (da_cons (de_ix ix_D (de_var 0) de_int) (da_cons (de_ix ix_D (de_var 0) de_int) (da_cons (de_ix ix_D (de_var 0) de_int) (da_cons (de_ix ix_D (de_var 0) de_int) (da_cons (de_ix ix_D (de_var 0) de_int) (da_cons (de_ix ix_D (de_var 0) de_int) da_nil)))))))) (TakesD.pass tk)))) dss_nil)
  (dss_cons (ds_if (dt_cmp (op_eqR hr) (de_var 1) de_int) (dss_one (ds_ret (de_cm z_Net_of (de_gCls T.k_Net) hr (by omega) (da_cons (de_ix ix_D (de_var 0) de_int) (da_cons (de_ix ix_D (de_var 0) de_int) (da_cons (de_ix ix_D (de_var 0) de_int) (da_cons (de_ix ix_D (de_var 0) de_int) (da_cons (de_ix ix_D (de_var 0) de_int) (da_cons (de_ix ix_D (de_var 0) de_int) (da_cons (de_ix ix_D (de_var 0) de_int) (da_cons (de_ix ix_D (de_var 0) de_int) (da_cons (de_ix ix_D (de_var 0) de_int) da_nil))))))))) (TakesD.pass tk)))) dss_nil)
  (dss_cons (ds_setV sc_law_of.nd (DN.de (dn_lst (da_cons (de_ix ix_D (de_var 0) de_int) (da_cons (de_ix ix_D (de_var 0) de_int) (da_cons (de_ix ix_D (de_var 0) de_int) (da_cons (de_ix ix_D (de_var 0) de_int) (da_cons (de_ix ix_D (de_var 0) de_int) da_nil))))))))
  (dss_one (ds_ret (de_cm z_Net_of (de_gCls T.k_Net) hr (by omega) (da_cons (de_ix ix_D (de_var 0) de_int) (da_cons (de_ix ix_D (de_var 0) de_int) (da_cons (de_ix ix_D (de_var 0) de_int) (da_cons (de_ix ix_D (de_var 0) de_int) (da_cons (de_ix ix_D (de_var 0) de_int) (da_cons (de_ix ix_D (de_var 2) de_int) (da_cons (de_ix ix_D (de_var 2) de_int) (da_cons (de_ix ix_D (de_var 2) de_int) (da_cons (de_ix ix_D (de_var 2) de_int) (da_cons (de_ix ix_D (de_var 2) de_int) da_nil)))))))))) (TakesD.pass tk))))))))))))))))

abbrev st_law_told : Stmt := (top 25)
theorem sc_law_told : FnScope ["_law_links", "_law_found", "_law_net_here", "error"] ["_law_links"] (defScope st_law_told) := ⟨rfl, rfl, rfl, by decide +kernel, rfl, by decide +kernel, by decide +kernel⟩
def rd_law_told (C : Ct) (p_law_of : DSp) (p_Net_links : DSp) (p_Net_nodes : DSp) (EX : QXe) : TSd :=
  (sSeq (sAsg (.nm 1) (dC .non))
  (sSeq (sTry 3 tst_SpareError (fun EX' => (sSeq (sAsg (.nm 2) (dCall p_law_of EX' (dCons (dVar 0) dNil)))
  (sAsg (.nm 1) (dN oTup (dCons (dProp 3 p_Net_nodes (dVar 2)) (dCons (dProp 3 p_Net_links (dVar 2)) dNil)))))) (fun a c xs => (sIf (dTst (dN (oIsE a c isE) (dCons (dVar 3) (dCons (dC (.cls 1)) dNil))))
  (sAsg (.nm 1) (dN oTup (dCons (dC (.str "BadLink")) (dCons (dXf a c xs fi_index (dVar 3)) dNil))))
  (sIf (dTst (dN (oIsE a c isE) (dCons (dVar 3) (dCons (dC (.cls 2)) dNil))))
  (sAsg (.nm 1) (dN oTup (dCons (dC (.str "BadNet")) (dCons (dXf a c xs fi_error (dVar 3)) dNil))))
  sNext))) EX)
  (sRet (dVar 1))))
theorem wk_law_told (T : Txt K mg C) {K0 : Nat} {f : Addr} {fd : FuncData} {p_law_of : DSp} {k_law_of : Nat} {p_Net_links : DSp} {k_Net_links : Nat} {p_Net_nodes : DSp} {k_Net_nodes : Nat} {p : DSp} (mono : MonoP p) (len : ∀ ds m Q E, p ds m Q E → ds.length = 1) (c_law_of : FnC P w K mg base C "_law_of" k_law_of ["_law_links"] p_law_of) (h_law_of : k_law_of ≤ K0) (r_Net_links : PrC P w K mg base C 3 "links" k_Net_links p_Net_links) (h_Net_links : k_Net_links + 1 ≤ K0) (r_Net_nodes : PrC P w K mg base C 3 "nodes" k_Net_nodes p_Net_nodes) (h_Net_nodes : k_Net_nodes + 1 ≤ K0)
    (F : FunD K "_law_told" "_law_told" (defArgs st_law_told) (defBody st_law_told) (defScope st_law_told) [] [] f fd)
    (law : ∀ ds m (Q : QD) (E : QX), p ds m Q E → rd_law_told C p_law_of p_Net_links p_Net_nodes (fun c xs _ m => E c xs m) { nx := fun _ m => Q .non m, rt := Q } (env0 4 ds) m) : DF P w K mg base C (K0 + 1) f fd ["_law_links"] p := by
  refine df_of (k := K0) (d := rd_law_told C p_law_of p_Net_links p_Net_nodes) F sc_law_told mono len ?_ law
  intro cdv A outer s H E B EX hr tk
  exact (dss_cons (ds_setV sc_law_told.nd de_non)
  (dss_cons (ds_try rfl rfl sc_law_told.nd rfl rfl ⟨rfl, by decide, Or.inl T.g_SpareError⟩ tk T.tst_SpareError (fun EX' => (by repeat (first | exact (fun _ _ _ _ l h => l.nx _ _ h) | apply sSeq.mono | apply sDrop.mono | apply sAsg.mono | apply sRet.mono | apply sIf.mono | apply dMakeF.mono | apply dCall.mono | apply dIf.mono | apply dTst.mono | apply dN.mono | apply dXf.mono | apply dBin.mono | apply dCons.mono | apply dProp.mono | apply dCm.mono | exact dNil.mono | exact dVar.mono _ | exact dC.mono _ | exact oIsE.mono | exact oTup.mono | exact c_law_of.F.mono | exact r_Net_links.mono | exact r_Net_nodes.mono))) (fun a c xs => (by repeat (first | exact (fun _ _ _ _ l h => l.nx _ _ h) | apply sSeq.mono | apply sDrop.mono | apply sAsg.mono | apply sRet.mono | apply sIf.mono | apply dMakeF.mono | apply dCall.mono | apply dIf.mono | apply dTst.mono | apply dN.mono | apply dXf.mono | apply dBin.mono | apply dCons.mono | apply dProp.mono | apply dCm.mono | exact dNil.mono | exact dVar.mono _ | exact dC.mono _ | exact oIsE.mono | exact oTup.mono | exact c_law_of.F.mono | exact r_Net_links.mono | exact r_Net_nodes.mono))) (fun pn xe B' EX' tk' hp' => (dss_cons (ds_setV sc_law_told.nd (de_fn c_law_of hr (by omega) (da_cons (de_var 0) da_nil) (TakesD.pass tk')))
  (dss_one (ds_setV sc_law_told.nd (de_tup (da_cons (de_prop r_Net_nodes (de_var 2) hr (by omega)) (da_cons (de_prop r_Net_links (de_var 2) hr (by omega)) da_nil))))))) (fun a oe d pn c vs xs B' hz hd hx => (dss_one (ds_if (dt_val (de_isE T.isE hz hd hx rfl T.f_isinstance boot_isinstance (da_cons (de_var 3) (da_cons (de_gCls T.k_BadLink) da_nil)))) (dss_one (ds_setV sc_law_told.nd (de_tup (da_cons de_str (da_cons (de_xf T.xf_index hz hd hx (de_var 3)) da_nil))))) (dss_one (ds_if (dt_val (de_isE T.isE hz hd hx rfl T.f_isinstance boot_isinstance (da_cons (de_var 3) (da_cons (de_gCls T.k_BadNet) da_nil)))) (dss_one (ds_setV sc_law_told.nd (de_tup (da_cons de_str (da_cons (de_xf T.xf_error hz hd hx (de_var 3)) da_nil))))) dss_nil))))))
  (dss_one (ds_ret (de_var 1)))))

abbrev st_law : Stmt := (top 26)
theorem sc_law : FnScope ["_law_script", "_law_deck_here", "_law_turn", "_law_nodes", "_law_links", "_law_change", "_law_at", "_law_kind", "_law_far", "_law_again", "_law_more"] ["_law_script"] (defScope st_law) := ⟨rfl, rfl, rfl, by decide +kernel, rfl, by decide +kernel, by decide +kernel⟩
def rd_law (C : Ct) (p_law_deck : DSp) (p_law_net : DSp) (p_law_next : DSp) (p_law_odd : DSp) (p_law_same : DSp) (p_law_due : DSp) (p_law_told : DSp) (EX : QXe) : TSd :=
  (sSeq (sAsg (.nm 1) (dCall p_law_deck EX0 (dCons (dVar 0) dNil)))
  (sSeq (sFor (.nm 2) (iRg1 (dC (.int 6)))
  (sSeq (sAsg (.tp [3, 4]) (dCall p_law_net EX0 (dCons (dVar 1) (dCons (dC (.int 8)) dNil))))
  (sSeq (sFor (.nm 5) (iRg1 (dCall p_law_next EX0 (dCons (dVar 1) (dCons (dC (.int 4)) dNil))))
  (sSeq (sPar 6 7 (dCall p_law_next EX0 (dCons (dVar 1) (dCons (dBin oAdd (dN oLen (dCons (dVar 4) dNil)) (dC (.int 1))) dNil))) (dCall p_law_next EX0 (dCons (dVar 1) (dCons (dC (.int 6)) dNil))))
  (sSeq (sAsg (.nm 8) (dN oTup (dCons (dCall p_law_next EX0 (dCons (dVar 1) (dCons (dC (.int 3)) dNil))) (dCons (dBin oIx (dNew (nLst (dCons (dC (.int 6)) (dCons (dC (.int 7)) (dCons (dC (.int 8)) (dCons (dBin oPow (dC (.int 10)) (dC (.int 20))) dNil)))))) (dCall p_law_next EX0 (dCons (dVar 1) (dCons (dC (.int 4)) dNil)))) dNil))))
  (sSeq (sAsg (.nm 9) (dBin oIx (dNew (nCat (dVar 4) (dNew (nLst (dCons (dN oTup (dCons (dC (.int 2)) (dCons (dC (.int 1)) dNil))) dNil))))) (dCall p_law_next EX0 (dCons (dVar 1) (dCons (dBin oAdd (dN oLen (dCons (dVar 4) dNil)) (dC (.int 1))) dNil)))))
  (sSeq (sIf (dTst (dN (oIsi C) (dCons (dVar 9) (dCons (dC (.ty "tuple")) dNil))))
  (sAsg (.nm 9) (dBack (dVar 9)))
  sNext)
  (sSeq (sAsg (.nm 10) (dBin oIx (dNew (nLst (dCons (dCall p_law_odd EX0 (dCons (dVar 1) (dCons (dN oTup (dCons (dC (.int 0)) (dCons (dC (.int 1)) dNil))) dNil))) (dCons (dVar 8) (dCons (dVar 9) (dCons (dN oTup (dCons (dC (.int 1)) (dCons (dC (.int 1)) dNil))) dNil)))))) (dN (oI2 fun i j => if j < i then j else i) (dCons (dVar 7) (dCons (dC (.int 3)) dNil)))))
  (sAsg (.nm 4) (dNew (nCat (dNew (nCat (dSl (dVar 4) dNo (dPart (dVar 6))) (dNew (nLst (dCons (dVar 10) dNil))))) (dSl (dVar 4) (dPart (dBin oAdd (dVar 6) (dN (oN1 fInt) (dCons (dBin oGt (dVar 7) (dC (.int 3))) dNil)))) dNo))))))))))
  (sSeq (sAsg (.nm 4) (dSl (dVar 4) dNo (dPart (dC (.int 10)))))
  (sIf (dNot (dTst (dCall p_law_same EX0 (dCons (dCall p_law_told EX0 (dCons (dVar 4) dNil)) (dCons (dCall p_law_due EX0 (dCons (dVar 4) dNil)) dNil)))))
  (sRet (dC (.bl false)))
  sNext)))))
  (sRet (dC (.bl true)))))
theorem wk_law (T : Txt K mg C) {K0 : Nat} {f : Addr} {fd : FuncData} {p_law_deck : DSp} {k_law_deck : Nat} {p_law_net : DSp} {k_law_net : Nat} {p_law_next : DSp} {k_law_next : Nat} {p_law_odd : DSp} {k_law_odd : Nat} {p_law_same : DSp} {k_law_same : Nat} {p_law_due : DSp} {k_law_due : Nat} {p_law_told : DSp} {k_law_told : Nat} {p : DSp} (mono : MonoP p) (len : ∀ ds m Q E, p ds m Q E → ds.length = 1) (c_law_deck : FnC P w K mg base C "_law_deck" k_law_deck ["_law_script"] p_law_deck) (h_law_deck : k_law_deck ≤ K0) (c_law_net : FnC P w K mg base C "_law_net" k_law_net ["_law_deck_here", "_law_most"] p_law_net) (h_law_net : k_law_net ≤ K0) (c_law_next : FnC P w K mg base C "_law_next" k_law_next ["_law_deck_here", "_law_many"] p_law_next) (h_law_next : k_law_next ≤ K0) (c_law_odd : FnC P w K mg base C "_law_odd" k_law_odd ["_law_deck_here", "_law_link"] p_law_odd) (h_law_odd : k_law_odd ≤ K0) (c_law_same : FnCG P w K mg base C "_law_same" k_law_same ["_law_found", "_law_due_here"] p_law_same) (h_law_same : k_law_same ≤ K0) (c_law_due : FnC P w K mg base C "_law_due" k_law_due ["_law_links"] p_law_due) (h_law_due : k_law_due ≤ K0) (c_law_told : FnC P w K mg base C "_law_told" k_law_told ["_law_links"] p_law_told) (h_law_told : k_law_told ≤ K0)
    (F : FunD K "law" "law" (defArgs st_law) (defBody st_law) (defScope st_law) [] [] f fd)
    (law : ∀ ds m (Q : QD) (E : QX), p ds m Q E → rd_law C p_law_deck p_law_net p_law_next p_law_odd p_law_same p_law_due p_law_told (fun c xs _ m => E c xs m) { nx := fun _ m => Q .non m, rt := Q } (env0 11 ds) m) : DG P w K mg base C (K0 + 1) f fd ["_law_script"] p := by
  refine dg_of (k := K0) (d := rd_law C p_law_deck p_law_net p_law_next p_law_odd p_law_same p_law_due p_law_told) F sc_law mono len ?_ law
  intro cdv A outer s H E B EX hrg tk
  have hr := hrg.room
  have gd := hrg.gd
  exact (dss_cons (ds_setV sc_law.nd (de_fn c_law_deck hr (by omega) (da_cons (de_var 0) da_nil) passD0))
  (dss_cons (ds_for (passes_of rfl) rfl (di_range1 rfl T.f_range de_int) (tg_v sc_law.nd) (dss_cons (ds_asg (de_fn c_law_net hr (by omega) (da_cons (de_var 1) (da_cons de_int da_nil)) passD0) (tg_tp rfl (tgs_v sc_law.nd (tgs_v sc_law.nd tgs_nil))))
  (dss_cons (ds_for (passes_of rfl) rfl (di_range1 rfl T.f_range (de_fn c_law_next hr (by omega) (da_cons (de_var 1) (da_cons de_int da_nil)) passD0)) (tg_v sc_law.nd) (dss_cons (ds_par rfl sc_law.nd rfl rfl (by decide) rfl rfl (de_fn c_law_next hr (by omega) (da_cons (de_var 1) (da_cons (de_bin op_addD (de_b call_lenD T.f_len boot_len (da_cons (de_var 4) da_nil)) de_int) da_nil)) passD0) (de_fn c_law_next hr (by omega) (da_cons (de_var 1) (da_cons de_int da_nil)) passD0) (by rfl))
  (dss_cons (ds_setV sc_law.nd (de_tup (da_cons (de_fn c_law_next hr (by omega) (da_cons (de_var 1) (da_cons de_int da_nil)) passD0) (da_cons (de_ix ix_D (DN.de (dn_lst (da_cons de_int (da_cons de_int (da_cons de_int (da_cons (de_bin op_powD de_int de_int) da_nil)))))) (de_fn c_law_next hr (by omega) (da_cons (de_var 1) (da_cons de_int da_nil)) passD0)) da_nil))))
  (dss_cons (ds_setV sc_law.nd (de_ix ix_D (DN.de (dn_cat (de_var 4) (DN.de (dn_lst (da_cons (de_tup (da_cons de_int (da_cons de_int da_nil))) da_nil))))) (de_fn c_law_next hr (by omega) (da_cons (de_var 1) (da_cons (de_bin op_addD (de_b call_lenD T.f_len boot_len (da_cons (de_var 4) da_nil)) de_int) da_nil)) passD0)))
  (dss_cons (ds_if (dt_val (de_b (call_isiD T.ct) T.f_isinstance boot_isinstance (da_cons (de_var 9) (da_cons (de_tyN T.f_tuple boot_tuple) da_nil)))) (dss_one (ds_setV sc_law.nd (de_back (de_var 9)))) dss_nil)
  (dss_cons (ds_setV sc_law.nd (de_ix ix_D (DN.de (dn_lst (da_cons (de_fn c_law_odd hr (by omega) (da_cons (de_var 1) (da_cons (de_tup (da_cons de_int (da_cons de_int da_nil))) da_nil)) passD0) (da_cons (de_var 8) (da_cons (de_var 9) (da_cons (de_tup (da_cons de_int (da_cons de_int da_nil))) da_nil)))))) (de_b (call_min2D rfl) T.f_min boot_min (da_cons (de_var 7) (da_cons de_int da_nil)))))
  (dss_one (ds_setV sc_law.nd (DN.de (dn_cat (DN.de (dn_cat (de_sl (de_var 4) do_none (do_some (de_var 6))) (DN.de (dn_lst (da_cons (de_var 10) da_nil))))) (de_sl (de_var 4) (do_some (de_bin op_addD (de_var 6) (de_t call_intD T.f_int boot_int (da_cons (de_cmp op_gtD (de_var 7) de_int) da_nil)))) do_none)))))))))))
  (dss_cons (ds_setV sc_law.nd (de_sl (de_var 4) do_none (do_some de_int)))
  (dss_one (ds_if (dt_not (dt_val (de_fnG c_law_same hrg (by omega) (da_cons (de_fn c_law_told hr (by omega) (da_cons (de_var 4) da_nil) passD0) (da_cons (de_fn c_law_due hr (by omega) (da_cons (de_var 4) da_nil) passD0) da_nil)) passD0))) (dss_one (ds_ret de_bl)) dss_nil))))))
  (dss_one (ds_ret de_bl))))

end
end K04

set_option maxHeartbeats 1000000
namespace K04
open PySem PySem.Spec L2 DL DL.S K02
open PyProof.Rows hiding isInt
/-! ### what Net.of answers (no program in sight) -/
def lkI (q : Int × Int) : Dat := .tup [.int q.1, .int q.2]
def mnx (q : Int × Int) : Int × Int := (min q.1 q.2, max q.1 q.2)
def okL : Dat → Bool
  | .tup [.int a, .int b] => decide (0 ≤ a) && (decide (0 ≤ b) && decide (a ≠ b))
  | _ => false
def badGo : Nat → List Dat → Option Nat
  | _, [] => none
  | k, x :: xs => if okL x = true then badGo (k + 1) xs else some k
def stepM (t : Int) : Dat → Int
  | .tup [.int a, .int b] => max3 t a b
  | _ => t
def mostD (vs : List Dat) : Int := vs.foldl stepM 0
noncomputable def ofE (vs : List Dat) (e : Dat) : Dat ⊕ (Nat × List Dat) := match e with
  | .non => .inl (.ins 3 [.int (mostD vs + 1), .tup (sortD (vs.map ends))])
  | e => .inr (2, [e])
noncomputable def ofR (vs : List Dat) : Dat ⊕ (Nat × List Dat) := match badGo 0 vs with
  | some k => .inr (1, [.int k])
  | none => ofE vs (errD (.int (mostD vs + 1)) (.tup vs))
noncomputable def toldE (vs : List Dat) (e : Dat) : Dat := match e with
  | .non => .tup [.int (mostD vs + 1), .tup (sortD (vs.map ends))]
  | e => .tup [.str "BadNet", e]
noncomputable def toldD (vs : List Dat) : Dat := match badGo 0 vs with
  | some k => .tup [.str "BadLink", .int k]
  | none => toldE vs (errD (.int (mostD vs + 1)) (.tup vs))
theorem okL_is {d : Dat} (h : okL d = true) : ∃ a b : Int, d = .tup [.int a, .int b] ∧ 0 ≤ a ∧ 0 ≤ b ∧ a ≠ b := by
  cases d with
  | tup xs =>
    match xs, h with
    | [.int a, .int b], h =>
      rw [okL, Bool.and_eq_true, Bool.and_eq_true, decide_eq_true_iff, decide_eq_true_iff, decide_eq_true_iff] at h
      exact ⟨a, b, rfl, h.1, h.2.1, h.2.2⟩
  | _ => cases h
structure QOk (qs : List (Int × Int)) : Prop where
  p : ∀ q ∈ qs, 0 ≤ q.1 ∧ 0 ≤ q.2 ∧ q.1 ≠ q.2
theorem bad_none : ∀ {vs : List Dat} {k : Nat}, badGo k vs = none → ∃ qs, vs = qs.map lkI ∧ QOk qs
  | [], _, _ => ⟨[], rfl, ⟨by simp⟩⟩
  | x :: xs, k, h => by
    rw [badGo] at h
    by_cases hx : okL x = true
    · rw [if_pos hx] at h
      obtain ⟨qs, e, hq⟩ := bad_none h
      obtain ⟨a, b, rfl, h1, h2, h3⟩ := okL_is hx
      refine ⟨(a, b) :: qs, by rw [e]; rfl, ⟨fun q hq' => ?_⟩⟩
      rcases List.mem_cons.mp hq' with rfl | z
      · exact ⟨h1, h2, h3⟩
      · exact hq.p q z
    · rw [if_neg hx] at h; cases h
def mostQ (t : Int) (qs : List (Int × Int)) : Int := qs.foldl (fun t q => max3 t q.1 q.2) t
theorem most_q (qs : List (Int × Int)) : mostD (qs.map lkI) = mostQ 0 qs := by
  unfold mostD mostQ
  rw [List.foldl_map]
  rfl
theorem max3_eq (t a b : Int) : max3 t a b = max t (max a b) := by
  unfold max3
  split <;> split <;> omega
theorem most_ge : ∀ (qs : List (Int × Int)) (t : Int), t ≤ mostQ t qs ∧ ∀ q ∈ qs, q.1 ≤ mostQ t qs ∧ q.2 ≤ mostQ t qs
  | [], t => ⟨Int.le_refl _, by simp⟩
  | q :: qs, t => by
    obtain ⟨h1, h2⟩ := most_ge qs (max3 t q.1 q.2)
    have e : mostQ t (q :: qs) = mostQ (max3 t q.1 q.2) qs := rfl
    rw [e]
    have e3 := max3_eq t q.1 q.2
    refine ⟨by omega, fun r hr => ?_⟩
    rcases List.mem_cons.mp hr with rfl | z
    · exact ⟨by omega, by omega⟩
    · exact h2 r z
/-- 1 + max([0] + [max(link) ..]) -/
theorem maxI_cons2 (x y : Int) (r : List Int) : maxI (x :: y :: r) = max x (maxI (y :: r)) := rfl
theorem max_most : ∀ (qs : List (Int × Int)) (t : Int), maxI (t :: qs.map fun q => max q.1 q.2) = mostQ t qs
  | [], t => rfl
  | q :: qs, t => by
    have e : mostQ t (q :: qs) = mostQ (max3 t q.1 q.2) qs := rfl
    rw [e, ← max_most qs, List.map_cons, maxI_cons2, max3_eq]
    have key : ∀ (r : List Int) (a b : Int), max a (maxI (b :: r)) = maxI (max a b :: r) := fun r a b => by
      cases r with
      | nil => rfl
      | cons c r => rw [maxI_cons2, maxI_cons2]; omega
    exact key _ _ _
/-! the first link that comes again -/
def againP (ms : List (Int × Int)) (k : Nat) : Bool := decide (ms.getD k (0, 0) ∈ ms.take k)
def againL (ms : List (Int × Int)) : List Nat := (List.range ms.length).filter (againP ms)
theorem ends_lkI (q : Int × Int) : ends (lkI q) = lkI (mnx q) := rfl
theorem nrm_lkI (q : Int × Int) : nrm (lkI q) = .lst [.int (mnx q).1, .int (mnx q).2] := rfl
theorem eqd_ll (p q : Int × Int) : eqd (.lst [.int p.1, .int p.2]) (.lst [.int q.1, .int q.2]) = decide (p = q) := by
  show (eqd (.int p.1) (.int q.1) && (eqd (.int p.2) (.int q.2) && true)) = _
  rw [eqd_ii, eqd_ii, Bool.and_true, ← Bool.decide_and]
  refine decide_eq_decide.mpr ?_
  constructor
  · rintro ⟨a, b⟩; exact Prod.ext a b
  · rintro rfl; exact ⟨rfl, rfl⟩
theorem eqd_lkI (p q : Int × Int) : eqd (lkI p) (lkI q) = decide (p = q) := eqd_ll p q
theorem any_lkI (ls : List (Int × Int)) (p : Int × Int) : ((ls.map lkI).any fun b => eqd b (lkI p)) = decide (p ∈ ls) := by
  rw [Bool.eq_iff_iff, List.any_eq_true, decide_eq_true_iff]
  constructor
  · rintro ⟨x, hx, he⟩
    obtain ⟨q, hq, rfl⟩ := List.mem_map.mp hx
    rw [eqd_lkI, decide_eq_true_iff] at he
    exact he ▸ hq
  · intro h
    exact ⟨_, List.mem_map_of_mem h, by rw [eqd_lkI]; simp⟩
theorem any_nrm (ls : List (Int × Int)) (p : Int × Int) : ((ls.map fun q => nrm (lkI q)).any fun s => eqd s (nrm (lkI p))) = decide (mnx p ∈ ls.map mnx) := by
  rw [Bool.eq_iff_iff, List.any_eq_true, decide_eq_true_iff]
  constructor
  · rintro ⟨x, hx, he⟩
    obtain ⟨q, hq, rfl⟩ := List.mem_map.mp hx
    rw [nrm_lkI, nrm_lkI, eqd_ll, decide_eq_true_iff] at he
    exact he ▸ List.mem_map_of_mem hq
  · intro h
    obtain ⟨q, hq, e⟩ := List.mem_map.mp h
    exact ⟨_, List.mem_map.mpr ⟨q, hq, rfl⟩, by rw [nrm_lkI, nrm_lkI, eqd_ll, e]; simp⟩
theorem linkI {n : Int} {q : Int × Int} (h : 0 ≤ q.1 ∧ 0 ≤ q.2 ∧ q.1 ≠ q.2) (h1 : q.1 < n) (h2 : q.2 < n) : linkB n (lkI q) = true := by
  unfold lkI linkB
  simp
  omega
def agD : List Nat → Dat
  | [] => .non
  | k :: _ => .tup [.int (k : Nat), .str "again"]
theorem errGo_ag {n : Int} : ∀ (rest done : List (Int × Int)), (∀ q ∈ rest, linkB n (lkI q) = true) →
    errGo n (done.map fun q => nrm (lkI q)) done.length (rest.map lkI) = agD ((List.range' done.length rest.length).filter (againP ((done ++ rest).map mnx)))
  | [], done, _ => rfl
  | q :: rest, done, h => by
    have ih := errGo_ag (n := n) rest (done ++ [q]) fun r hr => h r (by simp [hr])
    have e1 : ((done ++ q :: rest).map mnx).getD done.length (0, 0) = mnx q := by
      rw [List.getD_eq_getElem?_getD, List.getElem?_map, List.getElem?_append_right (Nat.le_refl _)]; simp
    have e2 : ((done ++ q :: rest).map mnx).take done.length = done.map mnx := by
      rw [List.map_append]
      have : (done.map mnx).length = done.length := List.length_map ..
      rw [List.take_append_of_le_length (by omega), List.take_of_length_le (by omega)]
    have eP : againP ((done ++ q :: rest).map mnx) done.length = decide (mnx q ∈ done.map mnx) := by
      unfold againP
      rw [e1, e2]
    rw [List.map_cons, errGo, if_pos (h q (by simp)), any_nrm, List.length_cons, List.range'_succ]
    by_cases hm : mnx q ∈ done.map mnx
    · rw [if_pos (decide_eq_true hm), List.filter_cons_of_pos (by rw [eP]; exact decide_eq_true hm)]
      rfl
    · rw [if_neg (by simpa using hm), List.filter_cons_of_neg (by rw [eP]; simpa using hm)]
      have e3 : (done.map fun q => nrm (lkI q)) ++ [nrm (lkI q)] = (done ++ [q]).map fun q => nrm (lkI q) := by simp
      rw [e3]
      have e4 : (done ++ [q]).length = done.length + 1 := by simp
      rw [e4] at ih
      rw [ih, show (done ++ [q]) ++ rest = done ++ q :: rest by simp]
theorem err_q {qs : List (Int × Int)} (h : QOk qs) : errD (.int (mostD (qs.map lkI) + 1)) (.tup (qs.map lkI)) =
    if 7 < mostQ 0 qs + 1 then .tup [.non, .str "nodes"] else if 8 < qs.length then .tup [.non, .str "links"] else agD (againL (qs.map mnx)) := by
  rw [most_q]
  have hm := most_ge qs 0
  show (if 1 ≤ mostQ 0 qs + 1 ∧ mostQ 0 qs + 1 ≤ 7 then errL (mostQ 0 qs + 1) (.tup (qs.map lkI)) else _) = _
  by_cases h7 : 7 < mostQ 0 qs + 1
  · rw [if_pos h7, if_neg (by omega)]
  · rw [if_neg h7, if_pos (by omega)]
    show (if (qs.map lkI).length ≤ 8 then errGo (mostQ 0 qs + 1) [] 0 (qs.map lkI) else _) = _
    by_cases h8 : 8 < qs.length
    · rw [if_pos h8, if_neg (by rw [List.length_map]; omega)]
    · rw [if_neg h8, if_pos (by rw [List.length_map]; omega)]
      have z := errGo_ag (n := mostQ 0 qs + 1) qs [] fun q hq => linkI (h.p q hq) (by have := (hm.2 q hq).1; omega) (by have := (hm.2 q hq).2; omega)
      rw [List.nil_append, List.length_nil] at z
      rw [List.map_nil] at z
      rw [z]
      unfold againL
      rw [List.length_map, List.range_eq_range']
end K04

set_option maxHeartbeats 1000000
namespace K04
open PySem PySem.Spec L2 DL DL.S K02
open PyProof.Rows hiding isInt
structure OfPre (vs : List Dat) : Prop where
  len : vs.length ≤ 100
  vd : ∀ x ∈ vs, good 3 x = true
def p_of : DSp := pRel 2 (fun ds m => ∃ vs, ds = [.cls 3, .tup vs] ∧ OfPre vs ∧ belM m.length m = true) (fun ds m r m' => ∃ vs, ds = [.cls 3, .tup vs] ∧ ofR vs = .inl r ∧ m' = m)
  (fun ds m c xs m' => ∃ vs, ds = [.cls 3, .tup vs] ∧ ofR vs = .inr (c, xs) ∧ m' = m)
theorem ev_pair {env : Env'} {m : Mem} {da : TAd} {x : Dat} (hx : plain x = true) (ha : EvA da env m [.f x]) : Ev (dCall p_pair EX0 da) env m (.f (.bl (isPair x))) :=
  ev_call ha rfl fun Q E q => ⟨rfl, ⟨x, rfl, hx⟩, fun r m' ⟨d, e1, e2, e3⟩ => by cases e1; subst e2 e3; exact q, fun _ _ _ z => z.elim⟩
theorem raise_i {c nf : Nat} {da : TAd} {EX : QXe} {D : En} {env : Env'} {m : Mem} {ls : List Lv} {ds : List Dat} (ha : EvA da env m ls) (e : DL.frs ls = some ds) (hn : ds.length = nf) (h : EX c ds.reverse env m) : sRaise (mOwn c nf da) EX D env m := ha _ (by
  simp only [e]; exact ⟨hn, h⟩)
def ge0 : Dat → Bool
  | .int i => decide (0 ≤ i)
  | _ => false
theorem vd_tup {k : Nat} {xs : List Dat} (h : good (k + 1) (.tup xs) = true) : ∀ x ∈ xs, good k x = true := fun x hx => by
  obtain ⟨j, hj, _, h2⟩ := good_tup h
  obtain rfl : j = k := by omega
  exact h2 x hx
section
variable {m : Mem} {vs : List Dat}
theorem of_test {x0 x1 x2 x3 : Option Sl} {x : Dat} (hv : good 3 x = true) : EvB (dOr (dNot (dTst (dCall p_pair EX0 (dCons (dVar 4) dNil)))) (dOr (dNot (dTst (dN (oBs fun bs => bs.all id) (dCons (dNew (nLc (.nm 5) dYes (dAndV (dCall p_whole EX0 (dCons (dVar 5) dNil)) (dBin oGe (dVar 5) (dC (.int 0)))) [5] (iVal (dVar 4)))) dNil)))) (dTst (dBin (oEq id) (dBin oIx (dVar 4) (dC (.int 0))) (dBin oIx (dVar 4) (dC (.int 1)))))))
    [x0, x1, x2, x3, some (.f x), none] m (!okL x) := by
  have hpl : plain x = true := good_plain hv
  have t1 := evb_not (evb_tst (ev_pair (env := [x0, x1, x2, x3, some (.f x), none]) (m := m) hpl (eva_cons (ev_v (i := 4) rfl) eva_nil)))
  by_cases hp : isPair x = true
  · obtain ⟨a, b, rfl⟩ : ∃ a b, x = .tup [a, b] := by
      cases x with
      | tup xs =>
        match xs, hp with
        | [a, b], _ => exact ⟨a, b, rfl⟩
      | _ => cases hp
    have hg := vd_tup hv
    have pl : ∀ y ∈ [a, b], plain y = true := fun y hy => good_plain (hg y hy)
    have e0 : ∀ y ∈ [a, b], Ev (dAndV (dCall p_whole EX0 (dCons (dVar 5) dNil)) (dBin oGe (dVar 5) (dC (.int 0)))) [x0, x1, x2, x3, some (.f (.tup [a, b])), some (.f y)] m (.f (.bl (ge0 y))) := fun y hy => by
      have e1 := ev_whole (env := [x0, x1, x2, x3, some (.f (.tup [a, b])), some (.f y)]) (m := m) (pl y hy) (eva_cons (ev_v (i := 5) rfl) eva_nil)
      cases y with
      | int i => exact (ev_and (c := decide (0 ≤ i)) e1 fun _ => ev_bin (ev_v rfl) ev_c e2_i0).eq (by simp [K02.isInt, ge0])
      | _ => exact ev_and (b := false) (c := true) e1 (fun z => by cases z)
    have ec : EvN (nLc (.nm 5) dYes (dAndV (dCall p_whole EX0 (dCons (dVar 5) dNil)) (dBin oGe (dVar 5) (dC (.int 0)))) [5] (iVal (dVar 4))) [x0, x1, x2, x3, some (.f (.tup [a, b])), none] m ([a, b].map fun y => .bl (ge0 y)) :=
      evn_lc (g := id) (xs := [a, b]) (evi_tup (ev_v rfl)) (by simp) (sz (Nat.le_of_ble_eq_true rfl)) fun y hy => ⟨_, rfl, e0 y hy⟩
    have t2 := evb_not (evb_tst (ev_n (eva_cons (ev_new ec) eva_nil) (em_bs (f := fun bs => bs.all id) rfl (DL.bools_map _ _))))
    rw [List.all_map] at t2
    by_cases hall : (ge0 a && ge0 b) = true
    · rw [Bool.and_eq_true] at hall
      obtain ⟨ha, hb⟩ := hall
      obtain ⟨i, rfl⟩ : ∃ i, a = .int i := by cases a <;> first | exact ⟨_, rfl⟩ | cases ha
      obtain ⟨j, rfl⟩ : ∃ j, b = .int j := by cases b <;> first | exact ⟨_, rfl⟩ | cases hb
      have t3 : EvB (dTst (dBin (oEq id) (dBin oIx (dVar 4) (dC (.int 0))) (dBin oIx (dVar 4) (dC (.int 1))))) [x0, x1, x2, x3, some (.f (.tup [.int i, .int j])), none] m (decide (i = j)) := by
        refine (evb_tst (ev_bin (ev_bin (ev_v rfl) ev_c (e2_ix (xs := [.int i, .int j]) rfl (atI0 _ _))) (ev_bin (ev_v rfl) ev_c (e2_ix (xs := [.int i, .int j]) rfl (atI1 _ _ _))) (e2_eq (f := id) rfl rfl (okR1 _ _) (okR1 _ _)))).eq ?_
        rw [eqd_ii]; rfl
      refine (evb_or t1 fun _ => evb_or t2 fun _ => t3).eq ?_
      have h1 : (0 : Int) ≤ i := of_decide_eq_true ha
      have h2 : (0 : Int) ≤ j := of_decide_eq_true hb
      simp [isPair, ge0, okL, h1, h2]
    · refine (evb_or (c := true) t1 fun _ => evb_or (b := true) (c := true) (t2.eq ?_) fun z => by cases z).eq ?_
      · rw [Bool.not_eq_true] at hall
        show (!(ge0 a && (ge0 b && true))) = true
        rw [Bool.and_true, hall]; rfl
      · rw [Bool.not_eq_true] at hall
        have : okL (.tup [a, b]) = false := by
          cases a <;> cases b <;> first | rfl | (simp [ge0] at hall; simp [okL]; omega)
        rw [this]
        simp
  · rw [Bool.not_eq_true] at hp
    have : okL x = false := by
      cases h : okL x with
      | false => rfl
      | true =>
        obtain ⟨a, b, rfl, _⟩ := okL_is h
        cases hp
    rw [this]
    exact evb_or (b := true) (c := true) (t1.eq (by rw [hp]; rfl)) fun z => by cases z
theorem of_loop {D : En} {EX : QXe} : ∀ (xs : List Dat) (k : Nat) (t : Int) (x3 x4 : Option Sl), (∀ x ∈ xs, good 3 x = true) →
    (∀ x3 x4, badGo k xs = none → D.nx [some (.f (.cls 3)), some (.f (.tup vs)), some (.f (.int (xs.foldl stepM t))), x3, x4, none] m) → (∀ (j : Nat) env, badGo k xs = some j → EX 1 [.int j] env m) →
    forGo (.tp [3, 4]) (sSeq (sIf (dOr (dNot (dTst (dCall p_pair EX0 (dCons (dVar 4) dNil)))) (dOr (dNot (dTst (dN (oBs fun bs => bs.all id) (dCons (dNew (nLc (.nm 5) dYes (dAndV (dCall p_whole EX0 (dCons (dVar 5) dNil)) (dBin oGe (dVar 5) (dC (.int 0)))) [5] (iVal (dVar 4)))) dNil)))) (dTst (dBin (oEq id) (dBin oIx (dVar 4) (dC (.int 0))) (dBin oIx (dVar 4) (dC (.int 1)))))))
  (sRaise (mOwn 1 1 (dCons (dVar 3) dNil)) EX)
  sNext)
  (sAsg (.nm 2) (dN (oI3 max3) (dCons (dVar 2) (dCons (dBin oIx (dVar 4) (dC (.int 0))) (dCons (dBin oIx (dVar 4) (dC (.int 1))) dNil)))))) D (enumD k xs)
    [some (.f (.cls 3)), some (.f (.tup vs)), some (.f (.int t)), x3, x4, none] m
  | [], k, t, x3, x4, _, h, _ => h x3 x4 rfl
  | x :: xs, k, t, x3, x4, hv, h, hE => by
    rw [enumD]
    unfold forGo
    show (sSeq _ _) _ [some (.f (.cls 3)), some (.f (.tup vs)), some (.f (.int t)), some (.f (.int k)), some (.f x), none] m
    refine st_seq (st_if (of_test (hv x (by simp))) (fun hb => ?_) fun hb => sq_next ?_)
    · have ea : EvA (dCons (dVar 3) dNil) [some (.f (.cls 3)), some (.f (.tup vs)), some (.f (.int t)), some (.f (.int k)), some (.f x), none] m [.f (.int k)] := eva_cons (ev_v rfl) eva_nil
      refine raise_i (ds := [.int k]) ea rfl rfl ?_
      have hx : okL x = false := by simpa using hb
      refine hE k _ ?_
      rw [badGo, if_neg (by rw [hx]; decide)]
    · have hx : okL x = true := by simpa using hb
      obtain ⟨a, b, rfl, _⟩ := okL_is hx
      have e3 : EvM (oI3 max3) [some (.f (.cls 3)), some (.f (.tup vs)), some (.f (.int t)), some (.f (.int k)), some (.f (.tup [.int a, .int b])), none] m [.f (.int t), .f (.int a), .f (.int b)] (.int (max3 t a b)) := fun Q q => q
      refine st_set (ev_n (eva_cons (ev_v rfl) (eva_cons (ev_bin (ev_v rfl) ev_c (e2_ix (xs := [.int a, .int b]) rfl (atI0 _ _))) (eva_cons (ev_bin (ev_v rfl) ev_c (e2_ix (xs := [.int a, .int b]) rfl (atI1 _ _ _))) eva_nil))) e3) ?_
      show forGo _ _ D (enumD (k + 1) xs) [some (.f (.cls 3)), some (.f (.tup vs)), some (.f (.int (max3 t a b))), some (.f (.int k)), some (.f (.tup [.int a, .int b])), none] m
      have eb : badGo k (.tup [.int a, .int b] :: xs) = badGo (k + 1) xs := by rw [badGo, if_pos hx]
      exact of_loop xs (k + 1) _ _ _ (fun y hy => hv y (by simp [hy])) (fun y3 y4 hn => h y3 y4 (eb.trans hn)) fun j env hj => hE j env (eb.trans hj)
end
theorem bels_of {k : Nat} : ∀ {xs : List Dat}, (∀ x ∈ xs, DL.bel k x = true) → bels k xs = true
  | [], _ => rfl
  | x :: xs, h => by rw [bels, h x (by simp), bels_of fun y hy => h y (by simp [hy])]; rfl
/-- the pairs of naturals -/
def nat2 (q : Int × Int) : Lk := ((min q.1 q.2).toNat, (max q.1 q.2).toNat)
theorem ends_nat {qs : List (Int × Int)} (h : QOk qs) : (qs.map lkI).map ends = (qs.map nat2).map lk := by
  rw [List.map_map, List.map_map]
  refine List.map_congr_left fun q hq => ?_
  have := h.p q hq
  show lkI (mnx q) = lk (nat2 q)
  unfold lkI mnx lk nat2
  simp only [Dat.tup.injEq, List.cons.injEq, Dat.int.injEq, and_true]
  omega
theorem of_cases {vs : List Dat} : (∃ k : Nat, ofR vs = .inr (1, [.int k]) ∧ toldD vs = .tup [.str "BadLink", .int k]) ∨ (∃ e, errD (.int (mostD vs + 1)) (.tup vs) = e ∧ e ≠ .non ∧ ofR vs = .inr (2, [e]) ∧ toldD vs = .tup [.str "BadNet", e]) ∨
    (∃ (n : Nat) (ps : List Lk), errD (.int (mostD vs + 1)) (.tup vs) = .non ∧ ofR vs = .inl (netD n ps) ∧ toldD vs = .tup [.int n, .tup (ps.map lk)]) := by
  unfold ofR toldD
  cases hb : badGo 0 vs with
  | some k => exact .inl ⟨k, rfl, rfl⟩
  | none =>
    obtain ⟨qs, rfl, hq⟩ := bad_none hb
    dsimp only
    by_cases he : errD (.int (mostD (qs.map lkI) + 1)) (.tup (qs.map lkI)) = .non
    · rw [he]
      refine .inr (.inr ⟨(mostD (qs.map lkI) + 1).toNat, (qs.map nat2).mergeSort Lk.le, rfl, ?_, ?_⟩)
      · show Sum.inl (Dat.ins 3 [.int (mostD (qs.map lkI) + 1), .tup (sortD ((qs.map lkI).map ends))]) = _
        rw [ends_nat hq, sortD_lk]
        have := (most_ge qs 0).1
        unfold netD
        rw [most_q]
        congr 5
        omega
      · show Dat.tup [.int (mostD (qs.map lkI) + 1), .tup (sortD ((qs.map lkI).map ends))] = _
        rw [ends_nat hq, sortD_lk]
        have := (most_ge qs 0).1
        rw [most_q]
        congr 3
        omega
    · refine .inr (.inl ⟨_, rfl, he, ?_, ?_⟩)
      · unfold ofE
        split
        · rename_i e; exact absurd e he
        · rfl
      · unfold toldE
        split
        · rename_i e; exact absurd e he
        · rfl
theorem ofR_non {vs : List Dat} {n : Nat} {ps : List Lk} (hb : badGo 0 vs = none) (he : errD (.int (mostD vs + 1)) (.tup vs) = .non) (h : ofR vs = .inl (netD n ps)) : Dat.ins 3 [.int (mostD vs + 1), .tup (sortD (vs.map ends))] = netD n ps := by
  unfold ofR at h
  rw [hb] at h
  dsimp only at h
  rw [he] at h
  exact Sum.inl.inj h
theorem law_Net_of (C : Ct) : ∀ ds m (Q : QD) (E : QX), p_of ds m Q E → rd_Net_of C p_pair p_whole p_initS (fun c xs _ m => E c xs m) { nx := fun _ m => Q .non m, rt := Q } (env0 6 ds) m := by
  rintro _ m Q E ⟨_, ⟨vs, rfl, hv, hb⟩, hQ, hE⟩
  show rd_Net_of C p_pair p_whole p_initS _ _ [some (.f (.cls 3)), some (.f (.tup vs)), none, none, none, none] m
  unfold rd_Net_of
  refine sq_set ev_c ?_
  show (sSeq _ _) _ [some (.f (.cls 3)), some (.f (.tup vs)), some (.f (.int 0)), none, none, none] m
  refine sq_for ?_
  refine evi_enum (.inr (ev_v rfl)) _ ?_
  refine of_loop (EX := fun c xs _ m => E c xs m) vs 0 0 none none hv.vd (fun x3 x4 hn => ?_) fun j env hj => hE _ _ _ ⟨vs, rfl, by unfold ofR; rw [hj], rfl⟩
  dsimp only
  show sRet _ _ [some (.f (.cls 3)), some (.f (.tup vs)), some (.f (.int (mostD vs))), x3, x4, none] m
  refine ret_i ⟨rfl, ?_⟩
  have e2 : EvM oTuple [some (.f (.cls 3)), some (.f (.tup vs)), some (.f (.int (mostD vs))), x3, x4, none] m [.f (.tup vs)] (.tup vs) := fun Q q => by
    simp only [oTuple, seqOf, der]; exact q
  refine (eva_cons (ev_bin (ev_v rfl) ev_c e2_add) (eva_cons (ev_n (eva_cons (ev_v rfl) eva_nil) e2) eva_nil)) _ ?_
  show p_initS [.obj m.length, .int (mostD vs + 1), .tup vs] (m ++ [.ins 3 []]) _ _
  have g5 : good 5 (.tup vs) = true := by
    rw [DL.S.good, Bool.and_eq_true, List.all_eq_true]
    exact ⟨decide_eq_true (by have := hv.len; omega), fun x hx => good_le (by omega) (hv.vd x hx)⟩
  refine ⟨rfl, ⟨m, _, _, rfl, rfl, rfl, g5⟩, ?_, ?_⟩
  · rintro r m' ⟨m0, n', xs, e1, e2, he, rfl, rfl⟩
    have em : m0 = m := (List.append_inj_left' e2 rfl).symm
    subst em
    simp only [List.cons.injEq, Dat.int.injEq, Dat.tup.injEq, and_true, true_and] at e1
    obtain ⟨rfl, rfl⟩ := e1
    rcases of_cases (vs := vs) with ⟨k, h1, h2⟩ | ⟨e, h1, h2, h3⟩ | ⟨n, ps, h1, h2, h3⟩
    · unfold ofR at h1
      rw [hn] at h1
      dsimp only at h1
      rw [he] at h1
      cases h1
    · exact absurd (h1.symm.trans he) h2
    · have en := ofR_non hn he h2
      have en2 : Dat.int (mostD vs + 1) = .int n ∧ Dat.tup (sortD (vs.map ends)) = .tup (ps.map lk) := by
        unfold netD at en
        simp only [Dat.ins.injEq, List.cons.injEq, and_true, true_and] at en
        exact en
      refine ⟨rfl, m0, _, rfl, rfl, rfl, hb, ?_, hQ _ _ ⟨vs, rfl, ?_, rfl⟩⟩
      · rw [en2.2]
        have z : bels m0.length (ps.map lk) = true := bels_of fun x hx => by
          obtain ⟨p, _, rfl⟩ := List.mem_map.mp hx
          rfl
        show ((true && ((bels m0.length (ps.map lk)) && true)) = true)
        rw [z]; rfl
      · rw [h2, ← en]
  · rintro c xs m' ⟨m0, nd', ld', e1, e2, he, rfl, rfl, rfl⟩
    have em : m0 = m := (List.append_inj_left' e2 rfl).symm
    subst em
    simp only [List.cons.injEq, and_true, true_and] at e1
    obtain ⟨rfl, rfl⟩ := e1
    rcases of_cases (vs := vs) with ⟨k, h1, h2⟩ | ⟨e, h1, h2, h3, h4⟩ | ⟨n, ps, h1, h2, h3⟩
    · unfold ofR at h1
      rw [hn] at h1
      dsimp only at h1
      unfold ofE at h1
      split at h1
      · cases h1
      · cases h1
    · refine ⟨m0, _, rfl, rfl, hb, ?_, hE _ _ _ ⟨vs, rfl, ?_, rfl⟩⟩
      · rw [h1]
        have : DL.bel m0.length e = true := by
          rw [← h1]
          obtain ⟨qs, rfl, hq⟩ := bad_none hn
          rw [err_q hq]
          split
          · rfl
          · split
            · rfl
            · unfold agD
              split <;> rfl
        rw [bels, this]; rfl
      · rw [h3, h1]
    · exact absurd h1 he
end K04

set_option maxHeartbeats 1000000
namespace K04
open PySem PySem.Spec L2 DL DL.S K02
open PyProof.Rows hiding isInt
def p_lof : DSp := pRel 1 (fun ds m => ∃ vs, ds = [.lst vs] ∧ OfPre vs ∧ vs.length ≤ 10 ∧ belM m.length m = true) (fun ds m r m' => ∃ vs, ds = [.lst vs] ∧ ofR vs = .inl r ∧ m' = m)
  (fun ds m c xs m' => ∃ vs, ds = [.lst vs] ∧ ofR vs = .inr (c, xs) ∧ m' = m)
theorem ret_of {da : TAd} {env : Env'} {m : Mem} {D : En} {EX : QXe} {vs : List Dat} {ls : List Lv} (ha : EvA da env m ls) (e : DL.frs ls = some vs) (hp : OfPre vs) (hb : belM m.length m = true)
    (hQ : ∀ r, ofR vs = .inl r → D.rt r m) (hE : ∀ c xs, ofR vs = .inr (c, xs) → EX c xs env m) : sRet (dCm 3 (pStar 1 p_of) EX da) D env m := by
  refine ret_i (ha _ ?_)
  simp only [e]
  refine ⟨by simp, ?_, ?_⟩
  · have := hp.len
    exact sz (by simp; omega)
  · show p_of [.cls 3, .tup vs] m _ _
    refine ⟨rfl, ⟨vs, rfl, hp, hb⟩, ?_, ?_⟩
    · rintro r m' ⟨vs', e1, e2, rfl⟩
      simp only [List.cons.injEq, Dat.tup.injEq, and_true, true_and] at e1
      subst e1
      exact hQ r e2
    · rintro c xs m' ⟨vs', e1, e2, rfl⟩
      simp only [List.cons.injEq, Dat.tup.injEq, and_true, true_and] at e1
      subst e1
      exact hE c xs e2
theorem t_len {L k : Nat} {x0 x2 : Option Sl} {m : Mem} : EvB (dTst (dBin (oEq id) (dVar 1) (dC (.int (k : Nat))))) [x0, some (.f (.int (L : Nat))), x2] m (decide (L = k)) := by
  refine (evb_tst (ev_bin (ev_v rfl) ev_c (e2_eq (f := id) rfl rfl (okR1 _ _) (okR1 _ _)))).eq ?_
  rw [eqd_ii]
  exact decide_eq_decide.mpr (by omega)
theorem ix_v {i k : Nat} {l : List Dat} {a : Dat} {env : Env'} {m : Mem} (e : env[i]? = some (some (.f (.lst l)))) (h : l[k]? = some a) : Ev (dBin oIx (dVar i) (dC (.int (k : Nat)))) env m (.f a) :=
  ev_bin (ev_v e) ev_c (e2_ix (xs := l) rfl (DL.atI_nat h))
theorem law_law_of (C : Ct) : ∀ ds m (Q : QD) (E : QX), p_lof ds m Q E → rd_law_of C (pStar 1 p_of) (fun c xs _ m => E c xs m) { nx := fun _ m => Q .non m, rt := Q } (env0 3 ds) m := by
  rintro _ m Q E ⟨_, ⟨vs, rfl, hp, h10, hb⟩, hQ, hE⟩
  have hQ' : ∀ r, ofR vs = .inl r → Q r m := fun r h => hQ _ _ ⟨vs, rfl, h, rfl⟩
  have hE' : ∀ c xs, ofR vs = .inr (c, xs) → E c xs m := fun c xs h => hE _ _ _ ⟨vs, rfl, h, rfl⟩
  show rd_law_of C (pStar 1 p_of) _ _ [some (.f (.lst vs)), none, none] m
  unfold rd_law_of
  refine sq_set (a := .int (vs.length : Nat)) (ev_n (eva_cons (ev_v rfl) eva_nil) (em_len rfl)) ?_
  show (sSeq _ _) _ [some (.f (.lst vs)), some (.f (.int (vs.length : Nat))), none] m
  match vs, h10, hp, hQ', hE' with
  | [], _, hp, hQ', hE' =>
    exact st_seq (st_ifT (t_len (L := 0) (k := 0)) (ret_of eva_nil rfl hp hb hQ' hE'))
  | [a], _, hp, hQ', hE' =>
    refine st_seq (st_ifF (t_len (L := 1) (k := 0)) (sq_next ?_))
    exact st_seq (st_ifT (t_len (L := 1) (k := 1)) (ret_of (eva_cons (ix_v (k := 0) rfl rfl) eva_nil) rfl hp hb hQ' hE'))
  | [a, b], _, hp, hQ', hE' =>
    refine st_seq (st_ifF (t_len (L := 2) (k := 0)) (sq_next ?_))
    refine st_seq (st_ifF (t_len (L := 2) (k := 1)) (sq_next ?_))
    exact st_seq (st_ifT (t_len (L := 2) (k := 2)) (ret_of (eva_cons (ix_v (k := 0) rfl rfl) (eva_cons (ix_v (k := 1) rfl rfl) eva_nil)) rfl hp hb hQ' hE'))
  | [a, b, c], _, hp, hQ', hE' =>
    refine st_seq (st_ifF (t_len (L := 3) (k := 0)) (sq_next ?_))
    refine st_seq (st_ifF (t_len (L := 3) (k := 1)) (sq_next ?_))
    refine st_seq (st_ifF (t_len (L := 3) (k := 2)) (sq_next ?_))
    exact st_seq (st_ifT (t_len (L := 3) (k := 3)) (ret_of (eva_cons (ix_v (k := 0) rfl rfl) (eva_cons (ix_v (k := 1) rfl rfl) (eva_cons (ix_v (k := 2) rfl rfl) eva_nil))) rfl hp hb hQ' hE'))
  | [a, b, c, d], _, hp, hQ', hE' =>
    refine st_seq (st_ifF (t_len (L := 4) (k := 0)) (sq_next ?_))
    refine st_seq (st_ifF (t_len (L := 4) (k := 1)) (sq_next ?_))
    refine st_seq (st_ifF (t_len (L := 4) (k := 2)) (sq_next ?_))
    refine st_seq (st_ifF (t_len (L := 4) (k := 3)) (sq_next ?_))
    exact st_seq (st_ifT (t_len (L := 4) (k := 4)) (ret_of (eva_cons (ix_v (k := 0) rfl rfl) (eva_cons (ix_v (k := 1) rfl rfl) (eva_cons (ix_v (k := 2) rfl rfl) (eva_cons (ix_v (k := 3) rfl rfl) eva_nil)))) rfl hp hb hQ' hE'))
  | [a, b, c, d, e], _, hp, hQ', hE' =>
    refine st_seq (st_ifF (t_len (L := 5) (k := 0)) (sq_next ?_))
    refine st_seq (st_ifF (t_len (L := 5) (k := 1)) (sq_next ?_))
    refine st_seq (st_ifF (t_len (L := 5) (k := 2)) (sq_next ?_))
    refine st_seq (st_ifF (t_len (L := 5) (k := 3)) (sq_next ?_))
    refine st_seq (st_ifF (t_len (L := 5) (k := 4)) (sq_next ?_))
    exact st_seq (st_ifT (t_len (L := 5) (k := 5)) (ret_of (eva_cons (ix_v (k := 0) rfl rfl) (eva_cons (ix_v (k := 1) rfl rfl) (eva_cons (ix_v (k := 2) rfl rfl) (eva_cons (ix_v (k := 3) rfl rfl) (eva_cons (ix_v (k := 4) rfl rfl) eva_nil))))) rfl hp hb hQ' hE'))
  | [a, b, c, d, e, f], _, hp, hQ', hE' =>
    refine st_seq (st_ifF (t_len (L := 6) (k := 0)) (sq_next ?_))
    refine st_seq (st_ifF (t_len (L := 6) (k := 1)) (sq_next ?_))
    refine st_seq (st_ifF (t_len (L := 6) (k := 2)) (sq_next ?_))
    refine st_seq (st_ifF (t_len (L := 6) (k := 3)) (sq_next ?_))
    refine st_seq (st_ifF (t_len (L := 6) (k := 4)) (sq_next ?_))
    refine st_seq (st_ifF (t_len (L := 6) (k := 5)) (sq_next ?_))
    exact st_seq (st_ifT (t_len (L := 6) (k := 6)) (ret_of (eva_cons (ix_v (k := 0) rfl rfl) (eva_cons (ix_v (k := 1) rfl rfl) (eva_cons (ix_v (k := 2) rfl rfl) (eva_cons (ix_v (k := 3) rfl rfl) (eva_cons (ix_v (k := 4) rfl rfl) (eva_cons (ix_v (k := 5) rfl rfl) eva_nil)))))) rfl hp hb hQ' hE'))
  | [a, b, c, d, e, f, g], _, hp, hQ', hE' =>
    refine st_seq (st_ifF (t_len (L := 7) (k := 0)) (sq_next ?_))
    refine st_seq (st_ifF (t_len (L := 7) (k := 1)) (sq_next ?_))
    refine st_seq (st_ifF (t_len (L := 7) (k := 2)) (sq_next ?_))
    refine st_seq (st_ifF (t_len (L := 7) (k := 3)) (sq_next ?_))
    refine st_seq (st_ifF (t_len (L := 7) (k := 4)) (sq_next ?_))
    refine st_seq (st_ifF (t_len (L := 7) (k := 5)) (sq_next ?_))
    refine st_seq (st_ifF (t_len (L := 7) (k := 6)) (sq_next ?_))
    exact st_seq (st_ifT (t_len (L := 7) (k := 7)) (ret_of (eva_cons (ix_v (k := 0) rfl rfl) (eva_cons (ix_v (k := 1) rfl rfl) (eva_cons (ix_v (k := 2) rfl rfl) (eva_cons (ix_v (k := 3) rfl rfl) (eva_cons (ix_v (k := 4) rfl rfl) (eva_cons (ix_v (k := 5) rfl rfl) (eva_cons (ix_v (k := 6) rfl rfl) eva_nil))))))) rfl hp hb hQ' hE'))
  | [a, b, c, d, e, f, g, h], _, hp, hQ', hE' =>
    refine st_seq (st_ifF (t_len (L := 8) (k := 0)) (sq_next ?_))
    refine st_seq (st_ifF (t_len (L := 8) (k := 1)) (sq_next ?_))
    refine st_seq (st_ifF (t_len (L := 8) (k := 2)) (sq_next ?_))
    refine st_seq (st_ifF (t_len (L := 8) (k := 3)) (sq_next ?_))
    refine st_seq (st_ifF (t_len (L := 8) (k := 4)) (sq_next ?_))
    refine st_seq (st_ifF (t_len (L := 8) (k := 5)) (sq_next ?_))
    refine st_seq (st_ifF (t_len (L := 8) (k := 6)) (sq_next ?_))
    refine st_seq (st_ifF (t_len (L := 8) (k := 7)) (sq_next ?_))
    exact st_seq (st_ifT (t_len (L := 8) (k := 8)) (ret_of (eva_cons (ix_v (k := 0) rfl rfl) (eva_cons (ix_v (k := 1) rfl rfl) (eva_cons (ix_v (k := 2) rfl rfl) (eva_cons (ix_v (k := 3) rfl rfl) (eva_cons (ix_v (k := 4) rfl rfl) (eva_cons (ix_v (k := 5) rfl rfl) (eva_cons (ix_v (k := 6) rfl rfl) (eva_cons (ix_v (k := 7) rfl rfl) eva_nil)))))))) rfl hp hb hQ' hE'))
  | [a, b, c, d, e, f, g, h, i], _, hp, hQ', hE' =>
    refine st_seq (st_ifF (t_len (L := 9) (k := 0)) (sq_next ?_))
    refine st_seq (st_ifF (t_len (L := 9) (k := 1)) (sq_next ?_))
    refine st_seq (st_ifF (t_len (L := 9) (k := 2)) (sq_next ?_))
    refine st_seq (st_ifF (t_len (L := 9) (k := 3)) (sq_next ?_))
    refine st_seq (st_ifF (t_len (L := 9) (k := 4)) (sq_next ?_))
    refine st_seq (st_ifF (t_len (L := 9) (k := 5)) (sq_next ?_))
    refine st_seq (st_ifF (t_len (L := 9) (k := 6)) (sq_next ?_))
    refine st_seq (st_ifF (t_len (L := 9) (k := 7)) (sq_next ?_))
    refine st_seq (st_ifF (t_len (L := 9) (k := 8)) (sq_next ?_))
    exact st_seq (st_ifT (t_len (L := 9) (k := 9)) (ret_of (eva_cons (ix_v (k := 0) rfl rfl) (eva_cons (ix_v (k := 1) rfl rfl) (eva_cons (ix_v (k := 2) rfl rfl) (eva_cons (ix_v (k := 3) rfl rfl) (eva_cons (ix_v (k := 4) rfl rfl) (eva_cons (ix_v (k := 5) rfl rfl) (eva_cons (ix_v (k := 6) rfl rfl) (eva_cons (ix_v (k := 7) rfl rfl) (eva_cons (ix_v (k := 8) rfl rfl) eva_nil))))))))) rfl hp hb hQ' hE'))
  | [a, b, c, d, e, f, g, h, i, j], _, hp, hQ', hE' =>
    refine st_seq (st_ifF (t_len (L := 10) (k := 0)) (sq_next ?_))
    refine st_seq (st_ifF (t_len (L := 10) (k := 1)) (sq_next ?_))
    refine st_seq (st_ifF (t_len (L := 10) (k := 2)) (sq_next ?_))
    refine st_seq (st_ifF (t_len (L := 10) (k := 3)) (sq_next ?_))
    refine st_seq (st_ifF (t_len (L := 10) (k := 4)) (sq_next ?_))
    refine st_seq (st_ifF (t_len (L := 10) (k := 5)) (sq_next ?_))
    refine st_seq (st_ifF (t_len (L := 10) (k := 6)) (sq_next ?_))
    refine st_seq (st_ifF (t_len (L := 10) (k := 7)) (sq_next ?_))
    refine st_seq (st_ifF (t_len (L := 10) (k := 8)) (sq_next ?_))
    refine st_seq (st_ifF (t_len (L := 10) (k := 9)) (sq_next ?_))
    refine sq_set (a := .lst [f, g, h, i, j]) (ev_new (evn_lst (eva_cons (ix_v (k := 5) rfl rfl) (eva_cons (ix_v (k := 6) rfl rfl) (eva_cons (ix_v (k := 7) rfl rfl) (eva_cons (ix_v (k := 8) rfl rfl) (eva_cons (ix_v (k := 9) rfl rfl) eva_nil))))) rfl (sz (Nat.le_of_ble_eq_true rfl)))) ?_
    exact ret_of (eva_cons (ix_v (i := 0) (k := 0) rfl rfl) (eva_cons (ix_v (i := 0) (k := 1) rfl rfl) (eva_cons (ix_v (i := 0) (k := 2) rfl rfl) (eva_cons (ix_v (i := 0) (k := 3) rfl rfl) (eva_cons (ix_v (i := 0) (k := 4) rfl rfl) (eva_cons (ix_v (i := 2) (k := 0) rfl rfl) (eva_cons (ix_v (i := 2) (k := 1) rfl rfl) (eva_cons (ix_v (i := 2) (k := 2) rfl rfl) (eva_cons (ix_v (i := 2) (k := 3) rfl rfl) (eva_cons (ix_v (i := 2) (k := 4) rfl rfl) eva_nil)))))))))) rfl hp hb hQ' hE'
theorem evb_isE {a : Addr} {c c' i : Nat} {r : Bool} {f : Nat → Nat → Option Bool} {env : Env'} {m : Mem} (h : env[i]? = some (some (.f (.ref a)))) (e : f c c' = some r) : EvB (dTst (dN (oIsE a c f) (dCons (dVar i) (dCons (dC (.cls c')) dNil)))) env m r :=
  evb_tst (ev_n (eva_cons (ev_v h) (eva_cons ev_c eva_nil)) fun Q q => ⟨rfl, by rw [e]; exact q⟩)
/-! ### what the law tells of it -/
def p_ltold : DSp := pRel 1 (fun ds m => ∃ vs, ds = [.lst vs] ∧ OfPre vs ∧ vs.length ≤ 10 ∧ belM m.length m = true) (fun ds m r m' => ∃ vs, ds = [.lst vs] ∧ r = toldD vs ∧ m' = m) noE
theorem law_law_told (C : Ct) : ∀ ds m (Q : QD) (E : QX), p_ltold ds m Q E → rd_law_told C p_lof p_nlinks p_nnodes (fun c xs _ m => E c xs m) { nx := fun _ m => Q .non m, rt := Q } (env0 4 ds) m := by
  rintro _ m Q E ⟨_, ⟨vs, rfl, hp, h10, hb⟩, hQ, _⟩
  have hQ' : Q (toldD vs) m := hQ _ _ ⟨vs, rfl, rfl, rfl⟩
  show rd_law_told C p_lof p_nlinks p_nnodes _ _ [some (.f (.lst vs)), none, none, none] m
  unfold rd_law_told
  refine sq_set ev_c ?_
  show (sSeq _ _) _ [some (.f (.lst vs)), some (.f .non), none, none] m
  refine seq_i ?_
  intro EX' hE
  refine sq_asg ?_
  refine (eva_cons (ev_v rfl) eva_nil) _ ?_
  show p_lof [.lst vs] m _ _
  refine ⟨rfl, ⟨vs, rfl, hp, h10, hb⟩, ?_, ?_⟩
  · rintro r m' ⟨vs', e1, e2, rfl⟩
    simp only [List.cons.injEq, Dat.lst.injEq, and_true] at e1
    subst e1
    rcases of_cases (vs := vs) with ⟨k, h1, h2⟩ | ⟨e, _, _, h1, h2⟩ | ⟨n, ps, _, h1, h2⟩
    · rw [h1] at e2; cases e2
    · rw [h1] at e2; cases e2
    · rw [h1] at e2
      cases e2
      show sAsg _ _ _ [some (.f (.lst vs)), some (.f .non), some (.f (netD n ps)), none] m'
      have a1 : Ev (dProp 3 p_nnodes (dVar 2)) [some (.f (.lst vs)), some (.f .non), some (.f (netD n ps)), none] m' (.f (.int n)) := fun Q q => (ev_v (i := 2) (a := netD n ps) rfl) _ ⟨rfl, (n, ps), rfl, trivial, q⟩
      have a2 : Ev (dProp 3 p_nlinks (dVar 2)) [some (.f (.lst vs)), some (.f .non), some (.f (netD n ps)), none] m' (.f (.tup (ps.map lk))) := fun Q q => (ev_v (i := 2) (a := netD n ps) rfl) _ ⟨rfl, (n, ps), rfl, trivial, q⟩
      refine st_set (ev_n (eva_cons a1 (eva_cons a2 eva_nil)) (em_tup rfl (sz (Nat.le_of_ble_eq_true rfl)))) ?_
      dsimp only
      show sRet _ _ [some (.f (.lst vs)), some (.f (.tup [.int n, .tup (ps.map lk)])), some (.f (netD n ps)), none] m'
      refine st_ret (ev_v rfl) ?_
      rw [h2] at hQ'
      exact hQ'
  · rintro c xs m' ⟨vs', e1, e2, rfl⟩
    simp only [List.cons.injEq, Dat.lst.injEq, and_true] at e1
    subst e1
    refine hE _ _ _ _ ?_
    rcases of_cases (vs := vs) with ⟨k, h1, h2⟩ | ⟨e, _, _, h1, h2⟩ | ⟨n, ps, _, h1, h2⟩
    · rw [h1] at e2
      cases e2
      rw [h2] at hQ'
      unfold hGo
      show ∀ a, _
      intro a
      have i1 : isE 1 1 = some true := rfl
      have i2 : fi_index 1 = some 0 := rfl
      have t1 : EvB (dTst (dN (oIsE a 1 isE) (dCons (dVar 3) (dCons (dC (.cls 1)) dNil)))) [some (.f (.lst vs)), some (.f .non), none, some (.f (.ref a))] m' true := evb_isE rfl i1
      refine st_ifT t1 ?_
      have a1 : Ev (dXf a 1 [.int k] fi_index (dVar 3)) [some (.f (.lst vs)), some (.f .non), none, some (.f (.ref a))] m' (.f (.int k)) := fun Q q => (ev_v (i := 3) (a := .ref a) rfl) _ ⟨rfl, by simp only [i2]; exact q⟩
      refine st_set (ev_n (eva_cons ev_c (eva_cons a1 eva_nil)) (em_tup rfl (sz (Nat.le_of_ble_eq_true rfl)))) ?_
      dsimp only [En.gone]
      show sRet _ _ [some (.f (.lst vs)), some (.f (.tup [.str "BadLink", .int k])), none, none] m'
      exact st_ret (ev_v rfl) hQ'
    · rw [h1] at e2
      cases e2
      rw [h2] at hQ'
      unfold hGo
      show ∀ a, _
      intro a
      have i1 : isE 2 1 = some false := rfl
      have i3 : isE 2 2 = some true := rfl
      have i2 : fi_error 2 = some 0 := rfl
      have t1 : EvB (dTst (dN (oIsE a 2 isE) (dCons (dVar 3) (dCons (dC (.cls 1)) dNil)))) [some (.f (.lst vs)), some (.f .non), none, some (.f (.ref a))] m' false := evb_isE rfl i1
      have t2 : EvB (dTst (dN (oIsE a 2 isE) (dCons (dVar 3) (dCons (dC (.cls 2)) dNil)))) [some (.f (.lst vs)), some (.f .non), none, some (.f (.ref a))] m' true := evb_isE rfl i3
      refine st_ifF t1 (st_ifT t2 ?_)
      have a1 : Ev (dXf a 2 [e] fi_error (dVar 3)) [some (.f (.lst vs)), some (.f .non), none, some (.f (.ref a))] m' (.f e) := fun Q q => (ev_v (i := 3) (a := .ref a) rfl) _ ⟨rfl, by simp only [i2]; exact q⟩
      refine st_set (ev_n (eva_cons ev_c (eva_cons a1 eva_nil)) (em_tup rfl (sz (Nat.le_of_ble_eq_true rfl)))) ?_
      dsimp only [En.gone]
      show sRet _ _ [some (.f (.lst vs)), some (.f (.tup [.str "BadNet", e])), none, none] m'
      exact st_ret (ev_v rfl) hQ'
    · rw [h1] at e2; cases e2
end K04

set_option maxHeartbeats 1000000
namespace K04
open PySem PySem.Spec L2 DL DL.S K02
open PyProof.Rows hiding isInt
/-! ### the law's own answer -/
def int2 : Dat → Bool
  | .tup [.int _, .int _] => true
  | _ => false
theorem int2_is {d : Dat} (h : int2 d = true) : ∃ a b : Int, d = .tup [.int a, .int b] := by
  cases d with
  | tup xs =>
    match xs, h with
    | [.int a, .int b], _ => exact ⟨a, b, rfl⟩
  | _ => cases h
theorem cut_take (xs : List Dat) {k : Nat} (h : k ≤ xs.length) : DL.cutD xs none (some (k : Int)) = xs.take k := by
  unfold DL.cutD
  rw [HT.sIx_none, HT.sIx_nat, Nat.sub_zero]
  show (xs.drop 0).take _ = _
  rw [List.drop_zero, Nat.min_eq_left h]
theorem toldD_q {qs : List (Int × Int)} (hb : badGo 0 (qs.map lkI) = none) (h : QOk qs) : toldD (qs.map lkI) = toldE (qs.map lkI) (if 7 < mostQ 0 qs + 1 then .tup [.non, .str "nodes"] else if 8 < qs.length then .tup [.non, .str "links"] else agD (againL (qs.map mnx))) := by
  unfold toldD
  rw [hb]
  dsimp only
  rw [err_q h]
theorem minI2' (a b : Int) : minI [a, b] = min a b := rfl
theorem em_minI {env : Env'} {m : Mem} {x : Lv} {a b : Int} (e : seqOf env m x = some [.int a, .int b]) : EvM (oIs minI fun ns => 0 < ns.length) env m [x] (.int (min a b)) := em_is (f := minI) (c := fun ns => 0 < ns.length) (ns := [a, b]) e rfl (by simp)
theorem em_maxI {env : Env'} {m : Mem} {x : Lv} {a b : Int} (e : seqOf env m x = some [.int a, .int b]) : EvM (oIs maxI fun ns => 0 < ns.length) env m [x] (.int (max a b)) := em_is (f := maxI) (c := fun ns => 0 < ns.length) (ns := [a, b]) e rfl (by simp)
section
variable {m : Mem} {vs : List Dat}
theorem due_t1 {x0 x1 x2 x3 x4 : Option Sl} {x : Dat} (hv : good 3 x = true) : EvB (dOr (dNot (dTst (dN (oIsi C) (dCons (dVar 5) (dCons (dC (.ty "tuple")) dNil))))) (dOr (dTst (dBin (oEq not) (dN oLen (dCons (dVar 5) dNil)) (dC (.int 2)))) (dNot (dTst (dN (oBs fun bs => bs.all id) (dCons (dNew (nLc (.nm 6) dYes (dCall p_whole EX0 (dCons (dVar 6) dNil)) [6] (iVal (dVar 5)))) dNil))))))
    [x0, x1, x2, x3, x4, some (.f x), none] m (!int2 x) := by
  have hpl : plain x = true := good_plain hv
  have t1 : EvB (dNot (dTst (dN (oIsi C) (dCons (dVar 5) (dCons (dC (.ty "tuple")) dNil))))) [x0, x1, x2, x3, x4, some (.f x), none] m (!isTup x) := evb_not (evb_tst (ev_n (eva_cons (ev_v rfl) (eva_cons ev_c eva_nil)) (isi_tup hpl)))
  cases x with
  | tup xs =>
    obtain ⟨j, hj, hlen, hx⟩ := good_tup hv
    have t2 : EvB (dTst (dBin (oEq not) (dN oLen (dCons (dVar 5) dNil)) (dC (.int 2)))) [x0, x1, x2, x3, x4, some (.f (.tup xs)), none] m (!decide (xs.length = 2)) := by
      refine (evb_tst (ev_bin (ev_n (eva_cons (ev_v rfl) eva_nil) (em_len (xs := xs) rfl)) ev_c (e2_eq (f := not) rfl rfl (okR1 _ _) (okR1 _ _)))).eq ?_
      rw [eqd_ii]
      exact congrArg not (decide_eq_decide.mpr (by omega))
    have ec : EvN (nLc (.nm 6) dYes (dCall p_whole EX0 (dCons (dVar 6) dNil)) [6] (iVal (dVar 5))) [x0, x1, x2, x3, x4, some (.f (.tup xs)), none] m (xs.map fun y => .bl (K02.isInt y)) :=
      evn_lc (g := id) (xs := xs) (evi_tup (ev_v rfl)) (by simp) (sz (by omega)) fun y hy => ⟨_, rfl, ev_whole (good_plain (hx y hy)) (eva_cons (ev_v rfl) eva_nil)⟩
    have t3 := evb_not (evb_tst (ev_n (eva_cons (ev_new ec) eva_nil) (em_bs (f := fun bs => bs.all id) rfl (DL.bools_map _ _))))
    rw [List.all_map] at t3
    refine (evb_or t1 fun _ => evb_or t2 fun _ => t3).eq ?_
    match xs with
    | [] => rfl
    | [a] => cases a <;> rfl
    | [a, b] => cases a <;> cases b <;> rfl
    | a :: b :: c :: r => cases a <;> cases b <;> simp [isTup, int2]
  | _ => exact evb_or (b := true) (c := true) t1 fun z => by cases z
theorem due_t2 {x0 x1 x2 x3 x4 : Option Sl} {a b : Int} : EvB (dOr (dTst (dBin oLt (dN (oIs minI fun ns => 0 < ns.length) (dCons (dVar 5) dNil)) (dC (.int 0)))) (dTst (dBin (oEq id) (dBin oIx (dVar 5) (dC (.int 0))) (dBin oIx (dVar 5) (dC (.int 1))))))
    [x0, x1, x2, x3, x4, some (.f (.tup [.int a, .int b])), none] m (!okL (.tup [.int a, .int b])) := by
  have t1 : EvB (dTst (dBin oLt (dN (oIs minI fun ns => 0 < ns.length) (dCons (dVar 5) dNil)) (dC (.int 0)))) [x0, x1, x2, x3, x4, some (.f (.tup [.int a, .int b])), none] m (decide (min a b < 0)) :=
    evb_tst (ev_bin (ev_n (eva_cons (ev_v rfl) eva_nil) (em_minI rfl)) ev_c e2_i0)
  have t2 : EvB (dTst (dBin (oEq id) (dBin oIx (dVar 5) (dC (.int 0))) (dBin oIx (dVar 5) (dC (.int 1))))) [x0, x1, x2, x3, x4, some (.f (.tup [.int a, .int b])), none] m (decide (a = b)) := by
    refine (evb_tst (ev_bin (ev_bin (ev_v rfl) ev_c (e2_ix (xs := [.int a, .int b]) rfl (atI0 _ _))) (ev_bin (ev_v rfl) ev_c (e2_ix (xs := [.int a, .int b]) rfl (atI1 _ _ _))) (e2_eq (f := id) rfl rfl (okR1 _ _) (okR1 _ _)))).eq ?_
    rw [eqd_ii]; rfl
  refine (evb_or t1 fun _ => t2).eq ?_
  rw [okL, Bool.eq_iff_iff]
  simp only [Bool.or_eq_true, Bool.not_eq_true', Bool.and_eq_false_iff, decide_eq_true_iff, decide_eq_false_iff_not]
  omega
theorem due_loop {D : En} : ∀ (rest : List Dat) (k : Nat) (x1 x5 : Option Sl), vs.drop k = rest → (∀ x ∈ rest, good 3 x = true) →
    (∀ x1 x5, badGo k rest = none → D.nx [some (.f (.lst vs)), x1, none, none, none, x5, none] m) → (∀ j : Nat, badGo k rest = some j → D.rt (.tup [.str "BadLink", .int j]) m) →
    forGo (.nm 1) (sSeq (sAsg (.nm 5) (dBin oIx (dVar 0) (dVar 1)))
  (sSeq (sIf (dOr (dNot (dTst (dN (oIsi C) (dCons (dVar 5) (dCons (dC (.ty "tuple")) dNil))))) (dOr (dTst (dBin (oEq not) (dN oLen (dCons (dVar 5) dNil)) (dC (.int 2)))) (dNot (dTst (dN (oBs fun bs => bs.all id) (dCons (dNew (nLc (.nm 6) dYes (dCall p_whole EX0 (dCons (dVar 6) dNil)) [6] (iVal (dVar 5)))) dNil))))))
  (sRet (dN oTup (dCons (dC (.str "BadLink")) (dCons (dVar 1) dNil))))
  sNext)
  (sIf (dOr (dTst (dBin oLt (dN (oIs minI fun ns => 0 < ns.length) (dCons (dVar 5) dNil)) (dC (.int 0)))) (dTst (dBin (oEq id) (dBin oIx (dVar 5) (dC (.int 0))) (dBin oIx (dVar 5) (dC (.int 1))))))
  (sRet (dN oTup (dCons (dC (.str "BadLink")) (dCons (dVar 1) dNil))))
  sNext))) D (rangeD k rest.length) [some (.f (.lst vs)), x1, none, none, none, x5, none] m
  | [], k, x1, x5, _, _, h, _ => h x1 x5 rfl
  | x :: rest, k, x1, x5, hd, hv, h, hr => by
    rw [List.length_cons, rangeD_succ]
    unfold forGo
    have hx : vs[k]? = some x := by
      have := congrArg (fun l => l[0]?) hd
      simpa using this
    show (sSeq _ _) _ [some (.f (.lst vs)), some (.f (.int k)), none, none, none, x5, none] m
    refine sq_set (ev_bin (ev_v rfl) (ev_v rfl) (e2_ix (xs := vs) rfl (DL.atI_nat hx))) ?_
    show (sSeq _ _) _ [some (.f (.lst vs)), some (.f (.int k)), none, none, none, some (.f x), none] m
    have er : Ev (dN oTup (dCons (dC (.str "BadLink")) (dCons (dVar 1) dNil))) [some (.f (.lst vs)), some (.f (.int k)), none, none, none, some (.f x), none] m (.f (.tup [.str "BadLink", .int k])) := ev_n (eva_cons ev_c (eva_cons (ev_v rfl) eva_nil)) (em_tup rfl (sz (Nat.le_of_ble_eq_true rfl)))
    have bad : okL x = false → badGo k (x :: rest) = some k := fun e => by rw [badGo, if_neg (by rw [e]; decide)]
    refine st_seq (st_if (due_t1 (hv x (by simp))) (fun hb => ?_) fun hb => sq_next ?_)
    · refine st_ret er (hr k (bad ?_))
      have h2 : int2 x = false := by simpa using hb
      cases h3 : okL x with
      | false => rfl
      | true =>
        obtain ⟨a, b, rfl, _⟩ := okL_is h3
        cases h2
    · have h2 : int2 x = true := by simpa using hb
      obtain ⟨a, b, rfl⟩ := int2_is h2
      refine st_if due_t2 (fun hb => ?_) fun hb => ?_
      · refine st_ret er (hr k (bad ?_))
        simpa using hb
      · have ho : okL (.tup [.int a, .int b]) = true := by simpa using hb
        have eb : badGo k (.tup [.int a, .int b] :: rest) = badGo (k + 1) rest := by rw [badGo, if_pos ho]
        show forGo _ _ D (rangeD ((k : Int) + 1) rest.length) [some (.f (.lst vs)), some (.f (.int k)), none, none, none, some (.f (.tup [.int a, .int b])), none] m
        have z := due_loop (C := C) (D := D) rest (k + 1) (some (.f (.int k))) (some (.f (.tup [.int a, .int b]))) (by
          rw [← List.drop_drop, hd]; rfl) (fun y hy => hv y (by simp [hy])) (fun y1 y5 hn => h y1 y5 (eb.trans hn)) fun j hj => hr j (eb.trans hj)
        rw [show (((k + 1 : Nat) : Nat) : Int) = (k : Int) + 1 by omega] at z
        exact z
end
def p_ldue : DSp := pT 1 (fun vs : List Dat => [.lst vs]) (fun vs => OfPre vs) (fun vs => toldD vs)
theorem okN_lkI {j : Nat} (qs : List (Int × Int)) : (qs.map lkI).all (okN (j + 1)) = true := by
  rw [List.all_eq_true]
  intro x hx
  obtain ⟨p, _, rfl⟩ := List.mem_map.mp hx
  show [Dat.int p.1, .int p.2].all (okN j) = true
  simp [okR1]
theorem law_law_due (C : Ct) : ∀ ds m (Q : QD) (E : QX), p_ldue ds m Q E → rd_law_due C p_whole (fun c xs _ m => E c xs m) { nx := fun _ m => Q .non m, rt := Q } (env0 7 ds) m := by
  rintro _ m Q E ⟨_, vs, rfl, hp, hq⟩
  have hp : OfPre vs := hp
  have hq : Q (toldD vs) m := hq
  have hlen := hp.len
  show rd_law_due C p_whole _ _ [some (.f (.lst vs)), none, none, none, none, none, none] m
  unfold rd_law_due
  refine sq_for ?_
  refine (evi_rg1n (j := vs.length) (ev_n (eva_cons (ev_v rfl) eva_nil) (em_len rfl)) (by omega)) _ ?_
  rw [show (List.range vs.length).map (fun i => Dat.int (i : Nat)) = rangeD ((0 : Nat) : Int) vs.length by unfold rangeD; simp]
  refine due_loop (C := C) vs 0 none none (by simp) hp.vd (fun x1 x5 hb => ?_) fun j hj => ?_
  · dsimp only
    obtain ⟨qs, rfl, hk⟩ := bad_none hb
    rw [List.length_map] at hlen
    have told := toldD_q hb hk
    show (sSeq _ _) _ [some (.f (.lst (qs.map lkI))), x1, none, none, none, x5, none] m
    have e1 : EvN (nLc (.nm 5) dYes (dN (oIs maxI fun ns => 0 < ns.length) (dCons (dVar 5) dNil)) [5] (iVal (dVar 0))) [some (.f (.lst (qs.map lkI))), x1, none, none, none, x5, none] m (qs.map fun q => .int (max q.1 q.2)) :=
      evn_lc (g := lkI) (xs := qs) (evi_lst (ev_v rfl)) rfl (sz (by omega)) fun q _ => ⟨_, rfl, ev_n (eva_cons (ev_v (a := lkI q) rfl) eva_nil) (em_maxI rfl)⟩
    have e2 : Ev (dNew (nCat (dNew (nLst (dCons (dC (.int 0)) dNil))) (dNew (nLc (.nm 5) dYes (dN (oIs maxI fun ns => 0 < ns.length) (dCons (dVar 5) dNil)) [5] (iVal (dVar 0)))))) [some (.f (.lst (qs.map lkI))), x1, none, none, none, x5, none] m (.f (.lst ([.int 0] ++ qs.map fun q => .int (max q.1 q.2)))) :=
      ev_new (evn_cat (ev_new (evn_lst (eva_cons ev_c eva_nil) rfl (sz (Nat.le_of_ble_eq_true rfl)))) (ev_new e1) rfl rfl (sz (by simp; omega)))
    have en : intsD ([.int 0] ++ qs.map fun q => .int (max q.1 q.2)) = some (0 :: qs.map fun q => max q.1 q.2) := by
      have := intsD_map (fun i : Int => i) (0 :: qs.map fun q => max q.1 q.2)
      rw [List.map_cons, List.map_map] at this
      simpa [Function.comp_def] using this
    have e3 : Ev (dBin oAdd (dC (.int 1)) (dN (oIs maxI fun ns => 0 < ns.length) (dCons (dNew (nCat (dNew (nLst (dCons (dC (.int 0)) dNil))) (dNew (nLc (.nm 5) dYes (dN (oIs maxI fun ns => 0 < ns.length) (dCons (dVar 5) dNil)) [5] (iVal (dVar 0)))))) dNil))) [some (.f (.lst (qs.map lkI))), x1, none, none, none, x5, none] m (.f (.int (mostQ 0 qs + 1))) := by
      refine (ev_bin ev_c (ev_n (eva_cons e2 eva_nil) (em_is (f := maxI) (c := fun ns => 0 < ns.length) rfl en (by simp))) e2_add).eq ?_
      rw [max_most, Int.add_comm]
    refine sq_set e3 ?_
    show (sSeq _ _) _ [some (.f (.lst (qs.map lkI))), x1, some (.f (.int (mostQ 0 qs + 1))), none, none, x5, none] m
    have t1 : EvB (dTst (dBin oGt (dVar 2) (dC (.int 7)))) [some (.f (.lst (qs.map lkI))), x1, some (.f (.int (mostQ 0 qs + 1))), none, none, x5, none] m (decide (7 < mostQ 0 qs + 1)) := evb_tst (ev_bin (ev_v rfl) ev_c e2_i0)
    refine st_seq (st_if t1 (fun h7 => ?_) fun h7 => sq_next ?_)
    · rw [if_pos (of_decide_eq_true h7)] at told
      rw [told] at hq
      exact st_ret (ev_n (eva_cons ev_c (eva_cons (ev_n (eva_cons ev_c (eva_cons ev_c eva_nil)) (em_tup rfl (sz (Nat.le_of_ble_eq_true rfl)))) eva_nil)) (em_tup rfl (sz (Nat.le_of_ble_eq_true rfl)))) hq
    rw [if_neg (of_decide_eq_false h7)] at told
    have t2 : EvB (dTst (dBin oGt (dN oLen (dCons (dVar 0) dNil)) (dC (.int 8)))) [some (.f (.lst (qs.map lkI))), x1, some (.f (.int (mostQ 0 qs + 1))), none, none, x5, none] m (decide (8 < qs.length)) := by
      refine (evb_tst (ev_bin (ev_n (eva_cons (ev_v rfl) eva_nil) (em_len (xs := qs.map lkI) rfl)) ev_c e2_i0)).eq ?_
      rw [List.length_map]
      exact decide_eq_decide.mpr (by omega)
    refine st_seq (st_if t2 (fun h8 => ?_) fun h8 => sq_next ?_)
    · rw [if_pos (of_decide_eq_true h8)] at told
      rw [told] at hq
      exact st_ret (ev_n (eva_cons ev_c (eva_cons (ev_n (eva_cons ev_c (eva_cons ev_c eva_nil)) (em_tup rfl (sz (Nat.le_of_ble_eq_true rfl)))) eva_nil)) (em_tup rfl (sz (Nat.le_of_ble_eq_true rfl)))) hq
    rw [if_neg (of_decide_eq_false h8)] at told
    refine sq_set (a := .lst ((qs.map mnx).map lkI)) ?_ ?_
    · rw [List.map_map]
      exact ev_new (evn_lc (g := lkI) (xs := qs) (evi_lst (ev_v rfl)) rfl (sz (by omega)) fun q _ => ⟨_, rfl, ev_n (eva_cons (ev_n (eva_cons (ev_v (a := lkI q) rfl) eva_nil) (em_minI rfl)) (eva_cons (ev_n (eva_cons (ev_v (a := lkI q) rfl) eva_nil) (em_maxI rfl)) eva_nil)) (em_tup rfl (sz (Nat.le_of_ble_eq_true rfl)))⟩)
    have hml : (qs.map mnx).length = qs.length := List.length_map ..
    have hsort : sortOk ((qs.map mnx).map lkI) := by
      have h7' : ¬ 7 < mostQ 0 qs + 1 := of_decide_eq_false h7
      refine sortOk_pairs (ps := qs.map mnx) fun p hp => ?_
      obtain ⟨q, hqm, rfl⟩ := List.mem_map.mp hp
      have h0 := hk.p q hqm
      have h1 := (most_ge qs 0).2 q hqm
      exact ⟨small (by show 0 ≤ min q.1 q.2; omega) (by show min q.1 q.2 ≤ _; omega), small (by show 0 ≤ max q.1 q.2; omega) (by show max q.1 q.2 ≤ _; omega)⟩
    have hends : (qs.map lkI).map ends = (qs.map mnx).map lkI := by
      rw [List.map_map, List.map_map]; rfl
    generalize qs.map mnx = ms at hml hsort hends told ⊢
    show (sSeq _ _) _ [some (.f (.lst (qs.map lkI))), x1, some (.f (.int (mostQ 0 qs + 1))), some (.f (.lst (ms.map lkI))), none, x5, none] m
    refine sq_set (a := .lst (natsD (againL ms))) ?_ ?_
    · refine ev_new (evn_lcf (xs := List.range ms.length) (g := fun k => .int (k : Nat)) (f := fun k => .int (k : Nat)) (t := againP ms) (evi_rg1n ((ev_n (eva_cons (ev_v rfl) eva_nil) (em_len (xs := ms.map lkI) rfl)).eq (by rw [List.length_map])) (by omega)) rfl (sz (by simp; omega)) fun k hk' => ⟨_, rfl, ?_, fun _ => ev_v rfl⟩)
      have hk2 := List.mem_range.mp hk'
      have a1 : (ms.map lkI)[k]? = some (lkI (ms.getD k (0, 0))) := by
        rw [List.getElem?_map, List.getD_eq_getElem?_getD, List.getElem?_eq_getElem hk2]; rfl
      refine (evb_tst (ev_bin (ev_bin (ev_v rfl) (ev_v rfl) (e2_ix (xs := ms.map lkI) rfl (DL.atI_nat a1))) (ev_slL (xs := ms.map lkI) (ev_v rfl) evo_no (evo_p (ev_v rfl)) rfl) (e2_in (f := id) (a := lkI (ms.getD k (0, 0))) (bs := (ms.take k).map lkI) rfl ?_ ?_ (okN_lkI _)))).eq ?_
      · show some (DL.cutD (ms.map lkI) none (some (k : Int))) = _
        rw [cut_take _ (by rw [List.length_map]; omega), List.map_take]
      · show [Dat.int _, .int _].all (okN 59) = true
        simp [okR1]
      · rw [any_lkI]; rfl
    show (sSeq _ _) _ [some (.f (.lst (qs.map lkI))), x1, some (.f (.int (mostQ 0 qs + 1))), some (.f (.lst (ms.map lkI))), some (.f (.lst (natsD (againL ms)))), x5, none] m
    have t3 : EvB (dTst (dBin (oEq not) (dVar 4) (dNew (nLst dNil)))) [some (.f (.lst (qs.map lkI))), x1, some (.f (.int (mostQ 0 qs + 1))), some (.f (.lst (ms.map lkI))), some (.f (.lst (natsD (againL ms)))), x5, none] m (!(againL ms).isEmpty) := by
      refine (evb_tst (ev_bin (ev_v rfl) (ev_new (evn_lst eva_nil rfl (Nat.zero_le _))) (e2_eq (f := not) (a := .lst (natsD (againL ms))) (c := .lst []) rfl rfl (by rw [okN]; exact okN_nats _) rfl))).eq ?_
      cases againL ms <;> rfl
    cases ha : againL ms with
    | nil =>
      rw [ha] at t3 told
      refine st_seq (st_ifF (t3.eq rfl) (sq_next ?_))
      have e5 : EvM oTuple [some (.f (.lst (qs.map lkI))), x1, some (.f (.int (mostQ 0 qs + 1))), some (.f (.lst (ms.map lkI))), some (.f (.lst (natsD []))), x5, none] m [.f (.lst (sortD (ms.map lkI)))] (.tup (sortD (ms.map lkI))) := fun Q q => by
        simp only [oTuple, seqOf, der]; exact q
      refine st_ret (ev_n (eva_cons (ev_v rfl) (eva_cons (ev_n (eva_cons (ev_new (evn_sort (ev_v rfl) rfl hsort)) eva_nil) e5) eva_nil)) (em_tup rfl (sz (Nat.le_of_ble_eq_true rfl)))) ?_
      rw [told] at hq
      have e6 : toldE (qs.map lkI) (agD []) = .tup [.int (mostQ 0 qs + 1), .tup (sortD (ms.map lkI))] := by
        show Dat.tup [.int (mostD (qs.map lkI) + 1), .tup (sortD ((qs.map lkI).map ends))] = _
        rw [most_q, hends]
      rw [e6] at hq
      exact hq
    | cons k r =>
      rw [ha] at t3 told
      refine st_seq (st_ifT (t3.eq rfl) ?_)
      rw [told] at hq
      refine st_ret (ev_n (eva_cons ev_c (eva_cons (ev_n (eva_cons (ev_bin (ev_v rfl) ev_c (e2_ix (xs := natsD (k :: r)) rfl (atI0 _ _))) (eva_cons ev_c eva_nil)) (em_tup rfl (sz (Nat.le_of_ble_eq_true rfl)))) eva_nil)) (em_tup rfl (sz (Nat.le_of_ble_eq_true rfl)))) ?_
      exact hq
  · have e : toldD vs = .tup [.str "BadLink", .int j] := by
      unfold toldD
      rw [hj]
    rw [e] at hq
    exact hq
end K04

set_option maxHeartbeats 1000000
namespace K04
open PySem PySem.Spec L2 DL DL.S K02
open PyProof.Rows hiding isInt
/-! ### the answer can be compared -/
theorem bad_lt : ∀ {vs : List Dat} {k j : Nat}, badGo k vs = some j → j < k + vs.length
  | [], _, _, h => by cases h
  | x :: xs, k, j, h => by
    rw [badGo] at h
    rw [List.length_cons]
    by_cases hx : okL x = true
    · rw [if_pos hx] at h
      have := bad_lt h
      omega
    · rw [if_neg hx] at h
      cases h
      omega
theorem good_int {k : Nat} {i : Int} (h : 0 ≤ i) (h2 : i ≤ 1000000) : good k (.int i) = true := by
  have := small h h2
  cases k <;> exact decide_eq_true this
theorem good_pair {k : Nat} {a b : Dat} (ha : good k a = true) (hb : good k b = true) : good (k + 1) (.tup [a, b]) = true := by
  show (decide (2 ≤ 10000) && [a, b].all (good k)) = true
  simp [ha, hb]
theorem good_str {k : Nat} {x : Str} (h : PyData.strOk x = true) : good k (.str x) = true := by cases k <;> exact h
theorem toldD_good {vs : List Dat} (hp : OfPre vs) : good 3 (toldD vs) = true := by
  have hl := hp.len
  cases hb : badGo 0 vs with
  | some k =>
    have e : toldD vs = .tup [.str "BadLink", .int k] := by unfold toldD; rw [hb]
    have := bad_lt hb
    rw [e]
    exact good_pair (good_str (by decide +kernel)) (good_int (by omega) (by omega))
  | none =>
    obtain ⟨qs, rfl, hk⟩ := bad_none hb
    rw [List.length_map] at hl
    rw [toldD_q hb hk]
    by_cases h7 : 7 < mostQ 0 qs + 1
    · rw [if_pos h7]; exact good_pair (good_str (by decide +kernel)) (good_pair rfl (good_str (by decide +kernel)))
    · rw [if_neg h7]
      by_cases h8 : 8 < qs.length
      · rw [if_pos h8]; exact good_pair (good_str (by decide +kernel)) (good_pair rfl (good_str (by decide +kernel)))
      · rw [if_neg h8]
        cases ha : againL (qs.map mnx) with
        | nil =>
          show good 3 (.tup [.int (mostD (qs.map lkI) + 1), .tup (sortD ((qs.map lkI).map ends))]) = true
          rw [most_q]
          have h0 := (most_ge qs 0).1
          refine good_pair (good_int (by omega) (by omega)) ?_
          rw [DL.S.good, Bool.and_eq_true, List.all_eq_true]
          refine ⟨decide_eq_true (by rw [sortD_len]; simp; omega), fun x hx => ?_⟩
          have hx := sortD_mem hx
          rw [List.map_map] at hx
          obtain ⟨q, hq, rfl⟩ := List.mem_map.mp hx
          have h1 := hk.p q hq
          have h2 := (most_ge qs 0).2 q hq
          exact good_pair (good_int (by show 0 ≤ min q.1 q.2; omega) (by show min q.1 q.2 ≤ _; omega)) (good_int (by show 0 ≤ max q.1 q.2; omega) (by show max q.1 q.2 ≤ _; omega))
        | cons k r =>
          have hk2 : k ∈ againL (qs.map mnx) := by rw [ha]; simp
          have hk3 := List.mem_range.mp (List.mem_filter.mp hk2).1
          rw [List.length_map] at hk3
          exact good_pair (good_str (by decide +kernel)) (good_pair (good_int (by omega) (by omega)) (good_str (by decide +kernel)))
/-! ### the turn -/
theorem call_i {p : DSp} {EX : QXe} {da : TAd} {env : Env'} {m : Mem} {Q : QL} (h : da env m fun xs m1 => match DL.frs xs with
  | some ds => p ds m1 (fun d m2 => Q (.f d) m2) (fun c ys m2 => EX c ys env m2)
  | none => False) : dCall p EX da env m Q := h
theorem n_i' {f : OpN} {da : TAd} {env : Env'} {m : Mem} {Q : QL} (h : da env m fun xs m1 => f env m1 xs fun d m2 => Q (.f d) m2) : dN f da env m Q := h
theorem lst_i {r : TAd} {env : Env'} {m : Mem} {Q : List Dat → Mem → Prop} (h : r env m fun ls m1 => match DL.frs ls with
    | some ds => ds.length ≤ sizeLine ∧ Q ds m1
    | none => False) : nLst r env m Q := h
theorem cons_i' {d : TD} {r : TAd} {env : Env'} {m : Mem} {Q : List Lv → Mem → Prop} (h : d env m fun x m1 => r env m1 fun xs m2 => Q (x :: xs) m2) : dCons d r env m Q := h
theorem nil_i' {env : Env'} {m : Mem} {Q : List Lv → Mem → Prop} (h : Q [] m) : dNil env m Q := h
theorem bin_i {f : Op2} {da db : TD} {env : Env'} {m : Mem} {Q : QL} (h : da env m fun x m1 => db env m1 fun y m2 => f env m2 x y fun d m3 => Q (.f d) m3) : dBin f da db env m Q := h
theorem new_i {p : TN} {env : Env'} {m : Mem} {Q : QL} (h : p env m fun ds m1 => Q (.f (.lst ds)) m1) : dNew p env m Q := h
structure LOk (j : Nat) (vs : List Dat) : Prop where
  len : vs.length + 1 ≤ 9 * 2 ^ j
  gd : ∀ x ∈ vs, good 3 x = true
def farL : List Dat := [.int 6, .int 7, .int 8, .int 100000000000000000000]
theorem cpow20 : CPow 10 20 := by unfold CPow; decide
theorem farL_good : ∀ x ∈ farL, good 2 x = true := fun x hx => by
  simp only [farL, List.mem_cons, List.not_mem_nil, or_false] at hx
  rcases hx with rfl | rfl | rfl | rfl <;> decide +kernel
theorem good_rev {k : Nat} {xs : List Dat} (h : good (k + 1) (.tup xs) = true) : good (k + 1) (.tup xs.reverse) = true := by
  rw [DL.S.good, Bool.and_eq_true, List.all_eq_true] at h ⊢
  refine ⟨?_, fun x hx => h.2 x (List.mem_reverse.mp hx)⟩
  rw [List.length_reverse]; exact h.1
section
variable {D : En} {x0 x2 x3 x4 x5 x6 x7 x8 x9 x10 : Option Sl} {m tl : Mem} {c : Nat}
theorem em_int01 {env : Env'} {b : Bool} : EvM (oN1 fInt) env m [.f (.bl b)] (.int (if b = true then 1 else 0)) := fun Q q => by
  cases b <;> exact q
theorem change {C : Ct} {j : Nat} {vs : List Dat} (hv : LOk j vs) (hj : j < 3) (hd : Dk c [] m) (hc : c + 20 < lim)
    (hq : ∀ vs x6 x7 x8 x9 x10 m', LOk (j + 1) vs → Dk (c + 6) [] m' → D.nx [x0, some (.f (.obj 1)), x2, x3, some (.f (.lst vs)), x5, x6, x7, x8, x9, x10] m') :
    (sSeq (sPar 6 7 (dCall p_next EX0 (dCons (dVar 1) (dCons (dBin oAdd (dN oLen (dCons (dVar 4) dNil)) (dC (.int 1))) dNil))) (dCall p_next EX0 (dCons (dVar 1) (dCons (dC (.int 6)) dNil))))
  (sSeq (sAsg (.nm 8) (dN oTup (dCons (dCall p_next EX0 (dCons (dVar 1) (dCons (dC (.int 3)) dNil))) (dCons (dBin oIx (dNew (nLst (dCons (dC (.int 6)) (dCons (dC (.int 7)) (dCons (dC (.int 8)) (dCons (dBin oPow (dC (.int 10)) (dC (.int 20))) dNil)))))) (dCall p_next EX0 (dCons (dVar 1) (dCons (dC (.int 4)) dNil)))) dNil))))
  (sSeq (sAsg (.nm 9) (dBin oIx (dNew (nCat (dVar 4) (dNew (nLst (dCons (dN oTup (dCons (dC (.int 2)) (dCons (dC (.int 1)) dNil))) dNil))))) (dCall p_next EX0 (dCons (dVar 1) (dCons (dBin oAdd (dN oLen (dCons (dVar 4) dNil)) (dC (.int 1))) dNil)))))
  (sSeq (sIf (dTst (dN (oIsi C) (dCons (dVar 9) (dCons (dC (.ty "tuple")) dNil))))
  (sAsg (.nm 9) (dBack (dVar 9)))
  sNext)
  (sSeq (sAsg (.nm 10) (dBin oIx (dNew (nLst (dCons (dCall p_oddX EX0 (dCons (dVar 1) (dCons (dN oTup (dCons (dC (.int 0)) (dCons (dC (.int 1)) dNil))) dNil))) (dCons (dVar 8) (dCons (dVar 9) (dCons (dN oTup (dCons (dC (.int 1)) (dCons (dC (.int 1)) dNil))) dNil)))))) (dN (oI2 fun i j => if j < i then j else i) (dCons (dVar 7) (dCons (dC (.int 3)) dNil)))))
  (sAsg (.nm 4) (dNew (nCat (dNew (nCat (dSl (dVar 4) dNo (dPart (dVar 6))) (dNew (nLst (dCons (dVar 10) dNil))))) (dSl (dVar 4) (dPart (dBin oAdd (dVar 6) (dN (oN1 fInt) (dCons (dBin oGt (dVar 7) (dC (.int 3))) dNil)))) dNo))))))))) D [x0, some (.f (.obj 1)), x2, x3, some (.f (.lst vs)), x5, x6, x7, x8, x9, x10] m := by
  have s2 : 1000 ≤ sizeLine := sz (by decide)
  have hlim : lim = 2 ^ 40 := rfl
  have hl := hv.len
  have hp2 : 2 ^ j ≤ 4 := by
    have : 2 ^ j ≤ 2 ^ 2 := Nat.pow_le_pow_right (by omega) (by omega)
    simpa using this
  have hlen : vs.length ≤ 35 := by omega
  have elen : ∀ {y6 y7 y8 y9 y10 : Option Sl} {m' : Mem}, Ev (dBin oAdd (dN oLen (dCons (dVar 4) dNil)) (dC (.int 1))) [x0, some (.f (.obj 1)), x2, x3, some (.f (.lst vs)), x5, y6, y7, y8, y9, y10] m' (.f (.int ((vs.length : Int) + 1))) := fun {y6 y7 y8 y9 y10 m'} => ev_bin (ev_n (eva_cons (ev_v rfl) eva_nil) (em_len rfl)) ev_c e2_add
  refine seq_i (par_i ?_)
  refine call_next (tl := []) (c := c) ((vs.length : Int) + 1) (by omega) (by omega) hd (by omega) (eva_cons (ev_v rfl) (eva_cons elen eva_nil)) fun a m1 a0 a1 hd1 => ?_
  refine call_next (tl := []) (c := c + 1) 6 (by omega) (by omega) hd1 (by omega) (eva_cons (ev_v rfl) (eva_cons ev_c eva_nil)) fun k m2 k0 k1 hd2 => ?_
  dsimp only
  show (sSeq _ _) _ [x0, some (.f (.obj 1)), x2, x3, some (.f (.lst vs)), x5, some (.f (.int a)), some (.f (.int k)), x8, x9, x10] m2
  refine sq_asg (n_i' (cons_i' ?_))
  refine call_next (tl := []) (c := c + 1 + 1) 3 (by omega) (by omega) hd2 (by omega) (eva_cons (ev_v rfl) (eva_cons ev_c eva_nil)) fun i m3 i0 i1 hd3 => ?_
  have efar : ∀ {env : Env'} {m' : Mem}, Ev (dNew (nLst (dCons (dC (.int 6)) (dCons (dC (.int 7)) (dCons (dC (.int 8)) (dCons (dBin oPow (dC (.int 10)) (dC (.int 20))) dNil)))))) env m' (.f (.lst farL)) := fun {env m'} => ev_new (evn_lst (eva_cons ev_c (eva_cons ev_c (eva_cons ev_c (eva_cons (ev_bin ev_c ev_c (e2_i cpow20)) eva_nil)))) rfl (sz (Nat.le_of_ble_eq_true rfl)))
  refine cons_i' (bin_i (efar.use ?_))
  refine call_next (tl := []) (c := c + 1 + 1 + 1) 4 (by omega) (by omega) hd3 (by omega) (eva_cons (ev_v rfl) (eva_cons ev_c eva_nil)) fun f m4 f0 f1 hd4 => ?_
  obtain ⟨fv, ef1, ef2⟩ := atI_int (l := farL) f0 (by show f < ((4 : Nat) : Int); omega)
  refine e2_ix (x := .f (.lst farL)) rfl ef1 _ (nil_i' (em_tup (xs := [.int i, fv]) rfl (sz (Nat.le_of_ble_eq_true rfl)) _ ?_))
  have gfar : good 3 (.tup [.int i, fv]) = true := good_pair (good_int (by omega) (by omega)) (farL_good fv (List.mem_of_getElem? ef2))
  show (sSeq _ _) _ [x0, some (.f (.obj 1)), x2, x3, some (.f (.lst vs)), x5, some (.f (.int a)), some (.f (.int k)), some (.f (.tup [.int i, fv])), x9, x10] m4
  have g21 : ∀ x ∈ vs ++ [.tup [.int 2, .int 1]], good 3 x = true := fun x hx => by
    rcases List.mem_append.mp hx with q | q
    · exact hv.gd x q
    · rw [List.mem_singleton.mp q]
      exact good_pair (good_int (by omega) (by omega)) (good_int (by omega) (by omega))
  have ecat : Ev (dNew (nCat (dVar 4) (dNew (nLst (dCons (dN oTup (dCons (dC (.int 2)) (dCons (dC (.int 1)) dNil))) dNil))))) [x0, some (.f (.obj 1)), x2, x3, some (.f (.lst vs)), x5, some (.f (.int a)), some (.f (.int k)), some (.f (.tup [.int i, fv])), x9, x10] m4 (.f (.lst (vs ++ [.tup [.int 2, .int 1]]))) :=
    ev_new (evn_cat (ev_v rfl) (ev_new (evn_lst (eva_cons (ev_n (eva_cons ev_c (eva_cons ev_c eva_nil)) (em_tup rfl (sz (Nat.le_of_ble_eq_true rfl)))) eva_nil) rfl (sz (Nat.le_of_ble_eq_true rfl)))) rfl rfl (sz (by simp; omega)))
  refine sq_asg (bin_i (ecat.use ?_))
  refine call_next (tl := []) (c := c + 1 + 1 + 1 + 1) ((vs.length : Int) + 1) (by omega) (by omega) hd4 (by omega) (eva_cons (ev_v rfl) (eva_cons elen eva_nil)) fun g m5 g0 g1 hd5 => ?_
  obtain ⟨gv, eg1, eg2⟩ := atI_int (l := vs ++ [.tup [.int 2, .int 1]]) g0 (by rw [List.length_append, List.length_singleton]; omega)
  refine e2_ix (x := .f (.lst (vs ++ [.tup [.int 2, .int 1]]))) rfl eg1 _ ?_
  have ggv : good 3 gv = true := g21 gv (List.mem_of_getElem? eg2)
  show (sSeq _ _) _ [x0, some (.f (.obj 1)), x2, x3, some (.f (.lst vs)), x5, some (.f (.int a)), some (.f (.int k)), some (.f (.tup [.int i, fv])), some (.f gv), x10] m5
  have tail : ∀ wv : Dat, good 3 wv = true →
      (sSeq (sAsg (.nm 10) (dBin oIx (dNew (nLst (dCons (dCall p_oddX EX0 (dCons (dVar 1) (dCons (dN oTup (dCons (dC (.int 0)) (dCons (dC (.int 1)) dNil))) dNil))) (dCons (dVar 8) (dCons (dVar 9) (dCons (dN oTup (dCons (dC (.int 1)) (dCons (dC (.int 1)) dNil))) dNil)))))) (dN (oI2 fun i j => if j < i then j else i) (dCons (dVar 7) (dCons (dC (.int 3)) dNil)))))
  (sAsg (.nm 4) (dNew (nCat (dNew (nCat (dSl (dVar 4) dNo (dPart (dVar 6))) (dNew (nLst (dCons (dVar 10) dNil))))) (dSl (dVar 4) (dPart (dBin oAdd (dVar 6) (dN (oN1 fInt) (dCons (dBin oGt (dVar 7) (dC (.int 3))) dNil)))) dNo))))) D [x0, some (.f (.obj 1)), x2, x3, some (.f (.lst vs)), x5, some (.f (.int a)), some (.f (.int k)), some (.f (.tup [.int i, fv])), some (.f wv), x10] m5 := fun wv hw => by
    refine sq_asg (bin_i (new_i (lst_i (cons_i' ?_))))
    refine call_oddX (a := 0) (b := 1) (by omega) (by omega) hd5 (by omega) (eva_cons (ev_v rfl) (eva_cons (ev_n (eva_cons ev_c (eva_cons ev_c eva_nil)) (em_tup rfl (sz (Nat.le_of_ble_eq_true rfl)))) eva_nil)) fun r m6 hr hd6 => ?_
    refine cons_i' ((ev_v (a := .tup [.int i, fv]) rfl).use (cons_i' ((ev_v (a := wv) rfl).use (cons_i' ?_))))
    refine (ev_n (eva_cons ev_c (eva_cons ev_c eva_nil)) (em_tup (xs := [.int 1, .int 1]) rfl (sz (Nat.le_of_ble_eq_true rfl)))).use (nil_i' ?_)
    refine ⟨sz (Nat.le_of_ble_eq_true rfl), ?_⟩
    have eI : EvM (oI2 fun i j => if j < i then j else i) [x0, some (.f (.obj 1)), x2, x3, some (.f (.lst vs)), x5, some (.f (.int a)), some (.f (.int k)), some (.f (.tup [.int i, fv])), some (.f wv), x10] m6 [.f (.int k), .f (.int 3)] (.int (if 3 < k then 3 else k)) := fun Q q => q
    refine (ev_n (eva_cons (ev_v rfl) (eva_cons ev_c eva_nil)) eI).use ?_
    obtain ⟨mv, em1, em2⟩ := atI_int (l := [r, .tup [.int i, fv], wv, .tup [.int 1, .int 1]]) (i := if 3 < k then 3 else k) (by split <;> omega) (by show _ < ((4 : Nat) : Int); split <;> omega)
    refine e2_ix (x := .f (.lst [r, .tup [.int i, fv], wv, .tup [.int 1, .int 1]])) rfl em1 _ ?_
    have gm : good 3 mv = true := by
      have hm := List.mem_of_getElem? em2
      simp only [List.mem_cons, List.not_mem_nil, or_false] at hm
      rcases hm with rfl | rfl | rfl | rfl
      · exact hr.good
      · exact gfar
      · exact hw
      · exact good_pair (good_int (by omega) (by omega)) (good_int (by omega) (by omega))
    show (sAsg _ _) _ [x0, some (.f (.obj 1)), x2, x3, some (.f (.lst vs)), x5, some (.f (.int a)), some (.f (.int k)), some (.f (.tup [.int i, fv])), some (.f wv), some (.f mv)] m6
    have c1 := cutD_len vs none (some a)
    have c2 := cutD_len vs (some (a + if decide (3 < k) = true then 1 else 0)) none
    have e1 : Ev (dNew (nCat (dSl (dVar 4) dNo (dPart (dVar 6))) (dNew (nLst (dCons (dVar 10) dNil))))) [x0, some (.f (.obj 1)), x2, x3, some (.f (.lst vs)), x5, some (.f (.int a)), some (.f (.int k)), some (.f (.tup [.int i, fv])), some (.f wv), some (.f mv)] m6 (.f (.lst (DL.cutD vs none (some a) ++ [mv]))) :=
      ev_new (evn_cat (ev_slL (xs := vs) (ev_v rfl) evo_no (evo_p (ev_v rfl)) rfl) (ev_new (evn_lst (eva_cons (ev_v rfl) eva_nil) rfl (sz (Nat.le_of_ble_eq_true rfl)))) rfl rfl (sz (by simp; omega)))
    have e2 : Ev (dSl (dVar 4) (dPart (dBin oAdd (dVar 6) (dN (oN1 fInt) (dCons (dBin oGt (dVar 7) (dC (.int 3))) dNil)))) dNo) [x0, some (.f (.obj 1)), x2, x3, some (.f (.lst vs)), x5, some (.f (.int a)), some (.f (.int k)), some (.f (.tup [.int i, fv])), some (.f wv), some (.f mv)] m6 (.f (.lst (DL.cutD vs (some (a + if decide (3 < k) = true then 1 else 0)) none))) :=
      ev_slL (xs := vs) (ev_v rfl) (evo_p (ev_bin (ev_v rfl) (ev_n (eva_cons (ev_bin (ev_v rfl) ev_c e2_i0) eva_nil) em_int01) e2_add)) evo_no rfl
    refine st_set (ev_new (evn_cat e1 e2 rfl rfl (sz (by rw [List.length_append, List.length_singleton]; omega)))) ?_
    refine hq _ _ _ _ _ _ _ ⟨?_, fun x hx => ?_⟩ hd6
    · rw [List.length_append, List.length_append, List.length_singleton, Nat.pow_succ]
      omega
    · rcases List.mem_append.mp hx with hx | hx
      · rcases List.mem_append.mp hx with hx | hx
        · exact hv.gd x (cutD_mem hx)
        · rw [List.mem_singleton.mp hx]; exact gm
      · exact hv.gd x (cutD_mem hx)
  refine st_seq (st_if (b := isTup gv) (evb_tst (ev_n (eva_cons (ev_v rfl) (eva_cons ev_c eva_nil)) (isi_tup (good_plain ggv)))) (fun hb => ?_) fun hb => sq_next (tail gv ggv))
  obtain ⟨ys, rfl⟩ : ∃ ys, gv = .tup ys := by cases gv <;> first | exact ⟨_, rfl⟩ | cases hb
  refine st_set (ev_backT (xs := ys) (ev_v rfl) rfl) ?_
  exact tail (.tup ys.reverse) (good_rev ggv)
end
end K04

set_option maxHeartbeats 1000000
namespace K04
open PySem PySem.Spec L2 DL DL.S K02
open PyProof.Rows hiding isInt
theorem ev_told {env : Env'} {m : Mem} {da : TAd} {vs : List Dat} (hp : OfPre vs) (h10 : vs.length ≤ 10) (hb : belM m.length m = true) (ha : EvA da env m [.f (.lst vs)]) : Ev (dCall p_ltold EX0 da) env m (.f (toldD vs)) :=
  ev_call ha rfl fun Q E q => ⟨rfl, ⟨vs, rfl, hp, h10, hb⟩, fun r m' ⟨vs', e1, e2, e3⟩ => by
    simp only [List.cons.injEq, Dat.lst.injEq, and_true] at e1
    subst e1 e2 e3
    exact q, fun _ _ _ z => z.elim⟩
theorem ev_due {env : Env'} {m : Mem} {da : TAd} {vs : List Dat} (hp : OfPre vs) (ha : EvA da env m [.f (.lst vs)]) : Ev (dCall p_ldue EX0 da) env m (.f (toldD vs)) :=
  ev_fn ha vs rfl rfl hp
theorem lks_good {n : Nat} {ps : List Lk} (h : NetOk n ps) : LOk 0 (ps.map lk) := by
  have n7 := h.n7
  refine ⟨by have := h.l8; simp; omega, fun x hx => ?_⟩
  obtain ⟨p, hp, rfl⟩ := List.mem_map.mp hx
  have := h.ord p hp
  exact good_pair (good_int (by omega) (by omega)) (good_int (by omega) (by omega))
section
variable {C : Ct} {D : En} {x0 x2 x3 x4 x5 x6 x7 x8 x9 x10 : Option Sl} {m : Mem} {c : Nat}
theorem turn (hd : Dk c [] m) (hc : c + 200 < lim)
    (hq : ∀ x3 x4 x5 x6 x7 x8 x9 x10 m', Dk (c + 100) [] m' → D.nx [x0, some (.f (.obj 1)), x2, x3, x4, x5, x6, x7, x8, x9, x10] m') :
    (sSeq (sAsg (.tp [3, 4]) (dCall p_netS EX0 (dCons (dVar 1) (dCons (dC (.int 8)) dNil))))
  (sSeq (sFor (.nm 5) (iRg1 (dCall p_next EX0 (dCons (dVar 1) (dCons (dC (.int 4)) dNil))))
  (sSeq (sPar 6 7 (dCall p_next EX0 (dCons (dVar 1) (dCons (dBin oAdd (dN oLen (dCons (dVar 4) dNil)) (dC (.int 1))) dNil))) (dCall p_next EX0 (dCons (dVar 1) (dCons (dC (.int 6)) dNil))))
  (sSeq (sAsg (.nm 8) (dN oTup (dCons (dCall p_next EX0 (dCons (dVar 1) (dCons (dC (.int 3)) dNil))) (dCons (dBin oIx (dNew (nLst (dCons (dC (.int 6)) (dCons (dC (.int 7)) (dCons (dC (.int 8)) (dCons (dBin oPow (dC (.int 10)) (dC (.int 20))) dNil)))))) (dCall p_next EX0 (dCons (dVar 1) (dCons (dC (.int 4)) dNil)))) dNil))))
  (sSeq (sAsg (.nm 9) (dBin oIx (dNew (nCat (dVar 4) (dNew (nLst (dCons (dN oTup (dCons (dC (.int 2)) (dCons (dC (.int 1)) dNil))) dNil))))) (dCall p_next EX0 (dCons (dVar 1) (dCons (dBin oAdd (dN oLen (dCons (dVar 4) dNil)) (dC (.int 1))) dNil)))))
  (sSeq (sIf (dTst (dN (oIsi C) (dCons (dVar 9) (dCons (dC (.ty "tuple")) dNil))))
  (sAsg (.nm 9) (dBack (dVar 9)))
  sNext)
  (sSeq (sAsg (.nm 10) (dBin oIx (dNew (nLst (dCons (dCall p_oddX EX0 (dCons (dVar 1) (dCons (dN oTup (dCons (dC (.int 0)) (dCons (dC (.int 1)) dNil))) dNil))) (dCons (dVar 8) (dCons (dVar 9) (dCons (dN oTup (dCons (dC (.int 1)) (dCons (dC (.int 1)) dNil))) dNil)))))) (dN (oI2 fun i j => if j < i then j else i) (dCons (dVar 7) (dCons (dC (.int 3)) dNil)))))
  (sAsg (.nm 4) (dNew (nCat (dNew (nCat (dSl (dVar 4) dNo (dPart (dVar 6))) (dNew (nLst (dCons (dVar 10) dNil))))) (dSl (dVar 4) (dPart (dBin oAdd (dVar 6) (dN (oN1 fInt) (dCons (dBin oGt (dVar 7) (dC (.int 3))) dNil)))) dNo))))))))))
  (sSeq (sAsg (.nm 4) (dSl (dVar 4) dNo (dPart (dC (.int 10)))))
  (sIf (dNot (dTst (dCall (p_same 3) EX0 (dCons (dCall p_ltold EX0 (dCons (dVar 4) dNil)) (dCons (dCall p_ldue EX0 (dCons (dVar 4) dNil)) dNil)))))
  (sRet (dC (.bl false)))
  sNext)))) D [x0, some (.f (.obj 1)), x2, x3, x4, x5, x6, x7, x8, x9, x10] m := by
  have hlim : lim = 2 ^ 40 := rfl
  refine sq_asg ?_
  refine call_netS hd (by omega) (eva_cons (ev_v rfl) (eva_cons ev_c eva_nil)) fun n ps m1 hn hd1 => ?_
  have hv := lks_good hn
  show (sSeq _ _) D [x0, some (.f (.obj 1)), x2, some (.f (.int n)), some (.f (.lst (ps.map lk))), x5, x6, x7, x8, x9, x10] m1
  refine sq_for ?_
  unfold iRg1
  refine call_next (tl := []) (c := c + 30) 4 (by omega) (by omega) hd1 (by omega) (eva_cons (ev_v rfl) (eva_cons ev_c eva_nil)) fun i m2 i0 i1 hd2 => ?_
  obtain ⟨k, rfl⟩ : ∃ k : Nat, i = k := ⟨i.toNat, by omega⟩
  refine ⟨by omega, by omega, ?_⟩
  rw [Int.toNat_natCast]
  refine for_rg (I := fun j env m => Dk (c + 30 + 1 + 6 * j) [] m ∧ ∃ vs x5 x6 x7 x8 x9 x10, env = [x0, some (.f (.obj 1)), x2, some (.f (.int n)), some (.f (.lst vs)), x5, x6, x7, x8, x9, x10] ∧ LOk j vs) k 0 _ _ ⟨hd2, _, _, _, _, _, _, _, rfl, hv⟩ ?_ ?_
  · rintro j env m ⟨hd', vs, y5, y6, y7, y8, y9, y10, rfl, hv'⟩ h1 h2 D' nx ct rt bk
    exact change hv' (by omega) hd' (by omega) fun vs' z6 z7 z8 z9 z10 m' hv2 hd3 => nx _ _ ⟨by rw [show c + 30 + 1 + 6 * (j + 1) = c + 30 + 1 + 6 * j + 6 by omega]; exact hd3, _, _, _, _, _, _, _, rfl, hv2⟩
  · rintro env m ⟨hd', vs, y5, y6, y7, y8, y9, y10, rfl, hv'⟩
    dsimp only
    refine sq_set (a := .lst (vs.take 10)) ?_ ?_
    · have z := ev_slL (env := [x0, some (.f (.obj 1)), x2, some (.f (.int n)), some (.f (.lst vs)), y5, y6, y7, y8, y9, y10]) (m := m) (d := dVar 4) (x := .f (.lst vs)) (xs := vs) (lo := dNo) (hi := dPart (dC (.int 10))) (a := none) (c := some 10) (ev_v rfl) evo_no (evo_p ev_c) rfl
      refine z.eq ?_
      unfold DL.cutD
      rw [HT.sIx_none]
      have : HT.sIx vs.length vs.length (some (10 : Int)) = min 10 vs.length := HT.sIx_nat ..
      rw [this, Nat.sub_zero, List.drop_zero]
      congr 2
      by_cases h : 10 ≤ vs.length
      · rw [Nat.min_eq_left h]
      · rw [Nat.min_eq_right (by omega), List.take_of_length_le (Nat.le_refl _), List.take_of_length_le (by omega)]
    show (sIf _ _ _) D [x0, some (.f (.obj 1)), x2, some (.f (.int n)), some (.f (.lst (vs.take 10))), y5, y6, y7, y8, y9, y10] m
    have h10 : (vs.take 10).length ≤ 10 := by rw [List.length_take]; omega
    have hp : OfPre (vs.take 10) := ⟨by omega, fun x hx => hv'.gd x (List.mem_of_mem_take hx)⟩
    have e3 := ev_same (k := 3) (d := toldD (vs.take 10)) (toldD_good hp) (eva_cons (ev_told hp h10 (dk_bel hd') (eva_cons (ev_v (env := [x0, some (.f (.obj 1)), x2, some (.f (.int n)), some (.f (.lst (vs.take 10))), y5, y6, y7, y8, y9, y10]) (i := 4) rfl) eva_nil)) (eva_cons (ev_due hp (eva_cons (ev_v (i := 4) rfl) eva_nil)) eva_nil))
    exact st_ifF (EvB.eq (evb_not (evb_tst e3)) rfl) (hq _ _ _ _ _ _ _ _ m (hd'.mono (by omega)))
end
theorem law_law (C : Ct) : ∀ ds m (Q : QD) (E : QX), pLaw 63 ds m Q E → rd_law C p_deck p_netS p_next p_oddX (p_same 3) p_ldue p_ltold (fun c xs _ m => E c xs m) { nx := fun _ m => Q .non m, rt := Q } (env0 11 ds) m := by
  rintro ds m Q E ⟨is, hl, rfl, rfl, hq⟩
  show rd_law C p_deck p_netS p_next p_oddX (p_same 3) p_ldue p_ltold _ _ [some (.f (.lst (is.map Dat.int))), none, none, none, none, none, none, none, none, none, none] []
  unfold rd_law
  refine sq_asg ?_
  refine call_deck hl rfl (eva_cons (ev_v rfl) eva_nil) fun m1 hd => ?_
  refine sq_for ((evi_rg1n (j := 6) ev_c (by omega)) _ ?_)
  rw [show (List.range 6).map (fun i => Dat.int (i : Nat)) = rangeD ((0 : Nat) : Int) 6 from rfl]
  refine for_rg (I := fun j env m => Dk (100 * j) [] m ∧ ∃ x2 x3 x4 x5 x6 x7 x8 x9 x10, env = [some (.f (.lst (is.map Dat.int))), some (.f (.obj 1)), x2, x3, x4, x5, x6, x7, x8, x9, x10]) 6 0 _ _ ⟨hd, _, _, _, _, _, _, _, _, _, rfl⟩ ?_ ?_
  · rintro j env m ⟨hd, x2, x3, x4, x5, x6, x7, x8, x9, x10, rfl⟩ h1 h2 D' nx ct rt bk
    have hlim : lim = 2 ^ 40 := rfl
    refine turn hd (by omega) fun y3 y4 y5 y6 y7 y8 y9 y10 m' hd' => nx _ _ ⟨by rw [show 100 * (j + 1) = 100 * j + 100 by omega]; exact hd', _, _, _, _, _, _, _, _, _, rfl⟩
  · rintro env m _
    dsimp only
    exact hq _
end K04

set_option maxHeartbeats 0
namespace K04
open PySem PySem.Spec PyProof.Rows L2 DL DL.S
open K02 hiding isInt
abbrev st_BadNet_xi : Stmt := (inCls (top 6) 0)
theorem sc_BadNet_xi : FnScope ["self", "error"] ["self", "error"] (defScope st_BadNet_xi) := ⟨rfl, rfl, rfl, by decide +kernel, rfl, by decide +kernel, by decide +kernel⟩
abbrev st_BadLink_xi : Stmt := (inCls (top 5) 0)
theorem sc_BadLink_xi : FnScope ["self", "index"] ["self", "index"] (defScope st_BadLink_xi) := ⟨rfl, rfl, rfl, by decide +kernel, rfl, by decide +kernel, by decide +kernel⟩
def fn : List DefX := [⟨(.g "is_whole"), "is_whole", "is_whole", defArgs st_is_whole, defBody st_is_whole, defScope st_is_whole⟩,
  ⟨(.g "is_below"), "is_below", "is_below", defArgs st_is_below, defBody st_is_below, defScope st_is_below⟩,
  ⟨(.g "is_pair"), "is_pair", "is_pair", defArgs st_is_pair, defBody st_is_pair, defScope st_is_pair⟩,
  ⟨(.g "is_link"), "is_link", "is_link", defArgs st_is_link, defBody st_is_link, defScope st_is_link⟩,
  ⟨(.g "net_error"), "net_error", "net_error", defArgs st_net_error, defBody st_net_error, defScope st_net_error⟩,
  ⟨(.m "Net" "__init__"), "__init__", "Net.__init__", defArgs st_Net_init, defBody st_Net_init, defScope st_Net_init⟩,
  ⟨(.p "Net" "nodes"), "nodes", "Net.nodes", defArgs st_Net_nodes, defBody st_Net_nodes, defScope st_Net_nodes⟩,
  ⟨(.p "Net" "links"), "links", "Net.links", defArgs st_Net_links, defBody st_Net_links, defScope st_Net_links⟩,
  ⟨(.c "Net" "of"), "of", "Net.of", defArgs st_Net_of, defBody st_Net_of, defScope st_Net_of⟩,
  ⟨(.g "_law_deck"), "_law_deck", "_law_deck", defArgs st_law_deck, defBody st_law_deck, defScope st_law_deck⟩,
  ⟨(.g "_law_next"), "_law_next", "_law_next", defArgs st_law_next, defBody st_law_next, defScope st_law_next⟩,
  ⟨(.g "_law_pairs"), "_law_pairs", "_law_pairs", defArgs st_law_pairs, defBody st_law_pairs, defScope st_law_pairs⟩,
  ⟨(.g "_law_net"), "_law_net", "_law_net", defArgs st_law_net, defBody st_law_net, defScope st_law_net⟩,
  ⟨(.g "_law_same"), "_law_same", "_law_same", defArgs st_law_same, defBody st_law_same, defScope st_law_same⟩,
  ⟨(.g "_law_whole"), "_law_whole", "_law_whole", defArgs st_law_whole, defBody st_law_whole, defScope st_law_whole⟩,
  ⟨(.g "_law_odd"), "_law_odd", "_law_odd", defArgs st_law_odd, defBody st_law_odd, defScope st_law_odd⟩,
  ⟨(.g "_law_due"), "_law_due", "_law_due", defArgs st_law_due, defBody st_law_due, defScope st_law_due⟩,
  ⟨(.g "_law_of"), "_law_of", "_law_of", defArgs st_law_of, defBody st_law_of, defScope st_law_of⟩,
  ⟨(.g "_law_told"), "_law_told", "_law_told", defArgs st_law_told, defBody st_law_told, defScope st_law_told⟩,
  ⟨(.g "law"), "law", "law", defArgs st_law, defBody st_law, defScope st_law⟩,
  ⟨(.m "BadNet" "__init__"), "__init__", "BadNet.__init__", defArgs st_BadNet_xi, defBody st_BadNet_xi, defScope st_BadNet_xi⟩,
  ⟨(.m "BadLink" "__init__"), "__init__", "BadLink.__init__", defArgs st_BadLink_xi, defBody st_BadLink_xi, defScope st_BadLink_xi⟩]
def ex : List Fk := [noSysB,
  tab.chk,
  (fun K => (He.Fa.free "abs").ok K),
  (fun K => (He.Fa.free "all").ok K),
  (fun K => (He.Fa.free "bool").ok K),
  (fun K => (He.Fa.free "dict").ok K),
  (fun K => (He.Fa.free "enumerate").ok K),
  (fun K => (He.Fa.free "int").ok K),
  (fun K => (He.Fa.free "isinstance").ok K),
  (fun K => (He.Fa.free "len").ok K),
  (fun K => (He.Fa.free "list").ok K),
  (fun K => (He.Fa.free "max").ok K),
  (fun K => (He.Fa.free "min").ok K),
  (fun K => (He.Fa.free "range").ok K),
  (fun K => (He.Fa.free "repr").ok K),
  (fun K => (He.Fa.free "sorted").ok K),
  (fun K => (He.Fa.free "str").ok K),
  (fun K => (He.Fa.free "tuple").ok K),
  (fun K => (He.Fa.free "zip").ok K),
  (fun K => (He.Fa.int "MAX_LINKS" 8).ok K),
  (fun K => (He.Fa.int "MAX_NODES" 7).ok K),
  (fun K => (He.Fa.glo "BadLink").ok K),
  (fun K => (He.Fa.glo "BadNet").ok K),
  (fun K => (He.Fa.glo "Net").ok K),
  (tab.fiC "pairs" ft_pairs),
  (tab.fiC "size" ft_size),
  (tab.xfC "error" ft_error),
  (tab.xfC "index" ft_index),
  (tab.ieC ise),
  (fun K => (He.Fa.glo "SpareError").ok K),
  (tab.exC 0 ts_SpareError),
  noLstB,
  (fun K => (He.Fa.glo "is_whole").ok K),
  (fun K => (He.Fa.glo "is_below").ok K),
  (fun K => (He.Fa.glo "is_pair").ok K),
  (fun K => (He.Fa.glo "is_link").ok K),
  (fun K => (He.Fa.glo "net_error").ok K),
  (fun K => (He.Fa.glo "_law_deck").ok K),
  (fun K => (He.Fa.glo "_law_next").ok K),
  (fun K => (He.Fa.glo "_law_pairs").ok K),
  (fun K => (He.Fa.glo "_law_net").ok K),
  (fun K => (He.Fa.glo "_law_same").ok K),
  (fun K => (He.Fa.glo "_law_whole").ok K),
  (fun K => (He.Fa.glo "_law_odd").ok K),
  (fun K => (He.Fa.glo "_law_due").ok K),
  (fun K => (He.Fa.glo "_law_of").ok K),
  (fun K => (He.Fa.glo "_law_told").ok K),
  (fun K => (He.Fa.glo "law").ok K),
  (tab.cmC 3 "of"),
  (tab.prC 3 "links"),
  (tab.prC 3 "nodes"),
  (fun K => (He.Fa.glo "Net").ok K),
  (tab.mkC 3),
  (fun K => (He.Fa.glo "BadNet").ok K),
  (tab.xcC 2 ["error"]),
  (fun K => (He.Fa.glo "BadLink").ok K),
  (tab.xcC 1 ["index"])]
abbrev R : PySem.W.OpenRow := PySem.W.OpenLaw.row PySem.Challenge.rw_sparerows_k04_nets_of_links
abbrev hk : PySem.W.Hook := hookS 7 ex fn
def ob (s : PySem.W.SharedT) : AlY := obsSG 7 ex fn (HandSHeadRun.getT s)
theorem ob_eq (s : PySem.W.SharedT) : ob s = hk.obs s.abs := obsSG_eq (HandSHeadRun.getT_eq s)
def loose0 : List Str := ["_wall", "MAX_LINKS", "MAX_NODES", "SpareError", "BadLink", "BadNet", "is_whole", "is_below", "is_pair", "is_link", "net_error", "Net", "_law_deck", "_law_next", "_law_pairs", "_law_net", "_law_same", "_law_whole", "_law_odd", "_law_due", "_law_of", "_law_told"]
def loose : List Str := loose0
theorem run (w : World) : HandSHeadRun.RunEq R (PySem.W.view R.prog [26]) hk ob 6000 loose w := by
  intro os
  kernel_rfl
section
variable {P : Program} {w : World} {K : PySem.W.Frag} {h : Heap} {mg : Str → Option Value} {f : Addr}
theorem txt (inK : K.In h) (G : h.Ns mainGlobals mg) (c : SaysY ex fn K) : Txt K mg (tab.ct K) :=
  ⟨noSysB_ok (c.fact 0),
   Tab.ok (c.fact 1),
   He.free_ok inK G (c.fact 2),
   He.free_ok inK G (c.fact 3),
   He.free_ok inK G (c.fact 4),
   He.free_ok inK G (c.fact 5),
   He.free_ok inK G (c.fact 6),
   He.free_ok inK G (c.fact 7),
   He.free_ok inK G (c.fact 8),
   He.free_ok inK G (c.fact 9),
   He.free_ok inK G (c.fact 10),
   He.free_ok inK G (c.fact 11),
   He.free_ok inK G (c.fact 12),
   He.free_ok inK G (c.fact 13),
   He.free_ok inK G (c.fact 14),
   He.free_ok inK G (c.fact 15),
   He.free_ok inK G (c.fact 16),
   He.free_ok inK G (c.fact 17),
   He.free_ok inK G (c.fact 18),
   He.int_ok inK G (c.fact 19),
   He.int_ok inK G (c.fact 20),
   He.glo_ok inK G (c.fact 21),
   He.glo_ok inK G (c.fact 22),
   He.glo_ok inK G (c.fact 23),
   Tab.fi_ok (c.fact 24),
   Tab.fi_ok (c.fact 25),
   Tab.xf_ok (c.fact 26),
   Tab.xf_ok (c.fact 27),
   Tab.ie_ok (c.fact 28),
   He.glo_ok inK G (c.fact 29),
   Tab.ex_ok (c.fact 30)⟩
theorem facts (inK : K.In h) (G : h.Ns mainGlobals mg) (hfa : mg ("law" : Str) = some (.ref f)) (c : SaysY ex fn K) :
    ∃ fd : FuncData, (∀ (s : Shared) (v : Value), BindsTo s fd ⟨[v], []⟩ [("_law_script", v)]) ∧ ∀ base : Heap, FnG P w K mg base (L2.CX P w) 10 f fd ["_law_script"] (spD (tab.ct K) w K 1 (pLaw 63)) := by
  have G0 : FunD K "is_whole" "is_whole" (defArgs st_is_whole) (defBody st_is_whole) (defScope st_is_whole) [] [] (He.fAd K ("is_whole", none)) (fdA K ("is_whole", none)) := c.def_ 0 rfl
  have G1 : FunD K "is_below" "is_below" (defArgs st_is_below) (defBody st_is_below) (defScope st_is_below) [] [] (He.fAd K ("is_below", none)) (fdA K ("is_below", none)) := c.def_ 1 rfl
  have G2 : FunD K "is_pair" "is_pair" (defArgs st_is_pair) (defBody st_is_pair) (defScope st_is_pair) [] [] (He.fAd K ("is_pair", none)) (fdA K ("is_pair", none)) := c.def_ 2 rfl
  have G3 : FunD K "is_link" "is_link" (defArgs st_is_link) (defBody st_is_link) (defScope st_is_link) [] [] (He.fAd K ("is_link", none)) (fdA K ("is_link", none)) := c.def_ 3 rfl
  have G4 : FunD K "net_error" "net_error" (defArgs st_net_error) (defBody st_net_error) (defScope st_net_error) [] [] (He.fAd K ("net_error", none)) (fdA K ("net_error", none)) := c.def_ 4 rfl
  have G5 : FunD K "__init__" "Net.__init__" (defArgs st_Net_init) (defBody st_Net_init) (defScope st_Net_init) [] [] (He.fAd K ("Net", some "__init__")) (fdA K ("Net", some "__init__")) := c.def_ 5 rfl
  have G6 := c.def_ 6 rfl
  have G7 := c.def_ 7 rfl
  have G8 := c.def_ 8 rfl
  have G9 : FunD K "_law_deck" "_law_deck" (defArgs st_law_deck) (defBody st_law_deck) (defScope st_law_deck) [] [] (He.fAd K ("_law_deck", none)) (fdA K ("_law_deck", none)) := c.def_ 9 rfl
  have G10 : FunD K "_law_next" "_law_next" (defArgs st_law_next) (defBody st_law_next) (defScope st_law_next) [] [] (He.fAd K ("_law_next", none)) (fdA K ("_law_next", none)) := c.def_ 10 rfl
  have G11 : FunD K "_law_pairs" "_law_pairs" (defArgs st_law_pairs) (defBody st_law_pairs) (defScope st_law_pairs) [] [] (He.fAd K ("_law_pairs", none)) (fdA K ("_law_pairs", none)) := c.def_ 11 rfl
  have G12 : FunD K "_law_net" "_law_net" (defArgs st_law_net) (defBody st_law_net) (defScope st_law_net) [] [] (He.fAd K ("_law_net", none)) (fdA K ("_law_net", none)) := c.def_ 12 rfl
  have G13 : FunD K "_law_same" "_law_same" (defArgs st_law_same) (defBody st_law_same) (defScope st_law_same) [] [] (He.fAd K ("_law_same", none)) (fdA K ("_law_same", none)) := c.def_ 13 rfl
  have G14 : FunD K "_law_whole" "_law_whole" (defArgs st_law_whole) (defBody st_law_whole) (defScope st_law_whole) [] [] (He.fAd K ("_law_whole", none)) (fdA K ("_law_whole", none)) := c.def_ 14 rfl
  have G15 : FunD K "_law_odd" "_law_odd" (defArgs st_law_odd) (defBody st_law_odd) (defScope st_law_odd) [] [] (He.fAd K ("_law_odd", none)) (fdA K ("_law_odd", none)) := c.def_ 15 rfl
  have G16 : FunD K "_law_due" "_law_due" (defArgs st_law_due) (defBody st_law_due) (defScope st_law_due) [] [] (He.fAd K ("_law_due", none)) (fdA K ("_law_due", none)) := c.def_ 16 rfl
  have G17 : FunD K "_law_of" "_law_of" (defArgs st_law_of) (defBody st_law_of) (defScope st_law_of) [] [] (He.fAd K ("_law_of", none)) (fdA K ("_law_of", none)) := c.def_ 17 rfl
  have G18 : FunD K "_law_told" "_law_told" (defArgs st_law_told) (defBody st_law_told) (defScope st_law_told) [] [] (He.fAd K ("_law_told", none)) (fdA K ("_law_told", none)) := c.def_ 18 rfl
  have G19 : FunD K "law" "law" (defArgs st_law) (defBody st_law) (defScope st_law) [] [] (He.fAd K ("law", none)) (fdA K ("law", none)) := c.def_ 19 rfl
  have G20 : FunD K "__init__" "BadNet.__init__" (defArgs st_BadNet_xi) (defBody st_BadNet_xi) (defScope st_BadNet_xi) [] [] (He.fAd K ("BadNet", some "__init__")) (fdA K ("BadNet", some "__init__")) := c.def_ 20 rfl
  have G21 : FunD K "__init__" "BadLink.__init__" (defArgs st_BadLink_xi) (defBody st_BadLink_xi) (defScope st_BadLink_xi) [] [] (He.fAd K ("BadLink", some "__init__")) (fdA K ("BadLink", some "__init__")) := c.def_ 21 rfl
  have T := txt inK G c
  have e := hfa.symm.trans (He.glo_ok inK G (c.fact 47))
  cases e
  have b := FunD.bindsA (ps := ["_law_script"]) G19 fun _ _ _ _ _ _ us hl => match us, hl with | [_], _ => rfl
  refine ⟨_, fun s v => b s [v] rfl, fun base => ?_⟩
  have x_BadNet : XcC P w K mg base (tab.ct K) "BadNet" 2 ["error"] := Tab.xc_ok (c.fact 54) rfl (He.glo_ok inK G (c.fact 53)) rfl (by decide) ⟨_, exc_init1 G20 sc_BadNet_xi (fun cdv A outer s H E => pss_one (ps_ost (pv 0) (pv 1))), (FunD.bindsN G20 (ps := ["self", "error"]) fun _ _ _ _ _ _ us hl => match us, hl with | [_, _], _ => rfl)⟩
  have x_BadLink : XcC P w K mg base (tab.ct K) "BadLink" 1 ["index"] := Tab.xc_ok (c.fact 56) rfl (He.glo_ok inK G (c.fact 55)) rfl (by decide) ⟨_, exc_init1 G21 sc_BadLink_xi (fun cdv A outer s H E => pss_one (ps_ost (pv 0) (pv 1))), (FunD.bindsN G21 (ps := ["self", "index"]) fun _ _ _ _ _ _ us hl => match us, hl with | [_, _], _ => rfl)⟩
  have c_is_whole : FnC P w K mg base (tab.ct K) "is_whole" 1 ["value"] (p_whole) := ⟨He.glo_ok inK G (c.fact 32), G0.kp, wk_is_whole T (K0 := 0) (by first | exact pRel.mono | exact pGh.mono | exact pLaw.mono | exact pNo.mono | exact pT.mono) (by first | exact pRel.len | exact pGh.len | exact pLaw.len | exact pNo.len | exact pT.len) G0 (K02.law_is_whole (tab.ct K)), (FunD.bindsN G0 (ps := ["value"]) fun _ _ _ _ _ _ us hl => match us, hl with | [_], _ => rfl), (by first | exact pRel.len | exact pGh.len | exact pLaw.len | exact pNo.len | exact pT.len)⟩
  have c_is_below : FnC P w K mg base (tab.ct K) "is_below" 2 ["value", "bound"] (p_below) := ⟨He.glo_ok inK G (c.fact 33), G1.kp, wk_is_below T (K0 := 1) (by first | exact pRel.mono | exact pGh.mono | exact pLaw.mono | exact pNo.mono | exact pT.mono) (by first | exact pRel.len | exact pGh.len | exact pLaw.len | exact pNo.len | exact pT.len) c_is_whole (by omega) G1 (K02.law_is_below (tab.ct K)), (FunD.bindsN G1 (ps := ["value", "bound"]) fun _ _ _ _ _ _ us hl => match us, hl with | [_, _], _ => rfl), (by first | exact pRel.len | exact pGh.len | exact pLaw.len | exact pNo.len | exact pT.len)⟩
  have c_is_pair : FnC P w K mg base (tab.ct K) "is_pair" 1 ["value"] (p_pair) := ⟨He.glo_ok inK G (c.fact 34), G2.kp, wk_is_pair T (K0 := 0) (by first | exact pRel.mono | exact pGh.mono | exact pLaw.mono | exact pNo.mono | exact pT.mono) (by first | exact pRel.len | exact pGh.len | exact pLaw.len | exact pNo.len | exact pT.len) G2 (K02.law_is_pair (tab.ct K)), (FunD.bindsN G2 (ps := ["value"]) fun _ _ _ _ _ _ us hl => match us, hl with | [_], _ => rfl), (by first | exact pRel.len | exact pGh.len | exact pLaw.len | exact pNo.len | exact pT.len)⟩
  have c_is_link : FnC P w K mg base (tab.ct K) "is_link" 3 ["value", "nodes"] (p_link) := ⟨He.glo_ok inK G (c.fact 35), G3.kp, wk_is_link T (K0 := 2) (by first | exact pRel.mono | exact pGh.mono | exact pLaw.mono | exact pNo.mono | exact pT.mono) (by first | exact pRel.len | exact pGh.len | exact pLaw.len | exact pNo.len | exact pT.len) c_is_pair (by omega) c_is_below (by omega) G3 (K02.law_is_link (tab.ct K)), (FunD.bindsN G3 (ps := ["value", "nodes"]) fun _ _ _ _ _ _ us hl => match us, hl with | [_, _], _ => rfl), (by first | exact pRel.len | exact pGh.len | exact pLaw.len | exact pNo.len | exact pT.len)⟩
  have c_net_error : FnC P w K mg base (tab.ct K) "net_error" 4 ["nodes", "links"] (p_err) := ⟨He.glo_ok inK G (c.fact 36), G4.kp, wk_net_error T (K0 := 3) (by first | exact pRel.mono | exact pGh.mono | exact pLaw.mono | exact pNo.mono | exact pT.mono) (by first | exact pRel.len | exact pGh.len | exact pLaw.len | exact pNo.len | exact pT.len) c_is_whole (by omega) c_is_link (by omega) G4 (K02.law_net_error (tab.ct K)), (FunD.bindsN G4 (ps := ["nodes", "links"]) fun _ _ _ _ _ _ us hl => match us, hl with | [_, _], _ => rfl), (by first | exact pRel.len | exact pGh.len | exact pLaw.len | exact pNo.len | exact pT.len)⟩
  have m_Net : MkC P w K mg base (tab.ct K) "Net" 3 2 5 ["self", "nodes", "links"] (p_initS) := ⟨He.glo_ok inK G (c.fact 51), Tab.mk_ok (c.fact 52) rfl, wk_Net_init T (K0 := 4) (by first | exact pRel.mono | exact pGh.mono | exact pLaw.mono | exact pNo.mono | exact pT.mono) (by first | exact pRel.len | exact pGh.len | exact pLaw.len | exact pNo.len | exact pT.len) c_net_error (by omega) x_BadNet (by omega) G5 (K02.law_Net_initS (tab.ct K)), (FunD.bindsN G5 (ps := ["self", "nodes", "links"]) fun _ _ _ _ _ _ us hl => match us, hl with | [_, _, _], _ => rfl), (by first | exact pRel.len | exact pGh.len | exact pLaw.len | exact pNo.len | exact pT.len), rfl⟩
  have D_Net_nodes := wk_Net_nodes (P := P) (w := w) (base := base) T (p := p_nnodes) (K0 := 0) (by first | exact pRel.mono | exact pGh.mono | exact pLaw.mono | exact pNo.mono | exact pT.mono) (by first | exact pRel.len | exact pGh.len | exact pLaw.len | exact pNo.len | exact pT.len) G6 (DL.S.law_Net_nodes (tab.ct K))
  have r_Net_nodes : PrC P w K mg base (tab.ct K) 3 "nodes" 1 (p_nnodes) := Tab.pr_ok (c.fact 50) rfl D_Net_nodes (FunD.bindsN G6 (ps := ["self"]) fun _ _ _ _ _ _ us hl => match us, hl with | [_], _ => rfl) rfl (by first | exact pRel.len | exact pGh.len | exact pLaw.len | exact pNo.len | exact pT.len)
  have D_Net_links := wk_Net_links (P := P) (w := w) (base := base) T (p := p_nlinks) (K0 := 0) (by first | exact pRel.mono | exact pGh.mono | exact pLaw.mono | exact pNo.mono | exact pT.mono) (by first | exact pRel.len | exact pGh.len | exact pLaw.len | exact pNo.len | exact pT.len) G7 (DL.S.law_Net_links (tab.ct K))
  have r_Net_links : PrC P w K mg base (tab.ct K) 3 "links" 1 (p_nlinks) := Tab.pr_ok (c.fact 49) rfl D_Net_links (FunD.bindsN G7 (ps := ["self"]) fun _ _ _ _ _ _ us hl => match us, hl with | [_], _ => rfl) rfl (by first | exact pRel.len | exact pGh.len | exact pLaw.len | exact pNo.len | exact pT.len)
  have D_Net_of := wk_Net_of (P := P) (w := w) (base := base) T (p := K04.p_of) (K0 := 6) (by first | exact pRel.mono | exact pGh.mono | exact pLaw.mono | exact pNo.mono | exact pT.mono) (by first | exact pRel.len | exact pGh.len | exact pLaw.len | exact pNo.len | exact pT.len) c_is_pair (by omega) c_is_whole (by omega) m_Net (by omega) x_BadLink (by omega) G8 (K04.law_Net_of (tab.ct K))
  have z_Net_of := Tab.cm_ok (t := tab) (c := 3) (x := "of") (c.fact 48) rfl D_Net_of
  have c_law_deck : FnC P w K mg base (tab.ct K) "_law_deck" 1 ["_law_script"] (p_deck) := ⟨He.glo_ok inK G (c.fact 37), G9.kp, wk_law_deck T (K0 := 0) (by first | exact pRel.mono | exact pGh.mono | exact pLaw.mono | exact pNo.mono | exact pT.mono) (by first | exact pRel.len | exact pGh.len | exact pLaw.len | exact pNo.len | exact pT.len) G9 (DL.S.law_deck (tab.ct K)), (FunD.bindsN G9 (ps := ["_law_script"]) fun _ _ _ _ _ _ us hl => match us, hl with | [_], _ => rfl), (by first | exact pRel.len | exact pGh.len | exact pLaw.len | exact pNo.len | exact pT.len)⟩
  have c_law_next : FnC P w K mg base (tab.ct K) "_law_next" 1 ["_law_deck_here", "_law_many"] (p_next) := ⟨He.glo_ok inK G (c.fact 38), G10.kp, wk_law_next T (K0 := 0) (by first | exact pRel.mono | exact pGh.mono | exact pLaw.mono | exact pNo.mono | exact pT.mono) (by first | exact pRel.len | exact pGh.len | exact pLaw.len | exact pNo.len | exact pT.len) G10 (DL.S.law_next (tab.ct K)), (FunD.bindsN G10 (ps := ["_law_deck_here", "_law_many"]) fun _ _ _ _ _ _ us hl => match us, hl with | [_, _], _ => rfl), (by first | exact pRel.len | exact pGh.len | exact pLaw.len | exact pNo.len | exact pT.len)⟩
  have c_law_pairs : FnC P w K mg base (tab.ct K) "_law_pairs" 1 ["_law_nodes"] (p_pairs) := ⟨He.glo_ok inK G (c.fact 39), G11.kp, wk_law_pairs T (K0 := 0) (by first | exact pRel.mono | exact pGh.mono | exact pLaw.mono | exact pNo.mono | exact pT.mono) (by first | exact pRel.len | exact pGh.len | exact pLaw.len | exact pNo.len | exact pT.len) G11 (K02.law_law_pairs (tab.ct K)), (FunD.bindsN G11 (ps := ["_law_nodes"]) fun _ _ _ _ _ _ us hl => match us, hl with | [_], _ => rfl), (by first | exact pRel.len | exact pGh.len | exact pLaw.len | exact pNo.len | exact pT.len)⟩
  have c_law_net : FnC P w K mg base (tab.ct K) "_law_net" 2 ["_law_deck_here", "_law_most"] (p_netS) := ⟨He.glo_ok inK G (c.fact 40), G12.kp, wk_law_net T (K0 := 1) (by first | exact pRel.mono | exact pGh.mono | exact pLaw.mono | exact pNo.mono | exact pT.mono) (by first | exact pRel.len | exact pGh.len | exact pLaw.len | exact pNo.len | exact pT.len) c_law_next (by omega) c_law_pairs (by omega) G12 (K02.law_law_net2 (tab.ct K)), (FunD.bindsN G12 (ps := ["_law_deck_here", "_law_most"]) fun _ _ _ _ _ _ us hl => match us, hl with | [_, _], _ => rfl), (by first | exact pRel.len | exact pGh.len | exact pLaw.len | exact pNo.len | exact pT.len)⟩
  have c_law_same_no : FnCG P w K mg base (tab.ct K) "_law_same" 0 ["_law_found", "_law_due_here"] pNo := ⟨He.glo_ok inK G (c.fact 41), G13.kp, noG, (FunD.bindsN G13 (ps := ["_law_found", "_law_due_here"]) fun _ _ _ _ _ _ us hl => match us, hl with | [_, _], _ => rfl), pNo.len⟩
  have c_law_same0 : FnCG P w K mg base (tab.ct K) "_law_same" 1 ["_law_found", "_law_due_here"] (p_same 0) := ⟨He.glo_ok inK G (c.fact 41), G13.kp, wk_law_same T (K0 := 0) (by first | exact pRel.mono | exact pGh.mono | exact pLaw.mono | exact pNo.mono | exact pT.mono) (by first | exact pRel.len | exact pGh.len | exact pLaw.len | exact pNo.len | exact pT.len) c_law_same_no (by omega) G13 (DL.S.law_same0 (tab.ct K) _), (FunD.bindsN G13 (ps := ["_law_found", "_law_due_here"]) fun _ _ _ _ _ _ us hl => match us, hl with | [_, _], _ => rfl), (by first | exact pRel.len | exact pGh.len | exact pLaw.len | exact pNo.len | exact pT.len)⟩
  have c_law_same1 : FnCG P w K mg base (tab.ct K) "_law_same" 2 ["_law_found", "_law_due_here"] (p_same 1) := ⟨He.glo_ok inK G (c.fact 41), G13.kp, wk_law_same T (K0 := 1) (by first | exact pRel.mono | exact pGh.mono | exact pLaw.mono | exact pNo.mono | exact pT.mono) (by first | exact pRel.len | exact pGh.len | exact pLaw.len | exact pNo.len | exact pT.len) c_law_same0 (by omega) G13 (DL.S.law_same (tab.ct K) 1), (FunD.bindsN G13 (ps := ["_law_found", "_law_due_here"]) fun _ _ _ _ _ _ us hl => match us, hl with | [_, _], _ => rfl), (by first | exact pRel.len | exact pGh.len | exact pLaw.len | exact pNo.len | exact pT.len)⟩
  have c_law_same2 : FnCG P w K mg base (tab.ct K) "_law_same" 3 ["_law_found", "_law_due_here"] (p_same 2) := ⟨He.glo_ok inK G (c.fact 41), G13.kp, wk_law_same T (K0 := 2) (by first | exact pRel.mono | exact pGh.mono | exact pLaw.mono | exact pNo.mono | exact pT.mono) (by first | exact pRel.len | exact pGh.len | exact pLaw.len | exact pNo.len | exact pT.len) c_law_same1 (by omega) G13 (DL.S.law_same (tab.ct K) 2), (FunD.bindsN G13 (ps := ["_law_found", "_law_due_here"]) fun _ _ _ _ _ _ us hl => match us, hl with | [_, _], _ => rfl), (by first | exact pRel.len | exact pGh.len | exact pLaw.len | exact pNo.len | exact pT.len)⟩
  have c_law_same : FnCG P w K mg base (tab.ct K) "_law_same" 4 ["_law_found", "_law_due_here"] (p_same 3) := ⟨He.glo_ok inK G (c.fact 41), G13.kp, wk_law_same T (K0 := 3) (by first | exact pRel.mono | exact pGh.mono | exact pLaw.mono | exact pNo.mono | exact pT.mono) (by first | exact pRel.len | exact pGh.len | exact pLaw.len | exact pNo.len | exact pT.len) c_law_same2 (by omega) G13 (DL.S.law_same (tab.ct K) 3), (FunD.bindsN G13 (ps := ["_law_found", "_law_due_here"]) fun _ _ _ _ _ _ us hl => match us, hl with | [_, _], _ => rfl), (by first | exact pRel.len | exact pGh.len | exact pLaw.len | exact pNo.len | exact pT.len)⟩
  have c_law_whole : FnC P w K mg base (tab.ct K) "_law_whole" 1 ["_law_value"] (p_whole) := ⟨He.glo_ok inK G (c.fact 42), G14.kp, wk_law_whole T (K0 := 0) (by first | exact pRel.mono | exact pGh.mono | exact pLaw.mono | exact pNo.mono | exact pT.mono) (by first | exact pRel.len | exact pGh.len | exact pLaw.len | exact pNo.len | exact pT.len) G14 (K02.law_law_whole (tab.ct K)), (FunD.bindsN G14 (ps := ["_law_value"]) fun _ _ _ _ _ _ us hl => match us, hl with | [_], _ => rfl), (by first | exact pRel.len | exact pGh.len | exact pLaw.len | exact pNo.len | exact pT.len)⟩
  have c_law_odd : FnC P w K mg base (tab.ct K) "_law_odd" 2 ["_law_deck_here", "_law_link"] (p_oddX) := ⟨He.glo_ok inK G (c.fact 43), G15.kp, wk_law_odd T (K0 := 1) (by first | exact pRel.mono | exact pGh.mono | exact pLaw.mono | exact pNo.mono | exact pT.mono) (by first | exact pRel.len | exact pGh.len | exact pLaw.len | exact pNo.len | exact pT.len) c_law_next (by omega) G15 (DL.S.law_law_oddX (tab.ct K)), (FunD.bindsN G15 (ps := ["_law_deck_here", "_law_link"]) fun _ _ _ _ _ _ us hl => match us, hl with | [_, _], _ => rfl), (by first | exact pRel.len | exact pGh.len | exact pLaw.len | exact pNo.len | exact pT.len)⟩
  have c_law_due : FnC P w K mg base (tab.ct K) "_law_due" 2 ["_law_links"] (K04.p_ldue) := ⟨He.glo_ok inK G (c.fact 44), G16.kp, wk_law_due T (K0 := 1) (by first | exact pRel.mono | exact pGh.mono | exact pLaw.mono | exact pNo.mono | exact pT.mono) (by first | exact pRel.len | exact pGh.len | exact pLaw.len | exact pNo.len | exact pT.len) c_law_whole (by omega) G16 (K04.law_law_due (tab.ct K)), (FunD.bindsN G16 (ps := ["_law_links"]) fun _ _ _ _ _ _ us hl => match us, hl with | [_], _ => rfl), (by first | exact pRel.len | exact pGh.len | exact pLaw.len | exact pNo.len | exact pT.len)⟩
  have c_law_of : FnC P w K mg base (tab.ct K) "_law_of" 8 ["_law_links"] (K04.p_lof) := ⟨He.glo_ok inK G (c.fact 45), G17.kp, wk_law_of T (K0 := 7) (by first | exact pRel.mono | exact pGh.mono | exact pLaw.mono | exact pNo.mono | exact pT.mono) (by first | exact pRel.len | exact pGh.len | exact pLaw.len | exact pNo.len | exact pT.len) z_Net_of (by omega) G17 (K04.law_law_of (tab.ct K)), (FunD.bindsN G17 (ps := ["_law_links"]) fun _ _ _ _ _ _ us hl => match us, hl with | [_], _ => rfl), (by first | exact pRel.len | exact pGh.len | exact pLaw.len | exact pNo.len | exact pT.len)⟩
  have c_law_told : FnC P w K mg base (tab.ct K) "_law_told" 9 ["_law_links"] (K04.p_ltold) := ⟨He.glo_ok inK G (c.fact 46), G18.kp, wk_law_told T (K0 := 8) (by first | exact pRel.mono | exact pGh.mono | exact pLaw.mono | exact pNo.mono | exact pT.mono) (by first | exact pRel.len | exact pGh.len | exact pLaw.len | exact pNo.len | exact pT.len) c_law_of (by omega) r_Net_links (by omega) r_Net_nodes (by omega) G18 (K04.law_law_told (tab.ct K)), (FunD.bindsN G18 (ps := ["_law_links"]) fun _ _ _ _ _ _ us hl => match us, hl with | [_], _ => rfl), (by first | exact pRel.len | exact pGh.len | exact pLaw.len | exact pNo.len | exact pT.len)⟩
  exact (wk_law T (K0 := 9) (by first | exact pRel.mono | exact pGh.mono | exact pLaw.mono | exact pNo.mono | exact pT.mono) (by first | exact pRel.len | exact pGh.len | exact pLaw.len | exact pNo.len | exact pT.len) c_law_deck (by omega) c_law_net (by omega) c_law_next (by omega) c_law_odd (by omega) c_law_same (by omega) c_law_due (by omega) c_law_told (by omega) G19 (K04.law_law (tab.ct K))).ok
end
end K04
open PySem PySem.W PySem.Calls PyProof.Rows
theorem PySem.Challenge.cw_sparerows_k04_nets_of_links_holds : PySem.Challenge.rw_sparerows_k04_nets_of_links.Holds := by
  w_on; o_law
  refine HandSHeadRun.head_any (r := OpenLaw.row PySem.Challenge.rw_sparerows_k04_nets_of_links) (q := view (OpenLaw.row PySem.Challenge.rw_sparerows_k04_nets_of_links).prog [26]) (H := K04.hk) (ob := K04.ob) (M := 6000) (loose := K04.loose) (d := HandSHeadRun.topDef (OpenLaw.row PySem.Challenge.rw_sparerows_k04_nets_of_links).prog 26) (kwd := []) K04.ob_eq
    (by kernel_rfl) (fun s => by kernel_rfl) K04.run (by kernel_rfl) (by kernel_rfl) (by kernel_rfl) (by rfl) (by first | assumption | decide +kernel) (by decide +kernel) ⟨rfl, rfl, rfl, rfl, rfl, by decide +kernel⟩ ?hw ?hc
  case hw => w_witness2
  case hc =>
    refine DL.walk_ofG (l := PySem.Challenge.rw_sparerows_k04_nets_of_links) (n := 63) (k := 10) (x := "_law_script") rfl (by decide) (by kernel_rfl) ⟨⟨rfl, by decide, by decide⟩, rfl⟩ ?_
    intro w mg fa h Y G hmg0
    obtain ⟨K, inK, c⟩ := Y
    have hmg : mg ("law" : PySem.Str) = some (.ref fa) := by
      have e : (HandSHeadRun.topDef (OpenLaw.row PySem.Challenge.rw_sparerows_k04_nets_of_links).prog 26).name = ("law" : PySem.Str) := by kernel_rfl
      rw [← e]
      exact hmg0
    obtain ⟨fd, hb, hF⟩ := K04.facts (P := (PySem.Challenge.rw_sparerows_k04_nets_of_links).prog) (w := w) inK G hmg c
    exact ⟨K, fd, _, inK, DL.noLstB_ok (c.fact 31), hb, fun a o is hl => DL.law_prom hl, fun B _ _ => hF B⟩

