import PyProof.Rows.All
import Wide.All
import OpenK.AllK
import Wide.FinOn
import HandS.ForMost
import HandS.ForExc
import HandS.IsInst
import HandS.TupAny
import HandS.Wide
import KE.KDictCopyH
import KE.KDictKeyed
import HandS.Walk
import HandS.CallSlots
import HandS.Defaults
import HandS.WordsExc
import HandS.Deep
import KE.SortData
import HandS.SortOrd
import PyProof.TupleOfSeq
import HandS.Zip
import KE.GoesEnum
import HandS.Style
import HandS.ExcInit
import HandS.ExcField
import HandS.ExcIs
import HandS.Words
import HandS.HeadHook2
import HandS.Ends
import HandS.HeadEnd
import HandS.HeadHook1
import HandS.Head0
import HandS.Head1
import HandS.Head2
import PySem.Challenge.RW_sparerows_k02_net_forms
set_option Elab.async false
set_option linter.all false
set_option maxRecDepth 100000
set_option maxHeartbeats 1000000
namespace DL
open PySem PySem.Spec PyProof.Rows L2

/-! ### data -/
inductive Dat where
  | non | bl (b : Bool) | int (i : Int) | str (x : Str)
  | tup (xs : List Dat) | lst (xs : List Dat) | dct (kvs : List (Dat × Dat))
  | ins (c : Nat) (xs : List Dat) | obj (k : Nat) | ref (a : Addr) | ty (n : String) | cls (c : Nat)
  deriving Inhabited

/-- classes by number: where they stand, their fields in the order of storing -/
structure Ct where
  addr : Nat → Addr
  flds : Nat → List Str
  /-- plain classes of instances -/
  own : Nat → Bool := fun _ => false
  /-- of which kind: class and class, class and built-in type, built-in type and class -/
  isaI : Nat → Nat → Option Bool := fun _ _ => none
  isaB : Nat → String → Option Bool := fun _ _ => none
  isaT : String → Nat → Option Bool := fun _ _ => none

/-- a dict by its entries -/
def dxo (a : Addr) (es : Array DictEntry) : HO := .ext fun h => ∃ o ep, h.get? a = some o ∧ o.ExactDict ∧ o.data = .dict es ep

mutual
def keyN : Dat → Option NestedKey
  | .non => some .none
  | .bl b => some (.num (if b = true then 1 else 0))
  | .int i => some (.num i)
  | .str x => some (.text x)
  | .tup xs => (keyNs xs).map .tup
  | _ => none
def keyNs : List Dat → Option (List NestedKey)
  | [] => some []
  | x :: xs => match keyN x, keyNs xs with
    | some k, some ks => some (k :: ks)
    | _, _ => none
end
def hashD (w : World) (k : Dat) : Int := match keyN k with
  | some n => n.hash w
  | none => 0

mutual
/-- the value v shows the datum, by objects that do not change any more -/
inductive Fz (C : Ct) (w : World) (K : PySem.W.Frag) (al : List Addr) (G : Hp) : V → Dat → Prop
  | non : Fz C w K al G .non .non
  | bl (b : Bool) : Fz C w K al G (.bl b) (.bl b)
  | int (i : Int) : Fz C w K al G (.int i) (.int i)
  | str (x : Str) : Fz C w K al G (.str x) (.str x)
  | ty (n : String) : Fz C w K al G (.ty n) (.ty n)
  | ref (a : Addr) : Fz C w K al G (.ref a) (.ref a)
  | cls (c : Nat) : Fz C w K al G (.ref (C.addr c)) (.cls c)
  | tup {a vs ds} : SqT K G a vs → FzAll C w K al G vs ds → Fz C w K al G (.ref a) (.tup ds)
  | lst {a vs ds} : Rd G a (.lst vs) → FzAll C w K al G vs ds → Fz C w K al G (.ref a) (.lst ds)
  | dct {a es kvs} : G a = some (dxo a es) → (a == sysModules) = false → FzEs C w K al G es.toList kvs → Fz C w K al G (.ref a) (.dct kvs)
  | ins {a dx c vs ds} : G a = some (.ins (C.addr c) dx ((C.flds c).zip vs)) → vs.length = (C.flds c).length → FzAll C w K al G vs ds → Fz C w K al G (.ref a) (.ins c ds)
  | obj {k a} : al[k]? = some a → Fz C w K al G (.ref a) (.obj k)
inductive FzAll (C : Ct) (w : World) (K : PySem.W.Frag) (al : List Addr) (G : Hp) : List V → List Dat → Prop
  | nil : FzAll C w K al G [] []
  | cons {v vs d ds} : Fz C w K al G v d → FzAll C w K al G vs ds → FzAll C w K al G (v :: vs) (d :: ds)
inductive FzEs (C : Ct) (w : World) (K : PySem.W.Frag) (al : List Addr) (G : Hp) : List DictEntry → List (Dat × Dat) → Prop
  | nil : FzEs C w K al G [] []
  | cons {e es kv vv k v r} : RelV kv e.key → Fz C w K al G kv k → RelV vv e.val → Fz C w K al G vv v → e.hash = hashD w k → FzEs C w K al G es r → FzEs C w K al G (e :: es) ((k, v) :: r)
end

section
variable {C : Ct} {w : World} {K : PySem.W.Frag} {al al' : List Addr} {G G' : Hp}
theorem Rd.keep {a : Addr} {u : HO} (h : ∀ a o, G a = some o → G' a = some o) (r : Rd G a u) : Rd G' a u := by
  rcases r with r | ⟨o, r⟩
  · exact .inl (h _ _ r)
  · exact .inr ⟨o, h _ _ r⟩
theorem SqL.keep {a : Addr} {xs : List V} (h : ∀ a o, G a = some o → G' a = some o) (r : SqL K G a xs) : SqL K G' a xs := by
  rcases r with r | r
  · exact .inl (Rd.keep h r)
  · exact .inr r
theorem SqT.keep {a : Addr} {xs : List V} (h : ∀ a o, G a = some o → G' a = some o) (r : SqT K G a xs) : SqT K G' a xs := by
  rcases r with r | r
  · exact .inl (Rd.keep h r)
  · exact .inr r
mutual
theorem Fz.keep (h : ∀ a o, G a = some o → G' a = some o) (ha : ∀ (k : Nat) a, al[k]? = some a → al'[k]? = some a) : ∀ {v d}, Fz C w K al G v d → Fz C w K al' G' v d
  | _, _, .non => .non
  | _, _, .bl b => .bl b
  | _, _, .int i => .int i
  | _, _, .str x => .str x
  | _, _, .ty n => .ty n
  | _, _, .ref a => .ref a
  | _, _, .cls c => .cls c
  | _, _, .tup s r => .tup (SqT.keep h s) (FzAll.keep h ha r)
  | _, _, .lst s r => .lst (Rd.keep h s) (FzAll.keep h ha r)
  | _, _, .dct e s r => .dct (h _ _ e) s (FzEs.keep h ha r)
  | _, _, .ins e l r => .ins (h _ _ e) l (FzAll.keep h ha r)
  | _, _, .obj e => .obj (ha _ _ e)
theorem FzAll.keep (h : ∀ a o, G a = some o → G' a = some o) (ha : ∀ (k : Nat) a, al[k]? = some a → al'[k]? = some a) : ∀ {v d}, FzAll C w K al G v d → FzAll C w K al' G' v d
  | _, _, .nil => .nil
  | _, _, .cons x r => .cons (Fz.keep h ha x) (FzAll.keep h ha r)
theorem FzEs.keep (h : ∀ a o, G a = some o → G' a = some o) (ha : ∀ (k : Nat) a, al[k]? = some a → al'[k]? = some a) : ∀ {v d}, FzEs C w K al G v d → FzEs C w K al' G' v d
  | _, _, .nil => .nil
  | _, _, .cons r1 x r2 y e r => .cons r1 (Fz.keep h ha x) r2 (Fz.keep h ha y) e (FzEs.keep h ha r)
end
theorem FzAll.length {vs ds} : FzAll C w K al G vs ds → vs.length = ds.length := by
  intro h
  induction ds generalizing vs with
  | nil => cases h; rfl
  | cons d ds ih =>
    cases h with
    | cons x r => simp [ih r]
theorem FzAll.get {vs ds} {i : Nat} {d : Dat} (h : FzAll C w K al G vs ds) (e : ds[i]? = some d) : ∃ v, vs[i]? = some v ∧ Fz C w K al G v d := by
  induction ds generalizing vs i with
  | nil => simp at e
  | cons x ds ih =>
    cases h with
    | cons y r =>
      cases i with
      | zero => simp at e; subst e; exact ⟨_, rfl, y⟩
      | succ i => simp at e; obtain ⟨v, h1, h2⟩ := ih r e; exact ⟨v, by simpa using h1, h2⟩
theorem FzAll.get' {vs ds} {i : Nat} {v : V} (h : FzAll C w K al G vs ds) (e : vs[i]? = some v) : ∃ d, ds[i]? = some d ∧ Fz C w K al G v d := by
  have hl := h.length
  have hi : i < vs.length := (List.getElem?_eq_some_iff.mp e).1
  have hd : ds[i]? = some ds[i] := List.getElem?_eq_getElem (by omega)
  obtain ⟨v', h1, h2⟩ := h.get hd
  rw [e] at h1; cases h1
  exact ⟨_, hd, h2⟩
theorem FzAll.append {vs ds us es} (h : FzAll C w K al G vs ds) (h' : FzAll C w K al G us es) : FzAll C w K al G (vs ++ us) (ds ++ es) := by
  induction ds generalizing vs with
  | nil => cases h; exact h'
  | cons d ds ih => cases h with | cons x r => exact .cons x (ih r)
theorem FzAll.take {vs ds} (n : Nat) (h : FzAll C w K al G vs ds) : FzAll C w K al G (vs.take n) (ds.take n) := by
  induction ds generalizing vs n with
  | nil => cases h; simp; exact .nil
  | cons d ds ih =>
    cases h with
    | cons x r =>
      cases n with
      | zero => exact .nil
      | succ n => exact .cons x (ih n r)
theorem FzAll.drop {vs ds} (n : Nat) (h : FzAll C w K al G vs ds) : FzAll C w K al G (vs.drop n) (ds.drop n) := by
  induction ds generalizing vs n with
  | nil => cases h; simp; exact .nil
  | cons d ds ih =>
    cases h with
    | cons x r =>
      cases n with
      | zero => exact .cons x r
      | succ n => exact ih n r
theorem FzAll.reverse {vs ds} (h : FzAll C w K al G vs ds) : FzAll C w K al G vs.reverse ds.reverse := by
  induction ds generalizing vs with
  | nil => cases h; exact .nil
  | cons d ds ih =>
    cases h with
    | cons x r => rw [List.reverse_cons, List.reverse_cons]; exact (ih r).append (.cons x .nil)
theorem FzAll.set {vs ds v d} (n : Nat) (h : FzAll C w K al G vs ds) (x : Fz C w K al G v d) : FzAll C w K al G (vs.set n v) (ds.set n d) := by
  induction ds generalizing vs n with
  | nil => cases h; exact .nil
  | cons e ds ih =>
    cases h with
    | cons y r =>
      cases n with
      | zero => exact .cons x r
      | succ n => exact .cons y (ih n r)
theorem FzAll.eraseIdx {vs ds} (n : Nat) (h : FzAll C w K al G vs ds) : FzAll C w K al G (vs.eraseIdx n) (ds.eraseIdx n) := by
  induction ds generalizing vs n with
  | nil => cases h; exact .nil
  | cons e ds ih =>
    cases h with
    | cons y r =>
      cases n with
      | zero => exact r
      | succ n => exact .cons y (ih n r)
end

/-! ### what a body holds: slots, its own objects, the shared ones -/
/-- an object that may change -/
inductive Mo where
  | lst (xs : List Dat)
  | ins (c : Nat) (xs : List Dat)
  | dct (kvs : List (Dat × Dat))
/-- a slot: a datum that does not change; an object of the body's own that no one else holds -/
inductive Sl where
  | f (d : Dat)
  | own (x : Mo)
/-- a value: a datum; the own object of slot i -/
inductive Lv where
  | f (d : Dat)
  | o (i : Nat)
abbrev Mem := List Mo
abbrev Env' := List (Option Sl)

/-- a heap H, what does not change any more in it, where the shared objects stand -/
structure Nw where
  G : Hp
  al : List Addr
  H : Hp
structure Nw.le (a b : Nw) : Prop where
  g : ∀ p o, a.G p = some o → b.G p = some o
  keep : ∀ p o, a.H p = some o → p ∉ a.al → b.H p = some o
  there : ∀ p, a.H p ≠ none → b.H p ≠ none
  gnew : ∀ p, a.H p ≠ none → b.G p = a.G p
  ale : a.al <+: b.al
  anew : ∀ (k : Nat) p, a.al.length ≤ k → b.al[k]? = some p → a.H p = none
theorem Nw.le.refl (a : Nw) : a.le a := ⟨fun _ _ h => h, fun _ _ h _ => h, fun _ h => h, fun _ _ => rfl, List.prefix_rfl, fun k p h e => by
  rw [List.getElem?_eq_none h] at e; cases e⟩
theorem pre_get {α : Type} {a b : List α} (h : a <+: b) (k : Nat) (x : α) (e : a[k]? = some x) : b[k]? = some x := by
  obtain ⟨t, rfl⟩ := h
  rw [List.getElem?_append_left (List.getElem?_eq_some_iff.mp e).1]; exact e
theorem pre_back {α : Type} {a b : List α} (h : a <+: b) {k : Nat} {x : α} (e : b[k]? = some x) (hk : k < a.length) : a[k]? = some x := by
  obtain ⟨t, rfl⟩ := h
  rw [List.getElem?_append_left hk] at e; exact e
/-- an object that stood and was not shared is not shared later -/
theorem Nw.le.nal {a b : Nw} (h : a.le b) {p : Addr} (e : a.H p ≠ none) (n : p ∉ a.al) : p ∉ b.al := fun z => by
  obtain ⟨k, hk⟩ := List.getElem?_of_mem z
  by_cases hl : k < a.al.length
  · exact n (List.mem_of_getElem? (pre_back h.ale hk hl))
  · exact e (h.anew k p (by omega) hk)
theorem Nw.le.trans {a b c : Nw} (h : a.le b) (h' : b.le c) : a.le c where
  g := fun p o e => h'.g p o (h.g p o e)
  keep := fun p o e n => h'.keep p o (h.keep p o e n) (h.nal (by rw [e]; simp) n)
  there := fun p e => h'.there p (h.there p e)
  gnew := fun p e => (h'.gnew p (h.there p e)).trans (h.gnew p e)
  ale := h.ale.trans h'.ale
  anew := fun k p hk e => by
    by_cases hl : k < b.al.length
    · exact h.anew k p hk (pre_back h'.ale e hl)
    · have q := h'.anew k p (by omega) e
      cases z : a.H p with
      | none => rfl
      | some o => exact absurd q (h.there p (by rw [z]; simp))

section
variable (C : Ct) (w : World) (K : PySem.W.Frag)
abbrev FzN (n : Nw) : V → Dat → Prop := Fz C w K n.al n.G
abbrev FzAllN (n : Nw) : List V → List Dat → Prop := FzAll C w K n.al n.G
def MoOk (n : Nw) (a : Addr) : Mo → Prop
  | .lst xs => ∃ vs, n.H a = some (.lst vs) ∧ FzAllN C w K n vs xs
  | .ins c xs => ∃ dx vs, n.H a = some (.ins (C.addr c) dx ((C.flds c).zip vs)) ∧ vs.length ≤ (C.flds c).length ∧ FzAllN C w K n vs xs
  | .dct kvs => ∃ es, n.H a = some (dxo a es) ∧ (a == sysModules) = false ∧ FzEs C w K n.al n.G es.toList kvs
/-- a good state: what is frozen stands; the shared objects stand as told, apart from one another and from what is frozen -/
structure Good (n : Nw) (m : Mem) : Prop where
  sub : ∀ p o, n.G p = some o → n.H p = some o
  nd : n.al.Nodup
  len : m.length = n.al.length
  at_ : ∀ (k : Nat) x a, m[k]? = some x → n.al[k]? = some a → MoOk C w K n a x ∧ n.G a = none
/-- a body's own object at a -/
structure OwnAt (B n : Nw) (a : Addr) (x : Mo) : Prop where
  ok : MoOk C w K n a x
  g : n.G a = none
  al : a ∉ n.al
  new : B.H a = none
structure EnvOk (B n : Nw) (env : Env') (σ : L2.St) : Prop where
  len : env.length = σ.length
  fz : ∀ (i : Nat) d, env[i]? = some (some (.f d)) → ∃ v, σ[i]? = some (some v) ∧ FzN C w K n v d
  own : ∀ (i : Nat) x, env[i]? = some (some (.own x)) → ∃ a, σ[i]? = some (some (.ref a)) ∧ OwnAt C w K B n a x
  apart : ∀ (i j : Nat) x y a, env[i]? = some (some (.own x)) → env[j]? = some (some (.own y)) → σ[i]? = some (some (.ref a)) → σ[j]? = some (some (.ref a)) → i = j
structure Ok (B n : Nw) (env : Env') (m : Mem) (σ : L2.St) : Prop where
  good : Good C w K n m
  base : B.le n
  env : EnvOk C w K B n env σ
def LvOk (n : Nw) (env : Env') (σ : L2.St) (v : V) : Lv → Prop
  | .f d => FzN C w K n v d
  | .o i => σ[i]? = some (some v) ∧ ∃ x, env[i]? = some (some (.own x))
end

section
variable {C : Ct} {w : World} {K : PySem.W.Frag} {B n n' : Nw} {m m' : Mem} {env : Env'} {σ : L2.St}
theorem FzN.le {v d} (h : FzN C w K n v d) (l : n.le n') : FzN C w K n' v d := Fz.keep l.g (pre_get l.ale) h
theorem FzAllN.le {v d} (h : FzAllN C w K n v d) (l : n.le n') : FzAllN C w K n' v d := FzAll.keep l.g (pre_get l.ale) h
theorem MoOk.there {a : Addr} {x : Mo} (h : MoOk C w K n a x) : n.H a ≠ none := by
  cases x with
  | lst xs => obtain ⟨vs, e, r⟩ := h; rw [e]; simp
  | ins c xs => obtain ⟨dx, vs, e, z, r⟩ := h; rw [e]; simp
  | dct kvs => obtain ⟨es, e, z, r⟩ := h; rw [e]; simp
theorem MoOk.imp {a : Addr} {x : Mo} (hg : ∀ p o, n.G p = some o → n'.G p = some o) (ha : ∀ (k : Nat) a, n.al[k]? = some a → n'.al[k]? = some a) (hH : ∀ u, n.H a = some u → n'.H a = some u) (h : MoOk C w K n a x) : MoOk C w K n' a x := by
  cases x with
  | lst xs => obtain ⟨vs, e, r⟩ := h; exact ⟨vs, hH _ e, FzAll.keep hg ha r⟩
  | ins c xs => obtain ⟨dx, vs, e, z, r⟩ := h; exact ⟨dx, vs, hH _ e, z, FzAll.keep hg ha r⟩
  | dct kvs => obtain ⟨es, e, z, r⟩ := h; exact ⟨es, hH _ e, z, FzEs.keep hg ha r⟩
theorem OwnAt.le {a : Addr} {x : Mo} (h : OwnAt C w K B n a x) (l : n.le n') : OwnAt C w K B n' a x :=
  ⟨h.ok.imp l.g (pre_get l.ale) fun u e => l.keep a u e h.al, (l.gnew a h.ok.there).trans h.g, l.nal h.ok.there h.al, h.new⟩
theorem EnvOk.le (h : EnvOk C w K B n env σ) (l : n.le n') : EnvOk C w K B n' env σ :=
  ⟨h.len, fun i d e => let ⟨v, e1, h1⟩ := h.fz i d e; ⟨v, e1, FzN.le h1 l⟩, fun i x e => let ⟨a, e1, h1⟩ := h.own i x e; ⟨a, e1, h1.le l⟩, h.apart⟩
theorem Ok.go (o : Ok C w K B n env m σ) (g : Good C w K n' m') (l : n.le n') : Ok C w K B n' env m' σ := ⟨g, o.base.trans l, o.env.le l⟩
theorem LvOk.le {v x} (h : LvOk C w K n env σ v x) (l : n.le n') : LvOk C w K n' env σ v x := by
  cases x with
  | f d => exact FzN.le (n := n) h l
  | o k => exact h
theorem Good.free (o : Good C w K n m) {p : Addr} (h : n.H p = none) : n.G p = none ∧ p ∉ n.al := by
  refine ⟨?_, fun z => ?_⟩
  · cases e : n.G p with
    | none => rfl
    | some u => have := o.sub p u e; rw [h] at this; cases this
  · obtain ⟨k, hk⟩ := List.getElem?_of_mem z
    have hk2 : k < m.length := by rw [o.len]; exact (List.getElem?_eq_some_iff.mp hk).1
    exact (o.at_ k _ p (List.getElem?_eq_getElem hk2) hk).1.there h
theorem Nw.le.base {p : Addr} (l : B.le n) (h : n.H p = none) : B.H p = none := by
  cases e : B.H p with
  | none => rfl
  | some u => exact absurd h (l.there p (by rw [e]; simp))
/-- a new object that will not change -/
theorem Good.freeze {p : Addr} {o : HO} (g : Good C w K n m) (hp : n.H p = none) : Good C w K ⟨upd n.G p o, n.al, upd n.H p o⟩ m ∧ n.le ⟨upd n.G p o, n.al, upd n.H p o⟩ := by
  obtain ⟨b2, b4⟩ := g.free hp
  have ne : ∀ a u, n.H a = some u → a ≠ p := fun a u e z => by subst z; rw [hp] at e; cases e
  have neg : ∀ a u, n.G a = some u → a ≠ p := fun a u e z => by subst z; rw [b2] at e; cases e
  have l : n.le ⟨upd n.G p o, n.al, upd n.H p o⟩ := ⟨fun a u e => by
    show upd n.G p o a = some u
    rw [upd_ne (neg a u e)]; exact e, fun a u e _ => by
    show upd n.H p o a = some u
    rw [upd_ne (ne a u e)]; exact e, fun a e => by
    show upd n.H p o a ≠ none
    rw [upd_ne (fun z => by subst z; exact e hp)]; exact e, fun a e => by
    show upd n.G p o a = _
    rw [upd_ne (fun z => by subst z; exact e hp)], List.prefix_rfl, fun k a hk e => by
    have e' : n.al[k]? = some a := e
    rw [List.getElem?_eq_none hk] at e'; cases e'⟩
  refine ⟨⟨fun a u e => ?_, g.nd, g.len, fun k x a e1 e2 => ?_⟩, l⟩
  · have e' : upd n.G p o a = some u := e
    show upd n.H p o a = some u
    by_cases z : a = p
    · subst z; rw [upd_same] at e'; rw [upd_same]; exact e'
    · rw [upd_ne z] at e'; rw [upd_ne z]; exact g.sub a u e'
  · obtain ⟨h1, h2⟩ := g.at_ k x a e1 e2
    have na : a ≠ p := fun z => b4 (z ▸ List.mem_of_getElem? e2)
    refine ⟨h1.imp l.g (pre_get l.ale) fun u e => ?_, ?_⟩
    · show upd n.H p o a = some u
      rw [upd_ne na]; exact e
    · show upd n.G p o a = none
      rw [upd_ne na]; exact h2
/-- a heap that grew by p or changed at p alone, where p is neither frozen nor shared -/
theorem Good.at {p : Addr} {o : HO} (g : Good C w K n m) (hg : n.G p = none) (ha : p ∉ n.al) : Good C w K ⟨n.G, n.al, upd n.H p o⟩ m :=
  ⟨fun a u e => by
    show upd n.H p o a = some u
    rw [upd_ne (fun z => by subst z; have e' : n.G a = some u := e; rw [hg] at e'; cases e')]; exact g.sub a u e, g.nd, g.len, fun k x a e1 e2 => by
    obtain ⟨h1, h2⟩ := g.at_ k x a e1 e2
    have na : a ≠ p := fun z => ha (z ▸ List.mem_of_getElem? e2)
    refine ⟨h1.imp (n := n) (fun _ _ e => e) (fun _ _ e => e) fun u e => ?_, h2⟩
    show upd n.H p o a = some u
    rw [upd_ne na]; exact e⟩
theorem Nw.le.at {p : Addr} {o : HO} (l : B.le n) (hb : B.H p = none) : B.le ⟨n.G, n.al, upd n.H p o⟩ :=
  ⟨l.g, fun a u e k => by
    show upd n.H p o a = some u
    rw [upd_ne (fun z => by subst z; rw [hb] at e; cases e)]; exact l.keep a u e k, fun a e => by
    show upd n.H p o a ≠ none
    rw [upd_ne (fun z => by subst z; exact e hb)]; exact l.there a e, l.gnew, l.ale, l.anew⟩
theorem OwnAt.at {p a : Addr} {o : HO} {x : Mo} (h : OwnAt C w K B n a x) (ne : a ≠ p) : OwnAt C w K B ⟨n.G, n.al, upd n.H p o⟩ a x :=
  ⟨h.ok.imp (n := n) (fun _ _ e => e) (fun _ _ e => e) fun u e => by
    show upd n.H p o a = some u
    rw [upd_ne ne]; exact e, h.g, h.al, h.new⟩
/-- slot i holds a datum -/
theorem EnvOk.setF {i : Nat} {v : V} {d : Dat} (h : EnvOk C w K B n env σ) (hx : FzN C w K n v d) : EnvOk C w K B n (env.set i (some (.f d))) (σ.set i (some v)) := by
  refine ⟨by simp [h.len], fun j y e => ?_, fun j y e => ?_, fun j k x y a e1 e2 f1 f2 => ?_⟩
  · by_cases hj : i = j
    · subst hj
      have hlt : i < env.length := by
        have := (List.getElem?_eq_some_iff.mp e).1
        simpa using this
      rw [List.getElem?_set_self hlt] at e
      cases e
      exact ⟨v, List.getElem?_set_self (by rw [← h.len]; exact hlt), hx⟩
    · rw [List.getElem?_set_ne hj] at e
      rw [List.getElem?_set_ne hj]
      exact h.fz j y e
  · by_cases hj : i = j
    · subst hj
      have hlt : i < env.length := by
        have := (List.getElem?_eq_some_iff.mp e).1
        simpa using this
      rw [List.getElem?_set_self hlt] at e
      cases e
    · rw [List.getElem?_set_ne hj] at e
      rw [List.getElem?_set_ne hj]
      exact h.own j y e
  · by_cases hj : i = j
    · subst hj
      have hlt : i < env.length := by
        have := (List.getElem?_eq_some_iff.mp e1).1
        simpa using this
      rw [List.getElem?_set_self hlt] at e1
      cases e1
    · by_cases hk : i = k
      · subst hk
        have hlt : i < env.length := by
          have := (List.getElem?_eq_some_iff.mp e2).1
          simpa using this
        rw [List.getElem?_set_self hlt] at e2
        cases e2
      · rw [List.getElem?_set_ne hj] at e1 f1
        rw [List.getElem?_set_ne hk] at e2 f2
        exact h.apart j k x y a e1 e2 f1 f2
/-- slot i holds an object of the body's own, at a place that no other slot's object has -/
theorem EnvOk.setO {i : Nat} {a : Addr} {z : Mo} (h : EnvOk C w K B n env σ) (hx : OwnAt C w K B n a z) (ha : ∀ (j : Nat) y, j ≠ i → env[j]? = some (some (.own y)) → σ[j]? ≠ some (some (.ref a))) :
    EnvOk C w K B n (env.set i (some (.own z))) (σ.set i (some (.ref a))) := by
  refine ⟨by simp [h.len], fun j y e => ?_, fun j y e => ?_, fun j k x y b e1 e2 f1 f2 => ?_⟩
  · by_cases hj : i = j
    · subst hj
      have hlt : i < env.length := by
        have := (List.getElem?_eq_some_iff.mp e).1
        simpa using this
      rw [List.getElem?_set_self hlt] at e
      cases e
    · rw [List.getElem?_set_ne hj] at e
      rw [List.getElem?_set_ne hj]
      exact h.fz j y e
  · by_cases hj : i = j
    · subst hj
      have hlt : i < env.length := by
        have := (List.getElem?_eq_some_iff.mp e).1
        simpa using this
      rw [List.getElem?_set_self hlt] at e
      cases e
      exact ⟨a, List.getElem?_set_self (by rw [← h.len]; exact hlt), hx⟩
    · rw [List.getElem?_set_ne hj] at e
      rw [List.getElem?_set_ne hj]
      exact h.own j y e
  · have hi : ∀ {j : Nat} {y : Mo}, i = j → (env.set i (some (.own z)))[j]? = some (some (.own y)) → (σ.set i (some (V.ref a)))[j]? = some (some (.ref a)) := by
      intro j y q e
      subst q
      have hlt : i < env.length := by
        have := (List.getElem?_eq_some_iff.mp e).1
        simpa using this
      exact List.getElem?_set_self (by rw [← h.len]; exact hlt)
    by_cases hj : i = j
    · by_cases hk : i = k
      · exact hj.symm.trans hk
      · have q := hi hj e1
        rw [q] at f1
        cases f1
        rw [List.getElem?_set_ne hk] at e2 f2
        exact absurd f2 (ha k y (Ne.symm hk) e2)
    · by_cases hk : i = k
      · have q := hi hk e2
        rw [q] at f2
        cases f2
        rw [List.getElem?_set_ne hj] at e1 f1
        exact absurd f1 (ha j x (Ne.symm hj) e1)
      · rw [List.getElem?_set_ne hj] at e1 f1
        rw [List.getElem?_set_ne hk] at e2 f2
        exact h.apart j k x y b e1 e2 f1 f2
theorem Ok.setF {i : Nat} {v : V} {d : Dat} (h : Ok C w K B n env m σ) (hx : FzN C w K n v d) : Ok C w K B n (env.set i (some (.f d))) m (σ.set i (some v)) := ⟨h.good, h.base, h.env.setF hx⟩
/-- a new object of the body's own goes to slot i -/
theorem Ok.newO {i : Nat} {p : Addr} {o : HO} {z : Mo} (h : Ok C w K B n env m σ) (hp : n.H p = none) (hz : MoOk C w K ⟨n.G, n.al, upd n.H p o⟩ p z) :
    Ok C w K B ⟨n.G, n.al, upd n.H p o⟩ (env.set i (some (.own z))) m (σ.set i (some (.ref p))) := by
  obtain ⟨b2, b4⟩ := h.good.free hp
  have bn := h.base.base hp
  have ne : ∀ a u, n.H a = some u → a ≠ p := fun a u e z => by subst z; rw [hp] at e; cases e
  have e1 : EnvOk C w K B ⟨n.G, n.al, upd n.H p o⟩ env σ := ⟨h.env.len, h.env.fz, fun j y e => by
    obtain ⟨a, f, q⟩ := h.env.own j y e
    exact ⟨a, f, q.at (fun z => q.ok.there (z ▸ hp))⟩, h.env.apart⟩
  refine ⟨h.good.at b2 b4, h.base.at bn, e1.setO ⟨hz, b2, b4, bn⟩ fun j y hj e f => ?_⟩
  obtain ⟨a, f', q⟩ := h.env.own j y e
  rw [f] at f'; cases f'
  exact q.ok.there hp
/-- the own object of slot i is changed -/
theorem Ok.chgO {i : Nat} {a : Addr} {o : HO} {x z : Mo} (h : Ok C w K B n env m σ) (hi : env[i]? = some (some (.own x))) (ha : σ[i]? = some (some (.ref a))) (hz : MoOk C w K ⟨n.G, n.al, upd n.H a o⟩ a z) :
    Ok C w K B ⟨n.G, n.al, upd n.H a o⟩ (env.set i (some (.own z))) m σ := by
  obtain ⟨a', f', q⟩ := h.env.own i x hi
  rw [ha] at f'; cases f'
  have e1 : EnvOk C w K B ⟨n.G, n.al, upd n.H a o⟩ (env.set i (some (.own z))) (σ.set i (some (.ref a))) := by
    have hlt : i < env.length := (List.getElem?_eq_some_iff.mp hi).1
    refine ⟨by simp [h.env.len], fun j y e => ?_, fun j y e => ?_, fun j k x' y b e1 e2 f1 f2 => ?_⟩
    · by_cases hj : i = j
      · subst hj; rw [List.getElem?_set_self hlt] at e; cases e
      · rw [List.getElem?_set_ne hj] at e; rw [List.getElem?_set_ne hj]; exact h.env.fz j y e
    · by_cases hj : i = j
      · subst hj
        rw [List.getElem?_set_self hlt] at e; cases e
        exact ⟨a, List.getElem?_set_self (by rw [← h.env.len]; exact hlt), hz, q.g, q.al, q.new⟩
      · rw [List.getElem?_set_ne hj] at e
        rw [List.getElem?_set_ne hj]
        obtain ⟨b, f, q'⟩ := h.env.own j y e
        exact ⟨b, f, q'.at fun z => hj (h.env.apart i j x y a hi e ha (z ▸ f))⟩
    · have tr : ∀ {j : Nat} {y : Mo}, (env.set i (some (.own z)))[j]? = some (some (.own y)) → ∃ y', env[j]? = some (some (.own y')) := by
        intro j y e
        by_cases hj : i = j
        · subst hj; exact ⟨x, hi⟩
        · rw [List.getElem?_set_ne hj] at e; exact ⟨y, e⟩
      have ts : ∀ {j : Nat}, (σ.set i (some (V.ref a)))[j]? = some (some (.ref b)) → σ[j]? = some (some (.ref b)) := by
        intro j e
        by_cases hj : i = j
        · subst hj
          rw [List.getElem?_set_self (by rw [← h.env.len]; exact hlt)] at e
          rw [ha]; exact e
        · rw [List.getElem?_set_ne hj] at e; exact e
      obtain ⟨y1, g1⟩ := tr e1
      obtain ⟨y2, g2⟩ := tr e2
      exact h.env.apart j k y1 y2 b g1 g2 (ts f1) (ts f2)
  have eσ : σ.set i (some (V.ref a)) = σ := by
    have hs : i < σ.length := (List.getElem?_eq_some_iff.mp ha).1
    have : σ[i] = some (V.ref a) := (List.getElem?_eq_some_iff.mp ha).2
    rw [← this]; exact List.set_getElem_self hs
  rw [eσ] at e1
  exact ⟨h.good.at q.g q.al, h.base.at q.new, e1⟩
/-- the own object of slot i changes no more -/
theorem Ok.kill {i : Nat} {a : Addr} {o : HO} {x : Mo} {d : Dat} (h : Ok C w K B n env m σ) (hi : env[i]? = some (some (.own x))) (ha : σ[i]? = some (some (.ref a))) (ho : n.H a = some o) (hd : FzN C w K ⟨upd n.G a o, n.al, n.H⟩ (.ref a) d) :
    Ok C w K B ⟨upd n.G a o, n.al, n.H⟩ (env.set i (some (.f d))) m σ := by
  obtain ⟨a', f', q⟩ := h.env.own i x hi
  rw [ha] at f'; cases f'
  have neg : ∀ b u, n.G b = some u → b ≠ a := fun b u e z => by subst z; rw [q.g] at e; cases e
  have hg : ∀ b u, n.G b = some u → (upd n.G a o) b = some u := fun b u e => by rw [upd_ne (neg b u e)]; exact e
  have hs : i < σ.length := (List.getElem?_eq_some_iff.mp ha).1
  have eσ : σ.set i (some (V.ref a)) = σ := by
    have : σ[i] = some (V.ref a) := (List.getElem?_eq_some_iff.mp ha).2
    rw [← this]; exact List.set_getElem_self hs
  have hlt : i < env.length := (List.getElem?_eq_some_iff.mp hi).1
  refine ⟨⟨fun b u e => ?_, h.good.nd, h.good.len, fun k y b e1 e2 => ?_⟩, ⟨fun b u e => hg b u (h.base.g b u e), h.base.keep, h.base.there, fun b e => ?_, h.base.ale, h.base.anew⟩, ⟨by simp [h.env.len], fun j y e => ?_, fun j y e => ?_, fun j k x' y b e1 e2 f1 f2 => ?_⟩⟩
  · have e' : upd n.G a o b = some u := e
    show n.H b = some u
    by_cases z : b = a
    · subst z; rw [upd_same] at e'; cases e'; exact ho
    · rw [upd_ne z] at e'; exact h.good.sub b u e'
  · obtain ⟨h1, h2⟩ := h.good.at_ k y b e1 e2
    refine ⟨h1.imp hg (fun _ _ e => e) fun u e => e, ?_⟩
    show upd n.G a o b = none
    rw [upd_ne (fun z => by subst z; exact q.al (List.mem_of_getElem? e2))]; exact h2
  · show upd n.G a o b = _
    rw [upd_ne (fun z => by subst z; exact e q.new)]; exact h.base.gnew b e
  · by_cases hj : i = j
    · subst hj; rw [List.getElem?_set_self hlt] at e; cases e; exact ⟨_, ha, hd⟩
    · rw [List.getElem?_set_ne hj] at e
      obtain ⟨v, f, z⟩ := h.env.fz j y e
      exact ⟨v, f, Fz.keep hg (fun _ _ e => e) z⟩
  · by_cases hj : i = j
    · subst hj; rw [List.getElem?_set_self hlt] at e; cases e
    · rw [List.getElem?_set_ne hj] at e
      obtain ⟨b, f, z⟩ := h.env.own j y e
      refine ⟨b, f, z.ok.imp hg (fun _ _ e => e) fun u e => e, ?_, z.al, z.new⟩
      show upd n.G a o b = none
      rw [upd_ne (fun y' => hj (h.env.apart i j x y a hi e ha (by rw [← y']; exact f)))]; exact z.g
  · by_cases hj : i = j
    · subst hj; rw [List.getElem?_set_self hlt] at e1; cases e1
    · by_cases hk : i = k
      · subst hk; rw [List.getElem?_set_self hlt] at e2; cases e2
      · rw [List.getElem?_set_ne hj] at e1
        rw [List.getElem?_set_ne hk] at e2
        exact h.env.apart j k x' y b e1 e2 f1 f2
/-- a shared object is changed -/
theorem Good.chgM {k : Nat} {a : Addr} {o : HO} {x y : Mo} (g : Good C w K n m) (hk : n.al[k]? = some a) (hx : m[k]? = some x) (hy : MoOk C w K ⟨n.G, n.al, upd n.H a o⟩ a y) :
    Good C w K ⟨n.G, n.al, upd n.H a o⟩ (m.set k y) ∧ n.le ⟨n.G, n.al, upd n.H a o⟩ := by
  have hg := (g.at_ k x a hx hk).2
  have hm : a ∈ n.al := List.mem_of_getElem? hk
  refine ⟨⟨fun b u e => ?_, g.nd, by simp [g.len], fun j z b e1 e2 => ?_⟩, ⟨fun b u e => e, fun b u e hn => ?_, fun b e => ?_, fun _ _ => rfl, List.prefix_rfl, fun j b hj e => ?_⟩⟩
  · show upd n.H a o b = some u
    rw [upd_ne (fun z => by subst z; have e' : n.G b = some u := e; rw [hg] at e'; cases e')]; exact g.sub b u e
  · by_cases hj : k = j
    · subst hj
      have e2' : n.al[k]? = some b := e2
      rw [hk] at e2'; cases e2'
      rw [List.getElem?_set_self (List.getElem?_eq_some_iff.mp hx).1] at e1
      cases e1
      exact ⟨hy, hg⟩
    · rw [List.getElem?_set_ne hj] at e1
      obtain ⟨h1, h2⟩ := g.at_ j z b e1 e2
      have nb : b ≠ a := fun q => hj (by
        subst q
        exact (List.getElem?_inj (List.getElem?_eq_some_iff.mp hk).1 g.nd).mp (hk.trans (Eq.symm e2)))
      refine ⟨h1.imp (n := n) (fun _ _ e => e) (fun _ _ e => e) fun u e => ?_, h2⟩
      show upd n.H a o b = some u
      rw [upd_ne nb]; exact e
  · show upd n.H a o b = some u
    rw [upd_ne (fun z => by subst z; exact hn hm)]; exact e
  · show upd n.H a o b ≠ none
    by_cases z : b = a
    · subst z; rw [upd_same]; simp
    · rw [upd_ne z]; exact e
  · have e' : n.al[j]? = some b := e
    rw [List.getElem?_eq_none hj] at e'; cases e'
/-- a new shared object -/
theorem Good.newM {p : Addr} {o : HO} {x : Mo} (g : Good C w K n m) (hp : n.H p = none) (hx : MoOk C w K ⟨n.G, n.al ++ [p], upd n.H p o⟩ p x) :
    Good C w K ⟨n.G, n.al ++ [p], upd n.H p o⟩ (m ++ [x]) ∧ n.le ⟨n.G, n.al ++ [p], upd n.H p o⟩ := by
  obtain ⟨b2, b4⟩ := g.free hp
  have pre : n.al <+: n.al ++ [p] := List.prefix_append _ _
  refine ⟨⟨fun b u e => ?_, ?_, by simp [g.len], fun j z b e1 e2 => ?_⟩, ⟨fun b u e => e, fun b u e hn => ?_, fun b e => ?_, fun _ _ => rfl, pre, fun j b hj e => ?_⟩⟩
  · show upd n.H p o b = some u
    rw [upd_ne (fun z => by subst z; have e' : n.G b = some u := e; rw [b2] at e'; cases e')]; exact g.sub b u e
  · show (n.al ++ [p]).Nodup
    rw [List.nodup_append]
    refine ⟨g.nd, by simp, fun a ha b hb z => ?_⟩
    have : b = p := by simpa using hb
    subst this; subst z; exact b4 ha
  · have e2' : (n.al ++ [p])[j]? = some b := e2
    by_cases hj : j < m.length
    · rw [List.getElem?_append_left hj] at e1
      rw [List.getElem?_append_left (by rw [← g.len]; exact hj)] at e2'
      obtain ⟨h1, h2⟩ := g.at_ j z b e1 e2'
      have nb : b ≠ p := fun q => h1.there (q ▸ hp)
      refine ⟨h1.imp (n := n) (fun _ _ e => e) (pre_get (a := n.al) pre) fun u e => ?_, h2⟩
      show upd n.H p o b = some u
      rw [upd_ne nb]; exact e
    · have hk2 : j = m.length := by
        have := (List.getElem?_eq_some_iff.mp e1).1
        rw [List.length_append] at this
        simp at this; omega
      rw [hk2, List.getElem?_append_right (Nat.le_refl _)] at e1
      rw [hk2, g.len, List.getElem?_append_right (Nat.le_refl _)] at e2'
      simp at e1 e2'
      subst e1; subst e2'
      exact ⟨hx, b2⟩
  · show upd n.H p o b = some u
    rw [upd_ne (fun z => by subst z; rw [hp] at e; cases e)]; exact e
  · show upd n.H p o b ≠ none
    rw [upd_ne (fun z => by subst z; exact e hp)]; exact e
  · have e' : (n.al ++ [p])[j]? = some b := e
    rw [List.getElem?_append_right hj] at e'
    have : b = p := by
      cases q : j - n.al.length with
      | zero => rw [q] at e'; simpa using e'.symm
      | succ r => rw [q] at e'; simp at e'
    subst this; exact hp
end
end DL

set_option maxHeartbeats 1000000
namespace DL
open PySem PySem.Spec PyProof.Rows L2

/-! ### readings over data -/
abbrev QL := Lv → Mem → Prop
abbrev QD := Dat → Mem → Prop
abbrev TD := Env' → Mem → QL → Prop
abbrev TB := Env' → Mem → (Bool → Mem → Prop) → Prop
abbrev TAd := Env' → Mem → (List Lv → Mem → Prop) → Prop
structure En where
  nx : Env' → Mem → Prop
  rt : Dat → Mem → Prop
  bk : Env' → Mem → Prop := fun _ _ => False
  ct : Env' → Mem → Prop := fun _ _ => False
abbrev TSd := En → Env' → Mem → Prop
/-- by values -/
abbrev Op1 := Env' → Mem → Lv → QD → Prop
abbrev Op2 := Env' → Mem → Lv → Lv → QD → Prop
abbrev OpN := Env' → Mem → List Lv → QD → Prop

inductive LvsOk (C : Ct) (w : World) (K : PySem.W.Frag) (n : Nw) (env : Env') (σ : L2.St) : List V → List Lv → Prop
  | nil : LvsOk C w K n env σ [] []
  | cons {v vs x xs} : LvOk C w K n env σ v x → LvsOk C w K n env σ vs xs → LvsOk C w K n env σ (v :: vs) (x :: xs)
/-- what is wanted of a value, behind the state n -/
abbrev AftL (C : Ct) (w : World) (K : PySem.W.Frag) (n : Nw) (env : Env') (σ : L2.St) (Q : VK) : QL := fun x m' => ∀ n' v, Good C w K n' m' → n.le n' → LvOk C w K n' env σ v x → Q v n'.H
abbrev AftD (C : Ct) (w : World) (K : PySem.W.Frag) (n : Nw) (Q : VK) : QD := fun x m' => ∀ n' v, Good C w K n' m' → n.le n' → FzN C w K n' v x → Q v n'.H
def lE (C : Ct) (B : Nw) (w : World) (K : PySem.W.Frag) (d : TD) : TE := fun σ H Q => ∃ n env m, n.H = H ∧ Ok C w K B n env m σ ∧ d env m (AftL C w K n env σ Q)
def lB (C : Ct) (B : Nw) (w : World) (K : PySem.W.Frag) (d : TB) : TT := fun σ H Q => ∃ n env m, n.H = H ∧ Ok C w K B n env m σ ∧ d env m fun b m' => ∀ n', Good C w K n' m' → n.le n' → Q b n'.H
def lA (C : Ct) (B : Nw) (w : World) (K : PySem.W.Frag) (d : TAd) : TA := fun σ H Q => ∃ n env m, n.H = H ∧ Ok C w K B n env m σ ∧ d env m fun xs m' => ∀ n' vs, Good C w K n' m' → n.le n' → LvsOk C w K n' env σ vs xs → Q vs n'.H
/-- what does not change in a does not change in b -/
structure Nw.sub (a b : Nw) : Prop where
  g : ∀ p o, a.G p = some o → b.G p = some o
  l : a.al <+: b.al
theorem Nw.sub.refl (a : Nw) : a.sub a := ⟨fun _ _ h => h, List.prefix_rfl⟩
theorem Nw.sub.trans {a b c : Nw} (h : a.sub b) (h' : b.sub c) : a.sub c := ⟨fun p o e => h'.g p o (h.g p o e), h.l.trans h'.l⟩
theorem Nw.le.sub {a b : Nw} (h : a.le b) : a.sub b := ⟨h.g, h.ale⟩
/-- the ends of a statement -/
def lD (C : Ct) (B : Nw) (w : World) (K : PySem.W.Frag) (n₀ : Nw) (D : Ends) : En :=
  ⟨fun env m => ∀ n σ, n₀.sub n → Ok C w K B n env m σ → D.nx σ n.H, fun x m => ∀ n v, B.le n → Good C w K n m → FzN C w K n v x → D.rt v n.H,
    fun env m => ∀ n σ, n₀.sub n → Ok C w K B n env m σ → D.bk σ n.H, fun env m => ∀ n σ, n₀.sub n → Ok C w K B n env m σ → D.ct σ n.H⟩
def lS (C : Ct) (B : Nw) (w : World) (K : PySem.W.Frag) (d : TSd) : TS := fun D σ H => ∃ n env m, n.H = H ∧ Ok C w K B n env m σ ∧ d (lD C B w K n D) env m
structure En.le (D D' : En) : Prop where
  nx : ∀ e m, D.nx e m → D'.nx e m
  rt : ∀ x m, D.rt x m → D'.rt x m
  bk : ∀ e m, D.bk e m → D'.bk e m
  ct : ∀ e m, D.ct e m → D'.ct e m
theorem lD.le {C : Ct} {B : Nw} {w : World} {K : PySem.W.Frag} {n n' : Nw} (l : n.sub n') (D : Ends) : En.le (lD C B w K n D) (lD C B w K n' D) :=
  ⟨fun _ _ h n1 σ1 l1 => h n1 σ1 (l.trans l1), fun _ _ h => h, fun _ _ h n1 σ1 l1 => h n1 σ1 (l.trans l1), fun _ _ h n1 σ1 l1 => h n1 σ1 (l.trans l1)⟩
theorem En.le.refl (D : En) : En.le D D := ⟨fun _ _ h => h, fun _ _ h => h, fun _ _ h => h, fun _ _ h => h⟩

section
variable {C : Ct} {w : World} {K : PySem.W.Frag} {B n n' : Nw} {m m' : Mem} {env : Env'} {σ : L2.St}
theorem LvsOk.le {vs xs} (h : LvsOk C w K n env σ vs xs) (l : n.le n') : LvsOk C w K n' env σ vs xs := by
  induction h with
  | nil => exact .nil
  | cons a _ ih => exact .cons (a.le l) ih
theorem LvsOk.length {vs xs} (h : LvsOk C w K n env σ vs xs) : vs.length = xs.length := by
  induction h with
  | nil => rfl
  | cons _ _ ih => simp [ih]
end

section
variable {X : Cx}
theorem imp {e : Expr} {t t' : TE} (h : PE X e t) (i : ∀ σ H Q, t' σ H Q → t σ H Q) : PE X e t' := ⟨fun pins s σ H Q I q => h.run pins s σ H Q I (i σ H Q q)⟩
theorem impT {e : Expr} {t t' : TT} (h : PT X e t) (i : ∀ σ H Q, t' σ H Q → t σ H Q) : PT X e t' := ⟨fun pins s σ H Q I q => h.run pins s σ H Q I (i σ H Q q)⟩
theorem impW {e : Expr} {t t' : TT} (h : PW X e t) (i : ∀ σ H Q, t' σ H Q → t σ H Q) : PW X e t' := ⟨fun wh pins s σ H Q I q => h.run wh pins s σ H Q I (i σ H Q q)⟩
theorem impA {es : List Expr} {t t' : TA} (h : PA X es t) (i : ∀ σ H Q, t' σ H Q → t σ H Q) : PA X es t' := ⟨fun pos pins s σ H Q I q => h.run pos pins s σ H Q I (i σ H Q q)⟩
theorem impS {st : Stmt} {t t' : TS} (h : PS X st t) (i : ∀ D σ H, t' D σ H → t D σ H) : PS X st t' := ⟨fun pins s σ H D I q => h.run pins s σ H D I (i D σ H q)⟩
theorem impSs {st : List Stmt} {t t' : TS} (h : PSs X st t) (i : ∀ D σ H, t' D σ H → t D σ H) : PSs X st t' := ⟨fun pins s σ H D I q => h.run pins s σ H D I (i D σ H q)⟩
end

def MonoD (d : TD) : Prop := ∀ env m (Q Q' : QL), (∀ x m', Q x m' → Q' x m') → d env m Q → d env m Q'
def MonoB (d : TB) : Prop := ∀ env m (Q Q' : Bool → Mem → Prop), (∀ x m', Q x m' → Q' x m') → d env m Q → d env m Q'
def MonoA (d : TAd) : Prop := ∀ env m (Q Q' : List Lv → Mem → Prop), (∀ x m', Q x m' → Q' x m') → d env m Q → d env m Q'
def MonoS (d : TSd) : Prop := ∀ env m D D', En.le D D' → d D env m → d D' env m
def Mono1 (f : Op1) : Prop := ∀ env m x (Q Q' : QD), (∀ x m', Q x m' → Q' x m') → f env m x Q → f env m x Q'
def Mono2 (f : Op2) : Prop := ∀ env m x y (Q Q' : QD), (∀ x m', Q x m' → Q' x m') → f env m x y Q → f env m x y Q'
def MonoN (f : OpN) : Prop := ∀ env m xs (Q Q' : QD), (∀ x m', Q x m' → Q' x m') → f env m xs Q → f env m xs Q'

structure DE (X : Cx) (C : Ct) (B : Nw) (e : Expr) (d : TD) : Prop where
  mono : MonoD d
  run : PE X e (lE C B X.w X.K d)
structure DT (X : Cx) (C : Ct) (B : Nw) (e : Expr) (d : TB) : Prop where
  mono : MonoB d
  run : PT X e (lB C B X.w X.K d)
structure DW (X : Cx) (C : Ct) (B : Nw) (e : Expr) (d : TB) : Prop where
  mono : MonoB d
  run : PW X e (lB C B X.w X.K d)
structure DA (X : Cx) (C : Ct) (B : Nw) (es : List Expr) (d : TAd) : Prop where
  mono : MonoA d
  run : PA X es (lA C B X.w X.K d)
structure DS (X : Cx) (C : Ct) (B : Nw) (st : Stmt) (d : TSd) : Prop where
  mono : MonoS d
  run : PS X st (lS C B X.w X.K d)
structure DSs (X : Cx) (C : Ct) (B : Nw) (st : List Stmt) (d : TSd) : Prop where
  mono : MonoS d
  run : PSs X st (lS C B X.w X.K d)

/-! ### by values -/
def r1 (C : Ct) (w : World) (K : PySem.W.Frag) (f : Op1) : V → Hp → VK → Prop := fun v H Q => ∃ B n env m σ x, n.H = H ∧ Ok C w K B n env m σ ∧ LvOk C w K n env σ v x ∧ f env m x (AftD C w K n Q)
def r2 (C : Ct) (w : World) (K : PySem.W.Frag) (f : Op2) : R2 := fun v u H Q => ∃ B n env m σ x y, n.H = H ∧ Ok C w K B n env m σ ∧ LvOk C w K n env σ v x ∧ LvOk C w K n env σ u y ∧ f env m x y (AftD C w K n Q)
def rN (C : Ct) (w : World) (K : PySem.W.Frag) (f : OpN) : List V → Hp → VK → Prop := fun vs H Q => ∃ B n env m σ xs, n.H = H ∧ Ok C w K B n env m σ ∧ LvsOk C w K n env σ vs xs ∧ f env m xs (AftD C w K n Q)
structure OpD (X : Cx) (C : Ct) (F : Value → Value → Sem Value) (f : Op2) : Prop where
  mono : Mono2 f
  run : OpR X F (r2 C X.w X.K f)
structure UnD (X : Cx) (C : Ct) (F : Value → Sem Value) (f : Op1) : Prop where
  mono : Mono1 f
  run : UnR X F (r1 C X.w X.K f)
structure CallD (X : Cx) (C : Ct) (F : Value) (f : OpN) : Prop where
  mono : MonoN f
  run : CallR X F (rN C X.w X.K f)
structure IxD (X : Cx) (C : Ct) (f : Op2) : Prop where
  mono : Mono2 f
  run : IxR X (r2 C X.w X.K f)

def dBin (f : Op2) (da db : TD) : TD := fun env m Q => da env m fun x m1 => db env m1 fun y m2 => f env m2 x y fun z m3 => Q (.f z) m3
def dUn (f : Op1) (da : TD) : TD := fun env m Q => da env m fun x m1 => f env m1 x fun z m3 => Q (.f z) m3
theorem dBin.mono {f : Op2} {da db : TD} (hf : Mono2 f) (ha : MonoD da) (hb : MonoD db) : MonoD (dBin f da db) := fun env m Q Q' i h =>
  ha env m _ _ (fun x m1 h1 => hb env m1 _ _ (fun y m2 h2 => hf env m2 x y _ _ (fun z m3 => i _ _) h2) h1) h
theorem dUn.mono {f : Op1} {da : TD} (hf : Mono1 f) (ha : MonoD da) : MonoD (dUn f da) := fun env m Q Q' i h => ha env m _ _ (fun x m1 h1 => hf env m1 x _ _ (fun z m3 => i _ _) h1) h

section
variable {X : Cx} {C : Ct} {B : Nw} {a b e : Expr} {da db d : TD} {pos : Pos}
/-- the two readings of a binary rule -/
theorem bin_imp {f : Op2} (hf : Mono2 f) (ha : MonoD da) (hb : MonoD db) : ∀ σ H Q, lE C B X.w X.K (dBin f da db) σ H Q → tOp (r2 C X.w X.K f) (lE C B X.w X.K da) (lE C B X.w X.K db) σ H Q := by
  rintro σ H Q ⟨n, env, m, rfl, ok, h⟩
  refine ⟨n, env, m, rfl, ok, ha _ _ _ _ (fun x m1 h1 n1 v ok1 l1 lx => ?_) h⟩
  refine ⟨n1, env, m1, rfl, ok.go ok1 l1, hb _ _ _ _ (fun y m2 h2 n2 u ok2 l2 ly => ?_) h1⟩
  exact ⟨B, n2, env, m2, σ, x, y, rfl, ok.go ok2 (l1.trans l2), lx.le l2, ly, hf _ _ _ _ _ _ (fun z m3 h3 n3 v3 ok3 l3 lz => h3 n3 v3 ok3 (l1.trans (l2.trans l3)) lz) h2⟩
theorem un_imp {f : Op1} (hf : Mono1 f) (ha : MonoD da) : ∀ σ H Q, lE C B X.w X.K (dUn f da) σ H Q → tUn (r1 C X.w X.K f) (lE C B X.w X.K da) σ H Q := by
  rintro σ H Q ⟨n, env, m, rfl, ok, h⟩
  refine ⟨n, env, m, rfl, ok, ha _ _ _ _ (fun x m1 h1 n1 v ok1 l1 lx => ?_) h⟩
  exact ⟨B, n1, env, m1, σ, x, rfl, ok.go ok1 l1, lx, hf _ _ _ _ _ (fun z m3 h3 n3 v3 ok3 l3 lz => h3 n3 v3 ok3 (l1.trans l3) lz) h1⟩
theorem de_bin {op : Operator} {f : Op2} (ho : OpD X C (binaryOp op) f) (ha : DE X C B a da) (hb : DE X C B b db) : DE X C B (.BinOp a op b pos) (dBin f da db) :=
  ⟨dBin.mono ho.mono ha.mono hb.mono, imp (pe_op ho.run ha.run hb.run) (bin_imp ho.mono ha.mono hb.mono)⟩
theorem de_un {op : UnaryOp} {f : Op1} (ho : UnD X C (unaryOp op) f) (ha : DE X C B a da) : DE X C B (.UnaryOp op a pos) (dUn f da) :=
  ⟨dUn.mono ho.mono ha.mono, imp (pe_un ho.run ha.run) (un_imp ho.mono ha.mono)⟩
theorem de_cmp {op : CmpOp} {f : Op2} (ho : OpD X C (compareOp op) f) (ha : DE X C B a da) (hb : DE X C B b db) (hm : behindInMarks op b = false := by first | exact nomark _ | rfl) : DE X C B (.Compare a [op] [b] pos) (dBin f da db) :=
  ⟨dBin.mono ho.mono ha.mono hb.mono, imp (pe_cmpR ho.run ha.run hb.run hm) (bin_imp ho.mono ha.mono hb.mono)⟩
theorem de_ix {f : Op2} (ho : IxD X C f) (ha : DE X C B a da) (hb : DE X C B b db) (hs : PlainIx b := by exact fun _ _ => rfl) : DE X C B (.Subscript a b pos) (dBin f da db) :=
  ⟨dBin.mono ho.mono ha.mono hb.mono, imp (pe_ix ho.run ha.run hb.run hs) (bin_imp ho.mono ha.mono hb.mono)⟩

/-! ### names, constants -/
def dVar (i : Nat) : TD := fun env m Q => match env[i]? with
  | some (some (.f d)) => Q (.f d) m
  | some (some (.own _)) => Q (.o i) m
  | _ => False
def dC (d : Dat) : TD := fun _ m Q => Q (.f d) m
theorem dVar.mono (i : Nat) : MonoD (dVar i) := fun env m Q Q' h => by
  unfold dVar
  split
  · exact h _ _
  · exact h _ _
  · exact id
theorem dC.mono (d : Dat) : MonoD (dC d) := fun env m Q Q' h => h _ _
theorem de_var (i : Nat) {x : Str} {pos : Pos} (hN : X.N[i]? = some x := by rfl) (hv : Vis X.env.scope x := by first | exact Or.inl rfl | exact Or.inr (Or.inl rfl) | exact Or.inr (Or.inr rfl)) (hd : (x == ("__debug__" : Str)) = false := by decide)
    (hcd : (x == ("__classdict__" : Str)) = false := by decide) : DE X C B (.Name x pos) (dVar i) := by
  refine ⟨dVar.mono i, imp (pe_var hN hv hd hcd) ?_⟩
  rintro σ H Q ⟨n, env, m, rfl, ok, h⟩
  unfold dVar at h
  split at h
  · rename_i d hx
    obtain ⟨v, e1, h1⟩ := ok.env.fz i d hx
    exact ⟨v, e1, h n v ok.good (.refl _) h1⟩
  · rename_i x hx
    obtain ⟨a, e1, h1⟩ := ok.env.own i x hx
    exact ⟨_, e1, h n _ ok.good (.refl _) ⟨e1, x, hx⟩⟩
  · exact h.elim
theorem const_imp {d : Dat} {v : V} (hz : ∀ C w K al G, Fz C w K al G v d) : ∀ σ H Q, lE C B X.w X.K (dC d) σ H Q → tC v σ H Q := by
  rintro σ H Q ⟨n, env, m, rfl, ok, h⟩
  exact h n v ok.good (.refl _) (hz ..)
theorem de_int {i j} {pos : Pos} : DE X C B (.Constant (.int i) j pos) (dC (.int i)) := ⟨dC.mono _, imp pe_int (const_imp fun _ _ _ _ _ => .int _)⟩
theorem de_bl {i j} {pos : Pos} : DE X C B (.Constant (.bool i) j pos) (dC (.bl i)) := ⟨dC.mono _, imp pe_bl (const_imp fun _ _ _ _ _ => .bl _)⟩
theorem de_non {j} {pos : Pos} : DE X C B (.Constant .none j pos) (dC .non) := ⟨dC.mono _, imp pe_non (const_imp fun _ _ _ _ _ => .non)⟩
theorem de_str {i j} {pos : Pos} : DE X C B (.Constant (.str i) j pos) (dC (.str i)) := ⟨dC.mono _, imp pe_str (const_imp fun _ _ _ _ _ => .str _)⟩
/-- a module's constant, a class, a function -/
theorem de_glob {x : Str} {v : V} {d : Dat} {u : Value} {pos : Pos} (hg : Gl X x) (hm : X.mg x = some u) (r : RelV v u) (hz : ∀ C w K al G, Fz C w K al G v d) (hd : (x == ("__debug__" : Str)) = false := by decide) : DE X C B (.Name x pos) (dC d) :=
  ⟨dC.mono _, imp (pe_glob hg hm r hd) (const_imp hz)⟩
theorem de_bltn {x : Str} {v : V} {d : Dat} {u : Value} {pos : Pos} (hg : Gl X x) (hm : X.mg x = none) (hv : bootBuiltins x = some u) (r : RelV v u) (hz : ∀ C w K al G, Fz C w K al G v d) (hn : x ≠ "__name__" := by decide) (hd : (x == ("__debug__" : Str)) = false := by decide) :
    DE X C B (.Name x pos) (dC d) := ⟨dC.mono _, imp (pe_bltn hg hm hv r hn hd) (const_imp hz)⟩

/-! ### tests -/
def dTst (d : TD) : TB := fun env m Q => d env m fun x m1 => match x with
  | .f (.bl b) => Q b m1
  | _ => False
theorem dTst.mono (h : MonoD d) : MonoB (dTst d) := fun env m Q Q' i => h env m _ _ fun x m1 => by
  cases x with
  | o k => exact id
  | f y => cases y <;> first | exact id | exact i _ _
theorem tst_imp {f : Op2} (hf : Mono2 f) (ha : MonoD da) (hb : MonoD db) : ∀ σ H Q, lB C B X.w X.K (dTst (dBin f da db)) σ H Q → tTest (tOp (r2 C X.w X.K f) (lE C B X.w X.K da) (lE C B X.w X.K db)) σ H Q := by
  rintro σ H Q ⟨n, env, m, rfl, ok, h⟩
  refine bin_imp (B := B) hf ha hb σ _ _ ⟨n, env, m, rfl, ok, dBin.mono hf ha hb _ _ _ _ (fun x m1 h1 n1 v ok1 l1 lx => ?_) h⟩
  cases x with
  | o k => exact h1.elim
  | f y =>
    cases y with
    | bl c => cases lx; exact ⟨c, rfl, h1 n1 ok1 l1⟩
    | _ => exact h1.elim
theorem dt_cmp {op : CmpOp} {f : Op2} (ho : OpD X C (compareOp op) f) (ha : DE X C B a da) (hb : DE X C B b db) (hm : behindInMarks op b = false := by first | exact nomark _ | rfl) : DT X C B (.Compare a [op] [b] pos) (dTst (dBin f da db)) :=
  ⟨dTst.mono (dBin.mono ho.mono ha.mono hb.mono), impT (pt_cmpR ho.run ha.run hb.run hm) (tst_imp ho.mono ha.mono hb.mono)⟩
theorem dt_val (h : DE X C B e d) (he : ∀ whole, isTrue e X.env whole = (do let v ← whole; standAt e.pos; holding [v] (truthy v)) := by intro _; rfl) : DT X C B e (dTst d) := by
  refine ⟨dTst.mono h.mono, impT (pt_val h.run he) ?_⟩
  rintro σ H Q ⟨n, env, m, rfl, ok, q⟩
  refine ⟨n, env, m, rfl, ok, h.mono _ _ _ _ (fun x m1 h1 n1 v ok1 l1 lx => ?_) q⟩
  cases x with
  | o k => exact h1.elim
  | f y =>
    cases y with
    | bl c => cases lx; exact ⟨c, rfl, h1 n1 ok1 l1⟩
    | _ => exact h1.elim
def dAnd (p q : TB) : TB := fun env m Q => p env m fun b m1 => if b = true then q env m1 Q else Q false m1
def dOr (p q : TB) : TB := fun env m Q => p env m fun b m1 => if b = true then Q true m1 else q env m1 Q
def dNot (p : TB) : TB := fun env m Q => p env m fun b m1 => Q (!b) m1
theorem dAnd.mono {p q : TB} (hp : MonoB p) (hq : MonoB q) : MonoB (dAnd p q) := fun env m Q Q' i => hp env m _ _ fun b m1 => by
  cases b with
  | true => exact hq env m1 _ _ i
  | false => exact i _ _
theorem dOr.mono {p q : TB} (hp : MonoB p) (hq : MonoB q) : MonoB (dOr p q) := fun env m Q Q' i => hp env m _ _ fun b m1 => by
  cases b with
  | true => exact i _ _
  | false => exact hq env m1 _ _ i
theorem dNot.mono {p : TB} (hp : MonoB p) : MonoB (dNot p) := fun env m Q Q' i => hp env m _ _ fun b m1 => i _ _
variable {p q : TB} {rest : List Expr}
theorem DW.dt {e : Expr} (h : DW X C B e p) : DT X C B e p := ⟨h.mono, h.run.pt⟩
theorem dw_and1 (ha : DT X C B a p) : DW X C B (.BoolOp .And [a] pos) p := ⟨ha.mono, pw_and1 ha.run⟩
theorem dw_or1 (ha : DT X C B a p) : DW X C B (.BoolOp .Or [a] pos) p := ⟨ha.mono, pw_or1 ha.run⟩
theorem dw_and (ha : DT X C B a p) (hb : DW X C B (.BoolOp .And (b :: rest) pos) q) : DW X C B (.BoolOp .And (a :: b :: rest) pos) (dAnd p q) := by
  refine ⟨dAnd.mono ha.mono hb.mono, impW (pw_and ha.run hb.run) ?_⟩
  rintro σ H Q ⟨n, env, m, rfl, ok, h⟩
  refine ⟨n, env, m, rfl, ok, ha.mono _ _ _ _ (fun c m1 h1 n1 ok1 l1 => ?_) h⟩
  cases c with
  | true => exact ⟨n1, env, m1, rfl, ok.go ok1 l1, hb.mono _ _ _ _ (fun c m2 h2 n2 ok2 l2 => h2 n2 ok2 (l1.trans l2)) h1⟩
  | false => exact h1 n1 ok1 l1
theorem dw_or (ha : DT X C B a p) (hb : DW X C B (.BoolOp .Or (b :: rest) pos) q) : DW X C B (.BoolOp .Or (a :: b :: rest) pos) (dOr p q) := by
  refine ⟨dOr.mono ha.mono hb.mono, impW (pw_or ha.run hb.run) ?_⟩
  rintro σ H Q ⟨n, env, m, rfl, ok, h⟩
  refine ⟨n, env, m, rfl, ok, ha.mono _ _ _ _ (fun c m1 h1 n1 ok1 l1 => ?_) h⟩
  cases c with
  | true => exact h1 n1 ok1 l1
  | false => exact ⟨n1, env, m1, rfl, ok.go ok1 l1, hb.mono _ _ _ _ (fun c m2 h2 n2 ok2 l2 => h2 n2 ok2 (l1.trans l2)) h1⟩
theorem dt_not (ha : DT X C B a p) : DT X C B (.UnaryOp .Not a pos) (dNot p) := by
  refine ⟨dNot.mono ha.mono, impT (pt_not ha.run) ?_⟩
  rintro σ H Q ⟨n, env, m, rfl, ok, h⟩
  exact ⟨n, env, m, rfl, ok, ha.mono _ _ _ _ (fun c m1 h1 n1 ok1 l1 => h1 n1 ok1 l1) h⟩
/-- and, or, not as values: all but the last are bools -/
def dAndV (da db : TD) : TD := fun env m Q => da env m fun x m1 => match x with
  | .f (.bl true) => db env m1 Q
  | .f (.bl false) => Q (.f (.bl false)) m1
  | _ => False
def dOrV (da db : TD) : TD := fun env m Q => da env m fun x m1 => match x with
  | .f (.bl true) => Q (.f (.bl true)) m1
  | .f (.bl false) => db env m1 Q
  | _ => False
def dNotV (da : TD) : TD := fun env m Q => da env m fun x m1 => match x with
  | .f (.bl b) => Q (.f (.bl (!b))) m1
  | _ => False
theorem dAndV.mono (ha : MonoD da) (hb : MonoD db) : MonoD (dAndV da db) := fun env m Q Q' i => ha env m _ _ fun x m1 => by
  cases x with
  | o k => exact id
  | f y =>
    cases y with
    | bl c => cases c with
      | true => exact hb env m1 _ _ i
      | false => exact i _ _
    | _ => exact id
theorem dOrV.mono (ha : MonoD da) (hb : MonoD db) : MonoD (dOrV da db) := fun env m Q Q' i => ha env m _ _ fun x m1 => by
  cases x with
  | o k => exact id
  | f y =>
    cases y with
    | bl c => cases c with
      | false => exact hb env m1 _ _ i
      | true => exact i _ _
    | _ => exact id
theorem dNotV.mono (ha : MonoD da) : MonoD (dNotV da) := fun env m Q Q' i => ha env m _ _ fun x m1 => by
  cases x with
  | o k => exact id
  | f y => cases y <;> first | exact id | exact i _ _
theorem de_one {op} (h : DE X C B a d) : DE X C B (.BoolOp op [a] pos) d := ⟨h.mono, pe_one h.run⟩
theorem de_and (ha : DE X C B a da) (hb : DE X C B (.BoolOp .And (b :: rest) pos) db) : DE X C B (.BoolOp .And (a :: b :: rest) pos) (dAndV da db) := by
  refine ⟨dAndV.mono ha.mono hb.mono, imp (pe_and ha.run hb.run) ?_⟩
  rintro σ H Q ⟨n, env, m, rfl, ok, h⟩
  refine ⟨n, env, m, rfl, ok, ha.mono _ _ _ _ (fun x m1 h1 n1 v ok1 l1 lx => ?_) h⟩
  cases x with
  | o k => exact h1.elim
  | f y =>
    cases y with
    | bl c =>
      cases lx
      refine ⟨c, rfl, ?_⟩
      cases c with
      | true => exact ⟨n1, env, m1, rfl, ok.go ok1 l1, hb.mono _ _ _ _ (fun z m2 h2 n2 v ok2 l2 lz => h2 n2 v ok2 (l1.trans l2) lz) h1⟩
      | false => exact h1 n1 (.bl false) ok1 l1 (.bl false)
    | _ => exact h1.elim
theorem de_or (ha : DE X C B a da) (hb : DE X C B (.BoolOp .Or (b :: rest) pos) db) : DE X C B (.BoolOp .Or (a :: b :: rest) pos) (dOrV da db) := by
  refine ⟨dOrV.mono ha.mono hb.mono, imp (pe_or ha.run hb.run) ?_⟩
  rintro σ H Q ⟨n, env, m, rfl, ok, h⟩
  refine ⟨n, env, m, rfl, ok, ha.mono _ _ _ _ (fun x m1 h1 n1 v ok1 l1 lx => ?_) h⟩
  cases x with
  | o k => exact h1.elim
  | f y =>
    cases y with
    | bl c =>
      cases lx
      refine ⟨c, rfl, ?_⟩
      cases c with
      | false => exact ⟨n1, env, m1, rfl, ok.go ok1 l1, hb.mono _ _ _ _ (fun z m2 h2 n2 v ok2 l2 lz => h2 n2 v ok2 (l1.trans l2) lz) h1⟩
      | true => exact h1 n1 (.bl true) ok1 l1 (.bl true)
    | _ => exact h1.elim
theorem de_not (ha : DE X C B a da) : DE X C B (.UnaryOp .Not a pos) (dNotV da) := by
  refine ⟨dNotV.mono ha.mono, imp (pe_not ha.run) ?_⟩
  rintro σ H Q ⟨n, env, m, rfl, ok, h⟩
  refine ⟨n, env, m, rfl, ok, ha.mono _ _ _ _ (fun x m1 h1 n1 v ok1 l1 lx => ?_) h⟩
  cases x with
  | o k => exact h1.elim
  | f y =>
    cases y with
    | bl c => cases lx; exact ⟨c, rfl, h1 n1 (.bl (!c)) ok1 l1 (.bl _)⟩
    | _ => exact h1.elim
def dIf (p : TB) (da db : TD) : TD := fun env m Q => p env m fun b m1 => if b = true then da env m1 Q else db env m1 Q
theorem dIf.mono (hp : MonoB p) (ha : MonoD da) (hb : MonoD db) : MonoD (dIf p da db) := fun env m Q Q' i => hp env m _ _ fun b m1 => by
  cases b with
  | true => exact ha env m1 _ _ i
  | false => exact hb env m1 _ _ i
theorem de_ifExp {c : Expr} (hc : DT X C B c p) (ha : DE X C B a da) (hb : DE X C B b db) : DE X C B (.IfExp c a b pos) (dIf p da db) := by
  refine ⟨dIf.mono hc.mono ha.mono hb.mono, imp (pe_ifExp hc.run ha.run hb.run) ?_⟩
  rintro σ H Q ⟨n, env, m, rfl, ok, h⟩
  refine ⟨n, env, m, rfl, ok, hc.mono _ _ _ _ (fun c m1 h1 n1 ok1 l1 => ?_) h⟩
  cases c with
  | true => exact ⟨n1, env, m1, rfl, ok.go ok1 l1, ha.mono _ _ _ _ (fun z m2 h2 n2 v ok2 l2 lz => h2 n2 v ok2 (l1.trans l2) lz) h1⟩
  | false => exact ⟨n1, env, m1, rfl, ok.go ok1 l1, hb.mono _ _ _ _ (fun z m2 h2 n2 v ok2 l2 lz => h2 n2 v ok2 (l1.trans l2) lz) h1⟩

/-! ### argument lists, displays -/
def dNil : TAd := fun _ m Q => Q [] m
def dCons (d : TD) (r : TAd) : TAd := fun env m Q => d env m fun x m1 => r env m1 fun xs m2 => Q (x :: xs) m2
theorem dCons.mono {r : TAd} (h : MonoD d) (hr : MonoA r) : MonoA (dCons d r) := fun env m Q Q' i => h env m _ _ fun x m1 => hr env m1 _ _ fun xs m2 => i _ _
theorem da_nil : DA X C B [] dNil := ⟨fun _ _ _ _ i => i _ _, impA pa_nil (by
  rintro σ H Q ⟨n, env, m, rfl, ok, h⟩
  exact h n [] ok.good (.refl _) .nil)⟩
theorem da_cons {es : List Expr} {r : TAd} (he : DE X C B e d) (hr : DA X C B es r) (hs : starEach (e :: es) X.env = (false, eval e X.env) :: starEach es X.env := by rfl) : DA X C B (e :: es) (dCons d r) := by
  refine ⟨dCons.mono he.mono hr.mono, impA (pa_cons he.run hr.run hs) ?_⟩
  rintro σ H Q ⟨n, env, m, rfl, ok, h⟩
  refine ⟨n, env, m, rfl, ok, he.mono _ _ _ _ (fun x m1 h1 n1 v ok1 l1 lx => ?_) h⟩
  exact ⟨n1, env, m1, rfl, ok.go ok1 l1, hr.mono _ _ _ _ (fun xs m2 h2 n2 vs ok2 l2 lxs => h2 n2 (v :: vs) ok2 (l1.trans l2) (.cons (lx.le l2) lxs)) h1⟩
/-- all are data that do not change -/
def frs : List Lv → Option (List Dat)
  | [] => some []
  | .f d :: r => match frs r with
    | some ds => some (d :: ds)
    | none => none
  | .o _ :: _ => none
theorem frs_ok {w : World} {K : PySem.W.Frag} {n : Nw} {env : Env'} {σ : L2.St} : ∀ {xs : List Lv} {vs : List V} {ds : List Dat}, LvsOk C w K n env σ vs xs → frs xs = some ds → FzAllN C w K n vs ds
  | [], _, ds, h, e => by cases h; cases e; exact .nil
  | .o k :: r, _, ds, h, e => by cases e
  | .f d :: r, _, ds, h, e => by
    cases h with
    | cons a b =>
      unfold frs at e
      split at e
      · rename_i ds' h1
        cases e
        exact .cons a (frs_ok b h1)
      · cases e
def oTup : OpN := fun _ m xs Q => match frs xs with
  | some ds => ds.length ≤ sizeLine ∧ Q (.tup ds) m
  | none => False
theorem oTup.mono : MonoN oTup := fun env m xs Q Q' i => by
  unfold oTup
  split
  · exact fun z => ⟨z.1, i _ _ z.2⟩
  · exact id
def dN (f : OpN) (d : TAd) : TD := fun env m Q => d env m fun xs m1 => f env m1 xs fun z m2 => Q (.f z) m2
theorem dN.mono {f : OpN} {d : TAd} (hf : MonoN f) (h : MonoA d) : MonoD (dN f d) := fun env m Q Q' i => h env m _ _ fun xs m1 => hf env m1 xs _ _ fun z m2 => i _ _
theorem de_tup {es : List Expr} {x1} {d : TAd} (h : DA X C B es d) : DE X C B (.Tuple es x1 pos) (dN oTup d) := by
  refine ⟨dN.mono oTup.mono h.mono, imp (pe_tup h.run) ?_⟩
  rintro σ H Q ⟨n, env, m, rfl, ok, q⟩
  refine ⟨n, env, m, rfl, ok, h.mono _ _ _ _ (fun xs m1 h1 n1 vs ok1 l1 lxs => ?_) q⟩
  unfold oTup at h1
  split at h1
  · rename_i ds hd
    have hz := frs_ok lxs hd
    refine ⟨by rw [hz.length]; exact h1.1, fun p hp => ?_⟩
    obtain ⟨ok3, l3⟩ := ok1.freeze (o := .tup vs) hp
    exact h1.2 _ _ ok3 (l1.trans l3) (.tup (SqT.of upd_same) (FzAllN.le hz l3))
  · exact h1.elim

/-! ### expressions that make a new list -/
abbrev TN := Env' → Mem → (List Dat → Mem → Prop) → Prop
def MonoN' (d : TN) : Prop := ∀ env m (Q Q' : List Dat → Mem → Prop), (∀ x m', Q x m' → Q' x m') → d env m Q → d env m Q'
def lN (C : Ct) (B : Nw) (w : World) (K : PySem.W.Frag) (d : TN) : TE := fun σ H Q => ∃ n env m, n.H = H ∧ Ok C w K B n env m σ ∧
  d env m fun ds m' => ∀ n' p vs, Good C w K n' m' → n.le n' → n'.H p = none → FzAllN C w K n' vs ds → Q (.ref p) (upd n'.H p (.lst vs))
structure DN (X : Cx) (C : Ct) (B : Nw) (e : Expr) (d : TN) : Prop where
  mono : MonoN' d
  run : PE X e (lN C B X.w X.K d)
/-- the new list will not change -/
def dNew (d : TN) : TD := fun env m Q => d env m fun ds m1 => Q (.f (.lst ds)) m1
theorem DN.de {d : TN} (h : DN X C B e d) : DE X C B e (dNew d) := by
  refine ⟨fun env m Q Q' i => h.mono env m _ _ fun ds m1 => i _ _, imp h.run ?_⟩
  rintro σ H Q ⟨n, env, m, rfl, ok, q⟩
  refine ⟨n, env, m, rfl, ok, h.mono _ _ _ _ (fun ds m1 h1 n1 p vs ok1 l1 hp hz => ?_) q⟩
  obtain ⟨ok3, l3⟩ := ok1.freeze (o := .lst vs) hp
  exact h1 _ _ ok3 (l1.trans l3) (.lst (Rd.of upd_same) (FzAllN.le hz l3))
def nLst (d : TAd) : TN := fun env m Q => d env m fun xs m1 => match frs xs with
  | some ds => ds.length ≤ sizeLine ∧ Q ds m1
  | none => False
theorem dn_lst {es : List Expr} {d : TAd} (h : DA X C B es d) : DN X C B (.List es pos) (nLst d) := by
  refine ⟨fun env m Q Q' i => h.mono env m _ _ fun xs m1 => ?_, imp (pe_lst h.run) ?_⟩
  · split
    · exact fun z => ⟨z.1, i _ _ z.2⟩
    · exact id
  rintro σ H Q ⟨n, env, m, rfl, ok, q⟩
  refine ⟨n, env, m, rfl, ok, h.mono _ _ _ _ (fun xs m1 h1 n1 vs ok1 l1 lxs => ?_) q⟩
  split at h1
  · rename_i ds hd
    have hz := frs_ok lxs hd
    exact ⟨by rw [hz.length]; exact h1.1, fun p hp => h1.2 n1 p vs ok1 l1 hp hz⟩
  · exact h1.elim
end
end DL

set_option maxHeartbeats 1000000
namespace DL
open PySem PySem.Spec PyProof.Rows L2

/-! ### targets: a name, a tuple of names -/
inductive Tg where
  | nm (i : Nat)
  | tp (is : List Nat)
def Tg.ids : Tg → List Nat
  | .nm i => [i]
  | .tp is => is
def setAll : List Nat → List Dat → Env' → Env'
  | i :: is, d :: ds, env => setAll is ds (env.set i (some (.f d)))
  | _, _, env => env
def bind (tg : Tg) (x : Lv) (env : Env') : Option Env' := match tg, x with
  | .nm i, .f d => some (env.set i (some (.f d)))
  | .tp is, .f (.tup ds) => if ds.length = is.length then some (setAll is ds env) else none
  | _, _ => none
def gsOf : List Nat → TGs
  | [] => gNil
  | i :: is => gCons (gName i) (gsOf is)
def gOf (K : PySem.W.Frag) : Tg → TG
  | .nm i => gName i
  | .tp is => gTup K is.length (gsOf is)
theorem wipe_set : ∀ (vs : List Nat) (σ : L2.St) (i : Nat) (v : Option V), i ∈ vs → wipe (σ.set i v) vs = wipe σ vs
  | vs, σ, i, v, h => by
    apply List.ext_getElem?
    intro j
    by_cases hj : j ∈ vs
    · have key : ∀ (τ : L2.St), j ∈ vs → (wipe τ vs)[j]? = if j < τ.length then some none else none := by
        intro τ hj
        have hl := wipe_length τ vs
        by_cases hlt : j < τ.length
        · rw [if_pos hlt]
          have : j < (wipe τ vs).length := by rw [hl]; exact hlt
          rw [List.getElem?_eq_getElem this]
          cases e : (wipe τ vs)[j] with
          | none => rfl
          | some x =>
            have e2 : (wipe τ vs)[j]? = some (some x) := by rw [List.getElem?_eq_getElem this, e]
            exact absurd hj (wipe_some e2).2
        · rw [if_neg hlt]
          exact List.getElem?_eq_none (by rw [hl]; omega)
      rw [key _ hj, key _ hj]
      simp
    · rw [wipe_out hj, wipe_out hj]
      exact List.getElem?_set_ne (fun e => hj (by rw [← e]; exact h))
section
variable {C : Ct} {w : World} {K : PySem.W.Frag} {B n : Nw} {m : Mem}
theorem sets_ok {Q : L2.St → Hp → Prop} : ∀ (is : List Nat) (ds : List Dat) (vs : List V) (env : Env') (σ : L2.St), ds.length = is.length → FzAllN C w K n vs ds → Ok C w K B n env m σ →
    (∀ σ2, Ok C w K B n (setAll is ds env) m σ2 → (∀ ws, (∀ i ∈ is, i ∈ ws) → wipe σ2 ws = wipe σ ws) → Q σ2 n.H) → gsOf is vs σ n.H Q
  | [], [], vs, env, σ, _, hv, ok, h => by
    cases hv
    exact ⟨rfl, h σ ok fun _ _ => rfl⟩
  | i :: is, d :: ds, vs, env, σ, hl, hv, ok, h => by
    cases hv with
    | cons a r =>
      refine ⟨_, _, rfl, ?_⟩
      refine sets_ok is ds _ _ _ (by simpa using hl) r (ok.setF (i := i) a) fun σ2 ok2 hw => ?_
      refine h σ2 ok2 fun ws hws => ?_
      rw [hw ws fun j hj => hws j (List.mem_cons_of_mem _ hj)]
      exact wipe_set ws σ i _ (hws i List.mem_cons_self)
  | [], _ :: _, _, _, _, hl, _, _, _ => by cases hl
  | _ :: _, [], _, _, _, hl, _, _, _ => by cases hl
theorem bind_ok {Q : L2.St → Hp → Prop} {tg : Tg} {x : Lv} {v : V} {env env2 : Env'} {σ : L2.St} (hv : LvOk C w K n env σ v x) (ok : Ok C w K B n env m σ) (e : bind tg x env = some env2)
    (h : ∀ σ2, Ok C w K B n env2 m σ2 → (∀ ws, (∀ i ∈ tg.ids, i ∈ ws) → wipe σ2 ws = wipe σ ws) → Q σ2 n.H) : gOf K tg v σ n.H Q := by
  unfold bind at e
  split at e
  · cases e
    rename_i i d
    exact h _ (ok.setF hv) fun ws hws => wipe_set ws σ i _ (hws i (by simp [Tg.ids]))
  · rename_i is ds
    split at e
    · rename_i hl
      cases e
      have hv : FzN C w K n v (.tup ds) := hv
      cases hv with
      | tup hs ha =>
        refine ⟨_, _, rfl, SqT.keep ok.good.sub hs, by rw [ha.length]; exact hl, ?_⟩
        exact sets_ok is ds _ env σ hl ha ok h
    · cases e
  · cases e
end
/-- a target of the text as told -/
structure TgOk (X : Cx) (e : Expr) (tg : Tg) : Prop where
  run : PG X e (gOf X.K tg)
section
variable {X : Cx} {pos : Pos}
theorem tg_nm {i : Nat} {x : Str} (hN : X.N.Nodup) (hi : X.N[i]? = some x) (hx : Loc X.env.scope x) (hf : X.fn x = true ∨ X.env.scope.names.lookup x = some .local := by first | exact .inl rfl | exact .inr rfl | assumption) : TgOk X (.Name x pos) (.nm i) := ⟨pg_name hN hi hx hf⟩
structure TgsOk (X : Cx) (es : List Expr) (is : List Nat) : Prop where
  run : PGs X es (gsOf is)
theorem tgs_nil : TgsOk X [] [] := ⟨pgs_nil⟩
theorem tgs_cons {i : Nat} {x : Str} {es : List Expr} {is : List Nat} (hN : X.N.Nodup) (hi : X.N[i]? = some x) (hx : Loc X.env.scope x) (r : TgsOk X es is) (hf : X.fn x = true ∨ X.env.scope.names.lookup x = some .local := by first | exact .inl rfl | exact .inr rfl | assumption)
    (hs : (assignEach (.Name x pos :: es) X.env).map (·.2) = assign (.Name x pos) X.env :: (assignEach es X.env).map (·.2) := by rfl) : TgsOk X (.Name x pos :: es) (i :: is) := ⟨pgs_cons (pg_name hN hi hx hf) r.run hs⟩
theorem tg_tp {es : List Expr} {is : List Nat} {k : Nat} (hc : X.calm = true) (h : TgsOk X es is) (hn : (assignEach es X.env).length = is.length := by rfl) (hst : (assignEach es X.env).findIdx? (·.1) = none := by rfl) : TgOk X (.Tuple es k pos) (.tp is) := ⟨pg_tup hc h.run hn hst⟩
end

/-! ### statements -/
section
variable {X : Cx} {C : Ct} {B : Nw} {st : Stmt} {rest : List Stmt} {d u : TSd} {e : Expr} {de : TD} {pos : Pos}
def sNext : TSd := fun D env m => D.nx env m
def sSeq (d u : TSd) : TSd := fun D env m => d { D with nx := u D } env m
theorem sSeq.mono (hd : MonoS d) (hu : MonoS u) : MonoS (sSeq d u) := fun env m D D' l h => hd env m { D with nx := u D } { D' with nx := u D' } ⟨fun e m' h' => hu e m' D D' l h', l.rt, l.bk, l.ct⟩ h
theorem dss_nil : DSs X C B [] sNext := ⟨fun env m D D' l h => l.nx _ _ h, impSs pss_nil (by
  rintro D σ H ⟨n, env, m, rfl, ok, h⟩
  exact h n σ (.refl _) ok)⟩
theorem dss_one (h : DS X C B st d) : DSs X C B [st] d := ⟨h.mono, pss_one h.run⟩
theorem dss_cons (h1 : DS X C B st d) (h2 : DSs X C B rest u) : DSs X C B (st :: rest) (sSeq d u) := by
  refine ⟨sSeq.mono h1.mono h2.mono, impSs (pss_cons h1.run h2.run) ?_⟩
  rintro D σ H ⟨n, env, m, rfl, ok, h⟩
  refine ⟨n, env, m, rfl, ok, h1.mono _ _ { lD C B X.w X.K n D with nx := u (lD C B X.w X.K n D) } _ ⟨fun e1 m1 h' => ?_, fun _ _ h' => h', fun _ _ h' => h', fun _ _ h' => h'⟩ h⟩
  intro n1 σ1 s1 ok1
  exact ⟨n1, e1, m1, rfl, ok1, h2.mono _ _ _ _ (lD.le s1 D) h'⟩
def sBreak : TSd := fun D env m => D.bk env m
def sCont : TSd := fun D env m => D.ct env m
theorem ds_pass : DS X C B (.Pass pos) sNext := ⟨fun env m D D' l h => l.nx _ _ h, impS ps_pass (by
  rintro D σ H ⟨n, env, m, rfl, ok, h⟩
  exact h n σ (.refl _) ok)⟩
theorem ds_break : DS X C B (.Break pos) sBreak := ⟨fun env m D D' l h => l.bk _ _ h, impS ps_break (by
  rintro D σ H ⟨n, env, m, rfl, ok, h⟩
  exact h n σ (.refl _) ok)⟩
theorem ds_continue : DS X C B (.Continue pos) sCont := ⟨fun env m D D' l h => l.ct _ _ h, impS ps_continue (by
  rintro D σ H ⟨n, env, m, rfl, ok, h⟩
  exact h n σ (.refl _) ok)⟩
def sDrop (de : TD) : TSd := fun D env m => de env m fun _ m1 => D.nx env m1
theorem ds_expr (he : DE X C B e de) (hs : swapsWith e none pos.line X.env = pure false := by rfl) : DS X C B (.Expr e pos) (sDrop de) := by
  refine ⟨fun env m D D' l h => he.mono _ _ _ _ (fun _ _ h' => l.nx _ _ h') h, impS (ps_expr he.run hs) ?_⟩
  rintro D σ H ⟨n, env, m, rfl, ok, h⟩
  exact ⟨n, env, m, rfl, ok, he.mono _ _ _ _ (fun x m1 h1 n1 v g1 l1 _ => h1 n1 σ l1.sub (ok.go g1 l1)) h⟩
def sRet (de : TD) : TSd := fun D env m => de env m fun x m1 => match x with
  | .f d => D.rt d m1
  | .o _ => False
theorem sRet.mono (h : MonoD de) : MonoS (sRet de) := fun env m D D' l => h _ _ _ _ fun x m1 => by
  cases x with
  | f d => exact l.rt _ _
  | o k => exact id
theorem ds_ret (he : DE X C B e de) : DS X C B (.Return (some e) pos) (sRet de) := by
  refine ⟨sRet.mono he.mono, impS (ps_ret he.run) ?_⟩
  rintro D σ H ⟨n, env, m, rfl, ok, h⟩
  refine ⟨n, env, m, rfl, ok, he.mono _ _ _ _ (fun x m1 h1 n1 v g1 l1 lx => ?_) h⟩
  cases x with
  | f d => exact h1 n1 v (ok.base.trans l1) g1 lx
  | o k => exact h1.elim
def sRetN : TSd := fun D _ m => D.rt .non m
theorem ds_retN : DS X C B (.Return none pos) sRetN := ⟨fun env m D D' l h => l.rt _ _ h, impS ps_retN (by
  rintro D σ H ⟨n, env, m, rfl, ok, h⟩
  exact h n .non ok.base ok.good .non)⟩
def sIf (c : TB) (d u : TSd) : TSd := fun D env m => c env m fun b m1 => if b = true then d D env m1 else u D env m1
theorem sIf.mono {c : TB} (hc : MonoB c) (hd : MonoS d) (hu : MonoS u) : MonoS (sIf c d u) := fun env m D D' l => hc _ _ _ _ fun b m1 => by
  cases b with
  | true => exact hd _ _ _ _ l
  | false => exact hu _ _ _ _ l
theorem ds_if {c : Expr} {a b : List Stmt} {dc : TB} (hc : DT X C B c dc) (ha : DSs X C B a d) (hb : DSs X C B b u) : DS X C B (.If c a b pos) (sIf dc d u) := by
  refine ⟨sIf.mono hc.mono ha.mono hb.mono, impS (ps_if hc.run ha.run hb.run) ?_⟩
  rintro D σ H ⟨n, env, m, rfl, ok, h⟩
  refine ⟨n, env, m, rfl, ok, hc.mono _ _ _ _ (fun b m1 h1 n1 g1 l1 => ?_) h⟩
  cases b with
  | true => exact ⟨n1, env, m1, rfl, ok.go g1 l1, ha.mono _ _ _ _ (lD.le l1.sub D) h1⟩
  | false => exact ⟨n1, env, m1, rfl, ok.go g1 l1, hb.mono _ _ _ _ (lD.le l1.sub D) h1⟩
/-- target = e -/
def sAsg (tg : Tg) (de : TD) : TSd := fun D env m => de env m fun x m1 => match bind tg x env with
  | some env2 => D.nx env2 m1
  | none => False
theorem sAsg.mono {tg : Tg} (h : MonoD de) : MonoS (sAsg tg de) := fun env m D D' l => h _ _ _ _ fun x m1 => by
  split
  · exact l.nx _ _
  · exact id
theorem asg_imp {tg : Tg} (he : MonoD de) : ∀ D σ H, lS C B X.w X.K (sAsg tg de) D σ H → tAsg (lE C B X.w X.K de) (gOf X.K tg) D σ H := by
  rintro D σ H ⟨n, env, m, rfl, ok, h⟩
  refine ⟨n, env, m, rfl, ok, he _ _ _ _ (fun x m1 h1 n1 v g1 l1 lx => ?_) h⟩
  split at h1
  · rename_i env2 hb
    exact bind_ok lx (ok.go g1 l1) hb fun σ2 ok2 _ => h1 n1 σ2 l1.sub ok2
  · exact h1.elim
theorem ds_asg {te : Expr} {tg : Tg} (he : DE X C B e de) (ht : TgOk X te tg) (hs : swapsWithSole [te] e pos.line X.env = pure false := by rfl) (hw : swappedStores [te] e X.env = pure none := by rfl)
    (h1 : (assignEach [te] X.env).map (·.2) = [assign te X.env] := by rfl) : DS X C B (.Assign [te] e pos) (sAsg tg de) :=
  ⟨sAsg.mono he.mono, impS (ps_asg he.run ht.run hs hw h1) (asg_imp he.mono)⟩
theorem ds_set {i : Nat} {x : Str} {pos' : Pos} (hN : X.N.Nodup) (hi : X.N[i]? = some x) (hx : Loc X.env.scope x) (he : DE X C B e de) (hs : swapsWith e (some (.Name x pos')) pos.line X.env = pure false := by rfl)
    (hf : X.fn x = true ∨ X.env.scope.names.lookup x = some .local := by first | exact .inl rfl | exact .inr rfl | assumption) : DS X C B (.Assign [.Name x pos'] e pos) (sAsg (.nm i) de) :=
  ⟨sAsg.mono he.mono, impS (ps_set hN hi hx he.run hs hf) (asg_imp (tg := .nm i) he.mono)⟩
/-- name = a new list of the body's own -/
def sSetN (i : Nat) (dn : TN) : TSd := fun D env m => dn env m fun ds m1 => D.nx (env.set i (some (.own (.lst ds)))) m1
theorem setN_imp {i : Nat} {dn : TN} (he : MonoN' dn) : ∀ D σ H, lS C B X.w X.K (sSetN i dn) D σ H → tAsg (lN C B X.w X.K dn) (gName i) D σ H := by
  rintro D σ H ⟨n, env, m, rfl, ok, h⟩
  refine ⟨n, env, m, rfl, ok, he _ _ _ _ (fun ds m1 h1 n1 p vs g1 l1 hp hz => ?_) h⟩
  have ok1 := ok.go g1 l1
  have ok2 := ok1.newO (i := i) (o := .lst vs) (z := .lst ds) hp ⟨vs, upd_same, hz⟩
  exact h1 ⟨n1.G, n1.al, upd n1.H p (.lst vs)⟩ _ ⟨l1.g, l1.ale⟩ ok2
theorem ds_setN {i : Nat} {x : Str} {dn : TN} {pos' : Pos} (hN : X.N.Nodup) (hi : X.N[i]? = some x) (hx : Loc X.env.scope x) (he : DN X C B e dn) (hs : swapsWith e (some (.Name x pos')) pos.line X.env = pure false := by rfl)
    (hf : X.fn x = true ∨ X.env.scope.names.lookup x = some .local := by first | exact .inl rfl | exact .inr rfl | assumption) : DS X C B (.Assign [.Name x pos'] e pos) (sSetN i dn) :=
  ⟨fun env m D D' l => he.mono _ _ _ _ fun ds m1 => l.nx _ _, impS (ps_set hN hi hx he.run hs hf) (setN_imp he.mono)⟩
/-- from here on slot i does not change -/
def sKeep (i : Nat) (d : TSd) : TSd := fun D env m => match env[i]? with
  | some (some (.own (.lst xs))) => d D (env.set i (some (.f (.lst xs)))) m
  | some (some (.own (.dct xs))) => d D (env.set i (some (.f (.dct xs)))) m
  | _ => d D env m
theorem sKeep.mono {i : Nat} (h : MonoS d) : MonoS (sKeep i d) := fun env m D D' l => by
  unfold sKeep
  split <;> exact h _ _ _ _ l
theorem keep_ok {i : Nat} (h : MonoS d) {D : Ends} {σ : L2.St} {H : Hp} (q : lS C B X.w X.K (sKeep i d) D σ H) : lS C B X.w X.K d D σ H := by
  obtain ⟨n, env, m, rfl, ok, q⟩ := q
  unfold sKeep at q
  split at q
  · rename_i xs hx
    obtain ⟨a, ha, ho⟩ := ok.env.own i _ hx
    obtain ⟨vs, e1, hz⟩ := ho.ok
    have neg : ∀ b u, n.G b = some u → b ≠ a := fun b u e z => by subst z; rw [ho.g] at e; cases e
    have hg : ∀ b u, n.G b = some u → (upd n.G a (.lst vs)) b = some u := fun b u e => by rw [upd_ne (neg b u e)]; exact e
    have ok2 := ok.kill (d := .lst xs) hx ha e1 (.lst (Rd.of upd_same) (FzAll.keep hg (fun _ _ e => e) hz))
    exact ⟨⟨upd n.G a (.lst vs), n.al, n.H⟩, _, m, rfl, ok2, h _ _ _ _ (lD.le (n := n) (n' := ⟨upd n.G a (.lst vs), n.al, n.H⟩) ⟨hg, List.prefix_rfl⟩ D) q⟩
  · rename_i xs hx
    obtain ⟨a, ha, ho⟩ := ok.env.own i _ hx
    obtain ⟨es, e1, hs, hz⟩ := ho.ok
    have neg : ∀ b u, n.G b = some u → b ≠ a := fun b u e z => by subst z; rw [ho.g] at e; cases e
    have hg : ∀ b u, n.G b = some u → (upd n.G a (dxo a es)) b = some u := fun b u e => by rw [upd_ne (neg b u e)]; exact e
    have ok2 := ok.kill (d := .dct xs) hx ha e1 (.dct upd_same hs (FzEs.keep hg (fun _ _ e => e) hz))
    exact ⟨⟨upd n.G a (dxo a es), n.al, n.H⟩, _, m, rfl, ok2, h _ _ _ _ (lD.le (n := n) (n' := ⟨upd n.G a (dxo a es), n.al, n.H⟩) ⟨hg, List.prefix_rfl⟩ D) q⟩
  · exact ⟨n, env, m, rfl, ok, q⟩
theorem ds_keep (i : Nat) (h : DS X C B st d) : DS X C B st (sKeep i d) := ⟨sKeep.mono h.mono, impS h.run fun _ _ _ q => keep_ok h.mono q⟩
/-- code that is never come to -/
def sNever : TSd := fun _ _ _ => False
theorem ds_never : DS X C B st sNever := ⟨fun _ _ _ _ _ h => h.elim, impS ps_never (by
  rintro D σ H ⟨n, env, m, rfl, ok, h⟩
  exact h)⟩

/-! ### while -/
def whGo (c : TB) (tb : TSd) (D : En) : Nat → Env' → Mem → Prop
  | 0, _, _ => False
  | k + 1, env, m => c env m fun b m1 => if b = true then tb { D with nx := whGo c tb D k, ct := whGo c tb D k, bk := D.nx } env m1 else D.nx env m1
def sWhile (c : TB) (tb : TSd) : TSd := fun D env m => ∃ k, whGo c tb D k env m
theorem whGo.mono {c : TB} {tb : TSd} (hc : MonoB c) (hb : MonoS tb) {D D' : En} (l : En.le D D') : ∀ k env m, whGo c tb D k env m → whGo c tb D' k env m
  | 0, _, _, h => h
  | k + 1, env, m, h => by
    refine hc _ _ _ _ (fun b m1 h1 => ?_) h
    cases b with
    | true => exact hb env m1 { D with nx := whGo c tb D k, ct := whGo c tb D k, bk := D.nx } { D' with nx := whGo c tb D' k, ct := whGo c tb D' k, bk := D'.nx } ⟨fun e m h => whGo.mono hc hb l k e m h, l.rt, fun e m h => l.nx e m h, fun e m h => whGo.mono hc hb l k e m h⟩ h1
    | false => exact l.nx _ _ h1
theorem ds_while {c : Expr} {body : List Stmt} {dc : TB} {db : TSd} (hp : PassesOwn (model X.prog X.w) X.A X.env X.xe) (hc : DT X C B c dc) (hb : DSs X C B body db) : DS X C B (.While c body [] pos) (sWhile dc db) := by
  refine ⟨fun env m D D' l ⟨k, h⟩ => ⟨k, whGo.mono hc.mono hb.mono l k env m h⟩, impS (ps_while hp hc.run hb.run) ?_⟩
  rintro D σ H ⟨n, env, m, rfl, ok, k, h⟩
  refine ⟨fun k σ H => ∃ n1 env m, n1.H = H ∧ n.sub n1 ∧ Ok C X.w X.K B n1 env m σ ∧ whGo dc db (lD C B X.w X.K n D) k env m, ⟨k, n, env, m, rfl, .refl _, ok, h⟩, ?_⟩
  rintro k σ H ⟨n1, env, m, rfl, s1, ok1, h⟩
  cases k with
  | zero => exact h.elim
  | succ k =>
    refine ⟨n1, env, m, rfl, ok1, hc.mono _ _ _ _ (fun b m1 h1 n2 g2 l2 => ?_) h⟩
    cases b with
    | true =>
      refine ⟨fun σ' H' => ∃ n3 env m, n3.H = H' ∧ n.sub n3 ∧ Ok C X.w X.K B n3 env m σ' ∧ whGo dc db (lD C B X.w X.K n D) k env m, fun σ' H' q => ⟨k, Nat.lt_succ_self _, q⟩, ?_⟩
      refine ⟨n2, env, m1, rfl, ok1.go g2 l2, hb.mono _ _ { lD C B X.w X.K n D with nx := whGo dc db (lD C B X.w X.K n D) k, ct := whGo dc db (lD C B X.w X.K n D) k, bk := (lD C B X.w X.K n D).nx } _ ⟨fun e3 m3 h3 n3 σ3 s3 ok3 => ⟨n3, e3, m3, rfl, (s1.trans l2.sub).trans s3, ok3, h3⟩, fun _ _ h3 => h3, fun e3 m3 h3 n3 σ3 s3 ok3 => h3 n3 σ3 ((s1.trans l2.sub).trans s3) ok3,
        fun e3 m3 h3 n3 σ3 s3 ok3 => ⟨n3, e3, m3, rfl, (s1.trans l2.sub).trans s3, ok3, h3⟩⟩ h1⟩
    | false => exact h1 n2 _ (s1.trans l2.sub) (ok1.go g2 l2)

/-! ### what is walked -/
abbrev TId := Env' → Mem → (List Dat → Mem → Prop) → Prop
def MonoI (d : TId) : Prop := ∀ env m (Q Q' : List Dat → Mem → Prop), (∀ x m', Q x m' → Q' x m') → d env m Q → d env m Q'
/-- the walk J gives xs, one behind another, as long as what does not change in n does not -/
def WalkD (C : Ct) (w : World) (K : PySem.W.Frag) (n : Nw) (J : It) (xs : List Dat) : Prop := ∃ Gp Y, Walk J xs.length Gp Y ∧ ∀ n' m', n.sub n' → Good C w K n' m' → Gp n'.H ∧
  ∀ i x H', i < xs.length → Y i n'.H x H' → ∃ n'' d, n''.H = H' ∧ Good C w K n'' m' ∧ n'.le n'' ∧ xs[i]? = some d ∧ FzN C w K n'' x d
def lI (C : Ct) (B : Nw) (w : World) (K : PySem.W.Frag) (d : TId) : TI := fun σ H R => ∃ n env m, n.H = H ∧ Ok C w K B n env m σ ∧ d env m fun xs m' => ∀ n' J, Good C w K n' m' → n.le n' → WalkD C w K n' J xs → R J n'.H
structure DI (X : Cx) (C : Ct) (B : Nw) (tg iter : Expr) (d : TId) : Prop where
  mono : MonoI d
  run : PI X tg iter (lI C B X.w X.K d)
def forGo (tg : Tg) (tb : TSd) (D : En) : List Dat → Env' → Mem → Prop
  | [], env, m => D.nx env m
  | x :: xs, env, m => match bind tg (.f x) env with
    | some env2 => tb { D with nx := forGo tg tb D xs, ct := forGo tg tb D xs, bk := D.nx } env2 m
    | none => False
def sFor (tg : Tg) (di : TId) (tb : TSd) : TSd := fun D env m => di env m fun xs m1 => forGo tg tb D xs env m1
theorem forGo.mono {tg : Tg} {tb : TSd} (hb : MonoS tb) {D D' : En} (l : En.le D D') : ∀ xs env m, forGo tg tb D xs env m → forGo tg tb D' xs env m
  | [], _, _, h => l.nx _ _ h
  | x :: xs, env, m, h => by
    unfold forGo at h ⊢
    split
    · rename_i e2 he
      rw [he] at h
      exact hb e2 m { D with nx := forGo tg tb D xs, ct := forGo tg tb D xs, bk := D.nx } { D' with nx := forGo tg tb D' xs, ct := forGo tg tb D' xs, bk := D'.nx } ⟨fun e m h => forGo.mono hb l xs e m h, l.rt, fun e m h => l.nx e m h, fun e m h => forGo.mono hb l xs e m h⟩ h
    · rename_i he
      rw [he] at h
      exact h
theorem ds_for {te iter : Expr} {body : List Stmt} {di : TId} {db : TSd} {tg : Tg} (hp : PassesOwn (model X.prog X.w) X.A X.env X.xe) (hc : X.calm = true) (hi : DI X C B te iter di) (hg : TgOk X te tg) (hb : DSs X C B body db)
    (hs : ∀ x, foldedSetIterable iter X.env x = pure x := by intro _; rfl) : DS X C B (.For te iter body [] pos) (sFor tg di db) := by
  refine ⟨fun env m D D' l h => hi.mono _ _ _ _ (fun xs m1 h1 => forGo.mono hb.mono l xs env m1 h1) h, impS (ps_for hp hc hi.run hg.run hb.run hs) ?_⟩
  rintro D σ H ⟨n, env, m, rfl, ok, h⟩
  refine ⟨n, env, m, rfl, ok, hi.mono _ _ _ _ (fun xs m1 h1 n1 J g1 l1 wk => ?_) h⟩
  obtain ⟨Gp, Y, wk, st⟩ := wk
  refine for_it wk (fun i σ H => ∃ n2 env m, n2.H = H ∧ n1.sub n2 ∧ Ok C X.w X.K B n2 env m σ ∧ forGo tg db (lD C B X.w X.K n D) (xs.drop i) env m) ⟨n1, env, m1, rfl, .refl _, ok.go g1 l1, h1⟩ ?_ ?_ ?_
  · rintro i σ H hi ⟨n2, env, m, rfl, s2, ok2, h2⟩
    exact (st n2 m s2 ok2.good).1
  · rintro i x σ H H' hi ⟨n2, env, m, rfl, s2, ok2, h2⟩ hy
    obtain ⟨n3, d, rfl, g3, l3, hd, hz⟩ := (st n2 m s2 ok2.good).2 i x _ hi hy
    have hdr : xs.drop i = d :: xs.drop (i + 1) := by
      rw [List.drop_eq_getElem_cons hi]
      rw [List.getElem?_eq_getElem hi] at hd
      rw [Option.some.inj hd]
    rw [hdr] at h2
    unfold forGo at h2
    split at h2
    · rename_i env2 hb2
      refine bind_ok (x := .f d) hz (ok2.go g3 l3) hb2 fun σ2 ok3 _ => ?_
      exact ⟨n3, env2, m, rfl, ok3, hb.mono _ _ { lD C B X.w X.K n D with nx := forGo tg db (lD C B X.w X.K n D) (xs.drop (i + 1)), ct := forGo tg db (lD C B X.w X.K n D) (xs.drop (i + 1)), bk := (lD C B X.w X.K n D).nx } _ ⟨fun e4 m4 h4 n4 σ4 s4 ok4 => ⟨n4, e4, m4, rfl, (s2.trans l3.sub).trans s4, ok4, h4⟩, fun _ _ h4 => h4,
        fun e4 m4 h4 n4 σ4 s4 ok4 => h4 n4 σ4 (((l1.sub.trans s2).trans l3.sub).trans s4) ok4, fun e4 m4 h4 n4 σ4 s4 ok4 => ⟨n4, e4, m4, rfl, (s2.trans l3.sub).trans s4, ok4, h4⟩⟩ h2⟩
    · exact h2.elim
  · rintro σ H ⟨n2, env, m, rfl, s2, ok2, h2⟩
    rw [List.drop_length] at h2
    exact h2 n2 σ (l1.sub.trans s2) ok2
end
end DL

set_option maxHeartbeats 1000000
namespace DL
open PySem PySem.Spec PyProof.Rows L2

/-! ### list comprehensions -/
def wipeE (env : Env') : List Nat → Env'
  | [] => env
  | v :: vs => (wipeE env vs).set v none
section
variable {C : Ct} {w : World} {K : PySem.W.Frag} {B n n' : Nw} {m m' : Mem}
theorem EnvOk.set0 {env : Env'} {σ : L2.St} {i : Nat} (h : EnvOk C w K B n env σ) : EnvOk C w K B n (env.set i none) (σ.set i none) := by
  have back : ∀ {j : Nat} {x : Sl}, (env.set i none)[j]? = some (some x) → i ≠ j ∧ env[j]? = some (some x) := by
    intro j x e
    by_cases hj : i = j
    · subst hj
      have hlt : i < env.length := by
        have := (List.getElem?_eq_some_iff.mp e).1
        simpa using this
      rw [List.getElem?_set_self hlt] at e
      cases e
    · rw [List.getElem?_set_ne hj] at e
      exact ⟨hj, e⟩
  refine ⟨by simp [h.len], fun j d e => ?_, fun j x e => ?_, fun j k x y a e1 e2 f1 f2 => ?_⟩
  · obtain ⟨hj, e⟩ := back e
    rw [List.getElem?_set_ne hj]; exact h.fz j d e
  · obtain ⟨hj, e⟩ := back e
    rw [List.getElem?_set_ne hj]; exact h.own j x e
  · obtain ⟨hj, e1⟩ := back e1
    obtain ⟨hk, e2⟩ := back e2
    rw [List.getElem?_set_ne hj] at f1
    rw [List.getElem?_set_ne hk] at f2
    exact h.apart j k x y a e1 e2 f1 f2
theorem EnvOk.wipe {env : Env'} {σ : L2.St} (h : EnvOk C w K B n env σ) : ∀ vs, EnvOk C w K B n (wipeE env vs) (wipe σ vs)
  | [] => h
  | v :: vs => (EnvOk.wipe h vs).set0
theorem Ok.wipe {env : Env'} {σ : L2.St} (h : Ok C w K B n env m σ) (vs : List Nat) : Ok C w K B n (wipeE env vs) m (L2.wipe σ vs) := ⟨h.good, h.base, h.env.wipe vs⟩
end
theorem wipe_idem (σ : L2.St) (vs : List Nat) : wipe (wipe σ vs) vs = wipe σ vs := by
  apply List.ext_getElem?
  intro j
  by_cases hj : j ∈ vs
  · have key : ∀ (τ : L2.St), (wipe τ vs)[j]? = if j < τ.length then some none else none := by
      intro τ
      have hl := wipe_length τ vs
      by_cases hlt : j < τ.length
      · rw [if_pos hlt]
        have : j < (wipe τ vs).length := by rw [hl]; exact hlt
        rw [List.getElem?_eq_getElem this]
        cases e : (wipe τ vs)[j] with
        | none => rfl
        | some x =>
          have e2 : (wipe τ vs)[j]? = some (some x) := by rw [List.getElem?_eq_getElem this, e]
          exact absurd hj (wipe_some e2).2
      · rw [if_neg hlt]
        exact List.getElem?_eq_none (by rw [hl]; omega)
    rw [key, key, wipe_length]
  · rw [wipe_out hj]
/-- a heap without what stands at D -/
def del (H : Hp) (D : Addr) : Hp := fun a => if a = D then none else H a
theorem del_same {H : Hp} {D : Addr} : del H D D = none := by simp [del]
theorem del_ne {H : Hp} {a D : Addr} (h : a ≠ D) : del H D a = H a := by simp [del, h]
theorem upd_del {H : Hp} {D : Addr} {o : HO} (h : H D = some o) : upd (del H D) D o = H := by
  funext a
  by_cases e : a = D
  · subst e; rw [upd_same, h]
  · rw [upd_ne e, del_ne e]

def lcGo (tg : Tg) (dt : TB) (de : TD) (env : Env') : List Dat → Mem → (List Dat → Mem → Prop) → Prop
  | [], m, Q => Q [] m
  | x :: xs, m, Q => match bind tg (.f x) env with
    | some env2 => dt env2 m fun b m1 => if b = true then de env2 m1 fun y m2 => match y with
        | .f d => lcGo tg dt de env xs m2 fun ds m3 => Q (d :: ds) m3
        | .o _ => False
      else lcGo tg dt de env xs m1 Q
    | none => False
theorem lcGo.mono {tg : Tg} {dt : TB} {de : TD} (ht : MonoB dt) (hd : MonoD de) (env : Env') : ∀ xs m (Q Q' : List Dat → Mem → Prop), (∀ x m', Q x m' → Q' x m') → lcGo tg dt de env xs m Q → lcGo tg dt de env xs m Q'
  | [], m, Q, Q', i, h => i _ _ h
  | x :: xs, m, Q, Q', i, h => by
    unfold lcGo at h ⊢
    split
    · rename_i e2 he
      rw [he] at h
      refine ht _ _ _ _ (fun b m1 h1 => ?_) h
      cases b with
      | true =>
        refine hd _ _ _ _ (fun y m2 h2 => ?_) h1
        cases y with
        | f d => exact lcGo.mono ht hd env xs m2 _ _ (fun ds m3 h3 => i _ _ h3) h2
        | o k => exact h2
      | false => exact lcGo.mono ht hd env xs m1 _ _ i h1
    · rename_i he
      rw [he] at h
      exact h
def nLc (tg : Tg) (dt : TB) (de : TD) (vs : List Nat) (di : TId) : TN := fun env m Q => di env m fun xs m1 => xs.length ≤ sizeLine ∧ lcGo tg dt de (wipeE env vs) xs m1 Q
theorem nLc.mono {tg : Tg} {dt : TB} {de : TD} {vs : List Nat} {di : TId} (hi : MonoI di) (ht : MonoB dt) (hd : MonoD de) : MonoN' (nLc tg dt de vs di) := fun env m Q Q' i h =>
  hi _ _ _ _ (fun xs m1 h1 => ⟨h1.1, lcGo.mono ht hd _ _ _ _ _ i h1.2⟩) h
section
variable {X : Cx} {C : Ct} {B : Nw}
theorem lc_imp {tg : Tg} {dt : TB} {de : TD} {vs : List Nat} {di : TId} (hi : MonoI di) (ht : MonoB dt) (hd : MonoD de) (htg : ∀ i ∈ tg.ids, i ∈ vs) :
    ∀ σ H Q, lN C B X.w X.K (nLc tg dt de vs di) σ H Q → tLc (lI C B X.w X.K di) (gOf X.K tg) (lB C B X.w X.K dt) (lE C B X.w X.K de) vs σ H Q := by
  rintro σ H Q ⟨n, env, m, rfl, ok, h⟩
  refine ⟨n, env, m, rfl, ok, hi _ _ _ _ (fun xs m1 h1 n1 J g1 l1 wk => ?_) h⟩
  obtain ⟨Gp, Y, wk, st⟩ := wk
  intro D hD
  have ok1 := (ok.go g1 l1).wipe vs
  obtain ⟨f1, f2⟩ := g1.free hD
  refine lc_it wk (fun i H => ∃ n2 m2 aV acc, n2.H = H ∧ n1.le n2 ∧ Good C X.w X.K n2 m2 ∧ n2.H D = some (.lst aV) ∧ n2.G D = none ∧ D ∉ n2.al ∧ FzAllN C X.w X.K n2 aV acc ∧ acc.length ≤ i ∧ i ≤ xs.length ∧
    lcGo tg dt de (wipeE env vs) (xs.drop i) m2 (fun ds m' => ∀ n' p us, Good C X.w X.K n' m' → n.le n' → n'.H p = none → FzAllN C X.w X.K n' us (acc ++ ds) → Q (.ref p) (upd n'.H p (.lst us)))) ?_ ?_ ?_ ?_
  · exact ⟨⟨n1.G, n1.al, upd n1.H D (.lst [])⟩, m1, [], [], rfl, (Nw.le.refl n1).at hD, g1.at f1 f2, upd_same, f1, f2, .nil, Nat.le_refl _, Nat.zero_le _, h1.2⟩
  · rintro i H hi ⟨n2, m2, aV, acc, rfl, l2, g2, _⟩
    exact (st n2 m2 l2.sub g2).1
  · rintro i x H H' hi ⟨n2, m2, aV, acc, rfl, l2, g2, hD2, hG2, ha2, hz2, hl2, hi2, h2⟩ hy
    obtain ⟨n3, d, rfl, g3, l3, hd3, hz3⟩ := (st n2 m2 l2.sub g2).2 i x _ hi hy
    have hdr : xs.drop i = d :: xs.drop (i + 1) := by
      rw [List.drop_eq_getElem_cons hi]
      rw [List.getElem?_eq_getElem hi] at hd3
      rw [Option.some.inj hd3]
    rw [hdr] at h2
    unfold lcGo at h2
    split at h2
    · rename_i env2 hb2
      have D2 : n2.H D ≠ none := by rw [hD2]; simp
      refine bind_ok (x := .f d) hz3 (ok1.go g3 (l2.trans l3)) hb2 fun σ2 ok3 hw => ⟨?_, ?_⟩
      · rw [hw vs htg, wipe_idem]
      · refine ⟨n3, env2, m2, rfl, ok3, ht _ _ _ _ (fun b m4 h4 n4 g4 l4 => ?_) h2⟩
        have l24 := l3.trans l4
        cases b with
        | false =>
          exact ⟨n4, m4, aV, acc, rfl, l2.trans l24, g4, l24.keep D _ hD2 ha2, (l24.gnew D D2).trans hG2, l24.nal D2 ha2, FzAllN.le hz2 l24, by omega, by omega, h4⟩
        | true =>
          refine ⟨n4, env2, m4, rfl, ok3.go g4 l4, hd _ _ _ _ (fun y m5 h5 n5 v g5 l5 ly => ?_) h4⟩
          have l25 := l24.trans l5
          have e5 := l25.keep D _ hD2 ha2
          have hG5 := (l25.gnew D D2).trans hG2
          have ha5 := l25.nal D2 ha2
          refine ⟨aV, e5, ?_, ?_⟩
          · rw [hz2.length]
            have := h1.1
            omega
          · cases y with
            | o k => exact h5.elim
            | f d5 =>
              have ly : FzN C X.w X.K n5 v d5 := ly
              refine ⟨⟨n5.G, n5.al, upd n5.H D (.lst (aV ++ [v]))⟩, m5, aV ++ [v], acc ++ [d5], rfl, (l2.trans l25).at hD, g5.at hG5 ha5, upd_same, hG5, ha5, ?_, by simp; omega, by omega, ?_⟩
              · exact FzAll.append (FzAllN.le (n' := n5) hz2 l25) (.cons ly .nil)
              · refine lcGo.mono ht hd _ _ _ _ _ (fun ds m6 h6 n' p us g' l' hp hu => ?_) h5
                refine h6 n' p us g' l' hp ?_
                rw [List.append_assoc] at hu
                exact hu
    · exact h2.elim
  · rintro H ⟨n2, m2, aV, acc, rfl, l2, g2, hD2, hG2, ha2, hz2, hl2, hi2, h2⟩
    rw [List.drop_length] at h2
    have ne : ∀ {a u}, n1.H a = some u → a ≠ D := fun e z => by subst z; rw [hD] at e; cases e
    have h3 := h2 ⟨n2.G, n2.al, del n2.H D⟩ D aV ⟨fun p o e => ?_, g2.nd, g2.len, fun k y a e1 e2 => ?_⟩ ⟨fun p o e => l2.g p o (l1.g p o e), fun p o e hn => ?_, fun p e => ?_, fun p e => ?_, l1.ale.trans l2.ale, fun k p hk e => ?_⟩ del_same (by rw [List.append_nil]; exact hz2)
    · have : upd (del n2.H D) D (.lst aV) = n2.H := upd_del hD2
      rw [← this]; exact h3
    · show del n2.H D p = some o
      rw [del_ne (fun z => by subst z; have e' : n2.G p = some o := e; rw [hG2] at e'; cases e')]; exact g2.sub p o e
    · obtain ⟨q1, q2⟩ := g2.at_ k y a e1 e2
      refine ⟨q1.imp (n := n2) (fun _ _ e => e) (fun _ _ e => e) fun u e => ?_, q2⟩
      show del n2.H D a = some u
      rw [del_ne (fun z => by subst z; exact ha2 (List.mem_of_getElem? e2))]; exact e
    · have e1 := l1.keep p o e hn
      have e2 := l2.keep p o e1 (l1.nal (by rw [e]; simp) hn)
      show del n2.H D p = some o
      rw [del_ne (ne e1)]; exact e2
    · have e1 := l1.there p e
      have e2 := l2.there p e1
      show del n2.H D p ≠ none
      rw [del_ne (fun z => by subst z; exact e1 hD)]; exact e2
    · exact (l2.gnew p (l1.there p e)).trans (l1.gnew p e)
    · exact (l1.trans l2).anew k p hk e
variable {elt te iter : Expr} {ifs : List Expr} {scope : Scope} {own : List (Str × Nat)} {pos : Pos} {tg : Tg} {dt : TB} {de : TD} {di : TId}
structure DTs (X : Cx) (C : Ct) (B : Nw) (ifs : List Expr) (d : TB) : Prop where
  mono : MonoB d
  run : PTs X ifs (lB C B X.w X.K d)
def dYes : TB := fun _ m Q => Q true m
theorem dts_nil : DTs X C B [] dYes := ⟨fun _ _ _ _ i => i _ _, ⟨fun pins s σ H Q I h => pts_nil.run pins s σ H Q I (by
  obtain ⟨n, env, m, rfl, ok, h⟩ := h
  exact h n ok.good (.refl _))⟩⟩
theorem dts_one {c : Expr} {d : TB} (h : DT X C B c d) : DTs X C B [c] d := ⟨h.mono, pts_one h.run⟩
abbrev Blk (X : Cx) (scope : Scope) (P : Cx → Prop) : Prop := ∀ (s : Shared) (H : Hp) (C : Addr) (cl : List (Str × Addr)) (fp : List Addr), P (X.blk s H scope (compEnvC scope cl C X.env) fp)
theorem dn_lc (hc : X.calm = true) (hN : X.N.Nodup) (hi : DI X C B te iter di) (ok : BlkOk X.N X.env.scope scope own) (mt : MonoB dt) (md : MonoD de) (hg : Blk X scope fun Y => TgOk Y te tg) (ht : Blk X scope fun Y => DTs Y C B ifs dt) (he : Blk X scope fun Y => DE Y C B elt de)
    (htg : ∀ i ∈ tg.ids, i ∈ own.map (·.2)) (hs : ∀ x, foldedSetIterable iter X.env x = pure x := by intro _; rfl) : DN X C B (.ListComp elt [⟨te, iter, ifs, 0⟩] scope pos) (nLc tg dt de (own.map (·.2)) di) :=
  ⟨nLc.mono hi.mono mt md, imp (pe_lc hc hN hi.run ok (fun s H C cl fp => (hg s H C cl fp).run) (fun s H C cl fp => (ht s H C cl fp).run) (fun s H C cl fp => (he s H C cl fp).run) hs) (lc_imp hi.mono mt md htg)⟩
/-- name = [..] on one line: a list that does not change, one of the body's own -/
theorem ds_setLc {i : Nat} {y : Str} {py spos : Pos} (hc : X.calm = true) (hN : X.N.Nodup) (hy : X.N[i]? = some y) (hyl : X.env.scope.names.lookup y = some .local) (hsw : swapsWith (.ListComp elt [⟨te, iter, ifs, 0⟩] scope pos) (some (.Name y py)) spos.line X.env = pure true)
    (hi : DI X C B te iter di) (ok : BlkOk X.N X.env.scope scope own) (mt : MonoB dt) (md : MonoD de) (hg : Blk X scope fun Y => TgOk Y te tg) (ht : Blk X scope fun Y => DTs Y C B ifs dt) (he : Blk X scope fun Y => DE Y C B elt de)
    (htg : ∀ i ∈ tg.ids, i ∈ own.map (·.2)) (hs : ∀ x, foldedSetIterable iter X.env x = pure x := by intro _; rfl) : DS X C B (.Assign [.Name y py] (.ListComp elt [⟨te, iter, ifs, 0⟩] scope pos) spos) (sAsg (.nm i) (dNew (nLc tg dt de (own.map (·.2)) di))) := by
  have mm := nLc.mono (tg := tg) (vs := own.map (·.2)) hi.mono mt md
  refine ⟨sAsg.mono (fun env m Q Q' i h => mm _ _ _ _ (fun ds m1 => i _ _) h), impS (ps_setLc (g := gOf X.K tg) (tt := lB C B X.w X.K dt) (te := lE C B X.w X.K de) hc hN hy hyl hsw hi.run ok (fun s H C cl fp => (hg s H C cl fp).run) (fun s H C cl fp => (ht s H C cl fp).run) (fun s H C cl fp => (he s H C cl fp).run) hs) ?_⟩
  rintro D σ H ⟨n, env, m, rfl, ok, h⟩
  refine lc_imp hi.mono mt md htg σ _ _ ⟨n, env, m, rfl, ok, mm _ _ _ _ (fun ds m1 h1 n1 p vs g1 l1 hp hz => ?_) h⟩
  obtain ⟨g2, l2⟩ := g1.freeze (o := .lst vs) hp
  exact h1 _ _ (l1.trans l2).sub ((ok.go g2 (l1.trans l2)).setF (.lst (Rd.of upd_same) (FzAllN.le hz l2)))
theorem ds_setLcN {i : Nat} {y : Str} {py spos : Pos} (hc : X.calm = true) (hN : X.N.Nodup) (hy : X.N[i]? = some y) (hyl : X.env.scope.names.lookup y = some .local) (hsw : swapsWith (.ListComp elt [⟨te, iter, ifs, 0⟩] scope pos) (some (.Name y py)) spos.line X.env = pure true)
    (hi : DI X C B te iter di) (ok : BlkOk X.N X.env.scope scope own) (mt : MonoB dt) (md : MonoD de) (hg : Blk X scope fun Y => TgOk Y te tg) (ht : Blk X scope fun Y => DTs Y C B ifs dt) (he : Blk X scope fun Y => DE Y C B elt de)
    (htg : ∀ i ∈ tg.ids, i ∈ own.map (·.2)) (hs : ∀ x, foldedSetIterable iter X.env x = pure x := by intro _; rfl) : DS X C B (.Assign [.Name y py] (.ListComp elt [⟨te, iter, ifs, 0⟩] scope pos) spos) (sSetN i (nLc tg dt de (own.map (·.2)) di)) := by
  have mm := nLc.mono (tg := tg) (vs := own.map (·.2)) hi.mono mt md
  refine ⟨fun env m D D' l => mm _ _ _ _ fun ds m1 => l.nx _ _, impS (ps_setLc (g := gOf X.K tg) (tt := lB C B X.w X.K dt) (te := lE C B X.w X.K de) hc hN hy hyl hsw hi.run ok (fun s H C cl fp => (hg s H C cl fp).run) (fun s H C cl fp => (ht s H C cl fp).run) (fun s H C cl fp => (he s H C cl fp).run) hs) ?_⟩
  rintro D σ H ⟨n, env, m, rfl, ok, h⟩
  refine lc_imp hi.mono mt md htg σ _ _ ⟨n, env, m, rfl, ok, mm _ _ _ _ (fun ds m1 h1 n1 p vs g1 l1 hp hz => ?_) h⟩
  have ok2 := (ok.go g1 l1).newO (i := i) (o := .lst vs) (z := .lst ds) hp ⟨vs, upd_same, hz⟩
  exact h1 ⟨n1.G, n1.al, upd n1.H p (.lst vs)⟩ _ ⟨l1.g, l1.ale⟩ ok2
end

/-! ### promises of defs, calls -/
/-- an exception over data: its class, its fields -/
abbrev QX := Nat → List Dat → Mem → Prop
abbrev QXe := Nat → List Dat → Env' → Mem → Prop
abbrev DSp := List Dat → Mem → QD → QX → Prop
def MonoP (p : DSp) : Prop := ∀ ds m (Q Q' : QD) (E E' : QX), (∀ x m', Q x m' → Q' x m') → (∀ c xs m', E c xs m' → E' c xs m') → p ds m Q E → p ds m Q' E'
/-- an exception of class c, its own dict dx, its fields vs -/
def XAt (C : Ct) (B n : Nw) (c : Nat) (dx : Option Addr) (vs : List V) : Prop := vs.length = (C.flds c).length ∧ ((dx = none ∧ vs = []) ∨ ∃ a, dx = some a ∧ B.H a = none ∧ n.H a = some (.xd ((C.flds c).zip vs)))
def AftX (C : Ct) (w : World) (K : PySem.W.Frag) (n : Nw) (E : XK) : QX := fun c xs m' => ∀ n' dx vs, Good C w K n' m' → n.le n' → XAt C n n' c dx vs → FzAllN C w K n' vs xs → E (.ref (C.addr c)) dx n'.H
def spD (C : Ct) (w : World) (K : PySem.W.Frag) (k : Nat) (p : DSp) : Sp := fun vs H Q E => vs.length = k ∧ ∃ n m ds, n.H = H ∧ Good C w K n m ∧ FzAllN C w K n vs ds ∧ p ds m (AftD C w K n Q) (AftX C w K n E)
structure DF (P : Program) (w : World) (K : PySem.W.Frag) (mg : Str → Option Value) (base : Heap) (C : Ct) (k : Nat) (f : Addr) (fd : FuncData) (ps : List Str) (p : DSp) : Prop where
  mono : MonoP p
  ok : FnOk P w K mg base (L2.CX P w) k f fd ps (spD C w K ps.length p)
theorem XAt.base {C : Ct} {B n n' : Nw} {c : Nat} {dx : Option Addr} {vs : List V} (l : B.le n) (h : XAt C n n' c dx vs) : XAt C B n' c dx vs := by
  obtain ⟨h1, h2⟩ := h
  refine ⟨h1, ?_⟩
  rcases h2 with h2 | ⟨a, h3, h4, h5⟩
  · exact .inl h2
  · exact .inr ⟨a, h3, l.base h4, h5⟩
/-- what is wanted of an exception at the slots σ -/
def atX (C : Ct) (B : Nw) (w : World) (K : PySem.W.Frag) (EX : QXe) (σ : L2.St) : XK := fun cls dx H => ∃ n env m c xs vs, n.H = H ∧ Ok C w K B n env m σ ∧ cls = .ref (C.addr c) ∧ XAt C B n c dx vs ∧ FzAllN C w K n vs xs ∧ EX c xs env m
/-- the context takes what EX tells -/
def TakesD (X : Cx) (C : Ct) (B : Nw) (EX : QXe) : Prop := Takes X (fun cls dx σ H => atX C B X.w X.K EX σ cls dx H)
def PassD (X : Cx) (C : Ct) (B : Nw) (EX : QXe) : Prop := ∀ σ, PassesAt (L2.CX X.prog X.w) X σ (atX C B X.w X.K EX σ)
theorem TakesD.pass {X : Cx} {C : Ct} {B : Nw} {EX : QXe} (t : TakesD X C B EX) : PassD X C B EX := fun σ => passAt t σ
def EX0 : QXe := fun _ _ _ _ => False
theorem passD0 {X : Cx} {C : Ct} {B : Nw} : PassD X C B EX0 := fun σ pins H s e s' I h => by
  obtain ⟨_, _, _, _, _, _, _, _, _, _, _, _, z⟩ := h
  obtain ⟨_, _, _, _, _, _, _, _, _, _, _, z⟩ := z
  exact z.elim
def dCall (p : DSp) (EX : QXe) (da : TAd) : TD := fun env m Q => da env m fun xs m1 => match frs xs with
  | some ds => p ds m1 (fun d m2 => Q (.f d) m2) (fun c ys m2 => EX c ys env m2)
  | none => False
theorem dCall.mono {p : DSp} {EX : QXe} {da : TAd} (hp : MonoP p) (ha : MonoA da) : MonoD (dCall p EX da) := fun env m Q Q' i => ha _ _ _ _ fun xs m1 => by
  split
  · exact hp _ _ _ _ _ _ (fun d m2 => i _ _) fun _ _ _ h => h
  · exact id
section
variable {X : Cx} {C : Ct} {B : Nw} {k : Nat} {f : Addr} {fd : FuncData} {ps : List Str} {p : DSp} {EX : QXe} {x : Str} {p1 pos : Pos} {e : Expr} {es : List Expr} {da : TAd}
theorem call_imp (hp : MonoP p) (ha : MonoA da) {n' : Nat} (hn : ∀ {vs ds n}, FzAllN C X.w X.K n vs ds → (∃ m Q E, p ds m Q E) → vs.length = n') : ∀ σ H Q, lE C B X.w X.K (dCall p EX da) σ H Q → tCallSD (spD C X.w X.K n' p) [] (atX C B X.w X.K EX) (lA C B X.w X.K da) σ H Q := by
  rintro σ H Q ⟨n, env, m, rfl, ok, h⟩
  refine ⟨n, env, m, rfl, ok, ha _ _ _ _ (fun xs m1 h1 n1 vs g1 l1 lx => ?_) h⟩
  split at h1
  · rename_i ds hd
    have hz := frs_ok lx hd
    refine ⟨by rw [List.append_nil]; exact hn hz ⟨_, _, _, h1⟩, n1, m1, ds, rfl, g1, by rw [List.append_nil]; exact hz, hp _ _ _ _ _ _ (fun d m2 h2 n2 v g2 l2 hv => h2 n2 v g2 (l1.trans l2) hv) (fun c ys m2 h2 n2 dx us g2 l2 hx hu => ?_) h1⟩
    exact ⟨n2, env, m2, c, ys, us, rfl, ok.go g2 (l1.trans l2), rfl, hx.base (ok.go g1 l1).base, hu, h2⟩
  · exact h1.elim
theorem de_call (F : DF X.prog X.w X.K X.mg X.base C k f fd ps p) (hl : ∀ ds m Q E, p ds m Q E → ds.length = ps.length) (hr : Room k X.A) (hg : Gl X x) (hm : X.mg x = some (.ref f)) (hk : PySem.W.keepIn X.K (.ref f) = true) (hb : Binds X.K fd ps []) (hx : PassD X C B EX) (ha : DA X C B (e :: es) da)
    (hdb : (x == ("__debug__" : Str)) = false := by decide) (he : starEach (e :: es) X.env = (false, eval e X.env) :: starEach es X.env := by rfl) (hpl : (backTo pos (starEach es X.env)).any (·.1) = false := by rfl) :
    DE X C B (.Call (.Name x p1) (e :: es) [] pos) (dCall p EX da) :=
  ⟨dCall.mono F.mono ha.mono, imp (pe_callSD F.ok hr hg hm hk hb .nil hx ha.run hdb he hpl) (call_imp F.mono ha.mono fun hz ⟨m, Q, E, h⟩ => hz.length.trans (hl _ _ _ _ h))⟩
end
/-- the slots at a def's entry -/
def env0 (N : Nat) (ds : List Dat) : Env' := ds.map (fun d => some (.f d)) ++ List.replicate (N - ds.length) none
section
variable {P : Program} {w : World} {K : PySem.W.Frag} {mg : Str → Option Value} {base : Heap} {C : Ct} {x qual : Str} {params : Arguments} {body : List Stmt} {scope : Scope} {f : Addr} {fd : FuncData} {N ps : List Str} {k : Nat} {p : DSp}
theorem env_start {n : Nw} {vs : List V} {ds : List Dat} (h : FzAllN C w K n vs ds) : EnvOk C w K n n (env0 N.length ds) (L2.start N vs) := by
  have hl := h.length
  have key : ∀ {i : Nat} {y : Sl}, (env0 N.length ds)[i]? = some (some y) → ∃ d, ds[i]? = some d ∧ y = .f d := by
    intro i y e
    unfold env0 at e
    by_cases hi : i < ds.length
    · rw [List.getElem?_append_left (by simpa using hi), List.getElem?_map] at e
      rw [List.getElem?_eq_getElem hi] at e
      simp only [Option.map_some, Option.some.injEq] at e
      exact ⟨_, List.getElem?_eq_getElem hi, e.symm⟩
    · rw [List.getElem?_append_right (by simpa using hi), List.getElem?_replicate] at e
      split at e <;> cases e
  refine ⟨?_, fun i d e => ?_, fun i y e => ?_, fun i j y z a e => ?_⟩
  · unfold env0 L2.start
    simp [hl]
  · obtain ⟨d', h1, h2⟩ := key e
    cases h2
    obtain ⟨v, h3, h4⟩ := h.get h1
    refine ⟨v, ?_, h4⟩
    unfold L2.start
    have hi := (List.getElem?_eq_some_iff.mp h3).1
    rw [List.getElem?_append_left (by simpa using hi), List.getElem?_map, h3]
    rfl
  · obtain ⟨d', h1, h2⟩ := key e
    cases h2
  · obtain ⟨d', h1, h2⟩ := key e
    cases h2
/-- THE RULE: the body's reading meets the promise -/
theorem df_of {d : QXe → TSd} (F : FunD K x qual params body scope [] [] f fd) (S : FnScope N ps scope) (mono : MonoP p) (len : ∀ ds m Q E, p ds m Q E → ds.length = ps.length)
    (walk : ∀ (cdv : Value) (A : Around) (outer : List Env) (s : Shared) (H : Hp) (E : XK) (B : Nw) (EX : QXe), Room k (A.deeper (envOfC qual scope s.heap.objs.size f cdv)) → TakesD (cxOf (L2.CX P w) P w K mg base N qual scope f cdv A outer s H E) C B EX →
      DSs (cxOf (L2.CX P w) P w K mg base N qual scope f cdv A outer s H E) C B body (d EX))
    (law : ∀ ds m (Q : QD) (E : QX), p ds m Q E → d (fun c xs _ m => E c xs m) { nx := fun _ m => Q .non m, rt := Q } (env0 N.length ds) m) : DF P w K mg base C (k + 1) f fd ps p := by
  refine ⟨mono, F.ok S (fun vs H Q E h => h.1) fun cdv A outer s H vs Q E hr h => ?_⟩
  obtain ⟨hl, n, m, ds, rfl, g, hz, h⟩ := h
  let X := cxOf (L2.CX P w) P w K mg base N qual scope f cdv A outer s n.H E
  have ok : Ok C w K n n (env0 N.length ds) m (L2.start N vs) := ⟨g, .refl _, env_start hz⟩
  have tk : Takes X (fun cls dx _ H => E cls dx H) := takes_of rfl rfl rfl rfl
  have pd : TakesD X C n (fun c xs _ m' => AftX C w K n E c xs m') := tk.imp (fun cls dx σ' H' hq => by
    obtain ⟨n', env', m', c, xs, us, rfl, ok', rfl, hx, hu, hE⟩ := hq
    exact hE n' dx us ok'.good ok'.base hx hu)
  have W := walk cdv A outer s n.H E n (fun c xs _ m' => AftX C w K n E c xs m') hr pd
  refine ⟨_, W.run, n, _, m, rfl, ok, ?_⟩
  refine W.mono _ _ { nx := fun _ m => AftD C w K n Q .non m, rt := AftD C w K n Q } _ ⟨fun e1 m1 h1 n1 σ1 _ ok1 => ?_, fun d1 m1 h1 n1 v1 l1 g1 hv => ?_, fun _ _ h1 => h1.elim, fun _ _ h1 => h1.elim⟩ (law ds m (AftD C w K n Q) (AftX C w K n E) h)
  · exact h1 n1 .non ok1.good ok1.base .non
  · exact h1 n1 v1 g1 l1 hv
end
end DL

set_option maxHeartbeats 1000000
namespace DL
open PySem PySem.Spec PyProof.Rows L2

/-! ### == of data -/
mutual
def py : Dat → PyData
  | .bl b => .bool b
  | .int i => .int i
  | .str x => .str x
  | .tup xs => .tuple (pys xs)
  | .lst xs => .list (pys xs)
  | .dct kvs => .dict (pyk kvs)
  | _ => .none
def pys : List Dat → List PyData
  | [] => []
  | x :: xs => py x :: pys xs
def pyk : List (Dat × Dat) → List (PyData × PyData)
  | [] => []
  | (k, x) :: r => (py k, py x) :: pyk r
end
/-- plain data, at most k deep -/
def okN : Nat → Dat → Bool
  | _, .non => true
  | _, .bl _ => true
  | _, .int _ => true
  | _, .str x => PyData.strOk x
  | k + 1, .tup xs => xs.all (okN k)
  | k + 1, .lst xs => xs.all (okN k)
  | _, _ => false
mutual
def eqd : Dat → Dat → Bool
  | .non, .non => true
  | .bl a, .bl b => a == b
  | .bl a, .int j => (if a = true then 1 else 0) == j
  | .int i, .bl b => i == (if b = true then 1 else 0)
  | .int i, .int j => i == j
  | .str x, .str y => x == y
  | .tup xs, .tup ys => eqds xs ys
  | .lst xs, .lst ys => eqds xs ys
  | _, _ => false
def eqds : List Dat → List Dat → Bool
  | [], [] => true
  | x :: xs, y :: ys => eqd x y && eqds xs ys
  | _, _ => false
end
theorem pys_eq : ∀ xs, pys xs = xs.map py
  | [] => rfl
  | x :: xs => by rw [pys, pys_eq xs]; rfl
theorem okN_lay : ∀ (k : Nat) (d : Dat), okN k d = true → (py d).canLay0 = true ∧ (py d).depth ≤ k
  | k, .non, _ => by cases k <;> exact ⟨rfl, Nat.zero_le _⟩
  | k, .bl b, _ => by cases k <;> exact ⟨rfl, Nat.zero_le _⟩
  | k, .int i, _ => by cases k <;> exact ⟨rfl, Nat.zero_le _⟩
  | k, .str x, h => by
    have h : PyData.strOk x = true := by cases k <;> exact h
    exact ⟨by rw [py, PyData.canLay0]; exact h, by rw [py, PyData.depth]; exact Nat.zero_le _⟩
  | 0, .tup xs, h => by cases h
  | 0, .lst xs, h => by cases h
  | k + 1, .tup xs, h => by
    have h : xs.all (okN k) = true := h
    have key : ∀ ys : List Dat, ys.all (okN k) = true → PyData.canLayAll0 (pys ys) = true ∧ PyData.depthAll (pys ys) ≤ k := by
      intro ys
      induction ys with
      | nil => intro _; rw [pys]; exact ⟨by rw [PyData.canLayAll0], by rw [PyData.depthAll]; exact Nat.zero_le _⟩
      | cons y ys ih =>
        intro hy
        rw [List.all_cons, Bool.and_eq_true] at hy
        obtain ⟨h1, h2⟩ := okN_lay k y hy.1
        obtain ⟨h3, h4⟩ := ih hy.2
        rw [pys, PyData.canLayAll0, PyData.depthAll, h1, h3]
        exact ⟨rfl, by omega⟩
    obtain ⟨h1, h2⟩ := key xs h
    rw [py, PyData.canLay0, PyData.depth]
    exact ⟨h1, by omega⟩
  | k + 1, .lst xs, h => by
    have h : xs.all (okN k) = true := h
    have key : ∀ ys : List Dat, ys.all (okN k) = true → PyData.canLayAll0 (pys ys) = true ∧ PyData.depthAll (pys ys) ≤ k := by
      intro ys
      induction ys with
      | nil => intro _; rw [pys]; exact ⟨by rw [PyData.canLayAll0], by rw [PyData.depthAll]; exact Nat.zero_le _⟩
      | cons y ys ih =>
        intro hy
        rw [List.all_cons, Bool.and_eq_true] at hy
        obtain ⟨h1, h2⟩ := okN_lay k y hy.1
        obtain ⟨h3, h4⟩ := ih hy.2
        rw [pys, PyData.canLayAll0, PyData.depthAll, h1, h3]
        exact ⟨rfl, by omega⟩
    obtain ⟨h1, h2⟩ := key xs h
    rw [py, PyData.canLay0, PyData.depth]
    exact ⟨h1, by omega⟩
  | k, .dct _, h => by cases k <;> cases h
  | k, .ins _ _, h => by cases k <;> cases h
  | k, .obj _, h => by cases k <;> cases h
  | k, .ref _, h => by cases k <;> cases h
  | k, .ty _, h => by cases k <;> cases h
  | k, .cls _, h => by cases k <;> cases h
theorem okN_shaped {k : Nat} {d : Dat} (hk : k ≤ 64) (h : okN k d = true) : SeqAt.shaped (py d) = true := by
  obtain ⟨h1, h2⟩ := okN_lay k d h
  unfold SeqAt.shaped
  rw [h1, decide_eq_true (Nat.le_trans h2 hk)]
  rfl
/-- a datum without dicts, instances -/
theorem eqv_eqd : ∀ (k j : Nat) (a b : Dat), okN k a = true → okN j b = true → PyData.eqv (py a) (py b) = eqd a b := by
  intro k
  induction k with
  | zero =>
    intro j a b ha hb
    cases a with
    | tup xs => cases ha
    | lst xs => cases ha
    | dct _ => cases ha
    | ins _ _ => cases ha
    | obj _ => cases ha
    | ref _ => cases ha
    | ty _ => cases ha
    | cls _ => cases ha
    | _ => cases b <;> first | (cases j <;> cases hb; done) | rfl | (simp only [py, PyData.eqv, eqd])
  | succ k ih =>
    intro j a b ha hb
    have key : ∀ (j : Nat) (xs ys : List Dat), xs.all (okN k) = true → ys.all (okN j) = true → PyData.eqvAll (pys xs) (pys ys) = eqds xs ys := by
      intro j xs
      induction xs with
      | nil => intro ys _ _; cases ys <;> simp [pys, PyData.eqvAll, eqds]
      | cons x xs ihx =>
        intro ys hx hy
        cases ys with
        | nil => simp [pys, PyData.eqvAll, eqds]
        | cons y ys =>
          rw [List.all_cons, Bool.and_eq_true] at hx hy
          simp only [pys, PyData.eqvAll, eqds]
          rw [ih j x y hx.1 hy.1, ihx ys hx.2 hy.2]
    cases a with
    | tup xs =>
      cases b with
      | tup ys =>
        cases j with
        | zero => cases hb
        | succ j => simp only [py, PyData.eqv, eqd]; exact key j xs ys ha hb
      | dct _ => cases j <;> cases hb
      | ins _ _ => cases j <;> cases hb
      | obj _ => cases j <;> cases hb
      | ref _ => cases j <;> cases hb
      | ty _ => cases j <;> cases hb
      | cls _ => cases j <;> cases hb
      | _ => simp only [py, PyData.eqv, eqd]
    | lst xs =>
      cases b with
      | lst ys =>
        cases j with
        | zero => cases hb
        | succ j => simp only [py, PyData.eqv, eqd]; exact key j xs ys ha hb
      | dct _ => cases j <;> cases hb
      | ins _ _ => cases j <;> cases hb
      | obj _ => cases j <;> cases hb
      | ref _ => cases j <;> cases hb
      | ty _ => cases j <;> cases hb
      | cls _ => cases j <;> cases hb
      | _ => simp only [py, PyData.eqv, eqd]
    | dct _ => cases ha
    | ins _ _ => cases ha
    | obj _ => cases ha
    | ref _ => cases ha
    | ty _ => cases ha
    | cls _ => cases ha
    | _ => cases b <;> first | (cases j <;> cases hb; done) | rfl | (simp only [py, PyData.eqv, eqd])

/-! ### what a value holds now -/
def moD : Mo → Option Dat
  | .lst xs => some (.lst xs)
  | .dct kvs => some (.dct kvs)
  | .ins _ _ => none
def der (env : Env') (m : Mem) : Lv → Option Dat
  | .f (.obj k) => match m[k]? with
    | some x => moD x
    | none => none
  | .f d => some d
  | .o i => match env[i]? with
    | some (some (.own x)) => moD x
    | _ => none
/-- a datum, or an own list as it stands now -/
inductive Nowv (C : Ct) (w : World) (K : PySem.W.Frag) (n : Nw) : V → Dat → Prop
  | fz {v d} : FzN C w K n v d → Nowv C w K n v d
  | lst {a vs xs} : n.H a = some (.lst vs) → FzAllN C w K n vs xs → Nowv C w K n (.ref a) (.lst xs)
  | dct {a es kvs} : n.H a = some (dxo a es) → (a == sysModules) = false → FzEs C w K n.al n.G es.toList kvs → Nowv C w K n (.ref a) (.dct kvs)
section
variable {C : Ct} {w : World} {K : PySem.W.Frag} {B n : Nw} {m : Mem} {env : Env'} {σ : L2.St}
theorem mo_now {a : Addr} {x : Mo} {d : Dat} (h : MoOk C w K n a x) (e : moD x = some d) : Nowv C w K n (.ref a) d := by
  cases x with
  | lst xs => cases e; obtain ⟨vs, h1, h2⟩ := h; exact .lst h1 h2
  | dct kvs => cases e; obtain ⟨es, h1, h3, h2⟩ := h; exact .dct h1 h3 h2
  | ins c xs => cases e
theorem der_ok {v : V} {x : Lv} {d : Dat} (ok : Ok C w K B n env m σ) (h : LvOk C w K n env σ v x) (e : der env m x = some d) : Nowv C w K n v d := by
  cases x with
  | o i =>
    obtain ⟨h1, y, h2⟩ := h
    have e' : (match env[i]? with
      | some (some (.own x)) => moD x
      | _ => none) = some d := e
    rw [h2] at e'
    obtain ⟨a, h3, h4⟩ := ok.env.own i y h2
    rw [h1] at h3
    cases h3
    exact mo_now h4.ok e'
  | f y =>
    by_cases hy : ∃ k, y = .obj k
    · obtain ⟨k, rfl⟩ := hy
      have e' : (match m[k]? with
        | some x => moD x
        | none => none) = some d := e
      have h : FzN C w K n v (.obj k) := h
      cases h with
      | obj hk =>
        cases q : m[k]? with
        | none => rw [q] at e'; cases e'
        | some x => rw [q] at e'; exact mo_now (ok.good.at_ k x _ q hk).1 e'
    · have e' : some y = some d := by
        cases y with
        | obj k => exact absurd ⟨k, rfl⟩ hy
        | _ => exact e
      cases e'
      exact .fz h
def lstOf (env : Env') (m : Mem) (x : Lv) : Option (List Dat) := match der env m x with
  | some (.lst xs) => some xs
  | _ => none
def tupOf (env : Env') (m : Mem) (x : Lv) : Option (List Dat) := match der env m x with
  | some (.tup xs) => some xs
  | _ => none
theorem rdUp {a : Addr} {u : HO} (g : Good C w K n m) (h : Rd n.G a u) : Rd n.H a u := Rd.keep g.sub h
theorem lst_ok {v : V} {x : Lv} {xs : List Dat} (ok : Ok C w K B n env m σ) (h : LvOk C w K n env σ v x) (e : lstOf env m x = some xs) : ∃ a vs, v = .ref a ∧ Rd n.H a (.lst vs) ∧ FzAllN C w K n vs xs := by
  unfold lstOf at e
  split at e
  · rename_i ys hd
    cases e
    cases der_ok ok h hd with
    | fz z => cases z with | lst z1 z2 => exact ⟨_, _, rfl, rdUp ok.good z1, z2⟩
    | lst z1 z2 => exact ⟨_, _, rfl, .inl z1, z2⟩
  · cases e
theorem tup_ok {v : V} {x : Lv} {xs : List Dat} (ok : Ok C w K B n env m σ) (h : LvOk C w K n env σ v x) (e : tupOf env m x = some xs) : ∃ a vs, v = .ref a ∧ SqT K n.H a vs ∧ FzAllN C w K n vs xs := by
  unfold tupOf at e
  split at e
  · rename_i ys hd
    cases e
    cases der_ok ok h hd with
    | fz z => cases z with | tup z1 z2 => exact ⟨_, _, rfl, SqT.keep ok.good.sub z1, z2⟩
  · cases e
def seqOf (env : Env') (m : Mem) (x : Lv) : Option (List Dat) := match der env m x with
  | some (.lst xs) => some xs
  | some (.tup xs) => some xs
  | _ => none
theorem seq_ok {v : V} {x : Lv} {xs : List Dat} (ok : Ok C w K B n env m σ) (h : LvOk C w K n env σ v x) (e : seqOf env m x = some xs) : ∃ a vs, v = .ref a ∧ (SqL K n.H a vs ∨ SqT K n.H a vs) ∧ FzAllN C w K n vs xs := by
  unfold seqOf at e
  split at e
  · rename_i ys hd
    cases e
    obtain ⟨a, vs, h1, h2, h3⟩ := lst_ok ok h (xs := xs) (by unfold lstOf; rw [hd])
    exact ⟨a, vs, h1, .inl (.inl h2), h3⟩
  · rename_i ys hd
    cases e
    obtain ⟨a, vs, h1, h2, h3⟩ := tup_ok ok h (xs := xs) (by unfold tupOf; rw [hd])
    exact ⟨a, vs, h1, .inr h2, h3⟩
  · cases e
mutual
theorem fz_dp (g : Good C w K n m) : ∀ (k : Nat) {v : V} {d : Dat}, FzN C w K n v d → okN k d = true → Dp K n.H v (py d)
  | k, _, .non, h, _ => by cases h; exact .non
  | k, _, .bl b, h, _ => by cases h; exact .bl b
  | k, _, .int i, h, _ => by cases h; exact .int i
  | k, _, .str x, h, _ => by cases h; exact .str x
  | 0, _, .tup xs, h, e => by cases e
  | 0, _, .lst xs, h, e => by cases e
  | k + 1, _, .tup xs, h, e => by
    cases h with
    | tup h1 h2 => rw [py]; exact .tup (SqT.keep g.sub h1) (fzs_dp g k h2 e)
  | k + 1, _, .lst xs, h, e => by
    cases h with
    | lst h1 h2 => rw [py]; exact .lst (.inl (rdUp g h1)) (fzs_dp g k h2 e)
  | k, _, .dct _, h, e => by cases k <;> cases e
  | k, _, .ins _ _, h, e => by cases k <;> cases e
  | k, _, .obj _, h, e => by cases k <;> cases e
  | k, _, .ref _, h, e => by cases k <;> cases e
  | k, _, .ty _, h, e => by cases k <;> cases e
  | k, _, .cls _, h, e => by cases k <;> cases e
theorem fzs_dp (g : Good C w K n m) : ∀ (k : Nat) {vs : List V} {ds : List Dat}, FzAllN C w K n vs ds → ds.all (okN k) = true → DpAll K n.H vs (pys ds)
  | k, _, [], h, _ => by cases h; rw [pys]; exact .nil
  | k, _, d :: ds, h, e => by
    rw [List.all_cons, Bool.and_eq_true] at e
    cases h with
    | cons a b => rw [pys]; exact .cons (fz_dp g k a e.1) (fzs_dp g k b e.2)
end
theorem now_dp (g : Good C w K n m) {k : Nat} {v : V} {d : Dat} (h : Nowv C w K n v d) (e : okN k d = true) : Dp K n.H v (py d) := by
  cases h with
  | fz z => exact fz_dp g k z e
  | lst h1 h2 =>
    cases k with
    | zero => cases e
    | succ k => rw [py]; exact .lst (.inl (.inl h1)) (fzs_dp g k h2 e)
  | dct h1 h2 h3 => cases k <;> cases e
end
section
variable {X : Cx} {C : Ct}
def oEq (f : Bool → Bool) : Op2 := fun env m x y Q => match der env m x, der env m y with
  | some a, some b => okN 60 a = true ∧ okN 60 b = true ∧ Q (.bl (f (eqd a b))) m
  | _, _ => False
theorem oEq.mono {f : Bool → Bool} : Mono2 (oEq f) := fun env m x y Q Q' i => by
  unfold oEq
  split
  · exact fun h => ⟨h.1, h.2.1, i _ _ h.2.2⟩
  · exact id
theorem op_eqd (hu : X.A.units + 64 < cLine) : OpD X C (compareOp .Eq) (oEq id) := by
  refine ⟨oEq.mono, fun pins s σ H x y v u Q I rx ry h => ?_⟩
  obtain ⟨B, n, env, m, σ', a, b, rfl, ok, la, lb, h⟩ := h
  unfold oEq at h
  split at h
  · rename_i da db ha hb
    obtain ⟨h1, h2, h3⟩ := h
    exact op_eqD hu pins s σ n.H x y v u Q I rx ry ⟨_, _, now_dp ok.good (der_ok ok la ha) h1, now_dp ok.good (der_ok ok lb hb) h2, okN_shaped (by decide) h1, okN_shaped (by decide) h2, by rw [eqv_eqd _ _ _ _ h1 h2]; exact h3 n _ ok.good (.refl _) (.bl _)⟩
  · exact h.elim
theorem op_ned (hu : X.A.units + 64 < cLine) : OpD X C (compareOp .NotEq) (oEq not) := by
  refine ⟨oEq.mono, fun pins s σ H x y v u Q I rx ry h => ?_⟩
  obtain ⟨B, n, env, m, σ', a, b, rfl, ok, la, lb, h⟩ := h
  unfold oEq at h
  split at h
  · rename_i da db ha hb
    obtain ⟨h1, h2, h3⟩ := h
    exact op_neD hu pins s σ n.H x y v u Q I rx ry ⟨_, _, now_dp ok.good (der_ok ok la ha) h1, now_dp ok.good (der_ok ok lb hb) h2, okN_shaped (by decide) h1, okN_shaped (by decide) h2, by rw [eqv_eqd _ _ _ _ h1 h2]; exact h3 n _ ok.good (.refl _) (.bl _)⟩
  · exact h.elim
/-- x in xs, x not in xs -/
def oIn (f : Bool → Bool) : Op2 := fun env m x y Q => match der env m x, seqOf env m y with
  | some a, some bs => okN 60 a = true ∧ bs.all (okN 59) = true ∧ Q (.bl (f (bs.any fun b => eqd b a))) m
  | _, _ => False
theorem oIn.mono {f : Bool → Bool} : Mono2 (oIn f) := fun env m x y Q Q' i => by
  unfold oIn
  split
  · exact fun h => ⟨h.1, h.2.1, i _ _ h.2.2⟩
  · exact id
theorem any_eqv {a : Dat} (ha : okN 60 a = true) : ∀ bs : List Dat, bs.all (okN 59) = true → ((pys bs).any fun y => PyData.eqv y (py a)) = bs.any fun b => eqd b a
  | [], _ => rfl
  | b :: bs, h => by
    rw [List.all_cons, Bool.and_eq_true] at h
    rw [pys, List.any_cons, List.any_cons, eqv_eqd _ _ _ _ h.1 ha, any_eqv ha bs h.2]
theorem op_ind {op : CmpOp} {f : Bool → Bool} (hu : X.A.units + 65 < cLine)
    (hl : ∀ {s : Shared} {c x : Value} {xs : List PyData} {d : PyData} {as bs : List Addr} {Q : Value → Shared → Prop}, Reads s.heap c (.list xs) as → Reads s.heap x d bs → PyData.canLayAll0 xs = true → d.canLay0 = true → X.A.units + 1 + min (PyData.depthAll xs) d.depth < cLine →
      Q (.bool (f (xs.any fun y => PyData.eqv y d))) s → wpAny (model X.prog X.w) X.A (compareOp op x c) Q X.xe s)
    (ht : ∀ {s : Shared} {c x : Value} {xs : List PyData} {d : PyData} {as bs : List Addr} {Q : Value → Shared → Prop}, Reads s.heap c (.tuple xs) as → Reads s.heap x d bs → PyData.canLayAll0 xs = true → d.canLay0 = true → X.A.units + 1 + min (PyData.depthAll xs) d.depth < cLine →
      Q (.bool (f (xs.any fun y => PyData.eqv y d))) s → wpAny (model X.prog X.w) X.A (compareOp op x c) Q X.xe s) : OpD X C (compareOp op) (oIn f) := by
  refine ⟨oIn.mono, fun pins s σ H x y v u Q I rx ry h => ?_⟩
  obtain ⟨B, n, env, m, σ', a, b, rfl, ok, la, lb, h⟩ := h
  unfold oIn at h
  split at h
  · rename_i da bs ha hb
    obtain ⟨h1, h2, h3⟩ := h
    obtain ⟨as, r1⟩ := Dp.reads I _ x v (now_dp ok.good (der_ok ok la ha) h1) rx
    have fin := any_eqv h1 bs h2
    unfold seqOf at hb
    split at hb
    · rename_i ys hd
      cases hb
      have h2' : okN 60 (.lst bs) = true := h2
      obtain ⟨cs, r2⟩ := Dp.reads I _ y u (now_dp ok.good (der_ok ok lb hd) h2') ry
      rw [py] at r2
      have sh := okN_shaped (by decide) h2'
      rw [py] at sh
      have cl := SeqAt.canLay_of_shaped sh
      rw [PyData.canLay0] at cl
      exact hl r2 r1 cl (SeqAt.canLay_of_shaped (okN_shaped (by decide) h1)) (room_in_shaped (okN_shaped (by decide) h1) hu) ⟨.bl _, _, I, rfl, by rw [fin]; exact h3 n _ ok.good (.refl _) (.bl _)⟩
    · rename_i ys hd
      cases hb
      have h2' : okN 60 (.tup bs) = true := h2
      obtain ⟨cs, r2⟩ := Dp.reads I _ y u (now_dp ok.good (der_ok ok lb hd) h2') ry
      rw [py] at r2
      have sh := okN_shaped (by decide) h2'
      rw [py] at sh
      have cl := SeqAt.canLay_of_shaped sh
      rw [PyData.canLay0] at cl
      exact ht r2 r1 cl (SeqAt.canLay_of_shaped (okN_shaped (by decide) h1)) (room_in_shaped (okN_shaped (by decide) h1) hu) ⟨.bl _, _, I, rfl, by rw [fin]; exact h3 n _ ok.good (.refl _) (.bl _)⟩
    · cases hb
  · exact h.elim
theorem op_inS (hu : X.A.units + 65 < cLine) : OpD X C (compareOp .In) (oIn id) := op_ind hu (fun a b c d e f => SeqAt.in_list_reads a b c d e f) fun a b c d e f => SeqAt.in_tuple_reads a b c d e f
theorem op_notInS (hu : X.A.units + 65 < cLine) : OpD X C (compareOp .NotIn) (oIn not) := op_ind hu (fun a b c d e f => SeqAt.notIn_list_reads a b c d e f) fun a b c d e f => SeqAt.notIn_tuple_reads a b c d e f
/-- is None -/
def isN : Lv → Bool
  | .f .non => true
  | _ => false
def oIsN (f : Bool → Bool) : Op2 := fun env m x y Q => match y with
  | .f .non => Q (.bl (f (isN x))) m
  | _ => False
theorem oIsN.mono {f : Bool → Bool} : Mono2 (oIsN f) := fun env m x y Q Q' i => by
  unfold oIsN
  split
  · exact i _ _
  · exact id
theorem isN_ok {w : World} {K : PySem.W.Frag} {n : Nw} {env : Env'} {σ : L2.St} {B : Nw} {m : Mem} {v : V} {x : Lv} (ok : Ok C w K B n env m σ) (h : LvOk C w K n env σ v x) : decide (v = .non) = isN x := by
  cases x with
  | o i =>
    obtain ⟨h1, y, h2⟩ := h
    obtain ⟨a, h3, h4⟩ := ok.env.own i y h2
    rw [h1] at h3; cases h3
    rfl
  | f d =>
    have h : FzN C w K n v d := h
    cases h <;> rfl
theorem op_isNd : OpD X C (compareOp .Is) (oIsN id) := by
  refine ⟨oIsN.mono, fun pins s σ H x y v u Q I rx ry h => ?_⟩
  obtain ⟨B, n, env, m, σ', a, b, rfl, ok, la, lb, h⟩ := h
  unfold oIsN at h
  split at h
  · have lb : FzN C X.w X.K n y .non := lb
    cases lb
    exact op_isN pins s σ n.H x .non v u Q I rx ry ⟨rfl, by rw [isN_ok ok la]; exact h n _ ok.good (.refl _) (.bl _)⟩
  · exact h.elim
theorem op_notNd : OpD X C (compareOp .IsNot) (oIsN not) := by
  refine ⟨oIsN.mono, fun pins s σ H x y v u Q I rx ry h => ?_⟩
  obtain ⟨B, n, env, m, σ', a, b, rfl, ok, la, lb, h⟩ := h
  unfold oIsN at h
  split at h
  · have lb : FzN C X.w X.K n y .non := lb
    cases lb
    exact op_notN pins s σ n.H x .non v u Q I rx ry ⟨rfl, by rw [isN_ok ok la]; exact h n _ ok.good (.refl _) (.bl _)⟩
  · exact h.elim
/-! ### ints -/
def oI (c : Int → Int → Prop) (g : Int → Int → Dat) : Op2 := fun _ m x y Q => match x, y with
  | .f (.int i), .f (.int j) => c i j ∧ Q (g i j) m
  | _, _ => False
theorem oI.mono {c : Int → Int → Prop} {g : Int → Int → Dat} : Mono2 (oI c g) := fun env m x y Q Q' i => by
  unfold oI
  split
  · exact fun h => ⟨h.1, i _ _ h.2⟩
  · exact id
theorem op_I {F : Value → Value → Sem Value} {c : Int → Int → Prop} {g : Int → Int → V} {g' : Int → Int → Dat} (h : OpR X F (rI c g)) (hg : ∀ i j C w K al G, Fz C w K al G (g i j) (g' i j)) : OpD X C F (oI c g') := by
  refine ⟨oI.mono, fun pins s σ H x y v u Q I rx ry q => ?_⟩
  obtain ⟨B, n, env, m, σ', a, b, rfl, ok, la, lb, q⟩ := q
  unfold oI at q
  split at q
  · rename_i i j
    have la : FzN C X.w X.K n x (.int i) := la
    have lb : FzN C X.w X.K n y (.int j) := lb
    cases la
    cases lb
    exact h pins s σ n.H _ _ v u Q I rx ry ⟨i, j, rfl, rfl, q.1, q.2 n _ ok.good (.refl _) (hg ..)⟩
  · exact q.elim
def oI0 (g : Int → Int → Dat) : Op2 := oI (fun _ _ => True) g
theorem op_I0 {F : Value → Value → Sem Value} {g : Int → Int → V} {g' : Int → Int → Dat} (h : OpR X F (rI0 g)) (hg : ∀ i j C w K al G, Fz C w K al G (g i j) (g' i j)) : OpD X C F (oI0 g') :=
  op_I (c := fun _ _ => True) (g := g) (fun pins s σ H x y v u Q I rx ry ⟨i, j, e1, e2, _, q⟩ => h pins s σ H x y v u Q I rx ry ⟨i, j, e1, e2, q⟩) hg
theorem op_subD : OpD X C (binaryOp .Sub) (oI0 fun i j => .int (i - j)) := op_I0 op_sub fun _ _ _ _ _ _ _ => .int _
theorem op_mulD : OpD X C (binaryOp .Mult) (oI CMul fun i j => .int (i * j)) := op_I op_mul fun _ _ _ _ _ _ _ => .int _
theorem op_mulWD : OpD X C (binaryOp .Mult) (oI CMulW fun i j => .int (i * j)) := op_I op_mulW fun _ _ _ _ _ _ _ => .int _
theorem op_fdivD : OpD X C (binaryOp .FloorDiv) (oI CDiv fun i j => .int (i / j)) := op_I op_fdiv fun _ _ _ _ _ _ _ => .int _
theorem op_fdivWD : OpD X C (binaryOp .FloorDiv) (oI CDivW fun i j => .int (i / j)) := op_I op_fdivW fun _ _ _ _ _ _ _ => .int _
theorem op_modD : OpD X C (binaryOp .Mod) (oI (fun _ j => 0 < j) fun i j => .int (i % j)) := op_I op_mod fun _ _ _ _ _ _ _ => .int _
theorem op_powD : OpD X C (binaryOp .Pow) (oI CPow fun i j => .int (i ^ j.toNat)) := op_I op_pow fun _ _ _ _ _ _ _ => .int _
theorem op_shlD : OpD X C (binaryOp .LShift) (oI CPow fun i j => .int (i * 2 ^ j.toNat)) := op_I op_shl fun _ _ _ _ _ _ _ => .int _
theorem op_shrD : OpD X C (binaryOp .RShift) (oI (fun _ j => 0 ≤ j) fun i j => .int (i / 2 ^ j.toNat)) := op_I op_shr fun _ _ _ _ _ _ _ => .int _
theorem op_andD : OpD X C (binaryOp .BitAnd) (oI0 fun i j => .int (Builtin.bitAnd i j)) := op_I0 op_and fun _ _ _ _ _ _ _ => .int _
theorem op_ltD : OpD X C (compareOp .Lt) (oI0 fun i j => .bl (decide (i < j))) := op_I0 op_lt fun _ _ _ _ _ _ _ => .bl _
theorem op_leD : OpD X C (compareOp .LtE) (oI0 fun i j => .bl (decide (i ≤ j))) := op_I0 op_le fun _ _ _ _ _ _ _ => .bl _
theorem op_gtD : OpD X C (compareOp .Gt) (oI0 fun i j => .bl (decide (j < i))) := op_I0 op_gt fun _ _ _ _ _ _ _ => .bl _
theorem op_geD : OpD X C (compareOp .GtE) (oI0 fun i j => .bl (decide (j ≤ i))) := op_I0 op_ge fun _ _ _ _ _ _ _ => .bl _
def oU (g : Int → Int) : Op1 := fun _ m x Q => match x with
  | .f (.int i) => Q (.int (g i)) m
  | _ => False
theorem un_negD : UnD X C (unaryOp .USub) (oU fun i => -i) := by
  refine ⟨fun env m x Q Q' i => by unfold oU; split <;> first | exact i _ _ | exact id, fun pins s σ H x v Q I rx q => ?_⟩
  obtain ⟨B, n, env, m, σ', a, rfl, ok, la, q⟩ := q
  unfold oU at q
  split at q
  · rename_i i
    have la : FzN C X.w X.K n x (.int i) := la
    cases la
    exact un_neg pins s σ n.H _ v Q I rx ⟨i, rfl, q n _ ok.good (.refl _) (.int _)⟩
  · exact q.elim
/-- chains a < b < c -/
def dChain (f g : Op2) (da db dc : TD) : TD := fun env m Q => da env m fun x m1 => db env m1 fun y m2 => f env m2 x y fun z m3 => match z with
  | .bl true => dc env m3 fun u m4 => g env m4 y u fun r m5 => Q (.f r) m5
  | .bl false => Q (.f (.bl false)) m3
  | _ => False
/-! ### + -/
def oAdd : Op2 := fun env m x y Q => match der env m x, der env m y with
  | some (.int i), some (.int j) => Q (.int (i + j)) m
  | some (.str a), some (.str b) => a.length + b.length ≤ sizeLine ∧ Q (.str (a ++ b)) m
  | some (.tup xs), some (.tup ys) => xs.length + ys.length ≤ sizeLine ∧ Q (.tup (xs ++ ys)) m
  | some (.lst xs), some (.lst ys) => xs.length + ys.length ≤ sizeLine ∧ Q (.lst (xs ++ ys)) m
  | _, _ => False
theorem oAdd.mono : Mono2 oAdd := fun env m x y Q Q' i => by
  unfold oAdd
  split <;> first | exact i _ _ | exact fun h => ⟨h.1, i _ _ h.2⟩ | exact id
end
theorem Rd.lstM {X : Cx} {pins : List (Addr × Obj)} {σ : L2.St} {H : Hp} {s : Shared} {l : Addr} {xs : List V} (I : Inv X pins σ H s) (h : Rd H l (.lst xs)) : xs.length ≤ sizeLine ∧ ∃ (its : List Value) (n : Nat), Vals xs its ∧ xs.length = its.length ∧ s.heap.get? l = some { cls := .type "list", data := .seq its.toArray n } := by
  obtain ⟨z, its, n, r, e⟩ := h.ok I.hok
  exact ⟨z, its, n, r, r.length, e⟩
section
variable {X : Cx} {C : Ct}
def rCatL : R2 := fun x y H Q => ∃ l b xs zs, x = .ref l ∧ y = .ref b ∧ Rd H l (.lst xs) ∧ Rd H b (.lst zs) ∧ xs.length + zs.length ≤ sizeLine ∧ ∀ p, H p = none → Q (.ref p) (upd H p (.lst (xs ++ zs)))
theorem op_catL : OpR X (binaryOp .Add) rCatL := by
  intro pins s σ H x y v u Q I rx ry h
  obtain ⟨l, b, xs, zs, rfl, rfl, hH, hB, hz, q⟩ := h
  cases rx
  cases ry
  obtain ⟨z, its, n, r, hl, e⟩ := Rd.lstM I hH
  obtain ⟨z2, its2, n2, r2, hl2, e2⟩ := Rd.lstM I hB
  refine PySem.P.add_list e e2 ?_ (by rw [List.size_toArray, List.size_toArray]; omega)
  have ea : its.toArray ++ its2.toArray = (its ++ its2).toArray := by simp
  rw [ea]
  exact ⟨.ref _, _, I.lnew (t' := s.toks) (r.append r2) (by rw [List.length_append]; omega), rfl, q _ I.fresh⟩
theorem now_fz {w : World} {K : PySem.W.Frag} {n : Nw} {v : V} {d : Dat} (h : Nowv C w K n v d) (hl : ∀ xs, d ≠ .lst xs) (hd : ∀ xs, d ≠ .dct xs) : FzN C w K n v d := by
  cases h with
  | fz z => exact z
  | lst _ _ => exact absurd rfl (hl _)
  | dct _ _ _ => exact absurd rfl (hd _)
theorem op_addD : OpD X C (binaryOp .Add) oAdd := by
  refine ⟨oAdd.mono, fun pins s σ H x y v u Q I rx ry q => ?_⟩
  obtain ⟨B, n, env, m, σ', a, b, rfl, ok, la, lb, q⟩ := q
  unfold oAdd at q
  split at q
  · rename_i i j h1 h2
    have z1 := now_fz (der_ok ok la h1) (by simp) (by simp)
    have z2 := now_fz (der_ok ok lb h2) (by simp) (by simp)
    cases z1
    cases z2
    exact op_add pins s σ n.H _ _ v u Q I rx ry ⟨i, j, rfl, rfl, q n _ ok.good (.refl _) (.int _)⟩
  · rename_i i j h1 h2
    have z1 := now_fz (der_ok ok la h1) (by simp) (by simp)
    have z2 := now_fz (der_ok ok lb h2) (by simp) (by simp)
    cases z1
    cases z2
    exact op_add_str pins s σ n.H _ _ v u Q I rx ry ⟨i, j, rfl, rfl, q.1, q.2 n _ ok.good (.refl _) (.str _)⟩
  · rename_i xs ys h1 h2
    obtain ⟨p, vs, rfl, s1, z1⟩ := tup_ok ok la (xs := xs) (by unfold tupOf; rw [h1])
    obtain ⟨r, us, rfl, s2, z2⟩ := tup_ok ok lb (xs := ys) (by unfold tupOf; rw [h2])
    have f1 := now_fz (der_ok ok la h1) (by simp) (by simp)
    have f2 := now_fz (der_ok ok lb h2) (by simp) (by simp)
    refine op_catA pins s σ n.H _ _ v u Q I rx ry ⟨p, r, vs, us, rfl, rfl, s1, s2, by rw [z1.length, z2.length]; exact q.1, fun e => ?_, fun _ e => ?_, fun _ _ p' hp => ?_⟩
    · subst e
      cases xs with
      | nil => exact q.2 n _ ok.good (.refl _) f2
      | cons _ _ => cases z1
    · subst e
      cases ys with
      | nil => exact q.2 n _ ok.good (.refl _) (by rw [List.append_nil]; exact f1)
      | cons _ _ => cases z2
    · obtain ⟨g2, l2⟩ := ok.good.freeze (o := .tup (vs ++ us)) hp
      exact q.2 _ _ g2 l2 (.tup (SqT.of upd_same) (FzAllN.le (z1.append z2) l2))
  · rename_i xs ys h1 h2
    obtain ⟨p, vs, rfl, s1, z1⟩ := lst_ok ok la (xs := xs) (by unfold lstOf; rw [h1])
    obtain ⟨r, us, rfl, s2, z2⟩ := lst_ok ok lb (xs := ys) (by unfold lstOf; rw [h2])
    refine op_catL pins s σ n.H _ _ v u Q I rx ry ⟨p, r, vs, us, rfl, rfl, s1, s2, by rw [z1.length, z2.length]; exact q.1, fun p' hp => ?_⟩
    obtain ⟨g2, l2⟩ := ok.good.freeze (o := .lst (vs ++ us)) hp
    exact q.2 _ _ g2 l2 (.lst (Rd.of upd_same) (FzAllN.le (z1.append z2) l2))
  · exact q.elim
/-- list + list, a new list -/
def nCat (da db : TD) : TN := fun env m Q => da env m fun x m1 => db env m1 fun y m2 => match lstOf env m2 x, lstOf env m2 y with
  | some xs, some ys => xs.length + ys.length ≤ sizeLine ∧ Q (xs ++ ys) m2
  | _, _ => False
theorem dn_cat {B : Nw} {a b : Expr} {da db : TD} {pos : Pos} (ha : DE X C B a da) (hb : DE X C B b db) : DN X C B (.BinOp a .Add b pos) (nCat da db) := by
  refine ⟨fun env m Q Q' i h => ha.mono _ _ _ _ (fun x m1 h1 => hb.mono _ _ _ _ (fun y m2 h2 => ?_) h1) h, imp (pe_op op_catL ha.run hb.run) ?_⟩
  · split at h2
    · exact ⟨h2.1, i _ _ h2.2⟩
    · exact h2.elim
  rintro σ H Q ⟨n, env, m, rfl, ok, h⟩
  refine ⟨n, env, m, rfl, ok, ha.mono _ _ _ _ (fun x m1 h1 n1 v g1 l1 lx => ?_) h⟩
  refine ⟨n1, env, m1, rfl, ok.go g1 l1, hb.mono _ _ _ _ (fun y m2 h2 n2 u g2 l2 ly => ?_) h1⟩
  have ok2 := ok.go g2 (l1.trans l2)
  split at h2
  · rename_i xs ys e1 e2
    obtain ⟨p, vs, rfl, s1, z1⟩ := lst_ok ok2 (lx.le l2) e1
    obtain ⟨r, us, rfl, s2, z2⟩ := lst_ok ok2 ly e2
    exact ⟨p, r, vs, us, rfl, rfl, s1, s2, by rw [z1.length, z2.length]; exact h2.1, fun p' hp => h2.2 n2 p' _ g2 (l1.trans l2) hp (z1.append z2)⟩
  · exact h2.elim
/-! ### items, slices, len -/
def oIx : Op2 := fun env m x y Q => match der env m x, y with
  | some (.lst xs), .f (.int i) => match atI xs i with
    | some d => Q d m
    | none => False
  | some (.tup xs), .f (.int i) => match atI xs i with
    | some d => Q d m
    | none => False
  | some (.str z), .f (.int i) => z.length ≤ sizeLine ∧ match atI z.cps.toList i with
    | some c => Q (.str ⟨#[c]⟩) m
    | none => False
  | _, _ => False
theorem oIx.mono : Mono2 oIx := fun env m x y Q Q' i => by
  unfold oIx
  split
  · split <;> first | exact i _ _ | exact id
  · split <;> first | exact i _ _ | exact id
  · split <;> first | exact fun h => ⟨h.1, i _ _ h.2⟩ | exact id
  · exact id
theorem atI_fz {w : World} {K : PySem.W.Frag} {n : Nw} {vs : List V} {xs : List Dat} {i : Int} {d : Dat} (z : FzAllN C w K n vs xs) (h : atI xs i = some d) : ∃ v, atI vs i = some v ∧ FzN C w K n v d := by
  unfold atI at h ⊢
  rw [z.length]
  cases e : ixN xs.length i with
  | none => rw [e] at h; cases h
  | some j =>
    rw [e] at h
    exact z.get h
theorem ix_D : IxD X C oIx := by
  refine ⟨oIx.mono, fun value slice pins s σ H x y v u Q I rx ry q hs => ?_⟩
  obtain ⟨B, n, env, m, σ', a, b, rfl, ok, la, lb, q⟩ := q
  unfold oIx at q
  split at q
  · rename_i xs i h1
    have lb : FzN C X.w X.K n y (.int i) := lb
    cases lb
    obtain ⟨p, vs, rfl, s1, z1⟩ := lst_ok ok la (xs := xs) (by unfold lstOf; rw [h1])
    split at q
    · rename_i d hd
      obtain ⟨z, hz, fz⟩ := atI_fz z1 hd
      exact ix_list value slice pins s σ n.H _ _ v u Q I rx ry ⟨p, vs, i, z, rfl, rfl, .inl s1, hz, q n _ ok.good (.refl _) fz⟩ hs
    · exact q.elim
  · rename_i xs i h1
    have lb : FzN C X.w X.K n y (.int i) := lb
    cases lb
    obtain ⟨p, vs, rfl, s1, z1⟩ := tup_ok ok la (xs := xs) (by unfold tupOf; rw [h1])
    split at q
    · rename_i d hd
      obtain ⟨z, hz, fz⟩ := atI_fz z1 hd
      exact ix_tup value slice pins s σ n.H _ _ v u Q I rx ry ⟨p, vs, i, z, rfl, rfl, s1, hz, q n _ ok.good (.refl _) fz⟩ hs
    · exact q.elim
  · rename_i z i h1
    have lb : FzN C X.w X.K n y (.int i) := lb
    cases lb
    have z1 := now_fz (der_ok ok la h1) (by simp) (by simp)
    cases z1
    obtain ⟨q1, q⟩ := q
    split at q
    · rename_i c hc
      exact ix_str value slice pins s σ n.H _ _ v u Q I rx ry ⟨z, i, c, rfl, rfl, q1, hc, q n _ ok.good (.refl _) (.str _)⟩ hs
    · exact q.elim
  · exact q.elim
def oLen : OpN := fun env m xs Q => match xs with
  | [x] => match der env m x with
    | some (.lst ys) => Q (.int ys.length) m
    | some (.tup ys) => Q (.int ys.length) m
    | some (.str z) => z.length ≤ sizeLine ∧ Q (.int z.length) m
    | _ => False
  | _ => False
theorem call_lenD : CallD X C (.builtin "len") oLen := by
  refine ⟨fun env m xs Q Q' i => ?_, fun pins s σ H xs us Q I r q => ?_⟩
  · unfold oLen
    split
    · split <;> first | exact i _ _ | exact fun h => ⟨h.1, i _ _ h.2⟩ | exact id
    · exact id
  obtain ⟨B, n, env, m, σ', ls, rfl, ok, la, q⟩ := q
  unfold oLen at q
  split at q
  · rename_i x
    cases la with
    | cons l1 l2 =>
      cases l2
      split at q
      · rename_i ys h1
        obtain ⟨p, vs, rfl, s1, z1⟩ := lst_ok ok l1 (xs := ys) (by unfold lstOf; rw [h1])
        exact call_len_seq pins s σ n.H _ us Q I r ⟨p, vs, rfl, .inl (.inl s1), by rw [z1.length]; exact q n _ ok.good (.refl _) (.int _)⟩
      · rename_i ys h1
        obtain ⟨p, vs, rfl, s1, z1⟩ := tup_ok ok l1 (xs := ys) (by unfold tupOf; rw [h1])
        exact call_len_seq pins s σ n.H _ us Q I r ⟨p, vs, rfl, .inr s1, by rw [z1.length]; exact q n _ ok.good (.refl _) (.int _)⟩
      · rename_i z h1
        have z1 := now_fz (der_ok ok l1 h1) (by simp) (by simp)
        cases z1
        exact call_len_str pins s σ n.H _ us Q I r ⟨z, rfl, q.1, q.2 n _ ok.good (.refl _) (.int _)⟩
      · exact q.elim
  · exact q.elim
end
end DL

set_option maxHeartbeats 1000000
namespace DL
open PySem PySem.Spec PyProof.Rows L2

/-! ### calls of built-ins by name -/
section
variable {X : Cx} {C : Ct} {B : Nw} {e : Expr} {es : List Expr} {da : TAd} {f : OpN} {x : Str} {p pos : Pos} {id T : String}
theorem nar_imp (hf : MonoN f) (ha : MonoA da) : ∀ σ H Q, lE C B X.w X.K (dN f da) σ H Q → tCB (rN C X.w X.K f) (lA C B X.w X.K da) σ H Q := by
  rintro σ H Q ⟨n, env, m, rfl, ok, h⟩
  refine ⟨n, env, m, rfl, ok, ha _ _ _ _ (fun xs m1 h1 n1 vs g1 l1 lx => ?_) h⟩
  exact ⟨B, n1, env, m1, σ, xs, rfl, ok.go g1 l1, lx, hf _ _ _ _ _ (fun z m2 h2 n2 v g2 l2 hz => h2 n2 v g2 (l1.trans l2) hz) h1⟩
theorem de_callB (hc : CallD X C (.builtin id) f) (hg : Gl X x) (hm : X.mg x = none) (hv : bootBuiltins x = some (.builtin id)) (ha : DA X C B (e :: es) da) (hn : x ≠ "__name__" := by decide) (hdb : (x == ("__debug__" : Str)) = false := by decide)
    (he : starEach (e :: es) X.env = (false, eval e X.env) :: starEach es X.env := by rfl) (hpl : (backTo pos (starEach es X.env)).any (·.1) = false := by rfl) : DE X C B (.Call (.Name x p) (e :: es) [] pos) (dN f da) :=
  ⟨dN.mono hc.mono ha.mono, imp (pe_callB hc.run hg hm hv ha.run hn hdb he hpl) (nar_imp hc.mono ha.mono)⟩
theorem de_callTy (hc : CallD X C (.type T) f) (hg : Gl X x) (hm : X.mg x = none) (hv : bootBuiltins x = some (.type T)) (ha : DA X C B (e :: es) da) (hn : x ≠ "__name__" := by decide) (hdb : (x == ("__debug__" : Str)) = false := by decide)
    (he : starEach (e :: es) X.env = (false, eval e X.env) :: starEach es X.env := by rfl) (hpl : (backTo pos (starEach es X.env)).any (·.1) = false := by rfl) : DE X C B (.Call (.Name x p) (e :: es) [] pos) (dN f da) :=
  ⟨dN.mono hc.mono ha.mono, imp (pe_callTy hc.run hg hm hv ha.run hn hdb he hpl) (nar_imp hc.mono ha.mono)⟩
end
/-! ### all, any, sum, min, max -/
def bools : List Dat → Option (List Bool)
  | [] => some []
  | .bl b :: r => (bools r).map (b :: ·)
  | _ => none
def intsD : List Dat → Option (List Int)
  | [] => some []
  | .int b :: r => (intsD r).map (b :: ·)
  | _ => none
section
variable {C : Ct} {w : World} {K : PySem.W.Frag} {B n : Nw} {m : Mem} {env : Env'} {σ : L2.St}
theorem bools_eq : ∀ {xs : List Dat} {bs : List Bool} {vs : List V}, bools xs = some bs → FzAllN C w K n vs xs → vs = bs.map V.bl
  | [], bs, vs, h, z => by cases h; cases z; rfl
  | x :: r, bs, vs, h, z => by
    cases z with
    | cons a b =>
      cases x with
      | bl c =>
        have h : (bools r).map (c :: ·) = some bs := h
        cases e : bools r with
        | none => rw [e] at h; cases h
        | some cs =>
          rw [e] at h
          cases h
          cases a
          rw [bools_eq e b]
          rfl
      | _ => cases h
theorem ints_eq : ∀ {xs : List Dat} {bs : List Int} {vs : List V}, intsD xs = some bs → FzAllN C w K n vs xs → vs = bs.map V.int
  | [], bs, vs, h, z => by cases h; cases z; rfl
  | x :: r, bs, vs, h, z => by
    cases z with
    | cons a b =>
      cases x with
      | int c =>
        have h : (intsD r).map (c :: ·) = some bs := h
        cases e : intsD r with
        | none => rw [e] at h; cases h
        | some cs =>
          rw [e] at h
          cases h
          cases a
          rw [ints_eq e b]
          rfl
      | _ => cases h
theorem LvsOk.one {vs x} (h : LvsOk C w K n env σ vs [x]) : ∃ v, vs = [v] ∧ LvOk C w K n env σ v x := by
  cases h with
  | cons a b => cases b; exact ⟨_, rfl, a⟩
theorem LvsOk.two {vs x y} (h : LvsOk C w K n env σ vs [x, y]) : ∃ v u, vs = [v, u] ∧ LvOk C w K n env σ v x ∧ LvOk C w K n env σ u y := by
  cases h with
  | cons a b => cases b with | cons c d => cases d; exact ⟨_, _, rfl, a, c⟩
end
/-- by one list of bools -/
def oBs (f : List Bool → Bool) : OpN := fun env m xs Q => match xs with
  | [x] => match lstOf env m x with
    | some ys => match bools ys with
      | some bs => Q (.bl (f bs)) m
      | none => False
    | none => False
  | _ => False
theorem oBs.mono {f} : MonoN (oBs f) := fun env m xs Q Q' i => by
  unfold oBs
  split
  · split
    · split <;> first | exact i _ _ | exact id
    · exact id
  · exact id
def oIs (f : List Int → Int) (c : List Int → Prop) : OpN := fun env m xs Q => match xs with
  | [x] => match seqOf env m x with
    | some ys => match intsD ys with
      | some ns => c ns ∧ Q (.int (f ns)) m
      | none => False
    | none => False
  | _ => False
theorem oIs.mono {f c} : MonoN (oIs f c) := fun env m xs Q Q' i => by
  unfold oIs
  split
  · split
    · split <;> first | exact fun h => ⟨h.1, i _ _ h.2⟩ | exact id
    · exact id
  · exact id
section
variable {X : Cx} {C : Ct}
theorem call_bs {id : String} {f : List Bool → Bool} (h : CallR X (.builtin id) (fun vs H Q => ∃ (a : Addr) (bs : List Bool), vs = [V.ref a] ∧ SqL X.K H a (bs.map V.bl) ∧ Q (.bl (f bs)) H)) : CallD X C (.builtin id) (oBs f) := by
  refine ⟨oBs.mono, fun pins s σ H xs us Q I r q => ?_⟩
  obtain ⟨B, n, env, m, σ', ls, rfl, ok, la, q⟩ := q
  unfold oBs at q
  split at q
  · obtain ⟨v, rfl, l1⟩ := la.one
    split at q
    · rename_i ys hy
      obtain ⟨p, vs, rfl, s1, z1⟩ := lst_ok ok l1 hy
      split at q
      · rename_i bs hb
        have e := bools_eq hb z1
        subst e
        exact h pins s σ n.H _ us Q I r ⟨p, bs, rfl, .inl s1, q n _ ok.good (.refl _) (.bl _)⟩
      · exact q.elim
    · exact q.elim
  · exact q.elim
theorem call_allD (hc : X.calm = true) : CallD X C (.builtin "all") (oBs fun bs => bs.all id) := call_bs (cr_all hc)
theorem call_anyD (hc : X.calm = true) : CallD X C (.builtin "any") (oBs fun bs => bs.any id) := call_bs (cr_any hc)
end
theorem iter_intTup {prog : Program} {w : World} {A : Around} {E : Value → Shared → Prop} {s : Shared} {l : Addr} {xs : Array (Int × Tok)} {Q : Value → Shared → Prop} (hl : s.heap.IsTuple l (intItems xs))
    (h : ∀ s₂ : Shared, s₂ = { s with heap := s.heap.push { cls := .type "tuple_iterator", data := .fields #[.ref l, .int 0 0] } } → (s₂.heap.IsTupleIter s.heap.objs.size l 0 ∧ s₂.heap.IsTuple l (intItems xs)) →
      (∀ b ∈ [s.heap.objs.size, l], b < s₂.heap.objs.size) → l ≠ s.heap.objs.size → Q (.ref s.heap.objs.size) s₂) : wpAny (model prog w) A (pyIter (.ref l)) Q E s := by
  refine wpAny_pyIter_tuple hl (h _ rfl ⟨⟨_, Heap.get?_push_size _ rfl, rfl, rfl⟩, ?_⟩ (fun b hb => ?_) ?_)
  · obtain ⟨o, ho, r⟩ := hl
    exact ⟨o, Heap.get?_push_of_some _ ho, r⟩
  · obtain ⟨o, ho, _⟩ := hl
    have hlt := Heap.lt_size ho
    have hb : b = s.heap.objs.size ∨ b = l := by simpa using hb
    show b < (s.heap.push _).objs.size
    rw [size_push']
    rcases hb with rfl | rfl
    · exact Nat.lt_succ_self _
    · exact Nat.lt_succ_of_lt hlt
  · obtain ⟨o, ho, _⟩ := hl
    exact Nat.ne_of_lt (Heap.lt_size ho)
section
variable {prog : Program} {w : World} {A : Around} {E : Value → Shared → Prop} {s : Shared} {l : Addr} {its : List Value} {ns : List Int} {Q : Value → Shared → Prop}
theorem kept_push {o : Obj} {wr : Addr} {h' : Heap} (hw : wr = s.heap.objs.size) (hk : ∀ b ob, b ∉ [wr] → (s.heap.push o).get? b = some ob → h'.get? b = some ob) : ∀ b ob, s.heap.get? b = some ob → h'.get? b = some ob := fun b ob e => by
  refine hk b ob ?_ (Heap.get?_push_of_some _ e)
  have := Heap.lt_size e
  subst hw
  simpa using Nat.ne_of_lt this
theorem max_rawT (hh : A.handled = none) (hl : IsTup s.heap l its.toArray) (hi : IntsAre its ns) (hne : 0 < ns.length)
    (h : ∀ h' tk M t', (∀ b o, s.heap.get? b = some o → h'.get? b = some o) → M ∈ ns → (∀ a, a ∈ ns → a ≤ M) → Q (.int M t') { s with heap := h', toks := tk }) : wpAny (model prog w) A (call (.builtin "max") [.ref l]) Q E s := by
  obtain ⟨xs, e⟩ := hi.allInts.items
  have hn : numsOf (intItems xs).toList = ns := by rw [← e]; exact hi.numsOf
  rw [nums_intItems] at hn
  subst hn
  rw [e] at hl
  have hsz : 0 < xs.size := by simpa using hne
  refine call_max_walk (iter_intTup hl fun s₂ e st hfp hlI => ?_)
  subst e
  refine ⟨_, _, _, _, _, _, _, rfl, Walks.tuple (A := A.in1) hh _ l hlI (intItems xs), st, hfp, by simpa [intItems] using hsz, CmpOf.ints_gt (numAt xs) (fun _ _ => intItems_at), fun v h' tk hP hk => ?_⟩
  have hv : (intItems xs)[argBest (fun i j => decide (numAt xs i > numAt xs j)) (xs.size - 1)]? = some v := by simpa [intItems] using hP
  obtain ⟨t, rfl⟩ := intItems_at hv
  obtain ⟨h1, h2⟩ := argBest_gt (numAt xs) (xs.size - 1)
  refine h h' tk _ t (kept_push rfl hk) ?_ fun a ha => ?_
  · rw [numAt_eq]; exact PySem.getD_mem (by rw [List.length_map, Array.length_toList]; omega)
  · obtain ⟨j, hj, rfl⟩ := mem_getD ha
    rw [List.length_map, Array.length_toList] at hj
    rw [← numAt_eq]; exact h2 j (by omega)
theorem min_rawT (hh : A.handled = none) (hl : IsTup s.heap l its.toArray) (hi : IntsAre its ns) (hne : 0 < ns.length)
    (h : ∀ h' tk M t', (∀ b o, s.heap.get? b = some o → h'.get? b = some o) → M ∈ ns → (∀ a, a ∈ ns → M ≤ a) → Q (.int M t') { s with heap := h', toks := tk }) : wpAny (model prog w) A (call (.builtin "min") [.ref l]) Q E s := by
  obtain ⟨xs, e⟩ := hi.allInts.items
  have hn : numsOf (intItems xs).toList = ns := by rw [← e]; exact hi.numsOf
  rw [nums_intItems] at hn
  subst hn
  rw [e] at hl
  have hsz : 0 < xs.size := by simpa using hne
  refine call_min_walk (iter_intTup hl fun s₂ e st hfp hlI => ?_)
  subst e
  refine ⟨_, _, _, _, _, _, _, rfl, Walks.tuple (A := A.in1) hh _ l hlI (intItems xs), st, hfp, by simpa [intItems] using hsz, CmpOf.ints_lt (numAt xs) (fun _ _ => intItems_at), fun v h' tk hP hk => ?_⟩
  have hv : (intItems xs)[argBest (fun i j => decide (numAt xs i < numAt xs j)) (xs.size - 1)]? = some v := by simpa [intItems] using hP
  obtain ⟨t, rfl⟩ := intItems_at hv
  obtain ⟨h1, h2⟩ := argBest_lt (numAt xs) (xs.size - 1)
  refine h h' tk _ t (kept_push rfl hk) ?_ fun a ha => ?_
  · rw [numAt_eq]; exact PySem.getD_mem (by rw [List.length_map, Array.length_toList]; omega)
  · obtain ⟨j, hj, rfl⟩ := mem_getD ha
    rw [List.length_map, Array.length_toList] at hj
    rw [← numAt_eq]; exact h2 j (by omega)
end
/-- the greatest, the least of a list (0 of none) -/
def maxI : List Int → Int
  | [] => 0
  | [x] => x
  | x :: y :: r => max x (maxI (y :: r))
def minI : List Int → Int
  | [] => 0
  | [x] => x
  | x :: y :: r => min x (minI (y :: r))
theorem maxI_ge : ∀ {ns : List Int} {a : Int}, a ∈ ns → a ≤ maxI ns
  | [], a, h => by cases h
  | [x], a, h => by simp at h; subst h; exact Int.le_refl _
  | x :: y :: r, a, h => by
    rw [maxI]
    rcases List.mem_cons.mp h with rfl | h
    · omega
    · have := maxI_ge h; omega
theorem maxI_mem : ∀ {ns : List Int}, 0 < ns.length → maxI ns ∈ ns
  | [x], _ => by simp [maxI]
  | x :: y :: r, _ => by
    have := maxI_mem (ns := y :: r) (by simp)
    rw [maxI]
    by_cases h : maxI (y :: r) ≤ x
    · rw [Int.max_eq_left h]; simp
    · rw [Int.max_eq_right (by omega)]; exact List.mem_cons_of_mem _ this
theorem minI_le : ∀ {ns : List Int} {a : Int}, a ∈ ns → minI ns ≤ a
  | [], a, h => by cases h
  | [x], a, h => by simp at h; subst h; exact Int.le_refl _
  | x :: y :: r, a, h => by
    rw [minI]
    rcases List.mem_cons.mp h with rfl | h
    · omega
    · have := minI_le h; omega
theorem minI_mem : ∀ {ns : List Int}, 0 < ns.length → minI ns ∈ ns
  | [x], _ => by simp [minI]
  | x :: y :: r, _ => by
    have := minI_mem (ns := y :: r) (by simp)
    rw [minI]
    by_cases h : x ≤ minI (y :: r)
    · rw [Int.min_eq_left h]; simp
    · rw [Int.min_eq_right (by omega)]; exact List.mem_cons_of_mem _ this
section
variable {X : Cx} {C : Ct}
theorem call_isI {id : String} {f : List Int → Int} {c : List Int → Prop} (hl : CallR X (.builtin id) (fun vs H Q => ∃ (a : Addr) (ns : List Int), vs = [V.ref a] ∧ SqL X.K H a (ns.map V.int) ∧ c ns ∧ Q (.int (f ns)) H))
    (ht : CallR X (.builtin id) (fun vs H Q => ∃ (a : Addr) (ns : List Int), vs = [V.ref a] ∧ SqT X.K H a (ns.map V.int) ∧ c ns ∧ Q (.int (f ns)) H)) : CallD X C (.builtin id) (oIs f c) := by
  refine ⟨oIs.mono, fun pins s σ H xs us Q I r q => ?_⟩
  obtain ⟨B, n, env, m, σ', ls, rfl, ok, la, q⟩ := q
  unfold oIs at q
  split at q
  · obtain ⟨v, rfl, l1⟩ := la.one
    split at q
    · rename_i ys hy
      obtain ⟨p, vs, rfl, s1, z1⟩ := seq_ok ok l1 hy
      split at q
      · rename_i bs hb
        have e := ints_eq hb z1
        subst e
        rcases s1 with s1 | s1
        · exact hl pins s σ n.H _ us Q I r ⟨p, bs, rfl, s1, q.1, q.2 n _ ok.good (.refl _) (.int _)⟩
        · exact ht pins s σ n.H _ us Q I r ⟨p, bs, rfl, s1, q.1, q.2 n _ ok.good (.refl _) (.int _)⟩
      · exact q.elim
    · exact q.elim
  · exact q.elim
theorem max_uniq {ns : List Int} {M : Int} (h1 : M ∈ ns) (h2 : ∀ a, a ∈ ns → a ≤ M) : M = maxI ns := Int.le_antisymm (maxI_ge h1) (h2 _ (maxI_mem (List.length_pos_of_mem h1)))
theorem min_uniq {ns : List Int} {M : Int} (h1 : M ∈ ns) (h2 : ∀ a, a ∈ ns → M ≤ a) : M = minI ns := Int.le_antisymm (h2 _ (minI_mem (List.length_pos_of_mem h1))) (minI_le h1)
theorem call_maxD (hc : X.calm = true) : CallD X C (.builtin "max") (oIs maxI fun ns => 0 < ns.length) := by
  refine call_isI (fun pins s σ H xs us Q I r ⟨a, ns, e, hs, hl, q⟩ => cr_max hc pins s σ H xs us Q I r ⟨a, ns, e, hs, hl, fun M h1 h2 => by rw [max_uniq h1 h2]; exact q⟩) fun pins s σ H xs us Q I r ⟨a, ns, e, hs, hl, q⟩ => ?_
  subst e
  obtain ⟨its, rv, p, _⟩ := I.tuple hs
  rw [Vals.ref1 r]
  exact max_rawT (I.ok.hd hc) p rv.ints hl fun h' tk M t' hk h1 h2 => ⟨.int _, H, I.kept hk, ⟨_, rfl⟩, by rw [max_uniq h1 h2]; exact q⟩
theorem call_minD (hc : X.calm = true) : CallD X C (.builtin "min") (oIs minI fun ns => 0 < ns.length) := by
  refine call_isI (fun pins s σ H xs us Q I r ⟨a, ns, e, hs, hl, q⟩ => cr_min hc pins s σ H xs us Q I r ⟨a, ns, e, hs, hl, fun M h1 h2 => by rw [min_uniq h1 h2]; exact q⟩) fun pins s σ H xs us Q I r ⟨a, ns, e, hs, hl, q⟩ => ?_
  subst e
  obtain ⟨its, rv, p, _⟩ := I.tuple hs
  rw [Vals.ref1 r]
  exact min_rawT (I.ok.hd hc) p rv.ints hl fun h' tk M t' hk h1 h2 => ⟨.int _, H, I.kept hk, ⟨_, rfl⟩, by rw [min_uniq h1 h2]; exact q⟩
/-- by one int -/
def oN1 (f : Lv → Option Dat) : OpN := fun _ m xs Q => match xs with
  | [x] => match f x with
    | some d => Q d m
    | none => False
  | _ => False
theorem oN1.mono {f} : MonoN (oN1 f) := fun env m xs Q Q' i => by
  unfold oN1
  split
  · split <;> first | exact i _ _ | exact id
  · exact id
def fAbs : Lv → Option Dat
  | .f (.int i) => some (.int (if i < 0 then -i else i))
  | _ => none
def fInt : Lv → Option Dat
  | .f (.int i) => some (.int i)
  | .f (.bl b) => some (.int (if b = true then 1 else 0))
  | _ => none
theorem call_absD : CallD X C (.builtin "abs") (oN1 fAbs) := by
  refine ⟨oN1.mono, fun pins s σ H xs us Q I r q => ?_⟩
  obtain ⟨B, n, env, m, σ', ls, rfl, ok, la, q⟩ := q
  unfold oN1 at q
  split at q
  · obtain ⟨v, rfl, l1⟩ := la.one
    rename_i x
    cases x with
    | o k => exact q.elim
    | f d =>
      cases d with
      | int i =>
        have l1 : FzN C X.w X.K n v (.int i) := l1
        cases l1
        exact call_abs pins s σ n.H _ us Q I r ⟨i, rfl, q n _ ok.good (.refl _) (.int _)⟩
      | _ => exact q.elim
  · exact q.elim
theorem call_intD : CallD X C (.type "int") (oN1 fInt) := by
  refine ⟨oN1.mono, fun pins s σ H xs us Q I r q => ?_⟩
  obtain ⟨B, n, env, m, σ', ls, rfl, ok, la, q⟩ := q
  unfold oN1 at q
  split at q
  · obtain ⟨v, rfl, l1⟩ := la.one
    rename_i x
    cases x with
    | o k => exact q.elim
    | f d =>
      cases d with
      | int i =>
        have l1 : FzN C X.w X.K n v (.int i) := l1
        cases l1
        exact call_int1 pins s σ n.H _ us Q I r (.inl ⟨i, rfl, q n _ ok.good (.refl _) (.int _)⟩)
      | bl i =>
        have l1 : FzN C X.w X.K n v (.bl i) := l1
        cases l1
        exact call_int1 pins s σ n.H _ us Q I r (.inr ⟨i, rfl, q n _ ok.good (.refl _) (.int _)⟩)
      | _ => exact q.elim
  · exact q.elim
/-- tuple(x), list(x) -/
def oTuple : OpN := fun env m xs Q => match xs with
  | [x] => match seqOf env m x with
    | some ys => Q (.tup ys) m
    | none => False
  | _ => False
theorem call_tupleD : CallD X C (.type "tuple") oTuple := by
  refine ⟨fun env m xs Q Q' i => ?_, fun pins s σ H xs us Q I r q => ?_⟩
  · unfold oTuple
    split
    · split <;> first | exact i _ _ | exact id
    · exact id
  obtain ⟨B, n, env, m, σ', ls, rfl, ok, la, q⟩ := q
  unfold oTuple at q
  split at q
  · obtain ⟨v, rfl, l1⟩ := la.one
    split at q
    · rename_i ys hy
      unfold seqOf at hy
      split at hy
      · rename_i zs hd
        cases hy
        obtain ⟨p, vs, rfl, s1, z1⟩ := lst_ok ok l1 (xs := ys) (by unfold lstOf; rw [hd])
        refine call_tuple_of pins s σ n.H _ us Q I r ⟨p, vs, rfl, .inl ⟨.inl s1, fun l hl => ?_⟩⟩
        obtain ⟨g2, l2⟩ := ok.good.freeze (o := .tup vs) hl
        exact q _ _ g2 l2 (.tup (SqT.of upd_same) (FzAllN.le z1 l2))
      · rename_i zs hd
        cases hy
        obtain ⟨p, vs, rfl, s1, z1⟩ := tup_ok ok l1 (xs := ys) (by unfold tupOf; rw [hd])
        exact call_tuple_of pins s σ n.H _ us Q I r ⟨p, vs, rfl, .inr ⟨s1, q n _ ok.good (.refl _) (now_fz (der_ok ok l1 hd) (by simp) (by simp))⟩⟩
      · cases hy
    · exact q.elim
  · exact q.elim
def nList (da : TD) : TN := fun env m Q => da env m fun x m1 => match seqOf env m1 x with
  | some ys => Q ys m1
  | none => False
theorem dn_list {B : Nw} {a : Expr} {da : TD} {p pos : Pos} (hg : Gl X "list") (hm : X.mg "list" = none) (hv : bootBuiltins "list" = some (.type "list")) (ha : DE X C B a da)
    (he : starEach [a] X.env = (false, eval a X.env) :: starEach [] X.env := by rfl) (hpl : (backTo pos (starEach [] X.env)).any (·.1) = false := by rfl) : DN X C B (.Call (.Name "list" p) [a] [] pos) (nList da) := by
  refine ⟨fun env m Q Q' i h => ha.mono _ _ _ _ (fun x m1 h1 => ?_) h, imp (pe_callTy call_list_of hg hm hv (pa_cons ha.run pa_nil he) (by decide) (by decide) he hpl) ?_⟩
  · split at h1
    · exact i _ _ h1
    · exact h1.elim
  rintro σ H Q ⟨n, env, m, rfl, ok, h⟩
  refine ⟨n, env, m, rfl, ok, ha.mono _ _ _ _ (fun x m1 h1 n1 v g1 l1 lx => ?_) h⟩
  split at h1
  · rename_i ys hy
    obtain ⟨p, vs, rfl, s1, z1⟩ := seq_ok (ok.go g1 l1) lx hy
    exact ⟨p, vs, rfl, s1, fun l hl => h1 n1 l vs g1 l1 hl z1⟩
  · exact h1.elim
/-! ### slices -/
def cutD {α : Type} (xs : List α) (lo hi : Option Int) : List α := (xs.drop (HT.sIx xs.length 0 lo)).take (HT.sIx xs.length xs.length hi - HT.sIx xs.length 0 lo)
abbrev TOd := Env' → Mem → (Option Int → Mem → Prop) → Prop
def lO (C : Ct) (B : Nw) (w : World) (K : PySem.W.Frag) (d : TOd) : TO := fun σ H Q => ∃ n env m, n.H = H ∧ Ok C w K B n env m σ ∧ d env m fun i m' => ∀ n', Good C w K n' m' → n.le n' → Q i n'.H
structure DO (X : Cx) (C : Ct) (B : Nw) (e : Option Expr) (d : TOd) : Prop where
  mono : ∀ env m (Q Q' : Option Int → Mem → Prop), (∀ x m', Q x m' → Q' x m') → d env m Q → d env m Q'
  run : PO X e (lO C B X.w X.K d)
def dNo : TOd := fun _ m Q => Q none m
def dPart (d : TD) : TOd := fun env m Q => d env m fun x m1 => match x with
  | .f (.int i) => Q (some i) m1
  | _ => False
theorem impO {e : Option Expr} {t t' : TO} (h : PO X e t) (i : ∀ σ H Q, t' σ H Q → t σ H Q) : PO X e t' := ⟨fun pins s σ H Q I q => h.run pins s σ H Q I (i σ H Q q)⟩
theorem do_none {B : Nw} : DO X C B none dNo := ⟨fun _ _ _ _ i => i _ _, impO po_none (by
  rintro σ H Q ⟨n, env, m, rfl, ok, h⟩
  exact h n ok.good (.refl _))⟩
theorem do_some {B : Nw} {e : Expr} {d : TD} (h : DE X C B e d) : DO X C B (some e) (dPart d) := by
  refine ⟨fun env m Q Q' i q => h.mono _ _ _ _ (fun x m1 h1 => ?_) q, impO (po_some h.run) ?_⟩
  · cases x with
    | o k => exact h1
    | f y => cases y <;> first | exact i _ _ h1 | exact h1
  rintro σ H Q ⟨n, env, m, rfl, ok, q⟩
  refine ⟨n, env, m, rfl, ok, h.mono _ _ _ _ (fun x m1 h1 n1 v g1 l1 lx => ?_) q⟩
  cases x with
  | o k => exact h1.elim
  | f y =>
    cases y with
    | int i => cases lx; exact ⟨i, rfl, h1 n1 g1 l1⟩
    | _ => exact h1.elim
def dSl (d : TD) (lo hi : TOd) : TD := fun env m Q => d env m fun x m1 => lo env m1 fun a m2 => hi env m2 fun b m3 => match der env m3 x with
  | some (.lst xs) => Q (.f (.lst (cutD xs a b))) m3
  | some (.tup xs) => Q (.f (.tup (cutD xs a b))) m3
  | _ => False
theorem FzAll.cut {w : World} {K : PySem.W.Frag} {n : Nw} {vs : List V} {ds : List Dat} (z : FzAllN C w K n vs ds) (a b : Option Int) : FzAllN C w K n (cutV vs a b) (cutD ds a b) := by
  unfold cutV cutD
  rw [z.length]
  exact (z.drop _).take _
theorem cut_whole {w : World} {K : PySem.W.Frag} {n : Nw} {vs : List V} {ds : List Dat} (z : FzAllN C w K n vs ds) {a b : Option Int} (h : HT.sIx vs.length 0 a = 0 ∧ HT.sIx vs.length vs.length b = vs.length) : cutD ds a b = ds := by
  unfold cutD
  rw [← z.length, h.1, h.2]
  simp [z.length]
def rSlD (C : Ct) (w : World) (K : PySem.W.Frag) : V → Option Int → Option Int → Hp → VK → Prop := fun v a b H Q => (∃ p vs, v = .ref p ∧ Rd H p (.lst vs) ∧ ∀ q, H q = none → Q (.ref q) (upd H q (.lst (cutV vs a b)))) ∨ rSlA K v a b H Q
theorem sl_D : SlR X (rSlD C X.w X.K) := SlR.or (r := fun v a b H Q => ∃ p vs, v = .ref p ∧ Rd H p (.lst vs) ∧ ∀ q, H q = none → Q (.ref q) (upd H q (.lst (cutV vs a b))))
  (fun pins s σ H x v vl vu lo hi sl Q I rx hs pl pu ⟨p, vs, e, hr, h⟩ => sl_list pins s σ H x v vl vu lo hi sl Q I rx hs pl pu ⟨p, vs, e, .inl hr, h⟩) sl_tupA
theorem de_sl {B : Nw} {e : Expr} {lo hi : Option Expr} {d : TD} {dl dh : TOd} {p2 pos : Pos} (he : DE X C B e d) (hl : DO X C B lo dl) (hh : DO X C B hi dh) : DE X C B (.Subscript e (.Slice lo hi none p2) pos) (dSl d dl dh) := by
  refine ⟨fun env m Q Q' i q => he.mono _ _ _ _ (fun x m1 h1 => hl.mono _ _ _ _ (fun a m2 h2 => hh.mono _ _ _ _ (fun b m3 h3 => ?_) h2) h1) q, imp (pe_slice (sl_D (C := C)) he.run hl.run hh.run) ?_⟩
  · split at h3 <;> first | exact i _ _ h3 | exact h3.elim
  rintro σ H Q ⟨n, env, m, rfl, ok, q⟩
  refine ⟨n, env, m, rfl, ok, he.mono _ _ _ _ (fun x m1 h1 n1 v g1 l1 lx => ?_) q⟩
  refine ⟨n1, env, m1, rfl, ok.go g1 l1, hl.mono _ _ _ _ (fun a m2 h2 n2 g2 l2 => ?_) h1⟩
  have l12 := l1.trans l2
  refine ⟨n2, env, m2, rfl, ok.go g2 l12, hh.mono _ _ _ _ (fun b m3 h3 n3 g3 l3 => ?_) h2⟩
  have l13 := l12.trans l3
  have ok3 := ok.go g3 l13
  have lx3 := (lx.le l2).le l3
  split at h3
  · rename_i xs hd
    obtain ⟨p, vs, rfl, s1, z1⟩ := lst_ok ok3 lx3 (xs := xs) (by unfold lstOf; rw [hd])
    refine .inl ⟨p, vs, rfl, s1, fun q hq => ?_⟩
    obtain ⟨g4, l4⟩ := g3.freeze (o := .lst (cutV vs a b)) hq
    exact h3 _ _ g4 (l13.trans l4) (.lst (Rd.of upd_same) (FzAllN.le (z1.cut a b) l4))
  · rename_i xs hd
    obtain ⟨p, vs, rfl, s1, z1⟩ := tup_ok ok3 lx3 (xs := xs) (by unfold tupOf; rw [hd])
    refine .inr ⟨p, vs, rfl, s1, fun hw => ?_, fun hw q hq => ?_⟩
    · rw [cut_whole z1 hw] at h3
      exact h3 n3 _ g3 l13 (now_fz (der_ok ok3 lx3 hd) (by simp) (by simp))
    · obtain ⟨g4, l4⟩ := g3.freeze (o := .tup (cutV vs a b)) hq
      exact h3 _ _ g4 (l13.trans l4) (.tup (SqT.of upd_same) (FzAllN.le (z1.cut a b) l4))
  · exact h3.elim
end
end DL

set_option maxHeartbeats 1000000
namespace DL
open PySem PySem.Spec PyProof.Rows L2

/-! ### isinstance -/
structure CtOk (C : Ct) (K : PySem.W.Frag) : Prop where
  ii : ∀ c d b, C.isaI c d = some b → PySem.W.kitOne K (.ref (C.addr c)) (.ref (C.addr d)) = some b
  ib : ∀ c T b, C.isaB c T = some b → PySem.W.kitOne K (.ref (C.addr c)) (.type T) = some b
  it : ∀ T d b, C.isaT T d = some b → PySem.W.kitOne K (.type T) (.ref (C.addr d)) = some b
  cls : ∀ c, C.own c = true → Cls K (C.addr c) ∧ PySem.W.findIn K (.ref (C.addr c)) "__class__" = some (some (.builtin "object.__class__")) ∧ PySem.W.specialIn K (.builtin "object.__class__") "__get__" = some (some (.builtin "getset_descriptor.__get__")) ∧
    PySem.W.takesIn K (.builtin "object.__class__") = some true ∧ PySem.W.mroIn K (C.addr c) (.type "object") = some true
def tyN : Dat → Option String
  | .non => some "NoneType"
  | .bl _ => some "bool"
  | .int _ => some "int"
  | .str _ => some "str"
  | .tup _ => some "tuple"
  | .lst _ => some "list"
  | .dct _ => some "dict"
  | _ => none
def isT (t T : String) : Option Bool := if T = "int" then some (t = "int" || t = "bool") else if T = "bool" ∨ T = "str" ∨ T = "tuple" ∨ T = "list" ∨ T = "dict" then some (t == T) else none
def isa1 (C : Ct) (x c : Dat) : Option Bool := match c with
  | .ty T => match tyN x with
    | some t => isT t T
    | none => match x with
      | .ins c _ => if C.own c = true then C.isaB c T else none
      | _ => none
  | .cls d => match tyN x with
    | some t => C.isaT t d
    | none => match x with
      | .ins c _ => if C.own c = true then C.isaI c d else none
      | _ => none
  | _ => none
def isaL (C : Ct) (x : Dat) : List Dat → Option Bool
  | [] => some false
  | c :: r => match isa1 C x c with
    | some true => some true
    | some false => isaL C x r
    | none => none
def isaD (C : Ct) (x c : Dat) : Option Bool := match c with
  | .tup cs => if cs.isEmpty = true then none else isaL C x cs
  | c => isa1 C x c
def derI (env : Env') (m : Mem) (x : Lv) : Option Dat := match x with
  | .f (.obj k) => match m[k]? with
    | some (.ins c xs) => some (.ins c xs)
    | _ => der env m x
  | .o i => match env[i]? with
    | some (some (.own (.ins c xs))) => some (.ins c xs)
    | _ => der env m x
  | _ => der env m x
def oIsi (C : Ct) : OpN := fun env m xs Q => match xs with
  | [x, .f c] => match derI env m x with
    | some d => match isaD C d c with
      | some b => Q (.bl b) m
      | none => False
    | none => False
  | _ => False
theorem oIsi.mono {C : Ct} : MonoN (oIsi C) := fun env m xs Q Q' i => by
  unfold oIsi
  split
  · split
    · split <;> first | exact i _ _ | exact id
    · exact id
  · exact id
theorem isT_ok {K : PySem.W.Frag} {d : Dat} {t T : String} {b : Bool} (h : tyN d = some t) (e : isT t T = some b) : PySem.W.kitOne K (.type t) (.type T) = some b := by
  have ht : t = "NoneType" ∨ t = "bool" ∨ t = "int" ∨ t = "str" ∨ t = "tuple" ∨ t = "list" ∨ t = "dict" := by
    cases d <;> first | cases h; simp | cases h
  have hT : T = "int" ∨ T = "bool" ∨ T = "str" ∨ T = "tuple" ∨ T = "list" ∨ T = "dict" := by
    unfold isT at e
    split at e
    · exact .inl ‹_›
    · split at e
      · exact .inr ‹_›
      · cases e
  apply kit_ty
  rcases ht with rfl | rfl | rfl | rfl | rfl | rfl | rfl <;> rcases hT with rfl | rfl | rfl | rfl | rfl | rfl <;> (rw [← e]; decide +kernel)
section
variable {X : Cx} {C : Ct}
/-- the type of a value as the library asks for it -/
theorem kit_dat {B n : Nw} {env : Env'} {m : Mem} {σ σ' : L2.St} {pins : List (Addr × Obj)} {s : Shared} {v : V} {u : Value} {x : Lv} {d : Dat} (T : CtOk C X.K) (I : Inv X pins σ n.H s) (ok : Ok C X.w X.K B n env m σ') (lx : LvOk C X.w X.K n env σ' v x)
    (hd : derI env m x = some d) (rx : RelV v u) : (∀ t, tyN d = some t → ∃ P, PySem.W.KitX X.K u (.type t) P ∧ P s.heap ∧ u ≠ .builtin "__main__.__loader__#opaque") ∧
      (∀ c xs, d = .ins c xs → C.own c = true → ∃ P, PySem.W.KitX X.K u (.ref (C.addr c)) P ∧ P s.heap ∧ u ≠ .builtin "__main__.__loader__#opaque") := by
  have viaIns : ∀ {a : Addr} {c : Nat} {dx : Addr} {fs : List (Str × V)}, C.own c = true → v = .ref a → n.H a = some (.ins (C.addr c) dx fs) → ∃ P, PySem.W.KitX X.K u (.ref (C.addr c)) P ∧ P s.heap ∧ u ≠ .builtin "__main__.__loader__#opaque" := by
    intro a c dx fs ho hv he
    subst hv
    obtain ⟨c1, c2, c3, c4, c5⟩ := T.cls c ho
    exact kit_of I rx (.base (.ins he c1 c2 c3 c4 c5))
  have viaNow : ∀ {d : Dat}, Nowv C X.w X.K n v d → ∀ t, tyN d = some t → ∃ P, PySem.W.KitX X.K u (.type t) P ∧ P s.heap ∧ u ≠ .builtin "__main__.__loader__#opaque" := by
    intro d hz t ht
    cases hz with
    | lst h1 h2 => cases ht; exact kit_of I rx (.base (.lst h1))
    | @dct a es kvs h1 h2 h3 =>
      cases ht
      cases (show u = Value.ref a from rx)
      have q := I.hok a _ h1
      obtain ⟨⟨o, ep, e1, e2, _⟩, _⟩ := (show _ ∧ _ from q)
      exact ⟨_, PySem.W.kitx_dict, ⟨o, e1, e2.1⟩, fun z => nomatch z⟩
    | fz z =>
      cases z with
      | non => cases ht; exact kit_of I rx (.base .non)
      | bl b => cases ht; exact kit_of I rx (.base (.bl b))
      | int i => cases ht; exact kit_of I rx (.base (.int i))
      | str y => cases ht; exact kit_of I rx (.base (.str y))
      | tup h1 h2 =>
        cases ht
        rename_i a vs ds
        cases (show u = Value.ref a from rx)
        obtain ⟨its, r, ⟨o, e1, e2, _⟩, _⟩ := I.tuple (SqT.keep ok.good.sub h1)
        exact ⟨_, PySem.W.kitx_tuple, ⟨o, e1, e2⟩, fun z => nomatch z⟩
      | lst h1 h2 =>
        cases ht
        rename_i a vs ds
        cases (show u = Value.ref a from rx)
        obtain ⟨_, its, k, _, _, e1⟩ := Rd.lstM I (rdUp ok.good h1)
        exact ⟨_, PySem.W.kitx_list, ⟨_, e1, rfl⟩, fun z => nomatch z⟩
      | @dct a es kvs h1 h2 h3 =>
        cases ht
        cases (show u = Value.ref a from rx)
        have q := I.hok a _ (ok.good.sub _ _ h1)
        obtain ⟨⟨o, ep, e1, e2, _⟩, _⟩ := (show _ ∧ _ from q)
        exact ⟨_, PySem.W.kitx_dict, ⟨o, e1, e2.1⟩, fun z => nomatch z⟩
      | _ => cases ht
  have viaDer : der env m x = some d → (∀ t, tyN d = some t → ∃ P, PySem.W.KitX X.K u (.type t) P ∧ P s.heap ∧ u ≠ .builtin "__main__.__loader__#opaque") ∧
      (∀ c xs, d = .ins c xs → C.own c = true → ∃ P, PySem.W.KitX X.K u (.ref (C.addr c)) P ∧ P s.heap ∧ u ≠ .builtin "__main__.__loader__#opaque") := by
    intro hd
    have hz := der_ok ok lx hd
    refine ⟨viaNow hz, fun c xs e ho => ?_⟩
    subst e
    cases hz with
    | fz z => cases z with | ins h1 h2 h3 => exact viaIns ho rfl (ok.good.sub _ _ h1)
  cases x with
  | f y =>
    by_cases hy : ∃ k, y = .obj k
    · obtain ⟨k, rfl⟩ := hy
      have hd' : (match m[k]? with
        | some (.ins c xs) => some (.ins c xs)
        | _ => der env m (.f (.obj k))) = some d := hd
      split at hd'
      · rename_i c xs hk
        cases hd'
        have lx : FzN C X.w X.K n v (.obj k) := lx
        cases lx with
        | obj ha =>
          obtain ⟨⟨dx, vs, e, _⟩, _⟩ := ok.good.at_ k _ _ hk ha
          exact ⟨(fun t ht => by cases ht), fun c' xs' e' ho => by cases e'; exact viaIns ho rfl e⟩
      · exact viaDer hd'
    · refine viaDer ?_
      cases y with
      | obj k => exact absurd ⟨k, rfl⟩ hy
      | _ => exact hd
  | o i =>
    have hd' : (match env[i]? with
      | some (some (.own (.ins c xs))) => some (.ins c xs)
      | _ => der env m (.o i)) = some d := hd
    split at hd'
    · rename_i c xs hk
      cases hd'
      obtain ⟨h1, _⟩ := lx
      obtain ⟨a, h2, h3⟩ := ok.env.own i _ hk
      rw [h1] at h2; cases h2
      obtain ⟨dx, vs, e, _⟩ := h3.ok
      exact ⟨(fun t ht => by cases ht), fun c' xs' e' ho => by cases e'; exact viaIns ho rfl e⟩
    · exact viaDer hd'
/-- a class as a value -/
def clV (C : Ct) : Dat → Option Value
  | .ty T => some (.type T)
  | .cls d => some (.ref (C.addr d))
  | _ => none
theorem isa1_ok {K : PySem.W.Frag} {d c : Dat} {b : Bool} (T : CtOk C K) (h : isa1 C d c = some b) : ∃ u, clV C c = some u ∧ ((∃ t, tyN d = some t ∧ PySem.W.kitOne K (.type t) u = some b) ∨ ∃ k xs, d = .ins k xs ∧ C.own k = true ∧ PySem.W.kitOne K (.ref (C.addr k)) u = some b) := by
  unfold isa1 at h
  split at h
  · split at h
    · rename_i t ht
      exact ⟨_, rfl, .inl ⟨t, ht, isT_ok ht h⟩⟩
    · split at h
      · rename_i k xs _
        split at h
        · exact ⟨_, rfl, .inr ⟨k, xs, rfl, ‹_›, T.ib _ _ _ h⟩⟩
        · cases h
      · cases h
  · split at h
    · rename_i t ht
      exact ⟨_, rfl, .inl ⟨t, ht, T.it _ _ _ h⟩⟩
    · split at h
      · rename_i k xs _
        split at h
        · exact ⟨_, rfl, .inr ⟨k, xs, rfl, ‹_›, T.ii _ _ _ h⟩⟩
        · cases h
      · cases h
  · cases h
theorem clV_fz {w : World} {K : PySem.W.Frag} {n : Nw} {v : V} {c : Dat} {u x : Value} (h : FzN C w K n v c) (e : clV C c = some u) (r : RelV v x) : x = u := by
  cases c with
  | ty T => cases h; cases e; exact r
  | cls d => cases h; cases e; exact r
  | _ => cases e
theorem isaL_ok {K : PySem.W.Frag} {d : Dat} (T : CtOk C K) {t : Value} (ht : (∃ s, tyN d = some s ∧ t = .type s) ∨ ∃ k xs, d = .ins k xs ∧ t = .ref (C.addr k)) : ∀ {cs : List Dat} {b : Bool}, isaL C d cs = some b → ∀ {w : World} {n : Nw} {vs : List V} {us : List Value}, FzAllN C w K n vs cs → Vals vs us → PySem.W.kitAny K t us = some b
  | [], b, h, w, n, vs, us, hz, r => by cases hz; cases r; exact h
  | c :: cs, b, h, w, n, vs, us, hz, r => by
    cases hz with
    | cons z1 z2 =>
      cases r with
      | cons r1 r2 =>
        unfold isaL at h
        rename_i v0 vs0 u0 us0
        have key : ∀ {b'}, isa1 C d c = some b' → PySem.W.kitOne K t u0 = some b' := by
          intro b' h'
          obtain ⟨u, e1, e2⟩ := isa1_ok T h'
          have := clV_fz z1 e1 r1
          subst this
          rcases ht with ⟨s, h1, rfl⟩ | ⟨k, xs, rfl, rfl⟩
          · rcases e2 with ⟨s', h2, h3⟩ | ⟨k, xs, rfl, _, _⟩
            · rw [h1] at h2; cases h2; exact h3
            · cases h1
          · rcases e2 with ⟨s', h2, h3⟩ | ⟨k', xs', h2, _, h3⟩
            · cases h2
            · cases h2; exact h3
        unfold PySem.W.kitAny
        split at h
        · rename_i h1
          cases h
          rw [key h1]
        · rename_i h1
          rw [key h1]
          exact isaL_ok T ht h z2 r2
        · cases h
theorem call_isiD (T : CtOk C X.K) : CallD X C (.builtin "isinstance") (oIsi C) := by
  refine ⟨oIsi.mono, fun pins s σ H xs us Q I r q => ?_⟩
  obtain ⟨B, n, env, m, σ', ls, rfl, ok, la, q⟩ := q
  unfold oIsi at q
  split at q
  · rename_i x c
    obtain ⟨v1, v2, rfl, l1, l2⟩ := la.two
    have l2 : FzN C X.w X.K n v2 c := l2
    split at q
    · rename_i d hd
      obtain ⟨u1, u2, rfl, r1, r2⟩ := vals2 r
      obtain ⟨k1, k2⟩ := kit_dat T I ok l1 hd r1
      split at q
      · rename_i b hb
        have fin : ∀ tk, EP X pins σ Q (.bool b) { s with toks := tk } := fun tk => ⟨.bl b, n.H, I.tok tk, rfl, q n _ ok.good (.refl _) (.bl _)⟩
        unfold isaD at hb
        split at hb
        · rename_i cs _
          split at hb
          · cases hb
          rename_i hne
          cases l2 with
          | tup h1 h2 =>
            rename_i a vs
            cases (show u2 = Value.ref a from r2)
            obtain ⟨its, rv, ⟨o, e1, e2, nn, e3⟩, _⟩ := I.tuple (SqT.keep ok.good.sub h1)
            obtain ⟨oc, od, dt, sl⟩ := o
            simp only at e2 e3
            subst e2 e3
            have go : ∀ {t : Value} {P : Heap → Prop}, ((∃ s, tyN d = some s ∧ t = .type s) ∨ ∃ k xs, d = .ins k xs ∧ t = .ref (C.addr k)) → PySem.W.KitX X.K u1 t P → P s.heap → u1 ≠ .builtin "__main__.__loader__#opaque" → _ := fun {t P} ht Z p hx =>
              PySem.W.kia_tup (E := X.xe) (A := X.A) (prog := X.prog) (w := X.w) Z I.kIn p e1 (isaL_ok T ht hb h2 rv) hx fin
            cases hN : tyN d with
            | some t =>
              obtain ⟨P, Z, p, hx⟩ := k1 t hN
              exact go (.inl ⟨t, hN, rfl⟩) Z p hx
            | none =>
              by_cases hi : ∃ k xs, d = .ins k xs ∧ C.own k = true
              · obtain ⟨k, xs, e, ho⟩ := hi
                obtain ⟨P, Z, p, hx⟩ := k2 k xs e ho
                exact go (.inr ⟨k, xs, e, rfl⟩) Z p hx
              · exfalso
                cases cs with
                | nil => exact hne rfl
                | cons c1 cs1 =>
                  unfold isaL at hb
                  cases h1 : isa1 C d c1 with
                  | none => rw [h1] at hb; cases hb
                  | some b' =>
                    obtain ⟨u, _, e2⟩ := isa1_ok T h1
                    rcases e2 with ⟨t, h3, _⟩ | ⟨k, xs, h3, h4, _⟩
                    · rw [hN] at h3; cases h3
                    · exact hi ⟨k, xs, h3, h4⟩
        · obtain ⟨u, e1, e2⟩ := isa1_ok T hb
          have := clV_fz l2 e1 r2
          subst this
          rcases e2 with ⟨t, h3, h4⟩ | ⟨k, xs, h3, h5, h4⟩
          · obtain ⟨P, Z, p, hx⟩ := k1 t h3
            exact PySem.W.kia_one Z I.kIn p h4 hx fin
          · obtain ⟨P, Z, p, hx⟩ := k2 k xs h3 h5
            exact PySem.W.kia_one Z I.kIn p h4 hx fin
      · exact q.elim
    · exact q.elim
  · exact q.elim
end
end DL

set_option maxHeartbeats 1000000
namespace DL
open PySem PySem.Spec PyProof.Rows L2

/-! ### objects that change -/
def moOf (env : Env') (m : Mem) : Lv → Option Mo
  | .o i => match env[i]? with
    | some (some (.own x)) => some x
    | _ => none
  | .f (.obj k) => m[k]?
  | _ => none
def setE (x : Lv) (z : Mo) (env : Env') : Env' := match x with
  | .o i => env.set i (some (.own z))
  | _ => env
def setM (x : Lv) (z : Mo) (m : Mem) : Mem := match x with
  | .f (.obj k) => m.set k z
  | _ => m
section
variable {C : Ct} {w : World} {K : PySem.W.Frag} {B n : Nw} {m : Mem} {env : Env'} {σ : L2.St}
theorem mut_ok {v : V} {x : Lv} {y : Mo} (ok : Ok C w K B n env m σ) (h : LvOk C w K n env σ v x) (e : moOf env m x = some y) : ∃ a, v = .ref a ∧ MoOk C w K n a y ∧
    ∀ o z, MoOk C w K ⟨n.G, n.al, upd n.H a o⟩ a z → Ok C w K B ⟨n.G, n.al, upd n.H a o⟩ (setE x z env) (setM x z m) σ := by
  cases x with
  | o i =>
    obtain ⟨h1, y', h2⟩ := h
    have e' : (match env[i]? with
      | some (some (.own x)) => some x
      | _ => none) = some y := e
    rw [h2] at e'
    cases e'
    obtain ⟨a, h3, h4⟩ := ok.env.own i _ h2
    rw [h1] at h3; cases h3
    exact ⟨a, rfl, h4.ok, fun o z hz => ok.chgO h2 h1 hz⟩
  | f d =>
    cases d with
    | obj k =>
      have h : FzN C w K n v (.obj k) := h
      cases h with
      | obj hk =>
        rename_i a
        have hx : m[k]? = some y := e
        refine ⟨a, rfl, (ok.good.at_ k y a hx hk).1, fun o z hz => ?_⟩
        obtain ⟨g2, l2⟩ := ok.good.chgM hk hx hz
        exact ok.go g2 l2
    | _ => cases e
theorem sub_upd {n : Nw} {a : Addr} {o : HO} : n.sub ⟨n.G, n.al, upd n.H a o⟩ := ⟨fun _ _ h => h, List.prefix_rfl⟩
end
section
variable {X : Cx} {C : Ct} {B : Nw} {e o i : Expr} {d de di : TD} {pos apos cpos : Pos}
/-- xs.append(e) -/
def sApp (d de : TD) : TSd := fun D env m => d env m fun x m1 => match moOf env m1 x with
  | some (.lst _) => de env m1 fun y m2 => match moOf env m2 x, y with
    | some (.lst xs), .f z => xs.length < sizeLine ∧ D.nx (setE x (.lst (xs ++ [z])) env) (setM x (.lst (xs ++ [z])) m2)
    | _, _ => False
  | _ => False
theorem sApp.mono (hd : MonoD d) (he : MonoD de) : MonoS (sApp d de) := fun env m D D' l h => hd _ _ _ _ (fun x m1 h1 => by
  try dsimp only at h1 ⊢
  split at h1
  · refine he _ _ _ _ (fun y m2 h2 => ?_) h1
    try dsimp only at h2 ⊢
    split at h2
    · exact ⟨h2.1, l.nx _ _ h2.2⟩
    · exact h2
  · exact h1) h
theorem tyL {K : PySem.W.Frag} {H : Hp} {a : Addr} {vs : List V} (h : H a = some (.lst vs)) : tyV K "list" (.ref a) H := .inl ⟨rfl, vs, .inl (.inl h)⟩
theorem ds_app (ho : DE X C B o d) (he : DE X C B e de) (hbase : attributeBase o "append" X.env (eval o X.env) = eval o X.env := by rfl)
    (hfew : ((backTo cpos (starEach [e] X.env)).all (fun x => !x.1) && (backToKw cpos (keywordEach [] X.env)).all (fun x => x.1.isSome)
      && decide (([e]).length + ([] : List Keyword).length + (if ([] : List Keyword).isEmpty then 0 else 1) < 30)) = true := by rfl)
    (hline : (apos.endLine == cpos.line) = true := by rfl) (hs : starEach [e] X.env = (false, eval e X.env) :: starEach [] X.env := by rfl) (hplain : (backTo cpos (starEach [] X.env)).any (·.1) = false := by rfl)
    (hsw : swapsWith (.Call (.Attribute o "append" apos) [e] [] cpos) none pos.line X.env = pure false := by rfl) : DS X C B (.Expr (.Call (.Attribute o "append" apos) [e] [] cpos) pos) (sApp d de) := by
  refine ⟨sApp.mono ho.mono he.mono, impS (ps_expr (pe_bm PySem.F.plainAttrs_list PySem.F.slot_list_append PySem.F.type_list_append mt_append ho.run (pa_cons he.run pa_nil hs) hbase hfew hline hs hplain) hsw) ?_⟩
  rintro D σ H ⟨n, env, m, rfl, ok, q⟩
  refine ⟨n, env, m, rfl, ok, ho.mono _ _ _ _ (fun x m1 h1 n1 v g1 l1 lx => ?_) q⟩
  have ok1 := ok.go g1 l1
  split at h1
  · rename_i xs0 hx0
    obtain ⟨a0, rfl, ⟨vs0, e0, _⟩, _⟩ := mut_ok ok1 lx hx0
    refine ⟨tyL e0, n1, env, m1, rfl, ok1, he.mono _ _ _ _ (fun y m2 h2 n2 u g2 l2 ly => ?_) h1⟩
    have ok2 := ok1.go g2 l2
    split at h2
    · rename_i xs z hx
      obtain ⟨a, ea, ⟨vs, e1, z1⟩, hset⟩ := mut_ok ok2 (lx.le l2) hx
      cases ea
      refine ⟨a0, vs, u, rfl, rfl, e1, by rw [z1.length]; exact h2.1, ?_⟩
      have ly : FzN C X.w X.K n2 u z := ly
      have ok3 := hset (.lst (vs ++ [u])) (.lst (xs ++ [z])) ⟨vs ++ [u], upd_same, FzAll.append (FzAll.keep (fun _ _ e => e) (fun _ _ e => e) z1) (.cons (Fz.keep (fun _ _ e => e) (fun _ _ e => e) ly) .nil)⟩
      exact h2.2 ⟨n2.G, n2.al, upd n2.H a0 (.lst (vs ++ [u]))⟩ σ ((l1.trans l2).sub.trans sub_upd) ok3
    · exact h2.elim
  · exact h1.elim
/-- xs.extend(e), e a list -/
theorem mt_extendR : MtR X "list.extend" (fun x vs H Q => ∃ l b xs zs, x = .ref l ∧ vs = [.ref b] ∧ H l = some (.lst xs) ∧ Rd H b (.lst zs) ∧ xs.length + zs.length ≤ sizeLine ∧ Q .non (upd H l (.lst (xs ++ zs)))) := by
  intro pins s σ H x vs v us Q I rx rv h
  obtain ⟨l, b, xs, zs, rfl, rfl, hH, hB, hz, q⟩ := h
  cases rx
  obtain ⟨u, rfl, ru⟩ := rv.one
  cases ru
  obtain ⟨z, its, n, r, hl, e⟩ := I.lstM hH
  obtain ⟨z2, its2, n2, r2, hl2, e2⟩ := Rd.lstM I hB
  have hsz : its.toArray.size + its2.toArray.size ≤ sizeLine := by rw [List.size_toArray, List.size_toArray]; omega
  have hlong : ¬ (!its.toArray.isEmpty && Builtin.List.listTooLong (its.toArray.size + its2.toArray.size)) = true := by
    rw [notLongL hsz, Bool.and_false]
    exact Bool.false_ne_true
  refine call_meets F.slot_list_extend ⟨_, e, rfl⟩ F.entry_list_extend (F.args_list_extend_2 _ _)
    (AutoSeq1.list_extend_list_list_0 l its.toArray n b its2.toArray n2 hlong (by rw [List.size_toArray]; omega) (by omega)) ⟨e, e2, ?_⟩
  refine ⟨.non, _, I.lset (its' := its ++ its2) hH e (by simp) (r.append r2) ?_, rfl, q⟩
  rw [List.length_append]
  omega
def sExt (d de : TD) : TSd := fun D env m => d env m fun x m1 => match moOf env m1 x with
  | some (.lst _) => de env m1 fun y m2 => match moOf env m2 x, lstOf env m2 y with
    | some (.lst xs), some ys => xs.length + ys.length ≤ sizeLine ∧ D.nx (setE x (.lst (xs ++ ys)) env) (setM x (.lst (xs ++ ys)) m2)
    | _, _ => False
  | _ => False
theorem sExt.mono (hd : MonoD d) (he : MonoD de) : MonoS (sExt d de) := fun env m D D' l h => hd _ _ _ _ (fun x m1 h1 => by
  try dsimp only at h1 ⊢
  split at h1
  · refine he _ _ _ _ (fun y m2 h2 => ?_) h1
    try dsimp only at h2 ⊢
    split at h2
    · exact ⟨h2.1, l.nx _ _ h2.2⟩
    · exact h2
  · exact h1) h
theorem ds_ext (ho : DE X C B o d) (he : DE X C B e de) (hbase : attributeBase o "extend" X.env (eval o X.env) = eval o X.env := by rfl)
    (hfew : ((backTo cpos (starEach [e] X.env)).all (fun x => !x.1) && (backToKw cpos (keywordEach [] X.env)).all (fun x => x.1.isSome)
      && decide (([e]).length + ([] : List Keyword).length + (if ([] : List Keyword).isEmpty then 0 else 1) < 30)) = true := by rfl)
    (hline : (apos.endLine == cpos.line) = true := by rfl) (hs : starEach [e] X.env = (false, eval e X.env) :: starEach [] X.env := by rfl) (hplain : (backTo cpos (starEach [] X.env)).any (·.1) = false := by rfl)
    (hsw : swapsWith (.Call (.Attribute o "extend" apos) [e] [] cpos) none pos.line X.env = pure false := by rfl) : DS X C B (.Expr (.Call (.Attribute o "extend" apos) [e] [] cpos) pos) (sExt d de) := by
  refine ⟨sExt.mono ho.mono he.mono, impS (ps_expr (pe_bm PySem.F.plainAttrs_list PySem.F.slot_list_extend PySem.F.type_list_extend mt_extendR ho.run (pa_cons he.run pa_nil hs) hbase hfew hline hs hplain) hsw) ?_⟩
  rintro D σ H ⟨n, env, m, rfl, ok, q⟩
  refine ⟨n, env, m, rfl, ok, ho.mono _ _ _ _ (fun x m1 h1 n1 v g1 l1 lx => ?_) q⟩
  have ok1 := ok.go g1 l1
  split at h1
  · rename_i xs0 hx0
    obtain ⟨a0, rfl, ⟨vs0, e0, _⟩, _⟩ := mut_ok ok1 lx hx0
    refine ⟨tyL e0, n1, env, m1, rfl, ok1, he.mono _ _ _ _ (fun y m2 h2 n2 u g2 l2 ly => ?_) h1⟩
    have ok2 := ok1.go g2 l2
    split at h2
    · rename_i xs ys hx hy
      obtain ⟨a, ea, ⟨vs, e1, z1⟩, hset⟩ := mut_ok ok2 (lx.le l2) hx
      cases ea
      obtain ⟨b, us, rfl, r2, z2⟩ := lst_ok ok2 ly hy
      refine ⟨a0, b, vs, us, rfl, rfl, e1, r2, by rw [z1.length, z2.length]; exact h2.1, ?_⟩
      have ok3 := hset (.lst (vs ++ us)) (.lst (xs ++ ys)) ⟨vs ++ us, upd_same, FzAll.append (FzAll.keep (fun _ _ e => e) (fun _ _ e => e) z1) (FzAll.keep (fun _ _ e => e) (fun _ _ e => e) z2)⟩
      exact h2.2 ⟨n2.G, n2.al, upd n2.H a0 (.lst (vs ++ us))⟩ σ ((l1.trans l2).sub.trans sub_upd) ok3
    · exact h2.elim
  · exact h1.elim
/-- xs.pop(0), the item is dropped -/
def sPop0 (d : TD) : TSd := fun D env m => d env m fun x m1 => match moOf env m1 x with
  | some (.lst (_ :: xs)) => D.nx (setE x (.lst xs) env) (setM x (.lst xs) m1)
  | _ => False
theorem ds_pop0 {j c} (ho : DE X C B o d) (hbase : attributeBase o "pop" X.env (eval o X.env) = eval o X.env := by rfl)
    (hfew : ((backTo cpos (starEach [.Constant (.int 0) j c] X.env)).all (fun x => !x.1) && (backToKw cpos (keywordEach [] X.env)).all (fun x => x.1.isSome)
      && decide (([Expr.Constant (.int 0) j c]).length + ([] : List Keyword).length + (if ([] : List Keyword).isEmpty then 0 else 1) < 30)) = true := by rfl)
    (hline : (apos.endLine == cpos.line) = true := by rfl) (hs : starEach [.Constant (.int 0) j c] X.env = (false, eval (.Constant (.int 0) j c) X.env) :: starEach [] X.env := by rfl) (hplain : (backTo cpos (starEach [] X.env)).any (·.1) = false := by rfl)
    (hsw : swapsWith (.Call (.Attribute o "pop" apos) [.Constant (.int 0) j c] [] cpos) none pos.line X.env = pure false := by rfl) : DS X C B (.Expr (.Call (.Attribute o "pop" apos) [.Constant (.int 0) j c] [] cpos) pos) (sPop0 d) := by
  refine ⟨fun env m D D' l h => ho.mono _ _ _ _ (fun x m1 h1 => ?_) h, impS (ps_expr (pe_bm PySem.F.plainAttrs_list PySem.F.slot_list_pop PySem.F.type_list_pop mt_popAt ho.run (pa_cons pe_int pa_nil hs) hbase hfew hline hs hplain) hsw) ?_⟩
  · try dsimp only at h1 ⊢
    split at h1
    · exact l.nx _ _ h1
    · exact h1
  rintro D σ H ⟨n, env, m, rfl, ok, q⟩
  refine ⟨n, env, m, rfl, ok, ho.mono _ _ _ _ (fun x m1 h1 n1 v g1 l1 lx => ?_) q⟩
  have ok1 := ok.go g1 l1
  split at h1
  · rename_i y xs hx0
    obtain ⟨a, rfl, ⟨vs, e1, z1⟩, hset⟩ := mut_ok ok1 lx hx0
    refine ⟨tyL e1, ?_⟩
    cases z1 with
    | cons c1 c2 =>
      rename_i u us
      refine ⟨a, u :: us, 0, 0, u, rfl, rfl, e1, by decide, by decide, ?_, rfl, ?_⟩
      · rw [seqIndex_of (by decide) (by simp)]
        rfl
      · have ok3 := hset (.lst us) (.lst xs) ⟨us, upd_same, FzAll.keep (fun _ _ e => e) (fun _ _ e => e) c2⟩
        exact h1 ⟨n1.G, n1.al, upd n1.H a (.lst us)⟩ σ (l1.sub.trans sub_upd) ok3
  · exact h1.elim
/-- o[i] = e, o a list -/
def sSetI (de d di : TD) : TSd := fun D env m => de env m fun y m1 => d env m1 fun x m2 => di env m2 fun i m3 => match moOf env m3 x, i, y with
  | some (.lst xs), .f (.int k), .f z => match ixN xs.length k with
    | some j => D.nx (setE x (.lst (xs.set j z)) env) (setM x (.lst (xs.set j z)) m3)
    | none => False
  | _, _, _ => False
theorem sSetI.mono (he : MonoD de) (hd : MonoD d) (hi : MonoD di) : MonoS (sSetI de d di) := fun env m D D' l h => he _ _ _ _ (fun y m1 h1 => hd _ _ _ _ (fun x m2 h2 => hi _ _ _ _ (fun i m3 h3 => by
  try dsimp only at h3 ⊢
  split at h3
  · split at h3
    · exact l.nx _ _ h3
    · exact h3
  · exact h3) h2) h1) h
theorem ds_setI {sp : Pos} (he : DE X C B e de) (ho : DE X C B o d) (hi : DE X C B i di)
    (ha : ∀ v, assign (.Subscript o i sp) X.env v = (do
      let ov ← holding [v] (eval o X.env)
      let iv ← holding [v, ov] (eval i X.env)
      standAt sp
      holding [v, ov, iv] (setItem ov iv v)
      release [v, ov, iv] []) := by intro _; rfl) (hs : swapsWithSole [.Subscript o i sp] e pos.line X.env = pure false := by rfl) (hw : swappedStores [.Subscript o i sp] e X.env = pure none := by rfl)
    (h1 : (assignEach [.Subscript o i sp] X.env).map (·.2) = [assign (.Subscript o i sp) X.env] := by rfl) : DS X C B (.Assign [.Subscript o i sp] e pos) (sSetI de d di) := by
  refine ⟨sSetI.mono he.mono ho.mono hi.mono, impS (ps_asg he.run (pg_sub ho.run hi.run set_list ha) hs hw h1) ?_⟩
  rintro D σ H ⟨n, env, m, rfl, ok, q⟩
  refine ⟨n, env, m, rfl, ok, he.mono _ _ _ _ (fun y m1 h1 n1 u g1 l1 ly => ?_) q⟩
  have ok1 := ok.go g1 l1
  refine ⟨n1, env, m1, rfl, ok1, ho.mono _ _ _ _ (fun x m2 h2 n2 v g2 l2 lx => ?_) h1⟩
  have ok2 := ok1.go g2 l2
  refine ⟨n2, env, m2, rfl, ok2, hi.mono _ _ _ _ (fun i m3 h3 n3 iv g3 l3 li => ?_) h2⟩
  have ok3 := ok2.go g3 l3
  split at h3
  · rename_i xs k z hx
    split at h3
    · rename_i j hj
      have li : FzN C X.w X.K n3 iv (.int k) := li
      cases li
      have ly3 : FzN C X.w X.K n3 u z := FzN.le (FzN.le (n := n1) ly l2) l3
      obtain ⟨a, rfl, ⟨vs, e1, z1⟩, hset⟩ := mut_ok ok3 (lx.le l3) hx
      refine ⟨a, vs, k, j, rfl, rfl, e1, by rw [z1.length]; exact hj, ?_⟩
      have ok4 := hset (.lst (vs.set j u)) (.lst (xs.set j z)) ⟨vs.set j u, upd_same, FzAll.set j (FzAll.keep (fun _ _ e => e) (fun _ _ e => e) z1) (Fz.keep (fun _ _ e => e) (fun _ _ e => e) ly3)⟩
      exact h3 ⟨n3.G, n3.al, upd n3.H a (.lst (vs.set j u))⟩ σ (((l1.trans l2).trans l3).sub.trans sub_upd) ok4
    · exact h3.elim
  · exact h3.elim
/-! ### what is walked -/
/-- a list, a tuple -/
def iVal (d : TD) : TId := fun env m Q => d env m fun x m1 => match x with
  | .f (.lst xs) => Q xs m1
  | .f (.tup xs) => Q xs m1
  | _ => False
theorem iVal.mono (h : MonoD d) : MonoI (iVal d) := fun env m Q Q' i => h _ _ _ _ fun x m1 => by
  try dsimp only
  split <;> first | exact i _ _ | exact id
theorem at_fz {w : World} {K : PySem.W.Frag} {n n' : Nw} {vs : List V} {xs : List Dat} (z : FzAllN C w K n vs xs) {i : Nat} {x : V} (hi : i < xs.length) (h : vs[i]? = some x) : ∃ d, xs[i]? = some d ∧ FzN C w K n x d := z.get' h
theorem walkL {w : World} {K : PySem.W.Frag} {n : Nw} {m : Mem} {a : Addr} {vs : List V} {xs : List Dat} (h : Rd n.G a (.lst vs)) (z : FzAllN C w K n vs xs) : WalkD C w K n (Itl K a) xs := by
  have e := z.length
  refine ⟨_, _, by rw [← e]; exact walk_list (xs := vs), fun n' m' s g => ⟨Or.inl (rdUp g (Rd.keep s.g h)), fun i x H' hi hy => ?_⟩⟩
  obtain ⟨rfl, hx⟩ := hy
  obtain ⟨d, h1, h2⟩ := z.get' hx
  exact ⟨n', d, rfl, g, .refl _, h1, Fz.keep s.g (pre_get s.l) h2⟩
theorem walkT {w : World} {K : PySem.W.Frag} {n : Nw} {m : Mem} {a : Addr} {vs : List V} {xs : List Dat} (h : SqT K n.G a vs) (z : FzAllN C w K n vs xs) : WalkD C w K n (Itt K a) xs := by
  have e := z.length
  refine ⟨_, _, by rw [← e]; exact walk_tup (xs := vs), fun n' m' s g => ⟨SqT.keep g.sub (SqT.keep s.g h), fun i x H' hi hy => ?_⟩⟩
  obtain ⟨rfl, hx⟩ := hy
  obtain ⟨d, h1, h2⟩ := z.get' hx
  exact ⟨n', d, rfl, g, .refl _, h1, Fz.keep s.g (pre_get s.l) h2⟩
theorem pi_any {tg l : Expr} {tl : TE} (hl : PE X l tl) : PI X tg l (fun σ H R => tl σ H fun x H1 => ∃ a, x = .ref a ∧ (((∃ xs, SqL X.K H1 a xs) ∧ R (Itl X.K a) H1) ∨ ((∃ xs, SqT X.K H1 a xs) ∧ R (Itt X.K a) H1))) := by
  refine ⟨fun pins s σ H R I h => ?_⟩
  refine thn (hl.run pins s σ H _ I h) fun v s1 ⟨x, H1, I1, r1, q1⟩ => ?_
  obtain ⟨a, e, q⟩ := q1
  subst e
  cases r1
  rcases q with ⟨⟨xs, hq⟩, q⟩ | ⟨⟨xs, hq⟩, q⟩
  · obtain ⟨its, rv, p, hz⟩ := I1.list hq
    refine wpAny_pyIter_list p.isList ?_
    refine ⟨s1.heap.objs.size, [s1.heap.objs.size], _, _, H1, rfl, I1.kept (t' := s1.toks) fun b o e => Heap.get?_push_of_some _ e, turn_list a _, ⟨_, Heap.get?_push_size _ rfl, rfl, rfl⟩, fun b hb => ?_, q⟩
    have e : b = s1.heap.objs.size := by simpa using hb
    subst e
    exact I1.fpOk (Nat.le_refl _) (I1.hok.fresh (Nat.le_refl _))
  · obtain ⟨its, rv, p, hz⟩ := I1.tuple hq
    refine wpAny_pyIter_tuple (show s1.heap.IsTuple a its.toArray from p) ?_
    refine ⟨s1.heap.objs.size, [s1.heap.objs.size], _, _, H1, rfl, I1.kept (t' := s1.toks) fun b o e => Heap.get?_push_of_some _ e, turn_tuple a _, ⟨_, Heap.get?_push_size _ rfl, rfl, rfl⟩, fun b hb => ?_, q⟩
    have e : b = s1.heap.objs.size := by simpa using hb
    subst e
    exact I1.fpOk (Nat.le_refl _) (I1.hok.fresh (Nat.le_refl _))
theorem impI {tg l : Expr} {t t' : TI} (h : PI X tg l t) (i : ∀ σ H R, t' σ H R → t σ H R) : PI X tg l t' := ⟨fun pins s σ H R I q => h.run pins s σ H R I (i σ H R q)⟩
theorem di_val {tg : Expr} (h : DE X C B e d) : DI X C B tg e (iVal d) := by
  refine ⟨iVal.mono h.mono, impI (pi_any h.run) ?_⟩
  rintro σ H R ⟨n, env, m, rfl, ok, q⟩
  refine ⟨n, env, m, rfl, ok, h.mono _ _ _ _ (fun x m1 h1 n1 v g1 l1 lx => ?_) q⟩
  split at h1
  · rename_i xs
    have lx : FzN C X.w X.K n1 v (.lst xs) := lx
    cases lx with
    | lst r z => exact ⟨_, rfl, .inl ⟨⟨_, .inl (rdUp g1 r)⟩, h1 n1 _ g1 l1 (walkL (m := m1) r z)⟩⟩
  · rename_i xs
    have lx : FzN C X.w X.K n1 v (.tup xs) := lx
    cases lx with
    | tup r z => exact ⟨_, rfl, .inr ⟨⟨_, SqT.keep g1.sub r⟩, h1 n1 _ g1 l1 (walkT (m := m1) r z)⟩⟩
  · exact h1.elim
/-- range(a), range(a, b) -/
def rangeD (lo : Int) (k : Nat) : List Dat := (List.range k).map fun i => .int (lo + (i : Nat))
def iRg1 (d : TD) : TId := fun env m Q => d env m fun x m1 => match x with
  | .f (.int j) => -(2 ^ 62) ≤ j ∧ j < 2 ^ 62 ∧ Q (rangeD 0 j.toNat) m1
  | _ => False
def iRg2 (d de : TD) : TId := fun env m Q => d env m fun x m1 => de env m1 fun y m2 => match x, y with
  | .f (.int i), .f (.int j) => (-(2 ^ 62) ≤ i ∧ i < 2 ^ 62 ∧ -(2 ^ 62) ≤ j ∧ j < 2 ^ 62) ∧ Q (rangeD i (j - i).toNat) m2
  | _, _ => False
theorem walkR {w : World} {K : PySem.W.Frag} {n : Nw} {lo : Int} {k : Nat} : WalkD C w K n (Itr lo k) (rangeD lo k) := by
  refine ⟨_, _, by rw [show (rangeD lo k).length = k by simp [rangeD]]; exact walk_range, fun n' m' s g => ⟨trivial, fun i x H' hi hy => ?_⟩⟩
  obtain ⟨rfl, rfl⟩ := hy
  have hi' : i < k := by simpa [rangeD] using hi
  exact ⟨n', _, rfl, g, .refl _, by simp [rangeD, hi'], .int _⟩
theorem di_range1 {tg a : Expr} {p pos : Pos} (hg : Gl X "range") (hm : X.mg "range" = none) (ha : DE X C B a d) (hs : starEach [a] X.env = [(false, eval a X.env)] := by rfl) : DI X C B tg (.Call (.Name "range" p) [a] [] pos) (iRg1 d) := by
  refine ⟨fun env m Q Q' i h => ha.mono _ _ _ _ (fun x m1 h1 => ?_) h, impI (pi_range1 hg hm (pa_cons ha.run pa_nil hs) hs) ?_⟩
  · try dsimp only at h1 ⊢
    split at h1
    · exact ⟨h1.1, h1.2.1, i _ _ h1.2.2⟩
    · exact h1
  rintro σ H R ⟨n, env, m, rfl, ok, q⟩
  refine ⟨n, env, m, rfl, ok, ha.mono _ _ _ _ (fun x m1 h1 n1 v g1 l1 lx => ?_) q⟩
  split at h1
  · rename_i j
    have lx : FzN C X.w X.K n1 v (.int j) := lx
    cases lx
    exact ⟨j, rfl, h1.1, h1.2.1, h1.2.2 n1 _ g1 l1 walkR⟩
  · exact h1.elim
theorem di_range2 {tg a b : Expr} {p pos : Pos} (hg : Gl X "range") (hm : X.mg "range" = none) (ha : DE X C B a d) (hb : DE X C B b de) (hs : starEach [a, b] X.env = [(false, eval a X.env), (false, eval b X.env)] := by rfl) (hs2 : starEach [b] X.env = [(false, eval b X.env)] := by rfl)
    (hs3 : starEach [a, b] X.env = (false, eval a X.env) :: starEach [b] X.env := by rfl) : DI X C B tg (.Call (.Name "range" p) [a, b] [] pos) (iRg2 d de) := by
  refine ⟨fun env m Q Q' i h => ha.mono _ _ _ _ (fun x m1 h1 => hb.mono _ _ _ _ (fun y m2 h2 => ?_) h1) h, impI (pi_range2 hg hm (pa_cons ha.run (pa_cons hb.run pa_nil hs2) hs3) hs hs2) ?_⟩
  · try dsimp only at h2 ⊢
    split at h2
    · exact ⟨h2.1, i _ _ h2.2⟩
    · exact h2
  rintro σ H R ⟨n, env, m, rfl, ok, q⟩
  refine ⟨n, env, m, rfl, ok, ha.mono _ _ _ _ (fun x m1 h1 n1 v g1 l1 lx => ?_) q⟩
  refine ⟨n1, env, m1, rfl, ok.go g1 l1, hb.mono _ _ _ _ (fun y m2 h2 n2 u g2 l2 ly => ?_) h1⟩
  split at h2
  · rename_i i j
    have lx : FzN C X.w X.K n1 v (.int i) := lx
    have ly : FzN C X.w X.K n2 u (.int j) := ly
    cases lx
    cases ly
    exact ⟨i, j, rfl, h2.1, h2.2 n2 _ g2 (l1.trans l2) walkR⟩
  · exact h2.elim
/-- a, b = e1, e2 with local names -/
def sPar (i j : Nat) (d de : TD) : TSd := fun D env m => d env m fun x m1 => de env m1 fun y m2 => match x, y with
  | .f a, .f b => D.nx ((env.set i (some (.f a))).set j (some (.f b))) m2
  | _, _ => False
theorem ds_par {i j : Nat} {x y : Str} {a b : Expr} {px py pt : Pos} {kt k2 pt2} (hc : X.calm = true) (hN : X.N.Nodup) (hi : X.N[i]? = some x) (hj : X.N[j]? = some y) (hij : i ≠ j)
    (hx : X.env.scope.names.lookup x = some .local) (hy : X.env.scope.names.lookup y = some .local) (ha : DE X C B a d) (hb : DE X C B b de)
    (hw : swappedStores [.Tuple [.Name x px, .Name y py] kt pt] (.Tuple [a, b] k2 pt2) X.env = pure (some [x, y]))
    (hs : swapsWithSole [.Tuple [.Name x px, .Name y py] kt pt] (.Tuple [a, b] k2 pt2) pos.line X.env = pure false := by rfl) (hs1 : starEach [a, b] X.env = (false, eval a X.env) :: starEach [b] X.env := by rfl) (hs2 : starEach [b] X.env = (false, eval b X.env) :: starEach [] X.env := by rfl) :
    DS X C B (.Assign [.Tuple [.Name x px, .Name y py] kt pt] (.Tuple [a, b] k2 pt2) pos) (sPar i j d de) := by
  refine ⟨fun env m D D' l h => ha.mono _ _ _ _ (fun x m1 h1 => hb.mono _ _ _ _ (fun y m2 h2 => ?_) h1) h, impS (ps_par hc hN hi hj hij hx hy (pa_cons ha.run (pa_cons hb.run pa_nil hs2) hs1) hw hs) ?_⟩
  · try dsimp only at h2 ⊢
    split at h2
    · exact l.nx _ _ h2
    · exact h2
  rintro D σ H ⟨n, env, m, rfl, ok, q⟩
  refine ⟨n, env, m, rfl, ok, ha.mono _ _ _ _ (fun x m1 h1 n1 v g1 l1 lx => ?_) q⟩
  refine ⟨n1, env, m1, rfl, ok.go g1 l1, hb.mono _ _ _ _ (fun y m2 h2 n2 u g2 l2 ly => ?_) h1⟩
  split at h2
  · rename_i a b
    have lx : FzN C X.w X.K n1 v a := lx
    have ly : FzN C X.w X.K n2 u b := ly
    exact ⟨v, u, rfl, h2 n2 _ (l1.trans l2).sub (((ok.go g2 (l1.trans l2)).setF (FzN.le lx l2)).setF ly)⟩
  · exact h2.elim
/-! ### chains -/
theorem dChain.mono {f g : Op2} {da db dc : TD} (hf : Mono2 f) (hg : Mono2 g) (ha : MonoD da) (hb : MonoD db) (hc : MonoD dc) : MonoD (dChain f g da db dc) := fun env m Q Q' i h =>
  ha _ _ _ _ (fun x m1 h1 => hb _ _ _ _ (fun y m2 h2 => hf _ _ _ _ _ _ (fun z m3 h3 => by
    try dsimp only at h3 ⊢
    split at h3
    · exact hc _ _ _ _ (fun u m4 h4 => hg _ _ _ _ _ _ (fun r m5 h5 => i _ _ h5) h4) h3
    · exact i _ _ h3
    · exact h3) h2) h1) h
theorem chain_imp {f g : Op2} {da db dc : TD} (hf : Mono2 f) (hg : Mono2 g) (ha : MonoD da) (hb : MonoD db) (hc : MonoD dc) :
    ∀ σ H Q, lE C B X.w X.K (dChain f g da db dc) σ H Q → tChain (r2 C X.w X.K f) (r2 C X.w X.K g) (lE C B X.w X.K da) (lE C B X.w X.K db) (lE C B X.w X.K dc) σ H Q := by
  rintro σ H Q ⟨n, env, m, rfl, ok, h⟩
  refine ⟨n, env, m, rfl, ok, ha _ _ _ _ (fun x m1 h1 n1 v ok1 l1 lx => ?_) h⟩
  refine ⟨n1, env, m1, rfl, ok.go ok1 l1, hb _ _ _ _ (fun y m2 h2 n2 u ok2 l2 ly => ?_) h1⟩
  refine ⟨B, n2, env, m2, σ, x, y, rfl, ok.go ok2 (l1.trans l2), lx.le l2, ly, hf _ _ _ _ _ _ (fun z m3 h3 n3 v3 ok3 l3 lz => ?_) h2⟩
  have l13 := l1.trans (l2.trans l3)
  cases z with
  | bl c =>
    cases lz
    refine ⟨c, rfl, ?_⟩
    cases c with
    | true =>
      show if (true = true) then _ else _
      rw [if_pos rfl]
      refine ⟨n3, env, m3, rfl, ok.go ok3 l13, hc _ _ _ _ (fun r m4 h4 n4 v4 ok4 l4 lr => ?_) h3⟩
      exact ⟨B, n4, env, m4, σ, y, r, rfl, ok.go ok4 (l13.trans l4), (ly.le l3).le l4, lr, hg _ _ _ _ _ _ (fun z5 m5 h5 n5 v5 ok5 l5 lz5 => h5 n5 v5 ok5 (l13.trans (l4.trans l5)) lz5) h4⟩
    | false =>
      show if (false = true) then _ else _
      rw [if_neg (by decide)]
      exact h3 n3 (.bl false) ok3 l13 (.bl false)
  | _ => exact h3.elim
theorem de_chain {op op' : CmpOp} {f g : Op2} {a b c : Expr} {da db dc : TD} (ho : OpD X C (compareOp op) f) (ho' : OpD X C (compareOp op') g) (ha : DE X C B a da) (hb : DE X C B b db) (hc : DE X C B c dc)
    (hm : lastMarks [op, op'] [b, c] = false := by with_unfolding_all rfl) : DE X C B (.Compare a [op, op'] [b, c] pos) (dChain f g da db dc) :=
  ⟨dChain.mono ho.mono ho'.mono ha.mono hb.mono hc.mono, imp (pe_chain ho.run ho'.run ha.run hb.run hc.run hm) (chain_imp ho.mono ho'.mono ha.mono hb.mono hc.mono)⟩
theorem dt_chain {op op' : CmpOp} {f g : Op2} {a b c : Expr} {da db dc : TD} (ho : OpD X C (compareOp op) f) (ho' : OpD X C (compareOp op') g) (ha : DE X C B a da) (hb : DE X C B b db) (hc : DE X C B c dc)
    (hm : lastMarks [op, op'] [b, c] = false := by with_unfolding_all rfl) : DT X C B (.Compare a [op, op'] [b, c] pos) (dTst (dChain f g da db dc)) := by
  refine ⟨dTst.mono (dChain.mono ho.mono ho'.mono ha.mono hb.mono hc.mono), impT (pt_chain ho.run ho'.run ha.run hb.run hc.run hm) ?_⟩
  rintro σ H Q ⟨n, env, m, rfl, ok, h⟩
  refine chain_imp (B := B) ho.mono ho'.mono ha.mono hb.mono hc.mono σ _ _ ⟨n, env, m, rfl, ok, dChain.mono ho.mono ho'.mono ha.mono hb.mono hc.mono _ _ _ _ (fun x m1 h1 n1 v ok1 l1 lx => ?_) h⟩
  cases x with
  | o k => exact h1.elim
  | f y =>
    cases y with
    | bl c => cases lx; exact ⟨c, rfl, h1 n1 ok1 l1⟩
    | _ => exact h1.elim
end
end DL

set_option maxHeartbeats 1000000
namespace DL
open PySem PySem.Spec PyProof.Rows L2

/-! ### repr: the defs that reach it are run where no text is under way -/
/-- room, and no text of a container under way -/
structure RoomG (k : Nat) (A : Around) : Prop where
  room : Room k A
  gd : A.guards = some []
/-- a promise, kept where no text of a container is under way -/
structure FnG (P : Program) (w : World) (K : PySem.W.Frag) (mg : Str → Option Value) (base : Heap) (CX : CXT) (k : Nat) (f : Addr) (fd : FuncData) (ps : List Str) (sp : Sp) : Prop where
  len : ∀ vs H Q E, sp vs H Q E → vs.length = ps.length
  run : ∀ (A : Around) (outer : List Env) (s : Shared) (H : Hp) (args : Args) (us : List Value) (vs : List V) (Q : VK) (E : XK), RoomG k A → Env0 P w K mg base A outer s H → BindsTo s fd args (ps.zip us) → Vals vs us → sp vs H Q E →
    codeAny (model P w) A (.call (.ref f) args) (CR CX outer P w H s Q E) s
theorem fnG_of {CX : CXT} {P : Program} {w : World} {K : PySem.W.Frag} {mg : Str → Option Value} {base : Heap} {k : Nat} {f : Addr} {x qual : Str} {params : Arguments} {body : List Stmt} {scope : Scope} {fd : FuncData} {N ps : List Str} {sp : Sp}
    (F : FunD K x qual params body scope [] [] f fd) (S : FnScope N ps scope) (len : ∀ vs H Q E, sp vs H Q E → vs.length = ps.length)
    (hbody : ∀ (cdv : Value) (A : Around) (outer : List Env) (s : Shared) (H : Hp) (vs : List V) (Q : VK) (E : XK), RoomG k (A.deeper (envOfC qual scope s.heap.objs.size f cdv)) → sp vs H Q E →
      ∃ t, PSs (cxOf CX P w K mg base N qual scope f cdv A outer s H E) body t ∧ t { nx := fun _ H' => Q .non H', rt := Q } (L2.start N vs) H) : FnG P w K mg base CX (k + 1) f fd ps sp := by
  obtain ⟨oc, od, dV, kV, doc, pm, an, cdv, ct, osl, rfl, lk, hcd, _, _⟩ := F.ex
  refine ⟨len, fun A outer s H args us vs Q E hr e0 hb r hsp => ?_⟩
  have hl := len _ _ _ _ hsp
  have KX : K.In s.heap := e0.mod.kin.keeps fun b o e => (e0.bs b o e).1
  have lim : s.heap.NoLimit := e0.mod.nolimit.keeps fun b o e => (e0.bs b o e).1
  have hkind : ∀ y ∈ ps.zip us, scope.names.lookup y.1 = some .local ∨ (scope.names.lookup y.1 = some .cell ∧ ((cellsFrom (s.heap.objs.size + 1) scope.names []).lookup y.1).isSome = true) := fun ⟨n, v⟩ hy => by
    rcases S.par n (List.of_mem_zip hy).1 with q | q
    · exact .inl q
    · exact .inr ⟨q, PySem.W.cellsFrom_some _ _ _ (.inl q)⟩
  refine codeAny_call_function hr.room.depth (KX _ _ lk) rfl S.co S.gen rfl (PySem.W.codeRec_of KX hcd) (hb _ _ _ _ ?_)
  refine wpAny_newFunctionEnv_cells S.kind hkind fun env he s1 x1 => ?_
  subst he
  refine ⟨lim.keeps x1.toInCall.keep, codeAny_func ?_⟩
  obtain ⟨t, ht, hq⟩ := hbody cdv A outer s H vs Q E ⟨hr.room.deeper _, hr.gd⟩ hsp
  have I : Inv (cxOf CX P w K mg base N qual scope f cdv A outer s H E) [] (L2.start N vs) H s1 := inv_start S hr.room.hd e0 hl r x1
  refine wpAny_mono (ht.run [] s1 (L2.start N vs) H _ I hq) (fun fl s' hs => ?_) fun e s' hs => hs
  have fin : ∀ {σ' : L2.St} {H' : Hp} {v : V} {u : Value}, Inv (cxOf CX P w K mg base N qual scope f cdv A outer s H E) [] σ' H' s' → RelV v u → Q v H' → CE outer P w H s Q u s' :=
    fun {σ' H' v u} J rv q => ⟨v, H', J.os, J.bare, J.base, J.hok, rv, q⟩
  cases fl with
  | ret u =>
    obtain ⟨v, σ', H', J, rv, q⟩ := hs
    exact fin J rv q
  | next =>
    obtain ⟨σ', H', J, q⟩ := hs
    exact fin (v := V.non) (u := Value.none) J rfl q
  | brk =>
    obtain ⟨_, _, _, q⟩ := hs
    exact False.elim q
  | cont =>
    obtain ⟨_, _, _, q⟩ := hs
    exact False.elim q
section
variable {X : Cx} {CX : CXT} {k : Nat} {f : Addr} {fd : FuncData} {ps : List Str} {sp : Sp} {E : L2.St → XK} {x : Str} {p pos : Pos} {e : Expr} {es : List Expr} {t : TA}
theorem run_fnG {pins : List (Addr × Obj)} {σ : L2.St} {H : Hp} {s : Shared} {Q : VK} {us : List Value} {vs : List V} (F : FnG X.prog X.w X.K X.mg X.base CX k f fd ps sp) (hr : RoomG k X.A) (hb : Binds X.K fd ps []) (hx : PassesAt CX X σ (E σ))
    (I : Inv X pins σ H s) (r : Vals vs us) (h : sp vs H Q (E σ)) : wpAny (model X.prog X.w) X.A (call (.ref f) us) (EP X pins σ Q) X.xe s := by
  have hl : (us ++ []).length = ps.length := by rw [List.append_nil, ← r.length]; exact F.len _ _ _ _ h
  have hb' := hb s us I.kIn hl
  rw [List.append_nil] at hb'
  refine wpAny_call (codeAny_mono (F.run X.A X.stack s H ⟨us, []⟩ us vs Q (E σ) hr I.env0 hb' r h) fun r s' hq => ?_)
  cases r with
  | error e => exact hx pins H s e s' I hq
  | ok fl =>
    cases fl with
    | ret u => exact I.after hq
    | next => exact False.elim hq
    | brk => exact False.elim hq
    | cont => exact False.elim hq
theorem pe_callG (F : FnG X.prog X.w X.K X.mg X.base CX k f fd ps sp) (hr : RoomG k X.A) (hg : Gl X x) (hm : X.mg x = some (.ref f)) (hk : PySem.W.keepIn X.K (.ref f) = true) (hb : Binds X.K fd ps []) (hx : ∀ σ, PassesAt CX X σ (E σ))
    (ha : PA X (e :: es) t) (hdb : (x == ("__debug__" : Str)) = false := by decide) (he : starEach (e :: es) X.env = (false, eval e X.env) :: starEach es X.env := by rfl) (hpl : (backTo pos (starEach es X.env)).any (·.1) = false := by rfl) :
    PE X (.Call (.Name x p) (e :: es) [] pos) (tCallSD sp [] E t) := by
  refine ⟨fun pins s σ H Q I h => ?_⟩
  refine wpAny_Call_Name_kw (ld_glob I hg hm ?_ hdb)
  refine PySem.W.callWith_K (h₀ := X.base) I.ok.mod.kin hk (thn (ha.run pos pins s σ H _ I h) fun us s1 ⟨vs, H1, I1, r, q⟩ => ⟨I1.kIn, ?_⟩) he hpl
  have q' : sp (vs ++ []) H1 Q (E σ) := q
  rw [List.append_nil] at q'
  exact run_fnG F hr hb (hx σ) I1 r q'
end
structure DG (P : Program) (w : World) (K : PySem.W.Frag) (mg : Str → Option Value) (base : Heap) (C : Ct) (k : Nat) (f : Addr) (fd : FuncData) (ps : List Str) (p : DSp) : Prop where
  mono : MonoP p
  ok : FnG P w K mg base (L2.CX P w) k f fd ps (spD C w K ps.length p)
section
variable {X : Cx} {C : Ct} {B : Nw} {k : Nat} {f : Addr} {fd : FuncData} {ps : List Str} {p : DSp} {EX : QXe} {x : Str} {p1 pos : Pos} {e : Expr} {es : List Expr} {da : TAd}
theorem de_callG (F : DG X.prog X.w X.K X.mg X.base C k f fd ps p) (hl : ∀ ds m Q E, p ds m Q E → ds.length = ps.length) (hr : RoomG k X.A) (hg : Gl X x) (hm : X.mg x = some (.ref f)) (hk : PySem.W.keepIn X.K (.ref f) = true) (hb : Binds X.K fd ps []) (hx : PassD X C B EX) (ha : DA X C B (e :: es) da)
    (hdb : (x == ("__debug__" : Str)) = false := by decide) (he : starEach (e :: es) X.env = (false, eval e X.env) :: starEach es X.env := by rfl) (hpl : (backTo pos (starEach es X.env)).any (·.1) = false := by rfl) :
    DE X C B (.Call (.Name x p1) (e :: es) [] pos) (dCall p EX da) :=
  ⟨dCall.mono F.mono ha.mono, imp (pe_callG F.ok hr hg hm hk hb hx ha.run hdb he hpl) (call_imp F.mono ha.mono fun hz ⟨m, Q, E, h⟩ => hz.length.trans (hl _ _ _ _ h))⟩
variable {P : Program} {w : World} {K : PySem.W.Frag} {mg : Str → Option Value} {base : Heap} {qual : Str} {params : Arguments} {body : List Stmt} {scope : Scope} {N : List Str}
theorem dg_of {d : QXe → TSd} (F : FunD K x qual params body scope [] [] f fd) (S : FnScope N ps scope) (mono : MonoP p) (len : ∀ ds m Q E, p ds m Q E → ds.length = ps.length)
    (walk : ∀ (cdv : Value) (A : Around) (outer : List Env) (s : Shared) (H : Hp) (E : XK) (B : Nw) (EX : QXe), RoomG k (A.deeper (envOfC qual scope s.heap.objs.size f cdv)) → TakesD (cxOf (L2.CX P w) P w K mg base N qual scope f cdv A outer s H E) C B EX →
      DSs (cxOf (L2.CX P w) P w K mg base N qual scope f cdv A outer s H E) C B body (d EX))
    (law : ∀ ds m (Q : QD) (E : QX), p ds m Q E → d (fun c xs _ m => E c xs m) { nx := fun _ m => Q .non m, rt := Q } (env0 N.length ds) m) : DG P w K mg base C (k + 1) f fd ps p := by
  refine ⟨mono, fnG_of F S (fun vs H Q E h => h.1) fun cdv A outer s H vs Q E hr h => ?_⟩
  obtain ⟨hl, n, m, ds, rfl, g, hz, h⟩ := h
  let X := cxOf (L2.CX P w) P w K mg base N qual scope f cdv A outer s n.H E
  have ok : Ok C w K n n (env0 N.length ds) m (L2.start N vs) := ⟨g, .refl _, env_start hz⟩
  have tk : Takes X (fun cls dx _ H => E cls dx H) := takes_of rfl rfl rfl rfl
  have pd : TakesD X C n (fun c xs _ m' => AftX C w K n E c xs m') := tk.imp (fun cls dx σ' H' hq => by
    obtain ⟨n', env', m', c, xs, us, rfl, ok', rfl, hx, hu, hE⟩ := hq
    exact hE n' dx us ok'.good ok'.base hx hu)
  have W := walk cdv A outer s n.H E n (fun c xs _ m' => AftX C w K n E c xs m') hr pd
  refine ⟨_, W.run, n, _, m, rfl, ok, ?_⟩
  refine W.mono _ _ { nx := fun _ m => AftD C w K n Q .non m, rt := AftD C w K n Q } _ ⟨fun e1 m1 h1 n1 σ1 _ ok1 => ?_, fun d1 m1 h1 n1 v1 l1 g1 hv => ?_, fun _ _ h1 => h1.elim, fun _ _ h1 => h1.elim⟩ (law ds m (AftD C w K n Q) (AftX C w K n E) h)
  · exact h1 n1 .non ok1.good ok1.base .non
  · exact h1 n1 v1 g1 l1 hv
end

/-! ### the text of a datum -/
def okR : Nat → Dat → Bool
  | _, .non => true
  | _, .bl _ => true
  | _, .int i => decide (i.natAbs.log2 < 1920)
  | _, .str _ => true
  | k + 1, .tup xs => xs.all (okR k)
  | k + 1, .lst xs => xs.all (okR k)
  | k + 1, .dct kvs => kvs.all fun p => okR k p.1 && okR k p.2
  | _, _ => false
/-- the place of sys.modules bears an object of the top that is no list -/
def NoSys (K : PySem.W.Frag) : Prop := ∃ o, K.lookup sysModules = some o ∧ o.cls ≠ .type "list"
theorem pyk_1 : ∀ kvs : List (Dat × Dat), (pyk kvs).map (·.1) = kvs.map fun p => py p.1
  | [] => by rw [pyk]; rfl
  | (k, x) :: r => by rw [pyk, List.map_cons, pyk_1 r]; rfl
theorem pyk_2 : ∀ kvs : List (Dat × Dat), (pyk kvs).map (·.2) = kvs.map fun p => py p.2
  | [] => by rw [pyk]; rfl
  | (k, x) :: r => by rw [pyk, List.map_cons, pyk_2 r]; rfl
theorem okR_show : ∀ (k : Nat) (d : Dat), okR k d = true → (py d).showable = true ∧ (py d).depth ≤ k
  | k, .non, _ => by cases k <;> exact ⟨rfl, Nat.zero_le _⟩
  | k, .bl b, _ => by cases k <;> exact ⟨rfl, Nat.zero_le _⟩
  | k, .int i, h => by
    have h : decide (i.natAbs.log2 < 1920) = true := by cases k <;> exact h
    exact ⟨by rw [py, PyData.showable]; exact h, by rw [py, PyData.depth]; exact Nat.zero_le _⟩
  | k, .str x, h => ⟨by rw [py, PyData.showable], by rw [py, PyData.depth]; exact Nat.zero_le _⟩
  | 0, .tup xs, h => by cases h
  | 0, .lst xs, h => by cases h
  | 0, .dct xs, h => by cases h
  | k + 1, .tup xs, h => by
    have h : xs.all (okR k) = true := h
    have key : ∀ ys : List Dat, ys.all (okR k) = true → PyData.showableAll (pys ys) = true ∧ PyData.depthAll (pys ys) ≤ k := by
      intro ys
      induction ys with
      | nil => intro _; rw [pys]; exact ⟨by rw [PyData.showableAll], by rw [PyData.depthAll]; exact Nat.zero_le _⟩
      | cons y ys ih =>
        intro hy
        rw [List.all_cons, Bool.and_eq_true] at hy
        obtain ⟨h1, h2⟩ := okR_show k y hy.1
        obtain ⟨h3, h4⟩ := ih hy.2
        rw [pys, PyData.showableAll, PyData.depthAll, h1, h3]
        exact ⟨rfl, by omega⟩
    obtain ⟨h1, h2⟩ := key xs h
    rw [py, PyData.showable, PyData.depth]
    exact ⟨h1, by omega⟩
  | k + 1, .lst xs, h => by
    have h : xs.all (okR k) = true := h
    have key : ∀ ys : List Dat, ys.all (okR k) = true → PyData.showableAll (pys ys) = true ∧ PyData.depthAll (pys ys) ≤ k := by
      intro ys
      induction ys with
      | nil => intro _; rw [pys]; exact ⟨by rw [PyData.showableAll], by rw [PyData.depthAll]; exact Nat.zero_le _⟩
      | cons y ys ih =>
        intro hy
        rw [List.all_cons, Bool.and_eq_true] at hy
        obtain ⟨h1, h2⟩ := okR_show k y hy.1
        obtain ⟨h3, h4⟩ := ih hy.2
        rw [pys, PyData.showableAll, PyData.depthAll, h1, h3]
        exact ⟨rfl, by omega⟩
    obtain ⟨h1, h2⟩ := key xs h
    rw [py, PyData.showable, PyData.depth]
    exact ⟨h1, by omega⟩
  | k + 1, .dct kvs, h => by
    have h : (kvs.all fun p => okR k p.1 && okR k p.2) = true := h
    have key : ∀ ys : List (Dat × Dat), (ys.all fun p => okR k p.1 && okR k p.2) = true → PyData.showableKv (pyk ys) = true ∧ PyData.depthKv (pyk ys) ≤ k := by
      intro ys
      induction ys with
      | nil => intro _; rw [pyk]; exact ⟨by rw [PyData.showableKv], by rw [PyData.depthKv]; exact Nat.zero_le _⟩
      | cons y ys ih =>
        obtain ⟨a, b⟩ := y
        intro hy
        rw [List.all_cons, Bool.and_eq_true, Bool.and_eq_true] at hy
        obtain ⟨h1, h2⟩ := okR_show k a hy.1.1
        obtain ⟨h5, h6⟩ := okR_show k b hy.1.2
        obtain ⟨h3, h4⟩ := ih hy.2
        rw [pyk, PyData.showableKv, PyData.depthKv, h1, h3, h5]
        exact ⟨rfl, by omega⟩
    obtain ⟨h1, h2⟩ := key kvs h
    rw [py, PyData.showable, PyData.depth]
    exact ⟨h1, by omega⟩
  | k, .ins _ _, h => by cases k <;> cases h
  | k, .obj _, h => by cases k <;> cases h
  | k, .ref _, h => by cases k <;> cases h
  | k, .ty _, h => by cases k <;> cases h
  | k, .cls _, h => by cases k <;> cases h
section
variable {X : Cx} {C : Ct} {pins : List (Addr × Obj)} {σ : L2.St} {s : Shared} {n : Nw} {m : Mem}
theorem list_ns (I : Inv X pins σ n.H s) (ns : NoSys X.K) {a : Addr} {o : Obj} (e : s.heap.get? a = some o) (c : o.cls = .type "list") : a ≠ sysModules := by
  rintro rfl
  obtain ⟨o', h1, h2⟩ := ns
  have := I.kIn _ _ h1
  rw [e] at this
  cases this
  exact h2 c
mutual
theorem fz_rd (I : Inv X pins σ n.H s) (g : Good C X.w X.K n m) (ns : NoSys X.K) : ∀ (k : Nat) {v : V} {d : Dat} {u : Value}, FzN C X.w X.K n v d → RelV v u → okR k d = true → ∃ as, Reads s.heap u (py d) as ∧ sysModules ∉ as
  | k, _, .non, _, h, r, _ => by cases h; cases r; exact ⟨[], show Reads s.heap .none .none [] from .none, by simp⟩
  | k, _, .bl b, _, h, r, _ => by cases h; cases r; rw [py]; exact ⟨_, .bool b, by simp⟩
  | k, _, .int i, _, h, r, _ => by cases h; obtain ⟨t, rfl⟩ := r; rw [py]; exact ⟨_, .int i t, by simp⟩
  | k, _, .str x, _, h, r, _ => by cases h; obtain ⟨t, rfl⟩ := r; rw [py]; exact ⟨_, .str x t, by simp⟩
  | 0, _, .tup xs, _, h, r, e => by cases e
  | 0, _, .lst xs, _, h, r, e => by cases e
  | 0, _, .dct xs, _, h, r, e => by cases e
  | k + 1, _, .tup xs, _, h, r, e => by
    cases h with
    | tup h1 h2 =>
      cases r
      obtain ⟨its, rv, ⟨o, ho, hc, nn, hd⟩, _⟩ := I.tuple (SqT.keep g.sub h1)
      obtain ⟨as, q1, q2⟩ := fzs_rd I g ns k h2 rv e
      rw [py]
      exact ⟨_, .tuple ho hc hd (by simpa using q1), q2⟩
  | k + 1, _, .lst xs, _, h, r, e => by
    cases h with
    | lst h1 h2 =>
      cases r
      obtain ⟨its, rv, ⟨o, nn, ho, hc, _, hd⟩, _⟩ := I.list (.inl (rdUp g h1))
      obtain ⟨as, q1, q2⟩ := fzs_rd I g ns k h2 rv e
      rw [py]
      refine ⟨_, .list ho hc hd (by simpa using q1), fun z => ?_⟩
      rcases List.mem_cons.mp z with z | z
      · exact list_ns I ns ho hc z.symm
      · exact q2 z
  | k + 1, _, .dct kvs, _, h, r, e => by
    cases h with
    | dct h1 h2 h3 =>
      cases r
      obtain ⟨⟨o, ep, ho, hx, hd⟩, _⟩ : (∃ o ep, s.heap.get? _ = some o ∧ o.ExactDict ∧ o.data = .dict _ ep) ∧ _ := I.hok _ _ (g.sub _ _ h1)
      obtain ⟨as, bs, q1, q2, q3, q4⟩ := fze_rd I g ns k h3 e
      rw [py]
      refine ⟨_, .dict ho hx.1 hd (by rw [pyk_1]; exact q1) (by rw [pyk_2]; exact q2), fun z => ?_⟩
      rcases List.mem_append.mp z with z | z
      · rcases List.mem_cons.mp z with z | z
        · exact absurd z.symm (by simpa using h2)
        · exact q3 z
      · exact q4 z
  | k, _, .ins _ _, _, h, r, e => by cases k <;> cases e
  | k, _, .obj _, _, h, r, e => by cases k <;> cases e
  | k, _, .ref _, _, h, r, e => by cases k <;> cases e
  | k, _, .ty _, _, h, r, e => by cases k <;> cases e
  | k, _, .cls _, _, h, r, e => by cases k <;> cases e
theorem fzs_rd (I : Inv X pins σ n.H s) (g : Good C X.w X.K n m) (ns : NoSys X.K) : ∀ (k : Nat) {vs : List V} {ds : List Dat} {us : List Value}, FzAllN C X.w X.K n vs ds → Vals vs us → ds.all (okR k) = true → ∃ as, ReadsAll s.heap us (pys ds) as ∧ sysModules ∉ as
  | k, _, [], _, h, r, _ => by cases h; cases r; rw [pys]; exact ⟨_, .nil, by simp⟩
  | k, _, d :: ds, _, h, r, e => by
    rw [List.all_cons, Bool.and_eq_true] at e
    cases h with
    | cons a b =>
      cases r with
      | cons r1 r2 =>
        obtain ⟨as, q1, q2⟩ := fz_rd I g ns k a r1 e.1
        obtain ⟨bs, q3, q4⟩ := fzs_rd I g ns k b r2 e.2
        rw [pys]
        exact ⟨_, .cons q1 q3, fun z => (List.mem_append.mp z).elim q2 q4⟩
theorem fze_rd (I : Inv X pins σ n.H s) (g : Good C X.w X.K n m) (ns : NoSys X.K) : ∀ (k : Nat) {es : List DictEntry} {kvs : List (Dat × Dat)}, FzEs C X.w X.K n.al n.G es kvs → (kvs.all fun p => okR k p.1 && okR k p.2) = true →
    ∃ as bs, ReadsAll s.heap (es.map (·.key)) (kvs.map fun p => py p.1) as ∧ ReadsAll s.heap (es.map (·.val)) (kvs.map fun p => py p.2) bs ∧ sysModules ∉ as ∧ sysModules ∉ bs
  | k, _, [], h, _ => by cases h; exact ⟨_, _, .nil, .nil, by simp, by simp⟩
  | k, _, (a, b) :: ds, h, e => by
    rw [List.all_cons, Bool.and_eq_true, Bool.and_eq_true] at e
    cases h with
    | cons r1 x r2 y _ t =>
      obtain ⟨as, q1, q2⟩ := fz_rd I g ns k x r1 e.1.1
      obtain ⟨bs, q3, q4⟩ := fz_rd I g ns k y r2 e.1.2
      obtain ⟨cs, ds, q5, q6, q7, q8⟩ := fze_rd I g ns k t e.2
      exact ⟨_, _, .cons q1 q5, .cons q3 q6, fun z => (List.mem_append.mp z).elim q2 q7, fun z => (List.mem_append.mp z).elim q4 q8⟩
end
theorem now_rd (I : Inv X pins σ n.H s) (g : Good C X.w X.K n m) (ns : NoSys X.K) {k : Nat} {v : V} {d : Dat} {u : Value} (h : Nowv C X.w X.K n v d) (r : RelV v u) (e : okR k d = true) : ∃ as, Reads s.heap u (py d) as ∧ sysModules ∉ as := by
  cases h with
  | fz z => exact fz_rd I g ns k z r e
  | lst h1 h2 =>
    cases k with
    | zero => cases e
    | succ k =>
      cases r
      obtain ⟨its, rv, ⟨o, nn, ho, hc, _, hd⟩, _⟩ := I.list (.inl (.inl h1))
      obtain ⟨as, q1, q2⟩ := fzs_rd I g ns k h2 rv e
      rw [py]
      refine ⟨_, .list ho hc hd (by simpa using q1), fun z => ?_⟩
      rcases List.mem_cons.mp z with z | z
      · exact list_ns I ns ho hc z.symm
      · exact q2 z
  | dct h1 h2 h3 =>
    cases k with
    | zero => cases e
    | succ k =>
      cases r
      obtain ⟨⟨o, ep, ho, hx, hd⟩, _⟩ : (∃ o ep, s.heap.get? _ = some o ∧ o.ExactDict ∧ o.data = .dict _ ep) ∧ _ := I.hok _ _ h1
      obtain ⟨as, bs, q1, q2, q3, q4⟩ := fze_rd I g ns k h3 e
      rw [py]
      refine ⟨_, .dict ho hx.1 hd (by rw [pyk_1]; exact q1) (by rw [pyk_2]; exact q2), fun z => ?_⟩
      rcases List.mem_append.mp z with z | z
      · rcases List.mem_cons.mp z with z | z
        · exact absurd z.symm (by simpa using h2)
        · exact q3 z
      · exact q4 z
def oRepr : OpN := fun env m xs Q => match xs with
  | [x] => match der env m x with
    | some d => okR 60 d = true ∧ (py d).shown.length ≤ sizeLine ∧ Q (.str (py d).shown) m
    | none => False
  | _ => False
theorem call_reprD (hg : X.A.guards = some []) (hu : X.A.units + 64 < cLine) (ns : NoSys X.K) : CallD X C (.builtin "repr") oRepr := by
  refine ⟨fun env m xs Q Q' i => ?_, fun pins s σ H vs us Q I rv h => ?_⟩
  · unfold oRepr
    split
    · split
      · exact fun h => ⟨h.1, h.2.1, i _ _ h.2.2⟩
      · exact id
    · exact id
  · obtain ⟨B, n, env, m, σ', xs, rfl, ok, lx, h⟩ := h
    unfold oRepr at h
    split at h
    · rename_i x
      split at h
      · rename_i d hd
        obtain ⟨h1, h2, h3⟩ := h
        cases lx with
        | cons lx z =>
          cases z
          obtain ⟨u, rfl, r⟩ := vals1 rv
          obtain ⟨as, r1, r2⟩ := now_rd I ok.good ns (der_ok ok lx hd) r h1
          obtain ⟨s1, s2⟩ := okR_show _ _ h1
          have fin : ∀ (h' : Heap) (t : Tok) (tk : Tok), (∀ b o, s.heap.get? b = some o → h'.get? b = some o) → EP X pins σ Q (.str (py d).shown t) { s with heap := h', toks := tk } := fun h' t tk k =>
            ⟨.str _, n.H, I.kept k, ⟨_, rfl⟩, h3 n _ ok.good (.refl _) (.str _)⟩
          have same : ∀ b o, s.heap.get? b = some o → s.heap.get? b = some o := fun _ _ e => e
          have far : ∀ a, u = .ref a → wpAny (model X.prog X.w) X.A (call (.builtin "repr") [u]) (EP X pins σ Q) X.xe s := fun a e => by
            subst e
            exact repr_of_reads' r1 s1 (fun _ => r2) hg (by omega) same (fun h' t tk k => fin h' t tk k) h2
          cases d with
          | non => cases (show Reads s.heap u .none as from r1); exact PySem.P.repr_of_none (fin s.heap _ _ same)
          | bl b => rw [py] at r1; cases r1; exact PySem.P.repr_of_bool (by have := fin s.heap s.toks (s.toks + 1) same; rw [py, PyData.shown] at this; exact this)
          | int i =>
            rw [py] at r1; cases r1
            rw [py, PyData.showable] at s1
            exact PySem.P.repr_of_int (of_decide_eq_true s1) (by have := fin s.heap s.toks (s.toks + 1) same; rw [py, PyData.shown] at this; exact this)
          | str x =>
            rw [py] at r1; cases r1
            rw [py, PyData.shown] at h2
            exact PySem.P.repr_of_str (by have := fin s.heap s.toks (s.toks + 1) same; rw [py, PyData.shown] at this; exact this) h2
          | tup xs => rw [py] at r1; cases r1 with | tuple e1 e2 e3 e4 => exact far _ rfl
          | lst xs => rw [py] at r1; cases r1 with | list e1 e2 e3 e4 => exact far _ rfl
          | dct xs => rw [py] at r1; cases r1 with | dict e1 e2 e3 e4 e5 => exact far _ rfl
          | ins _ _ => cases h1
          | obj _ => cases h1
          | ref _ => cases h1
          | ty _ => cases h1
          | cls _ => cases h1
      · exact h.elim
    · exact h.elim
end
end DL

set_option maxHeartbeats 1000000
namespace DL
open PySem PySem.Spec PyProof.Rows L2

/-! ### sorted -/
def sortOk (xs : List Dat) : Prop := PySem.W.AllAlike (xs.map py) ∧ PySem.W.Sortable (xs.map py) ∧ xs.all (okR 30) = true
noncomputable def sortD (xs : List Dat) : List Dat := xs.mergeSort (PySem.W.dataLe false py)
section
variable {prog : Program} {w : World} {A : Around} {E : Value → Shared → Prop} {s : Shared} {β : Type} {bs : List β} {enc : β → PyData} {R : Value → β → Prop}
theorem tup_items {l : Addr} {vs : List Value} {Q : List Value → Shared → Prop} (hl : IsTup s.heap l vs.toArray)
    (h : Q vs { s with heap := (s.heap.push (seqObj "list" #[] 0)).update s.heap.objs.size (Obj.mapSeq (· ++ vs.toArray)) }) (hsz : vs.length ≤ sizeLine) :
    wpAny (model prog w) A (collect (.ref l)) Q E s := by
  obtain ⟨o, ho, hc, n, hd⟩ := id hl
  unfold collect
  refine wpAny_bind (wpAny_runValue (codeAny_builtin entry_proto_collect' ?_))
  show wpAny _ _ (do again (.builtin "list.__iadd__" ⟨[← newList [], .ref l], []⟩)) _ _ s
  refine wpAny_bind (wpAny_newList (wpAny_pure ⟨Code.quiet_builtin _ (by decide +kernel), codeAny_builtin entry_list_iadd' ?_⟩))
  show wpAny _ _ (Builtin.List.listExtendWith (.ref s.heap.objs.size) (.ref l) (.ref s.heap.objs.size)) _ _ { s with heap := s.heap.push (seqObj "list" #[] 0) }
  unfold Builtin.List.listExtendWith
  have ho' : (s.heap.push (seqObj "list" #[] 0)).get? l = some o := Heap.get?_push_of_some _ ho
  refine wpAny_bind (wpAny_typeOf (T := "tuple") ⟨o, ho', hc⟩ ?_)
  have ht : (Value.type "tuple" == Value.type "tuple") = true := by rfl
  rw [if_pos (by rw [ht]; simp)]
  refine wpAny_bind (listItems_at ho' hd ?_)
  refine wpAny_bind (listItems_at (xs := #[]) (n := 0) (Heap.get?_push_size _ rfl) rfl ?_)
  rw [if_neg (by simp)]
  refine wpAny_bind (listUpdate_at (xs := #[]) (n := 0) (Heap.get?_push_size _ rfl) rfl ?_ (Nat.zero_le _) (by show (#[] ++ vs.toArray).size ≤ sizeLine + 1; simp only [Array.size_append, List.size_toArray, List.length_nil]; omega))
  refine wpAny_pure ?_
  show wpAny (model prog w) A (do
      let o ← load s.heap.objs.size
      match o.data with
      | .seq xs _ => pure xs.toList
      | _ => unsupported "internal:collect") Q E { s with heap := (s.heap.push (seqObj "list" #[] 0)).update s.heap.objs.size (Obj.mapSeq (· ++ vs.toArray)) }
  refine wpAny_bind (wpAny_load (get?_update_seq (Heap.get?_push_size _ rfl) _) ?_)
  show wpAny _ _ (pure ((#[] : Array Value) ++ vs.toArray).toList) Q E _
  rw [show ((#[] : Array Value) ++ vs.toArray).toList = vs by simp]
  exact wpAny_pure h
open PySem.W PySem.Calls in
theorem sorted_tup {l : Addr} {vs : List Value} {Q : Value → Shared → Prop} (hl : IsTup s.heap l vs.toArray) (e : EachIs R vs bs) (er : EachIs (fun v b => ∃ as, Reads s.heap v (enc b) as) vs bs) (hal : AllAlike (bs.map enc)) (hk : Sortable (bs.map enc)) (hL : bs.length ≤ sizeLine)
    (hu : ∀ b, b ∈ bs → A.units + 2 + (enc b).depth < cLine) (h : ∀ out, out.length = bs.length → EachIs R out (bs.mergeSort (dataLe false enc)) → Q (.ref (s.heap.objs.size + 1)) { s with heap := sortedAll s.heap vs (List.toArray out) }) :
    wpAny (model prog w) A (call (.builtin "sorted") [.ref l]) Q E s := by
  have er' : EachIs (fun v b => ∃ as, Reads (sortingHeap (copyHeap s.heap vs) (s.heap.objs.size + 1) vs) v (enc b) as) vs bs := er.mono fun _ _ ⟨as, r⟩ => ⟨as, PyProof.Rows.Reads.keeps (fun _ _ => sorting_copy_old) r⟩
  have hL' : vs.length ≤ sizeLine := by rw [e.length]; exact hL
  have S := SortsAt.data (prog := prog) (w := w) (A := A.in1.in1) (s := { s with heap := sortingHeap (copyHeap s.heap vs) (s.heap.objs.size + 1) vs }) (each_map (R := fun v d => ∃ as, Reads (sortingHeap (copyHeap s.heap vs) (s.heap.objs.size + 1) vs) v d as) enc er') hal hk (bound_map hu)
  refine call_function_entry_kw kind_sorted plain_sorted entry_sorted (args_sorted1 _) ?_
  unfold Builtin.«sorted»
  refine wpAny_bind (m := checkCount "sorted" 1 1 _) (wpAny_pure ?_)
  refine wpAny_bind (tup_items hl ?_ hL')
  refine wpAny_bind (wpAny_newList ?_ hL')
  have hsz : ((s.heap.push (seqObj "list" #[] 0)).update s.heap.objs.size (Obj.mapSeq (· ++ vs.toArray))).objs.size = s.heap.objs.size + 1 := by
    rw [Heap.size_update, size_push']
  show wpAny _ _ _ _ _ { s with heap := copyHeap s.heap vs }
  rw [hsz]
  refine wpAny_bind (wpAny_holding (wpAny_call_entry_kw slot_list_sort ⟨_, copyHeap_at s.heap vs, rfl⟩ entry_list_sort ?body (args_list_sort _)))
  case body =>
    show wpAny (model prog w) A.in1.in1 (Builtin.«list.sort» ⟨[.ref (s.heap.objs.size + 1)], []⟩) _ _ _
    refine wpAny_mono (list_sort_vals (s := { s with heap := copyHeap s.heap vs }) (P := fun f s' => f = .done (.ret .none) ∧ Q (.ref (s.heap.objs.size + 1)) s') (copyHeap_at s.heap vs) S hL' ⟨rfl, h _ (by rw [sortVals_length false rfl]; exact e.length) (sortVals_data false e er' hal)⟩) (fun f s' hf => ?_) fun _ _ e => e
    obtain ⟨rfl, hq⟩ := hf
    exact ⟨_, rfl, wpAny_pure ⟨_, rfl, hq⟩⟩
end
section
variable {X : Cx} {C : Ct}
/-- values that show data -/
def ShowV (X : Cx) (C : Ct) (n : Nw) : Value → Dat → Prop := fun u d => ∃ v, RelV v u ∧ FzN C X.w X.K n v d
theorem each_of {n : Nw} : ∀ {us : List Value} {vs : List V} {ds : List Dat}, Vals vs us → FzAllN C X.w X.K n vs ds → PySem.W.EachIs (ShowV X C n) us ds
  | _, _, [], r, z => by cases z; cases r; exact .nil
  | _, _, d :: ds, r, z => by
    cases z with
    | cons a b =>
      cases r with
      | cons r1 r2 => exact .cons ⟨_, r1, a⟩ (each_of r2 b)
theorem of_each {n : Nw} : ∀ {us : List Value} {ds : List Dat}, PySem.W.EachIs (ShowV X C n) us ds → ∃ vs, Vals vs us ∧ FzAllN C X.w X.K n vs ds
  | _, _, .nil => ⟨[], .nil, .nil⟩
  | _, _, .cons ⟨v, r, z⟩ t => by
    obtain ⟨vs, h1, h2⟩ := of_each t
    exact ⟨v :: vs, .cons r h1, .cons z h2⟩
theorem each_rd {pins : List (Addr × Obj)} {σ : L2.St} {s : Shared} {n : Nw} {m : Mem} (I : Inv X pins σ n.H s) (g : Good C X.w X.K n m) (ns : NoSys X.K) (k : Nat) : ∀ {us : List Value} {ds : List Dat}, PySem.W.EachIs (ShowV X C n) us ds → ds.all (okR k) = true →
    PySem.W.EachIs (fun v b => ∃ as, Reads s.heap v (py b) as) us ds
  | _, _, .nil, _ => .nil
  | _, _, .cons ⟨v, r, z⟩ t, h => by
    rw [List.all_cons, Bool.and_eq_true] at h
    obtain ⟨as, r1, _⟩ := fz_rd I g ns k z r h.1
    exact .cons ⟨as, r1⟩ (each_rd I g ns k t h.2)
def rSortN (X : Cx) (C : Ct) : List V → Hp → VK → Prop := fun vs H Q => ∃ B n env m σ v x ds, n.H = H ∧ Ok C X.w X.K B n env m σ ∧ vs = [v] ∧ LvOk C X.w X.K n env σ v x ∧ seqOf env m x = some ds ∧ sortOk ds ∧
  ∀ p us, H p = none → FzAllN C X.w X.K n us (sortD ds) → Q (.ref p) (upd H p (.lst us))
theorem call_sortN (hu : X.A.units + 64 < cLine) (ns : NoSys X.K) : CallR X (.builtin "sorted") (rSortN X C) := by
  intro pins s σ H vs us Q I rv h
  obtain ⟨B, n, env, m, σ', v, x, ds, rfl, ok, rfl, lx, hs, ⟨o1, o2, o3⟩, q⟩ := h
  obtain ⟨a, zs, rfl, hsq, hz⟩ := seq_ok ok lx hs
  rw [Vals.ref1 rv]
  have dep : ∀ b, b ∈ ds → X.A.units + 2 + (py b).depth < cLine := fun b hb => by
    have := (okR_show 30 b (List.all_eq_true.mp o3 b hb)).2
    omega
  have fin : ∀ its : List Value, Vals zs its → zs.length ≤ sizeLine → ∀ out : List Value, out.length = ds.length → PySem.W.EachIs (ShowV X C n) out (ds.mergeSort (PySem.W.dataLe false py)) →
      EP X pins σ Q (.ref (s.heap.objs.size + 1)) { s with heap := sortedAll s.heap its (List.toArray out) } := fun its r hl out ho eo => by
    obtain ⟨ws, r2, z2⟩ := of_each eo
    obtain ⟨ep, he'⟩ := PyProof.Rows.sortedAll_at s.heap its (List.toArray out)
    have hlen : ws.length ≤ sizeLine := by
      rw [r2.length, ho, ← hz.length]; exact hl
    exact ⟨.ref _, upd n.H (s.heap.objs.size + 1) (.lst ws), I.laid (t' := s.toks) (fun _ _ => PyProof.Rows.sortedAll_old) (Nat.le_succ _) ⟨hlen, out, ep, r2, he'⟩, rfl, q _ ws (I.hok.fresh (Nat.le_succ _)) z2⟩
  rcases hsq with hsq | hsq
  · obtain ⟨its, r, hl, hzl⟩ := I.list hsq
    have e := each_of (X := X) (C := C) r hz
    exact PySem.W.sorted_data hl.isList e (each_rd I ok.good ns 30 e o3) o1 o2 (by rw [← hz.length]; exact hzl) dep (fin its r hzl)
  · obtain ⟨its, r, hl, hzl⟩ := I.tuple hsq
    have e := each_of (X := X) (C := C) r hz
    exact sorted_tup hl e (each_rd I ok.good ns 30 e o3) o1 o2 (by rw [← hz.length]; exact hzl) dep (fin its r hzl)
/-- sorted(e): a new list -/
def nSort (da : TD) : TN := fun env m Q => da env m fun x m1 => match seqOf env m1 x with
  | some ds => sortOk ds ∧ Q (sortD ds) m1
  | none => False
theorem dn_sorted {B : Nw} {a : Expr} {da : TD} {p pos : Pos} (hu : X.A.units + 64 < cLine) (ns : NoSys X.K) (hg : Gl X "sorted") (hm : X.mg "sorted" = none) (hv : bootBuiltins "sorted" = some (.builtin "sorted")) (ha : DE X C B a da)
    (he : starEach [a] X.env = (false, eval a X.env) :: starEach [] X.env := by rfl) (hpl : (backTo pos (starEach [] X.env)).any (·.1) = false := by rfl) : DN X C B (.Call (.Name "sorted" p) [a] [] pos) (nSort da) := by
  refine ⟨fun env m Q Q' i h => ha.mono _ _ _ _ (fun x m1 h1 => ?_) h, imp (pe_callB (call_sortN (C := C) hu ns) hg hm hv (pa_cons ha.run pa_nil he) (by decide) (by decide) he hpl) ?_⟩
  · split at h1
    · exact ⟨h1.1, i _ _ h1.2⟩
    · exact h1.elim
  rintro σ H Q ⟨n, env, m, rfl, ok, h⟩
  refine ⟨n, env, m, rfl, ok, ha.mono _ _ _ _ (fun x m1 h1 n1 v g1 l1 lx => ?_) h⟩
  split at h1
  · rename_i ds hds
    exact ⟨B, n1, env, m1, σ, v, x, ds, rfl, ok.go g1 l1, rfl, lx, hds, h1.1, fun p us hp hu => h1.2 n1 p us g1 l1 hp hu⟩
  · exact h1.elim
end
end DL

set_option maxHeartbeats 1000000
namespace DL
open PySem PySem.Spec PyProof.Rows L2

/-! ### enumerate -/
set_option maxHeartbeats 1000000 in
theorem enum_new0 {v : Value} {o : Obj} {H : Heap → Prop} (B : Begins v o H) :
    Meets (Builtin.«enumerate.__new__» ⟨[.type "enumerate", v], []⟩) (fun _ R s => H s.heap ∧
      R (.ok (.ret (.ref (s.heap.push o).objs.size))) { s with heap := (s.heap.push o).push { cls := .type "enumerate", data := .fields #[.none, .bool false, .ref s.heap.objs.size, rawInt 0, .none, .none] } }) :=
  .of_wp fun prog w A R s h => by
    obtain ⟨hp, g, d, tk, os⟩ := s; obtain ⟨h1, h⟩ := h
    have hsub := sub_enumerate
    have q1 : ∀ {A' : Around} {E : Value → Shared → Prop} {Q : Value → Shared → Prop}, Q (.ref hp.objs.size) ⟨hp.push o, g, d, tk, os⟩ → wpAny (model prog w) A' (pyIter v) Q E ⟨hp, g, d, tk, os⟩ :=
      fun q => B.iter prog w _ _ ⟨hp, g, d, tk, os⟩ _ h1 q
    wp_walk using q1
    refine wpAny_stack_any fun st => wpAny_pure ?_
    split
    · rename_i c _ _ _ _ _
      cases (c == Value.type "enumerate")
      · wp_walk using q1
        exact ⟨_, rfl, h⟩
      · wp_walk using q1
        exact ⟨_, rfl, h⟩
    · wp_walk using q1
      exact ⟨_, rfl, h⟩
theorem enum_begins0 {prog : Program} {w : World} {A : Around} {E : Value → Shared → Prop} {s : Shared} {v : Value} {o : Obj} {H : Heap → Prop} {Q : Value → Shared → Prop} (B : Begins v o H) (h1 : H s.heap)
    (h : ∀ h', IsEnum h' (s.heap.objs.size + 1) s.heap.objs.size 0 .none → h'.get? s.heap.objs.size = some o → h'.objs.size = s.heap.objs.size + 2 →
      (∀ b o, s.heap.get? b = some o → h'.get? b = some o) → Q (.ref (s.heap.objs.size + 1)) { s with heap := h' }) :
    wpAny (model prog w) A (call (.type "enumerate") [v]) Q E s := by
  refine callType_new F.called_enumerate (by decide) (F.typeCall_enumerate_1 _) (F.newCall_enumerate_1 _) (fun obj => F.args_object_init_2 obj _) F.entry_enumerate_new
    (enum_new0 B) ⟨h1, ?_⟩
  have hz : (s.heap.push o).objs.size = s.heap.objs.size + 1 := Heap.size_push ..
  show _ ∧ _
  rw [hz]
  have he : IsEnum ((s.heap.push o).push { cls := .type "enumerate", data := .fields #[.none, .bool false, .ref s.heap.objs.size, rawInt 0, .none, .none] }) (s.heap.objs.size + 1) s.heap.objs.size 0 .none := by
    have := Heap.get?_push_size (s.heap.push o) (o := { cls := .type "enumerate", data := .fields #[.none, .bool false, .ref s.heap.objs.size, rawInt 0, .none, .none] }) rfl
    rw [hz] at this; exact this
  refine ⟨⟨_, he, rfl⟩, h _ he (Heap.get?_push_of_some _ (Heap.get?_push_size _ B.free)) (by rw [Heap.size_push, hz]) fun b o x => Heap.get?_push_of_some _ (Heap.get?_push_of_some _ x)⟩
/-- the tuple at a, each item with its number in a new pair -/
def IteT (K : PySem.W.Frag) (a : Addr) : It :=
  ⟨fun i H => ∃ (xs : List V) (x : V), SqT K H a xs ∧ xs[i]? = some x, fun i H v H' => ∃ T x, v = .ref T ∧ H T = none ∧ H' = upd H T (.tup [.int (i : Nat), x]) ∧ ∀ xs, SqT K H a xs → xs[i]? = some x, fun i H => ∃ xs : List V, SqT K H a xs ∧ xs.length ≤ i⟩
theorem turn_enumT {P : Program} {w : World} {K : PySem.W.Frag} {elts : List Expr} {kk : Nat} {tpos : Pos} (a e it : Addr) :
    Turn P w K (.Tuple elts kk tpos) (IteT K a) [e, it] e (fun i h => (∃ old, IsEnum h e it ((i : Nat) : Int) old) ∧ h.IsTupleIter it a i ∧ e ≠ it ∧ e ≠ a ∧ a ≠ it) where
  mem := by simp
  obj := fun i h st b hb => by
    obtain ⟨⟨old, he⟩, ⟨o, ho, hc, hd⟩, _⟩ := st
    have e' : b = e ∨ b = it := by simpa using hb
    rcases e' with z | z
    · rw [z]; exact ⟨_, he, fun v q => nomatch q⟩
    · rw [z]; exact ⟨o, ho, fun v q => by rw [hd] at q; cases q⟩
  keep := fun i h h' st k => let ⟨⟨old, he⟩, hi, hne⟩ := st; ⟨⟨old, k e (by simp) _ he⟩, hi.at fun o q => k it (by simp) o q, hne⟩
  item := by
    intro X hP hw hK hc i pins s σ H E I hf st hg
    subst hP hw hK
    obtain ⟨⟨old, he⟩, hit, hne, hea, hai⟩ := st
    obtain ⟨xs, x, hq, hx⟩ := hg
    obtain ⟨its, rv, p, hz⟩ := I.tuple hq
    obtain ⟨u, hu, ru⟩ := rv.get hx
    have hel : e < s.heap.objs.size := Heap.lt_size he
    have hil : it < s.heap.objs.size := by obtain ⟨_, q, _⟩ := hit; exact Heap.lt_size q
    have hh : X.A.in1.handled = none := I.ok.hd hc
    have hlt : i < its.toArray.size := by
      have := (List.getElem?_eq_some_iff.mp hu).1
      simpa using this
    refine wpAny_pyNext_enum_itemD (Draws.tuple hh it a hai its.toArray) he ⟨hit, p⟩ hlt hne (by simp [hne, hea]) fun y h' tk hy ho hit' hT hsz hk => ?_
    have hy' : its.toArray[i]? = some y := hy
    have hyu : y = u := by
      have e1 : its.toArray[i]? = some u := by simpa using hu
      rw [hy'] at e1
      exact Option.some.inj e1
    subst hyu
    refine ⟨_, rfl, wpAny_letOwnedTupleGo_enum (s := { s with heap := h', toks := tk + 1 }) ho fun h'' he' sb => ?_⟩
    have hT2 : h''.get? s.heap.objs.size = some { cls := .type "tuple", data := .seq #[.int i tk, y] } := (sb.2 _ (Nat.ne_of_gt hel)).trans hT
    have new : ObjOk X.prog X.w (upd H s.heap.objs.size (.tup [.int (i : Nat), x])) h'' s.heap.objs.size (.tup [.int (i : Nat), x]) :=
      ⟨by show 2 ≤ sizeLine; decide, [.int i tk, y], .cons ⟨_, rfl⟩ (.cons ru .nil), ⟨_, hT2, rfl, _, rfl⟩⟩
    have I1 : Inv X pins σ (upd H s.heap.objs.size (.tup [.int (i : Nat), x])) { s with heap := h'', toks := tk + 1 } :=
      I.turnedNew (ch := [e, it]) (fun b ob hb q => (sb.2 b (fun z => hb (by simp [z]))).trans (hk b ob (fun z => hb (by simp [z])) (fun z => hb (by simp [z])) q)) hf (Nat.le_refl _) new
    refine ⟨.ref s.heap.objs.size, _, I1, rfl, ⟨_, x, rfl, I.hok.fresh (Nat.le_refl _), rfl, fun ys hy => by rw [I.tuple_inj hy hq]; exact hx⟩, ⟨⟨y, ?_⟩, hit'.1.at fun o q => (sb.2 it (Ne.symm hne)).trans q, hne, hea, hai⟩, fun b hb => ?_⟩
    · have e1 : ((i + 1 : Nat) : Int) = (i : Int) + 1 := by omega
      rw [e1]; exact he'
    · have hb' : b < s.heap.objs.size := by
        have e' : b = e ∨ b = it := by simpa using hb
        rcases e' with z | z
        · rw [z]; exact hel
        · rw [z]; exact hil
      rw [upd_ne (Nat.ne_of_lt hb')]
      exact (hf b hb).1
  done := by
    intro X hP hw hK hc i pins s σ H E I hf st hg
    subst hP hw hK
    obtain ⟨⟨old, he⟩, hit, hne, hea, hai⟩ := st
    obtain ⟨xs, hq, hx⟩ := hg
    obtain ⟨its, rv, p, hz⟩ := I.tuple hq
    obtain ⟨f0, f1, f2, f3, f4, f5⟩ := hf it (by simp)
    have hl := rv.length
    have hh : X.A.in1.handled = none := I.ok.hd hc
    have hx' : its.toArray[i]? = none := by simp; omega
    have D : Draws X.prog X.w X.A.in1 it [it, a] i (fun _ _ => False) (fun j h => j = i ∧ h.IsTupleIter it a i ∧ h.IsTuple a its.toArray) :=
      { live := fun _ _ st => let ⟨o, ho, _⟩ := st.2.1; ⟨o, ho⟩
        frame := fun _ _ _ st hk => ⟨st.1, st.2.1.at fun o e => hk it (by simp) o e, st.2.2.at fun o e => hk a (by simp) o e⟩
        item := fun j s Q E hj st _ => absurd st.1 (by omega)
        done := fun s Q E st hE => wpAny_nextOf_tuple_end hh st.2.1 st.2.2 hx' hE }
    exact wpAny_pyNext_enum_endD D he ⟨rfl, hit, p⟩ fun h' eb => ⟨rfl, I.turned (t' := s.toks) (fun b o hb q => eb b o hb q) f0 f1 f3 f4 f5⟩
  self := fun A i s Q E st h => let ⟨⟨_, he⟩, _⟩ := st; wpAny_pyIter_enum he h
/-- enumerate of a list, a tuple -/
theorem pi_enumA {X : Cx} {e : Expr} {ta : TA} {p pos tpos : Pos} {elts : List Expr} {kk : Nat} (hg : Gl X "enumerate") (hm : X.mg "enumerate" = none) (ha : PA X [e] ta) (hs : starEach [e] X.env = [(false, eval e X.env)] := by rfl) :
    PI X (.Tuple elts kk tpos) (.Call (.Name "enumerate" p) [e] [] pos) (fun σ H R => ta σ H fun vs H1 => ∃ a xs, vs = [.ref a] ∧ ((SqL X.K H1 a xs ∧ R (Ite X.K a) H1) ∨ (SqT X.K H1 a xs ∧ R (IteT X.K a) H1))) := by
  refine ⟨fun pins s σ H R I h => ?_⟩
  refine Call_ (ld_blt I hg hm boot_enumerate (PyProof.Rows.callWith_type1 (thn (ha.run pos pins s σ H _ I h) fun us s1 ⟨vs, H1, I1, r1, q1⟩ => ?_) hs rfl))
  obtain ⟨a, xs, ex, q1⟩ := q1
  subst ex
  cases r1 with
  | cons r rr =>
    cases rr
    cases r
    have fr2 : ∀ b, b ∈ [s1.heap.objs.size + 1, s1.heap.objs.size] → FpOk X pins H1 b := fun b hb => by
      have e' : b = s1.heap.objs.size + 1 ∨ b = s1.heap.objs.size := by simpa using hb
      have hle : s1.heap.objs.size ≤ b := by
        rcases e' with z | z
        · rw [z]; exact Nat.le_add_right _ _
        · rw [z]; exact Nat.le_refl _
      exact I1.fpOk hle (I1.hok.fresh hle)
    rcases q1 with ⟨hq, q⟩ | ⟨hq, q⟩
    · obtain ⟨its, rv, p', hz⟩ := I1.list hq
      refine call_enumerate_list p'.isList fun h' he hit hsz hk => wpAny_pyIter_enum he ?_
      exact ⟨s1.heap.objs.size + 1, [s1.heap.objs.size + 1, s1.heap.objs.size], _, _, H1, rfl, I1.kept (t' := s1.toks) hk, turn_enum a (s1.heap.objs.size + 1) s1.heap.objs.size, ⟨⟨.none, he⟩, hit, Nat.succ_ne_self _⟩, fr2, q⟩
    · obtain ⟨its, rv, p', hz⟩ := I1.tuple hq
      have lt : a < s1.heap.objs.size := by obtain ⟨_, e, _⟩ := id p'; exact Heap.lt_size e
      refine enum_begins0 (begins_tuple a its.toArray) p' fun h' he hit hsz hk => wpAny_pyIter_enum he ?_
      exact ⟨s1.heap.objs.size + 1, [s1.heap.objs.size + 1, s1.heap.objs.size], _, _, H1, rfl, I1.kept (t' := s1.toks) hk, turn_enumT a (s1.heap.objs.size + 1) s1.heap.objs.size,
        ⟨⟨.none, he⟩, ⟨_, hit, rfl, rfl⟩, Nat.succ_ne_self _, Nat.ne_of_gt (Nat.lt_succ_of_lt lt), Nat.ne_of_lt lt⟩, fr2, q⟩
theorem walk_enumT {K : PySem.W.Frag} {a : Addr} {xs : List V} : Walk (IteT K a) xs.length (fun H => SqT K H a xs) (YPair (fun i => some (.int (i : Nat))) (fun i => xs[i]?)) := by
  refine ⟨fun i _ hi q => ⟨xs, xs[i], q, by simp [hi]⟩, fun _ q => ⟨xs, q, Nat.le_refl _⟩, fun i H v H' _ q y => ?_⟩
  obtain ⟨T, x, h1, h2, h3, h4⟩ := y
  exact ⟨T, .int (i : Nat), x, h1, h2, h3, rfl, h4 xs q⟩
theorem walk_zipT {K : PySem.W.Frag} {a b : Addr} {xs ys : List V} {n : Nat} (hn : n = min xs.length ys.length) : Walk (RZ.ItzT K a b) n (fun H => SqT K H a xs ∧ SqT K H b ys) (YPair (fun i => xs[i]?) (fun i => ys[i]?)) := by
  subst hn
  refine ⟨fun i _ hi q => ?_, fun _ q => ⟨xs, ys, q.1, q.2, by omega⟩, fun i H v H' _ q y => ?_⟩
  · have h1 : i < xs.length := by omega
    have h2 : i < ys.length := by omega
    exact ⟨xs, ys, xs[i], ys[i], q.1, q.2, by simp [h1], by simp [h2]⟩
  · obtain ⟨T, x, z, h1, h2, h3, h4, h5⟩ := y
    exact ⟨T, x, z, h1, h2, h3, h4 xs q.1, h5 ys q.2⟩
/-! ### their readings -/
def enumD : Nat → List Dat → List Dat
  | _, [] => []
  | i, x :: xs => .tup [.int (i : Nat), x] :: enumD (i + 1) xs
def zipD : List Dat → List Dat → List Dat
  | x :: xs, y :: ys => .tup [x, y] :: zipD xs ys
  | _, _ => []
theorem enumD_len : ∀ (i : Nat) (xs : List Dat), (enumD i xs).length = xs.length
  | _, [] => rfl
  | i, x :: xs => by rw [enumD, List.length_cons, List.length_cons, enumD_len]
theorem enumD_get : ∀ (xs : List Dat) (k i : Nat), (enumD k xs)[i]? = xs[i]?.map fun x => .tup [.int ((k + i : Nat) : Int), x]
  | [], _, _ => by simp [enumD]
  | x :: xs, k, 0 => by simp [enumD]
  | x :: xs, k, i + 1 => by
    have := enumD_get xs (k + 1) i
    rw [enumD, List.getElem?_cons_succ, List.getElem?_cons_succ, this, show k + 1 + i = k + (i + 1) by omega]
theorem zipD_len : ∀ (xs ys : List Dat), (zipD xs ys).length = min xs.length ys.length
  | [], _ => by simp [zipD]
  | x :: xs, [] => by simp [zipD]
  | x :: xs, y :: ys => by simp [zipD, zipD_len xs ys]
theorem zipD_get : ∀ (xs ys : List Dat) (i : Nat) (x y : Dat), xs[i]? = some x → ys[i]? = some y → (zipD xs ys)[i]? = some (.tup [x, y])
  | [], _, _, _, _, h, _ => by simp at h
  | x :: xs, [], _, _, _, _, h => by simp at h
  | x :: xs, y :: ys, 0, a, b, h, h' => by simp at h h'; simp [zipD, h, h']
  | x :: xs, y :: ys, i + 1, a, b, h, h' => by simp at h h'; simp [zipD, zipD_get xs ys i a b h h']
section
variable {X : Cx} {C : Ct} {B : Nw} {w : World} {K : PySem.W.Frag} {n : Nw} {m : Mem} {e e2 : Expr} {d d2 : TD}
/-- a new pair -/
theorem new_pair {n' : Nw} {T : Addr} {x y : V} {a b : Dat} (g : Good C w K n' m) (hT : n'.H T = none) (ha : FzN C w K n' x a) (hb : FzN C w K n' y b) :
    ∃ n'' : Nw, n''.H = upd n'.H T (.tup [x, y]) ∧ Good C w K n'' m ∧ n'.le n'' ∧ FzN C w K n'' (.ref T) (.tup [a, b]) := by
  obtain ⟨g2, l2⟩ := g.freeze (o := .tup [x, y]) hT
  exact ⟨_, rfl, g2, l2, .tup (SqT.of upd_same) (.cons (FzN.le ha l2) (.cons (FzN.le hb l2) .nil))⟩
theorem walkD_pairs {J : It} {xs : List Dat} {us vs : Nat → Option V} {Gp : Hp → Prop} (wk : Walk J xs.length Gp (YPair us vs)) (hG : ∀ n' m', n.sub n' → Good C w K n' m' → Gp n'.H)
    (hv : ∀ i x y, i < xs.length → us i = some x → vs i = some y → ∃ a b, xs[i]? = some (.tup [a, b]) ∧ FzN C w K n x a ∧ FzN C w K n y b) : WalkD C w K n J xs := by
  refine ⟨Gp, _, wk, fun n' m' s g => ⟨hG n' m' s g, fun i v H' hi hy => ?_⟩⟩
  obtain ⟨T, x, y, rfl, hT, rfl, h1, h2⟩ := hy
  obtain ⟨a, b, h3, h4, h5⟩ := hv i x y hi h1 h2
  obtain ⟨n'', e1, g2, l2, z⟩ := new_pair g hT (Fz.keep s.g (pre_get s.l) h4) (Fz.keep s.g (pre_get s.l) h5)
  exact ⟨n'', _, e1, g2, l2, h3, z⟩
def iEnumD (d : TD) : TId := fun env m Q => d env m fun x m1 => match x with
  | .f (.lst xs) => Q (enumD 0 xs) m1
  | .f (.tup xs) => Q (enumD 0 xs) m1
  | _ => False
theorem walkE {J : It} {xs : List Dat} {vs : List V} {Gp : Hp → Prop} (wk : Walk J vs.length Gp (YPair (fun i => some (.int (i : Nat))) (fun i => vs[i]?))) (hG : ∀ n' m', n.sub n' → Good C w K n' m' → Gp n'.H) (z : FzAllN C w K n vs xs) : WalkD C w K n J (enumD 0 xs) := by
  have hl := z.length
  refine walkD_pairs (by rw [enumD_len, ← hl]; exact wk) hG fun i x y hi h1 h2 => ?_
  cases h1
  obtain ⟨b, h3, h4⟩ := z.get' h2
  exact ⟨.int (i : Nat), b, by rw [enumD_get, h3, Nat.zero_add]; rfl, .int _, h4⟩
theorem di_enum {elts : List Expr} {kk : Nat} {tpos p pos : Pos} (hg : Gl X "enumerate") (hm : X.mg "enumerate" = none) (h : DE X C B e d) (hs : starEach [e] X.env = [(false, eval e X.env)] := by rfl) : DI X C B (.Tuple elts kk tpos) (.Call (.Name "enumerate" p) [e] [] pos) (iEnumD d) := by
  refine ⟨fun env m Q Q' i => h.mono _ _ _ _ fun x m1 => ?_, impI (pi_enumA hg hm (pa_cons h.run pa_nil hs) hs) ?_⟩
  · try dsimp only
    split <;> first | exact i _ _ | exact id
  rintro σ H R ⟨n, env, m, rfl, ok, q⟩
  refine ⟨n, env, m, rfl, ok, h.mono _ _ _ _ (fun x m1 h1 n1 v g1 l1 lx => ?_) q⟩
  split at h1
  · rename_i xs
    have lx : FzN C X.w X.K n1 v (.lst xs) := lx
    cases lx with
    | lst r z =>
      exact ⟨_, _, rfl, .inl ⟨.inl (rdUp g1 r), h1 n1 _ g1 l1 (walkE walk_enum (fun n' m' s g => Or.inl (rdUp g (Rd.keep s.g r))) z)⟩⟩
  · rename_i xs
    have lx : FzN C X.w X.K n1 v (.tup xs) := lx
    cases lx with
    | tup r z =>
      exact ⟨_, _, rfl, .inr ⟨SqT.keep g1.sub r, h1 n1 _ g1 l1 (walkE walk_enumT (fun n' m' s g => SqT.keep g.sub (SqT.keep s.g r)) z)⟩⟩
  · exact h1.elim
def iZipD (d d2 : TD) : TId := fun env m Q => d env m fun x m1 => d2 env m1 fun y m2 => match x, y with
  | .f (.lst xs), .f (.lst ys) => Q (zipD xs ys) m2
  | .f (.tup xs), .f (.tup ys) => Q (zipD xs ys) m2
  | _, _ => False
theorem walkZ {J : It} {xs ys : List Dat} {vs us : List V} {Gp : Hp → Prop} (wk : Walk J (min vs.length us.length) Gp (YPair (fun i => vs[i]?) (fun i => us[i]?))) (hG : ∀ n' m', n.sub n' → Good C w K n' m' → Gp n'.H) (z : FzAllN C w K n vs xs) (z2 : FzAllN C w K n us ys) :
    WalkD C w K n J (zipD xs ys) := by
  have hl := z.length
  have hl2 := z2.length
  refine walkD_pairs (by rw [zipD_len, ← hl, ← hl2]; exact wk) hG fun i x y hi h1 h2 => ?_
  obtain ⟨a, h3, h4⟩ := z.get' h1
  obtain ⟨b, h5, h6⟩ := z2.get' h2
  exact ⟨a, b, zipD_get _ _ _ _ _ h3 h5, h4, h6⟩
theorem di_zip {elts : List Expr} {kk : Nat} {tpos p pos : Pos} (hg : Gl X "zip") (hm : X.mg "zip" = none) (h : DE X C B e d) (h2 : DE X C B e2 d2) (hs : starEach [e, e2] X.env = (false, eval e X.env) :: starEach [e2] X.env := by rfl) (hs2 : starEach [e2] X.env = (false, eval e2 X.env) :: starEach [] X.env := by rfl)
    (hpl : (backTo pos (starEach [e2] X.env)).any (·.1) = false := by rfl) : DI X C B (.Tuple elts kk tpos) (.Call (.Name "zip" p) [e, e2] [] pos) (iZipD d d2) := by
  refine ⟨fun env m Q Q' i => h.mono _ _ _ _ fun x m1 => h2.mono _ _ _ _ fun y m2 => ?_, impI (RZ.pi_zipA hg hm (pa_cons h.run (pa_cons h2.run pa_nil hs2) hs) hs hpl) ?_⟩
  · try dsimp only
    split <;> first | exact i _ _ | exact id
  rintro σ H R ⟨n, env, m, rfl, ok, q⟩
  refine ⟨n, env, m, rfl, ok, h.mono _ _ _ _ (fun x m1 h1 n1 v g1 l1 lx => ?_) q⟩
  refine ⟨n1, env, m1, rfl, ok.go g1 l1, h2.mono _ _ _ _ (fun y m2 q2 n2 u g2 l2 ly => ?_) h1⟩
  split at q2
  · rename_i xs ys
    have lx : FzN C X.w X.K n2 v (.lst xs) := FzN.le (n := n1) lx l2
    have ly : FzN C X.w X.K n2 u (.lst ys) := ly
    cases lx with
    | lst r z =>
      cases ly with
      | lst r' z' =>
        exact ⟨_, _, _, _, rfl, .inl ⟨.inl (rdUp g2 r), .inl (rdUp g2 r'), q2 n2 _ g2 (l1.trans l2) (walkZ (walk_zip rfl) (fun n' m' s g => ⟨Or.inl (rdUp g (Rd.keep s.g r)), Or.inl (rdUp g (Rd.keep s.g r'))⟩) z z')⟩⟩
  · rename_i xs ys
    have lx : FzN C X.w X.K n2 v (.tup xs) := FzN.le (n := n1) lx l2
    have ly : FzN C X.w X.K n2 u (.tup ys) := ly
    cases lx with
    | tup r z =>
      cases ly with
      | tup r' z' =>
        exact ⟨_, _, _, _, rfl, .inr ⟨SqT.keep g2.sub r, SqT.keep g2.sub r', q2 n2 _ g2 (l1.trans l2) (walkZ (walk_zipT rfl) (fun n' m' s g => ⟨SqT.keep g.sub (SqT.keep s.g r), SqT.keep g.sub (SqT.keep s.g r')⟩) z z')⟩⟩
  · exact q2.elim
end
end DL

set_option maxHeartbeats 1000000
namespace DL
open PySem PySem.Spec PyProof.Rows L2

/-! ### x[::-1] -/
theorem back_ends (n : Nat) : Builtin.Slice.sliceAdjust none none (-1) (n : Int) = ((n : Int) - 1, -1) := by
  unfold Builtin.Slice.sliceAdjust
  simp
theorem back_many (n : Nat) : Builtin.Slice.slicePlaces ((n : Int) - 1) (-1) (-1) = n := by
  unfold Builtin.Slice.slicePlaces
  simp
  split <;> omega
theorem back_pick (xs : Array Value) : ((List.range xs.size).filterMap fun (m : Nat) => xs[(((xs.size : Nat) : Int) - 1 + (m : Int) * (-1)).toNat]?).toArray = xs.toList.reverse.toArray := by
  have key : ∀ (l : List Value) (k : Nat), k ≤ l.length → ((List.range k).filterMap fun (m : Nat) => l[l.length - 1 - m]?) = l.reverse.take k := by
    intro l k
    induction k with
    | zero => intro _; simp
    | succ k ih =>
      intro hk
      rw [List.range_succ, List.filterMap_append, ih (by omega)]
      have h1 : l.length - 1 - k < l.length := by omega
      simp only [List.filterMap_cons, List.filterMap_nil, List.getElem?_eq_getElem h1]
      rw [List.take_succ]
      congr 1
      rw [List.getElem?_reverse (by omega), List.getElem?_eq_getElem h1]
      rfl
  have e : (fun (m : Nat) => xs[(((xs.size : Nat) : Int) - 1 + (m : Int) * (-1)).toNat]?) = fun m => xs.toList[xs.toList.length - 1 - m]? := by
    funext m
    have : (((xs.size : Nat) : Int) - 1 + (m : Int) * (-1)).toNat = xs.toList.length - 1 - m := by simp; omega
    rw [this]
    simp
  rw [e]
  have := key xs.toList xs.toList.length (Nat.le_refl _)
  rw [show xs.size = xs.toList.length by simp, this, List.take_of_length_le (by simp)]
section
variable {prog : Program} {w : World} {A : Around} {E : Value → Shared → Prop} {s : Shared}
theorem back_applied {sl : Addr} {vs : Value} {n : Nat} {Q : Int × Int × Nat → Shared → Prop} (hs : s.heap.IsSliceOf sl .none .none vs) (ps : IsPart vs (some (-1)))
    (h : Q ((n : Int) - 1, -1, n) s) : wpAny (model prog w) A (Builtin.Slice.sliceApplied (.ref sl) (pure (n : Int))) Q E s := by
  obtain ⟨os, hos, hcs, hds⟩ := id hs
  unfold Builtin.Slice.sliceApplied Builtin.Slice.sliceFields
  refine wpAny_bind (wpAny_bind (wpAny_field hos hds (x := .none) rfl (wpAny_bind (wpAny_field hos hds (x := .none) rfl (wpAny_bind (wpAny_field hos hds (x := vs) rfl (wpAny_pure ?_)))))))
  refine wpAny_bind (HT.slicePart_ ps ?_)
  show wpAny _ _ (if ((-1 : Int) == 0) = true then _ else _) _ _ s
  rw [if_neg (by decide)]
  refine wpAny_bind (HT.slicePart_ .none (wpAny_bind (HT.slicePart_ .none (wpAny_bind (wpAny_pure ?_)))))
  show wpAny _ _ (match Builtin.Slice.sliceAdjust none none (-1) (n : Int) with | (lo, hi) => pure (lo, (-1 : Int), Builtin.Slice.slicePlaces lo hi (-1))) _ _ s
  rw [back_ends n]
  show wpAny _ _ (pure ((n : Int) - 1, (-1 : Int), Builtin.Slice.slicePlaces ((n : Int) - 1) (-1) (-1))) _ _ s
  rw [back_many]
  exact wpAny_pure h
theorem tuple_back {t sl : Addr} {items : Array Value} {vs : Value} {Q : Value → Shared → Prop} (ht : IsTup s.heap t items) (hs : s.heap.IsSliceOf sl .none .none vs) (ps : IsPart vs (some (-1)))
    (h : Q (.ref s.heap.objs.size) { s with heap := s.heap.push { cls := .type "tuple", data := .seq items.toList.reverse.toArray } })
    (hsz : items.size ≤ sizeLine) : wpAny (model prog w) A (getItem (.ref t) (.ref sl)) Q E s := by
  have htake : sizeOk (.seq items.toList.reverse.toArray) := by
    show items.toList.reverse.toArray.size ≤ sizeLine
    simpa using hsz
  obtain ⟨os, hos, hcs, hds⟩ := id hs
  have hTs : s.TypeIs (.ref sl) "slice" := ⟨os, hos, hcs⟩
  unfold getItem
  try with_reducible refine wpAny_holding ?_
  first | refine wpAny_bind (wpAny_pure ?_) | skip
  refine wpAny_bind (wpAny_sequenceKey ht.typeIs (by decide) ?_)
  refine wpAny_bind (wpAny_callSpecial?_slot (name := Str.ofString "__getitem__") ht.typeIs PyProof.Rows.slot_tuple_getitem
    (wpAny_call_entry PyProof.Rows.slot_tuple_getitem ht.typeIs entry_tuple_getitem ?_ (args_tuple_getitem _ _)))
  show wpAny _ _ (Builtin.Tuple.tupleItemsOf (.ref t) >>= _) _ _ s
  refine wpAny_bind (tupleItemsOf_ ht ?_)
  refine wpAny_bind (wpAny_typeOf hTs ?_)
  rw [if_pos (by decide)]
  refine wpAny_bind (back_applied hs ps ?_)
  have hno : ¬ ((((items.size : Int) - 1) == 0 && (-1 : Int) == 1 && items.size == items.size) = true) := by
    rw [show ((-1 : Int) == 1) = false by decide, Bool.and_false, Bool.false_and]
    exact Bool.false_ne_true
  show wpAny _ _ (if (((items.size : Int) - 1) == 0 && (-1 : Int) == 1 && items.size == items.size) = true then _ else _) _ _ s
  rw [if_neg hno, back_pick]
  first
    | exact wpAny_bind (m := Builtin.Tuple.tupleExact _) (wpAny_newObj_type (wpAny_pure ⟨_, rfl, wpAny_pure h⟩) htake)
    | exact wpAny_bind (m := Builtin.Tuple.tupleExact _) (wpAny_newObj_type (wpAny_bind (wpAny_pure (wpAny_pure ⟨_, rfl, wpAny_pure h⟩))) htake)
    | exact wpAny_bind (wpAny_bind (m := Builtin.Tuple.tupleExact _) (wpAny_newObj_type (wpAny_pure (wpAny_pure ⟨_, rfl, wpAny_pure h⟩)) htake))
    | exact wpAny_bind (wpAny_bind (m := Builtin.Tuple.tupleExact _) (wpAny_newObj_type (wpAny_pure ⟨_, rfl, wpAny_pure h⟩) htake))
end
section
variable {X : Cx} {C : Ct} {B : Nw} {e : Expr} {d : TD}
theorem pe_back {te : TE} {k : Nat} {p1 p2 p3 pos : Pos} (he : PE X e te) : PE X (.Subscript e (.Slice none none (some (.UnaryOp .USub (.Constant (.int 1) k p1) p2)) p3) pos)
    (fun σ H Q => te σ H fun x H1 => ∃ a xs, x = .ref a ∧ ((SqL X.K H1 a xs ∧ ∀ p, H1 p = none → Q (.ref p) (upd H1 p (.lst xs.reverse))) ∨ (SqT X.K H1 a xs ∧ ∀ p, H1 p = none → Q (.ref p) (upd H1 p (.tup xs.reverse))))) := by
  refine ⟨fun pins s σ H Q I h => ?_⟩
  refine Subscript_ (thn (he.run pins s σ H _ I h) fun v s1 ⟨x, H1, I1, r1, q1⟩ => ?_)
  obtain ⟨a, xs, ex, q1⟩ := q1
  subst ex
  cases r1
  have hst : PO X (some (.UnaryOp .USub (.Constant (.int 1) k p1) p2)) (tPart (tUn (rU fun i => .int (-i)) (tC (.int 1)))) := po_some (pe_un un_neg pe_int)
  refine wpAny_Slice (thn (po_none.run pins s1 σ H1 (fun o H2 => o = none ∧ H2 = H1) I1 ⟨rfl, rfl⟩) fun vl s2 ⟨l, H2, I2, pl, el, e2⟩ => ?_)
  subst el e2
  refine thn (po_none.run pins s2 σ H2 (fun o H3 => o = none ∧ H3 = H2) I2 ⟨rfl, rfl⟩) fun vu s3 ⟨u, H3, I3, pu, eu, e3⟩ => ?_
  subst eu e3
  refine thn (hst.run pins s3 σ H3 (fun o H4 => o = some (-1) ∧ H4 = H3) I3 ⟨1, rfl, -1, rfl, rfl, rfl⟩) fun vs s4 ⟨o, H4, I4, ps, eo, e4⟩ => ?_
  subst eo e4
  have I5 : Inv X pins σ H4 { s4 with heap := s4.heap.push { cls := .type "slice", data := .fields #[vl, vu, vs] } } := I4.kept (t' := s4.toks) fun b ob q => Heap.get?_push_of_some _ q
  show wpAny (model X.prog X.w) X.A (subscriptTail e (.Slice none none (some (.UnaryOp .USub (.Constant (.int 1) k p1) p2)) p3) (.ref a) (.ref s4.heap.objs.size)) (EP X pins σ Q) X.xe { s4 with heap := s4.heap.push { cls := .type "slice", data := .fields #[vl, vu, vs] } }
  rcases q1 with ⟨hx, q⟩ | ⟨hx, q⟩
  · obtain ⟨its, r, ht, hz⟩ := I5.list hx
    have hlen := r.length
    refine tail_any (ops := [.ref a, .ref s4.heap.objs.size]) ht.isList.typeIs (PySem.slot_list_getitem.lookup) ?_ (by with_unfolding_all rfl)
    refine wpAny_getItem_list_slice ht.isList (Heap.IsSliceOf.new _ vl vu vs) pl pu ps (by decide) ?_ (by rw [List.size_toArray]; omega)
    rw [PySem.W.krv_pick]
    refine ⟨.ref _, _, I5.laid (t' := s4.toks) (o := .lst xs.reverse) (fun b ob q => Heap.get?_push_of_some _ q) (Nat.le_refl _) ?_, rfl, q _ (I5.hok.fresh (Nat.le_refl _))⟩
    exact ⟨by rw [List.length_reverse]; exact hz, _, 0, r.reverse, Heap.get?_push_size _ rfl⟩
  · obtain ⟨its, r, ht, hz⟩ := I5.tuple hx
    have hlen := r.length
    cases pl
    cases pu
    refine tail_any (ops := [.ref a, .ref s4.heap.objs.size]) ht.typeIs (PyProof.Rows.slot_tuple_getitem.lookup) ?_ (by with_unfolding_all rfl)
    refine tuple_back ht (Heap.IsSliceOf.new _ .none .none vs) ps ?_ (by rw [List.size_toArray]; omega)
    refine ⟨.ref _, _, I5.laid (t' := s4.toks) (o := .tup xs.reverse) (fun b ob q => Heap.get?_push_of_some _ q) (Nat.le_refl _) ?_, rfl, q _ (I5.hok.fresh (Nat.le_refl _))⟩
    exact ⟨by rw [List.length_reverse]; exact hz, _, r.reverse, ⟨_, Heap.get?_push_size _ rfl, rfl, _, rfl⟩⟩
def dBack (d : TD) : TD := fun env m Q => d env m fun x m1 => match der env m1 x with
  | some (.lst xs) => Q (.f (.lst xs.reverse)) m1
  | some (.tup xs) => Q (.f (.tup xs.reverse)) m1
  | _ => False
theorem de_back {k : Nat} {p1 p2 p3 pos : Pos} (he : DE X C B e d) : DE X C B (.Subscript e (.Slice none none (some (.UnaryOp .USub (.Constant (.int 1) k p1) p2)) p3) pos) (dBack d) := by
  refine ⟨fun env m Q Q' i q => he.mono _ _ _ _ (fun x m1 h1 => ?_) q, imp (pe_back he.run) ?_⟩
  · try dsimp only at h1 ⊢
    split at h1 <;> first | exact i _ _ h1 | exact h1.elim
  rintro σ H Q ⟨n, env, m, rfl, ok, q⟩
  refine ⟨n, env, m, rfl, ok, he.mono _ _ _ _ (fun x m1 h1 n1 v g1 l1 lx => ?_) q⟩
  have ok1 := ok.go g1 l1
  split at h1
  · rename_i xs hd
    obtain ⟨p, vs, rfl, s1, z1⟩ := lst_ok ok1 lx (xs := xs) (by unfold lstOf; rw [hd])
    refine ⟨p, vs, rfl, .inl ⟨.inl s1, fun q hq => ?_⟩⟩
    obtain ⟨g4, l4⟩ := g1.freeze (o := .lst vs.reverse) hq
    exact h1 _ _ g4 (l1.trans l4) (.lst (Rd.of upd_same) (FzAllN.le (FzAll.reverse z1) l4))
  · rename_i xs hd
    obtain ⟨p, vs, rfl, s1, z1⟩ := tup_ok ok1 lx (xs := xs) (by unfold tupOf; rw [hd])
    refine ⟨p, vs, rfl, .inr ⟨s1, fun q hq => ?_⟩⟩
    obtain ⟨g4, l4⟩ := g1.freeze (o := .tup vs.reverse) hq
    exact h1 _ _ g4 (l1.trans l4) (.tup (SqT.of upd_same) (FzAllN.le (FzAll.reverse z1) l4))
  · exact h1.elim

/-! ### a new list that is shared -/
def dShr (d : TN) : TD := fun env m Q => d env m fun ds m1 => Q (.f (.obj m1.length)) (m1 ++ [.lst ds])
theorem DN.shr {d : TN} (h : DN X C B e d) : DE X C B e (dShr d) := by
  refine ⟨fun env m Q Q' i => h.mono env m _ _ fun ds m1 => i _ _, imp h.run ?_⟩
  rintro σ H Q ⟨n, env, m, rfl, ok, q⟩
  refine ⟨n, env, m, rfl, ok, h.mono _ _ _ _ (fun ds m1 h1 n1 p vs g1 l1 hp hz => ?_) q⟩
  have l : ∀ a o, n1.G a = some o → n1.G a = some o := fun _ _ e => e
  obtain ⟨g2, l2⟩ := g1.newM (o := .lst vs) (x := .lst ds) hp ⟨vs, upd_same, FzAll.keep (fun _ _ e => e) (pre_get (List.prefix_append _ _)) hz⟩
  refine h1 _ _ g2 (l1.trans l2) (.obj ?_)
  show (n1.al ++ [p])[m1.length]? = some p
  rw [g1.len, List.getElem?_append_right (Nat.le_refl _)]
  simp

/-! ### a, b, c = e1, e2, e3 -/
def sPar3 (i j l : Nat) (d1 d2 d3 : TD) : TSd := fun D env m => d1 env m fun x m1 => d2 env m1 fun y m2 => d3 env m2 fun z m3 => match x, y, z with
  | .f a, .f b, .f c => D.nx (((env.set i (some (.f a))).set j (some (.f b))).set l (some (.f c))) m3
  | _, _, _ => False
theorem ds_par3 {i j l : Nat} {x y z : Str} {a b c : Expr} {d1 d2 d3 : TD} {px py pz pt pos : Pos} {kt k2 pt2} (hc : X.calm = true) (hN : X.N.Nodup) (hi : X.N[i]? = some x) (hj : X.N[j]? = some y) (hl : X.N[l]? = some z) (hij : i ≠ j) (hil : i ≠ l) (hjl : j ≠ l)
    (hx : X.env.scope.names.lookup x = some .local) (hy : X.env.scope.names.lookup y = some .local) (hz : X.env.scope.names.lookup z = some .local) (ha : DE X C B a d1) (hb : DE X C B b d2) (hcc : DE X C B c d3)
    (hw : swappedStores [.Tuple [.Name x px, .Name y py, .Name z pz] kt pt] (.Tuple [a, b, c] k2 pt2) X.env = pure (some [x, y, z]))
    (hs : swapsWithSole [.Tuple [.Name x px, .Name y py, .Name z pz] kt pt] (.Tuple [a, b, c] k2 pt2) pos.line X.env = pure false := by rfl)
    (hs1 : starEach [a, b, c] X.env = (false, eval a X.env) :: starEach [b, c] X.env := by rfl) (hs2 : starEach [b, c] X.env = (false, eval b X.env) :: starEach [c] X.env := by rfl) (hs3 : starEach [c] X.env = (false, eval c X.env) :: starEach [] X.env := by rfl) :
    DS X C B (.Assign [.Tuple [.Name x px, .Name y py, .Name z pz] kt pt] (.Tuple [a, b, c] k2 pt2) pos) (sPar3 i j l d1 d2 d3) := by
  refine ⟨fun env m D D' le h => ha.mono _ _ _ _ (fun x m1 h1 => hb.mono _ _ _ _ (fun y m2 h2 => hcc.mono _ _ _ _ (fun z m3 h3 => ?_) h2) h1) h, impS (ps_par3 hc hN hi hj hl hij hil hjl hx hy hz (pa_cons ha.run (pa_cons hb.run (pa_cons hcc.run pa_nil hs3) hs2) hs1) hw hs) ?_⟩
  · try dsimp only at h3 ⊢
    split at h3
    · exact le.nx _ _ h3
    · exact h3
  rintro D σ H ⟨n, env, m, rfl, ok, q⟩
  refine ⟨n, env, m, rfl, ok, ha.mono _ _ _ _ (fun x m1 h1 n1 v g1 l1 lx => ?_) q⟩
  refine ⟨n1, env, m1, rfl, ok.go g1 l1, hb.mono _ _ _ _ (fun y m2 h2 n2 u g2 l2 ly => ?_) h1⟩
  refine ⟨n2, env, m2, rfl, ok.go g2 (l1.trans l2), hcc.mono _ _ _ _ (fun z m3 h3 n3 t g3 l3 lz => ?_) h2⟩
  split at h3
  · rename_i a b c
    have l13 := (l1.trans l2).trans l3
    have lx : FzN C X.w X.K n3 v a := FzN.le (n := n1) lx (l2.trans l3)
    have ly : FzN C X.w X.K n3 u b := FzN.le (n := n2) ly l3
    have lz : FzN C X.w X.K n3 t c := lz
    exact ⟨v, u, t, rfl, h3 n3 _ l13.sub ((((ok.go g3 l13).setF lx).setF ly).setF lz)⟩
  · exact h3.elim
/-- .., the third a new list of the body's own -/
def sPar3N (i j l : Nat) (d1 d2 : TD) (d3 : TN) : TSd := fun D env m => d1 env m fun x m1 => d2 env m1 fun y m2 => d3 env m2 fun zs m3 => match x, y with
  | .f a, .f b => D.nx (((env.set i (some (.f a))).set j (some (.f b))).set l (some (.own (.lst zs)))) m3
  | _, _ => False
theorem ds_par3N {i j l : Nat} {x y z : Str} {a b c : Expr} {d1 d2 : TD} {d3 : TN} {px py pz pt pos : Pos} {kt k2 pt2} (hc : X.calm = true) (hN : X.N.Nodup) (hi : X.N[i]? = some x) (hj : X.N[j]? = some y) (hl : X.N[l]? = some z) (hij : i ≠ j) (hil : i ≠ l) (hjl : j ≠ l)
    (hx : X.env.scope.names.lookup x = some .local) (hy : X.env.scope.names.lookup y = some .local) (hz : X.env.scope.names.lookup z = some .local) (ha : DE X C B a d1) (hb : DE X C B b d2) (hcc : DN X C B c d3)
    (hw : swappedStores [.Tuple [.Name x px, .Name y py, .Name z pz] kt pt] (.Tuple [a, b, c] k2 pt2) X.env = pure (some [x, y, z]))
    (hs : swapsWithSole [.Tuple [.Name x px, .Name y py, .Name z pz] kt pt] (.Tuple [a, b, c] k2 pt2) pos.line X.env = pure false := by rfl)
    (hs1 : starEach [a, b, c] X.env = (false, eval a X.env) :: starEach [b, c] X.env := by rfl) (hs2 : starEach [b, c] X.env = (false, eval b X.env) :: starEach [c] X.env := by rfl) (hs3 : starEach [c] X.env = (false, eval c X.env) :: starEach [] X.env := by rfl) :
    DS X C B (.Assign [.Tuple [.Name x px, .Name y py, .Name z pz] kt pt] (.Tuple [a, b, c] k2 pt2) pos) (sPar3N i j l d1 d2 d3) := by
  refine ⟨fun env m D D' le h => ha.mono _ _ _ _ (fun x m1 h1 => hb.mono _ _ _ _ (fun y m2 h2 => hcc.mono _ _ _ _ (fun z m3 h3 => ?_) h2) h1) h, impS (ps_par3 hc hN hi hj hl hij hil hjl hx hy hz (pa_cons ha.run (pa_cons hb.run (pa_cons hcc.run pa_nil hs3) hs2) hs1) hw hs) ?_⟩
  · try dsimp only at h3 ⊢
    split at h3
    · exact le.nx _ _ h3
    · exact h3
  rintro D σ H ⟨n, env, m, rfl, ok, q⟩
  refine ⟨n, env, m, rfl, ok, ha.mono _ _ _ _ (fun x m1 h1 n1 v g1 l1 lx => ?_) q⟩
  refine ⟨n1, env, m1, rfl, ok.go g1 l1, hb.mono _ _ _ _ (fun y m2 h2 n2 u g2 l2 ly => ?_) h1⟩
  refine ⟨n2, env, m2, rfl, ok.go g2 (l1.trans l2), hcc.mono _ _ _ _ (fun zs m3 h3 n3 p vs g3 l3 hp hz => ?_) h2⟩
  split at h3
  · rename_i a b
    have l13 := (l1.trans l2).trans l3
    have lx : FzN C X.w X.K n3 v a := FzN.le (n := n1) lx (l2.trans l3)
    have ly : FzN C X.w X.K n3 u b := FzN.le (n := n2) ly l3
    have ok2 := (((ok.go g3 l13).setF (i := i) lx).setF (i := j) ly).newO (i := l) (o := .lst vs) (z := .lst zs) hp ⟨vs, upd_same, hz⟩
    exact ⟨v, u, .ref p, rfl, h3 ⟨n3.G, n3.al, upd n3.H p (.lst vs)⟩ _ ⟨l13.g, l13.ale⟩ ok2⟩
  · exact h3.elim

/-! ### dicts on one line -/
def rDct (X : Cx) : Hp → Addr → List (V × V × Int) → Prop := fun _ _ _ => True
theorem pe_dct0 {pos : Pos} : PE X (.Dict [] [] pos) (fun _ H Q => ∀ p, H p = none → (p == sysModules) = false → Q (.ref p) (upd H p (dxo p #[]))) := ⟨fun pins s σ H Q I h => by
  have hb := I.big
  exact wpAny_Dict_empty ⟨.ref s.heap.objs.size, _, I.laid (a := s.heap.objs.size) (o := dxo s.heap.objs.size #[]) (t' := s.toks) (fun _ _ q => Heap.get?_push_of_some _ q) (Nat.le_refl _)
    ⟨⟨_, 0, Heap.get?_push_size _ rfl, ⟨rfl, rfl, rfl⟩, rfl⟩, ⟨_, Heap.get?_push_size _ rfl⟩, fun h1 h2 ⟨o, ep, e1, e2, e3⟩ k => ⟨o, ep, k _ e1, e2, e3⟩⟩, rfl, h _ (I.hok.fresh (Nat.le_refl _)) (beq_eq_false_iff_ne.mpr (Ne.symm (Nat.ne_of_lt hb)))⟩⟩
theorem de_dct0 {pos : Pos} : DE X C B (.Dict [] [] pos) (dC (.dct [])) := by
  refine ⟨dC.mono _, imp pe_dct0 ?_⟩
  rintro σ H Q ⟨n, env, m, rfl, ok, q⟩ p hp hs
  obtain ⟨g4, l4⟩ := ok.good.freeze (o := dxo p #[]) hp
  exact q _ _ g4 l4 (.dct upd_same hs .nil)
end
end DL

set_option maxHeartbeats 1000000
namespace DL
open PySem PySem.Spec PyProof.Rows L2

/-! ### {k: v}, str(e) -/
section
variable {C : Ct} {w : World} {K : PySem.W.Frag} {n n1 : Nw} {m : Mem}
/-- what stands at p, new since n, changes once more and then no more -/
theorem refreeze {p : Addr} {o : HO} (l : n.le n1) (hp : n.H p = none) (g : Good C w K n1 m) (hG : n1.G p = none) (hA : p ∉ n1.al) : Good C w K ⟨upd n1.G p o, n1.al, upd n1.H p o⟩ m ∧ n.le ⟨upd n1.G p o, n1.al, upd n1.H p o⟩ := by
  have hg : ∀ a u, n1.G a = some u → upd n1.G p o a = some u := fun a u e => by
    rw [upd_ne (fun z => by subst z; rw [hG] at e; cases e)]; exact e
  refine ⟨⟨fun a u e => ?_, g.nd, g.len, fun k x a e1 e2 => ?_⟩, ⟨fun a u e => hg a u (l.g a u e), fun a u e na => ?_, fun a e => ?_, fun a e => ?_, l.ale, l.anew⟩⟩
  · have e' : upd n1.G p o a = some u := e
    show upd n1.H p o a = some u
    by_cases z : a = p
    · subst z; rw [upd_same] at e'; rw [upd_same]; exact e'
    · rw [upd_ne z] at e'; rw [upd_ne z]; exact g.sub a u e'
  · obtain ⟨h1, h2⟩ := g.at_ k x a e1 e2
    have na : a ≠ p := fun z => hA (z ▸ List.mem_of_getElem? e2)
    refine ⟨h1.imp hg (fun _ _ e => e) fun u e => ?_, ?_⟩
    · show upd n1.H p o a = some u
      rw [upd_ne na]; exact e
    · show upd n1.G p o a = none
      rw [upd_ne na]; exact h2
  · show upd n1.H p o a = some u
    rw [upd_ne (fun z => by subst z; rw [hp] at e; cases e)]; exact l.keep a u e na
  · show upd n1.H p o a ≠ none
    rw [upd_ne (fun z => by subst z; exact e hp)]; exact l.there a e
  · show upd n1.G p o a = n.G a
    rw [upd_ne (fun z => by subst z; exact e hp)]; exact l.gnew a e
theorem FzN.up {p : Addr} {o : HO} {H' : Hp} {v : V} {d : Dat} (hG : n1.G p = none) (h : FzN C w K n1 v d) : FzN C w K ⟨upd n1.G p o, n1.al, H'⟩ v d := Fz.keep (fun a u e => by
  show upd n1.G p o a = some u
  rw [upd_ne (fun z => by subst z; have e' : n1.G a = some u := e; rw [hG] at e'; cases e')]; exact e) (fun _ _ e => e) h
theorem FzAllN.up {p : Addr} {o : HO} {H' : Hp} {v : List V} {d : List Dat} (hG : n1.G p = none) (h : FzAllN C w K n1 v d) : FzAllN C w K ⟨upd n1.G p o, n1.al, H'⟩ v d := FzAll.keep (fun a u e => by
  show upd n1.G p o a = some u
  rw [upd_ne (fun z => by subst z; have e' : n1.G a = some u := e; rw [hG] at e'; cases e')]; exact e) (fun _ _ e => e) h
end
section
variable {X : Cx} {C : Ct} {B : Nw} {e kx : Expr} {d : TD}
theorem pe_dct1 {i : Int} {j : Nat} {p1 pos : Pos} {tv : TE} (hv : PE X e tv) : PE X (.Dict [some (.Constant (.int i) j p1)] [e] pos)
    (fun σ H Q => ∀ p, H p = none → (p == sysModules) = false → tv σ (upd H p (.dK [])) fun x H2 => i = i ∧ H2 p = some (.dK []) ∧ ∀ es : Array DictEntry, (∃ e, es.toList = [e] ∧ RelV (.int i) e.key ∧ RelV x e.val ∧ e.hash = hashD X.w (.int i)) → Q (.ref p) (upd H2 p (dxo p es))) := by
  refine ⟨fun pins s σ H Q I q => ?_⟩
  have hn := I.hok.fresh (Nat.le_refl s.heap.objs.size)
  have hb := I.big
  have I1 := I.laid (a := s.heap.objs.size) (o := .dK []) (h' := s.heap.push { cls := .type "dict", data := .dict #[] }) (t' := s.toks) (fun _ _ q => Heap.get?_push_of_some _ q) (Nat.le_refl _) (dk_empty s.heap I.big)
  have pp : PPs X pos [some (.Constant (.int i) j p1)] [e] [(tC (.int i), tv)] := pps_cons pe_int hv pps_nil
  refine wpAny_Dict_walk (knd := mixKind X.prog X.w) rfl rfl (by simp) (by simp) (thn (pp.run pins _ σ _ (fun ps H2 => match ps with
    | [(.int k, x)] => k = i ∧ H2 s.heap.objs.size = some (.dK []) ∧ ∀ es : Array DictEntry, (∃ e, es.toList = [e] ∧ RelV (.int i) e.key ∧ RelV x e.val ∧ e.hash = hashD X.w (.int i)) → Q (.ref s.heap.objs.size) (upd H2 s.heap.objs.size (dxo s.heap.objs.size es))
    | _ => False) I1 ?_) fun ws s2 ⟨ps, H2, I2, rel, q2⟩ => ?_)
  · exact q _ hn (beq_eq_false_iff_ne.mpr (Ne.symm (Nat.ne_of_lt hb)))
  · split at q2
    · rename_i k x
      obtain ⟨ek, e2, q2⟩ := q2
      subst ek
      cases rel with
      | @cons _ w1 _ _ r1 r2 =>
        cases r2
        obtain ⟨ky, vx⟩ := w1
        obtain ⟨r1, r3⟩ := r1
        have r1' : ∃ t, ky = Value.int k t := r1
        obtain ⟨t, rfl⟩ := r1'
        obtain ⟨z, hd, vs0, r0, dd⟩ := dk_of I2.hok e2
        cases r0
        refine ⟨[(Sum.inl k, vx)], ⟨keyIs_int k t, rfl, True.intro⟩, dd, fun h' dd' hs => ?_⟩
        obtain ⟨o, es, ep, h1, h2, h3, h4, h5, h6⟩ := dd'
        have h5' : Pairs (mixKind X.prog X.w) es.toList [(Sum.inl k, vx)] := h5
        generalize hes : es.toList = l at h5'
        cases h5' with
        | @cons e1 _ _ _ g1 g2 g3 =>
          cases g3
          have mem : e1 ∈ es := by
            rw [← Array.mem_toList_iff, hes]; simp
          obtain ⟨k', g4, g5⟩ := h4 e1 mem
          have ek : k' = Sum.inl k := (mixKind X.prog X.w).inj _ _ _ g4 g1
          subst ek
          have ob : ObjOk X.prog X.w (upd H2 s.heap.objs.size (dxo s.heap.objs.size es)) h' s.heap.objs.size (dxo s.heap.objs.size es) :=
            ⟨⟨o, ep, h1, h2, h3⟩, ⟨o, h1⟩, fun a b ⟨o, ep, e1, e2, e3⟩ k => ⟨o, ep, k _ e1, e2, e3⟩⟩
          refine ⟨.ref s.heap.objs.size, _, d_write I2 (by rw [e2]; exact True.intro) hs ⟨o, h1⟩ ob, rfl, q2 es ⟨e1, hes, ?_, ?_, ?_⟩⟩
          · obtain ⟨t', e'⟩ := Value.isInt_shape (k := k) (v := e1.key) g1
            exact ⟨t', e'⟩
          · rw [g2]; exact r3
          · rw [g5]; rfl
    · exact q2.elim
def dDct1 (i : Int) (d : TD) : TD := fun env m Q => d env m fun x m1 => match x with
  | .f y => Q (.f (.dct [(.int i, y)])) m1
  | _ => False
theorem de_dct1 {i : Int} {j : Nat} {p1 pos : Pos} (hd : DE X C B e d) : DE X C B (.Dict [some (.Constant (.int i) j p1)] [e] pos) (dDct1 i d) := by
  refine ⟨fun env m Q Q' i q => hd.mono _ _ _ _ (fun x m1 h1 => ?_) q, imp (pe_dct1 hd.run) ?_⟩
  · try dsimp only at h1 ⊢
    split at h1 <;> first | exact i _ _ h1 | exact h1.elim
  rintro σ H Q ⟨n, env, m, rfl, ok, q⟩ p hp hs
  obtain ⟨b2, b4⟩ := ok.good.free hp
  have l0 : n.le ⟨n.G, n.al, upd n.H p (.dK [])⟩ := (Nw.le.refl n).at hp
  have g0 : Good C X.w X.K ⟨n.G, n.al, upd n.H p (.dK [])⟩ m := ok.good.at b2 b4
  refine ⟨⟨n.G, n.al, upd n.H p (.dK [])⟩, env, m, rfl, ok.go g0 l0, hd.mono _ _ _ _ (fun x m1 h1 n1 v g1 l1 lx => ?_) q⟩
  have at_p : n1.H p = some (.dK []) := l1.keep p _ upd_same b4
  have hG1 : n1.G p = none := (l1.gnew p (by
    show upd n.H p (.dK []) p ≠ none
    rw [upd_same]; simp)).trans b2
  have hA1 : p ∉ n1.al := l1.nal (by
    show upd n.H p (.dK []) p ≠ none
    rw [upd_same]; simp) b4
  refine ⟨rfl, at_p, fun es ⟨e1, he, r1, r2, hh⟩ => ?_⟩
  split at h1
  · rename_i y
    have lx : FzN C X.w X.K n1 v y := lx
    have ln : n.le n1 := l0.trans l1
    obtain ⟨g2, l2⟩ := refreeze (o := dxo p es) ln hp g1 hG1 hA1
    refine h1 _ _ g2 l2 (.dct upd_same hs ?_)
    rw [he]
    exact .cons r1 (.int i) r2 (FzN.up (p := p) (o := dxo p es) hG1 lx) hh .nil
  · exact h1.elim
/-- str(e) -/
def oStr : OpN := fun env m xs Q => match xs with
  | [x] => match der env m x with
    | some (.str y) => Q (.str y) m
    | some d => okR 60 d = true ∧ (py d).shown.length ≤ sizeLine ∧ Q (.str (py d).shown) m
    | none => False
  | _ => False
theorem call_strD (hg : X.A.guards = some []) (hu : X.A.units + 70 < cLine) (ns : NoSys X.K) : CallD X C (.type "str") oStr := by
  refine ⟨fun env m xs Q Q' i => ?_, fun pins s σ H vs us Q I rv h => ?_⟩
  · unfold oStr
    split
    · split
      · exact i _ _
      · exact fun h => ⟨h.1, h.2.1, i _ _ h.2.2⟩
      · exact id
    · exact id
  · obtain ⟨B, n, env, m, σ', xs, rfl, ok, lx, h⟩ := h
    unfold oStr at h
    split at h
    · rename_i x
      cases lx with
      | cons lx z =>
        cases z
        obtain ⟨u, rfl, r⟩ := vals1 rv
        have same : ∀ b o, s.heap.get? b = some o → s.heap.get? b = some o := fun _ _ e => e
        split at h
        · rename_i y hd
          have z := der_ok ok lx hd
          cases z with
          | fz z =>
            cases z
            obtain ⟨t, rfl⟩ := r
            exact PySem.P.str_of_str ⟨.str _, n.H, I, ⟨t, rfl⟩, h n _ ok.good (.refl _) (.str _)⟩
        · rename_i d hns hd
          obtain ⟨h1, h2, h3⟩ := h
          obtain ⟨as, r1, r2⟩ := now_rd I ok.good ns (der_ok ok lx hd) r h1
          obtain ⟨s1, s2⟩ := okR_show _ _ h1
          have fin : ∀ (h' : Heap) (t : Tok) (tk : Tok), (∀ b o, s.heap.get? b = some o → h'.get? b = some o) → EP X pins σ Q (.str (py d).shown t) { s with heap := h', toks := tk } := fun h' t tk k =>
            ⟨.str _, n.H, I.kept k, ⟨_, rfl⟩, h3 n _ ok.good (.refl _) (.str _)⟩
          have far : ∀ a, u = .ref a → wpAny (model X.prog X.w) X.A (call (.type "str") [u]) (EP X pins σ Q) X.xe s := fun a e => by
            subst e
            exact str_of_reads r1 s1 (fun _ => r2) hg (by omega) same (fun h' t tk k => fin h' t tk k) h2
          cases d with
          | non => cases (show Reads s.heap u .none as from r1); exact PySem.P.str_of_none (fin s.heap _ _ same)
          | bl b => rw [py] at r1; cases r1; exact PySem.P.str_of_bool (by have := fin s.heap s.toks (s.toks + 1) same; rw [py, PyData.shown] at this; exact this)
          | int i =>
            rw [py] at r1; cases r1
            rw [py, PyData.showable] at s1
            exact PySem.P.str_of_int (of_decide_eq_true s1) (by have := fin s.heap s.toks (s.toks + 1) same; rw [py, PyData.shown] at this; exact this)
          | str x => exact absurd rfl (hns x)
          | tup xs => rw [py] at r1; cases r1 with | tuple e1 e2 e3 e4 => exact far _ rfl
          | lst xs => rw [py] at r1; cases r1 with | list e1 e2 e3 e4 => exact far _ rfl
          | dct xs => rw [py] at r1; cases r1 with | dict e1 e2 e3 e4 e5 => exact far _ rfl
          | ins _ _ => cases h1
          | obj _ => cases h1
          | ref _ => cases h1
          | ty _ => cases h1
          | cls _ => cases h1
        · exact h.elim
    · exact h.elim
end
end DL

set_option maxHeartbeats 1000000
namespace DL
open PySem PySem.Spec PyProof.Rows L2

/-! ### instances: their fields -/
structure FldOk (K : PySem.W.Frag) (C : Ct) (c : Nat) (f : Str) : Prop where
  cls : Cls K (C.addr c)
  na : NoAttr K (C.addr c) f
  nd : (C.flds c).Nodup
  few : (C.flds c).length < 1000
/-- where the field f stands in the classes that are meant -/
structure FiOk (K : PySem.W.Frag) (C : Ct) (f : Str) (fi : Nat → Option Nat) : Prop where
  ok : ∀ c k, fi c = some k → FldOk K C c f ∧ (C.flds c)[k]? = some f
def insOf (env : Env') (m : Mem) : Lv → Option (Nat × List Dat)
  | .f (.ins c xs) => some (c, xs)
  | x => match moOf env m x with
    | some (.ins c xs) => some (c, xs)
    | _ => none
theorem zip_lookup : ∀ {fs : List Str} {vs : List V} {k : Nat} {f : Str} {v : V}, fs.Nodup → fs[k]? = some f → vs[k]? = some v → (fs.zip vs).lookup f = some v
  | [], _, k, f, v, _, h, _ => by simp at h
  | g :: fs, [], k, f, v, _, _, h => by simp at h
  | g :: fs, u :: vs, 0, f, v, _, h1, h2 => by
    simp at h1 h2; subst h1; subst h2; simp [List.lookup]
  | g :: fs, u :: vs, k + 1, f, v, nd, h1, h2 => by
    rw [List.getElem?_cons_succ] at h1 h2
    have ne : f ≠ g := fun z => by
      subst z
      exact (List.nodup_cons.mp nd).1 (List.mem_of_getElem? h1)
    have e : (f == g) = false := by simpa using ne
    have ih := zip_lookup (List.nodup_cons.mp nd).2 h1 h2
    simp only [List.zip_cons_cons, List.lookup, e]
    exact ih
theorem zip_put_old : ∀ {fs : List Str} {vs : List V} {k : Nat} {f : Str} {v : V}, fs.Nodup → fs[k]? = some f → k < vs.length → putF f v (fs.zip vs) = fs.zip (vs.set k v)
  | [], _, k, f, v, _, h, _ => by simp at h
  | g :: fs, [], k, f, v, _, _, h => by simp at h
  | g :: fs, u :: vs, 0, f, v, _, h1, h2 => by
    simp at h1; subst h1; simp [putF]
  | g :: fs, u :: vs, k + 1, f, v, nd, h1, h2 => by
    rw [List.getElem?_cons_succ] at h1
    have ne : g ≠ f := fun z => by
      subst z
      exact (List.nodup_cons.mp nd).1 (List.mem_of_getElem? h1)
    have ih := zip_put_old (v := v) (List.nodup_cons.mp nd).2 h1 (show k < vs.length by simpa using h2)
    rw [List.zip_cons_cons, putF, if_neg ne, ih, List.set_cons_succ, List.zip_cons_cons]
theorem zip_put_new : ∀ {fs : List Str} {vs : List V} {f : Str} {v : V}, fs.Nodup → fs[vs.length]? = some f → putF f v (fs.zip vs) = fs.zip (vs ++ [v])
  | [], _, f, v, _, h => by simp at h
  | g :: fs, [], f, v, _, h => by
    simp at h; subst h
    simp [putF]
  | g :: fs, u :: vs, f, v, nd, h1 => by
    rw [List.length_cons, List.getElem?_cons_succ] at h1
    have ne : g ≠ f := fun z => by
      subst z
      exact (List.nodup_cons.mp nd).1 (List.mem_of_getElem? h1)
    have ih := zip_put_new (v := v) (List.nodup_cons.mp nd).2 h1
    rw [List.zip_cons_cons, putF, if_neg ne, ih, List.cons_append, List.zip_cons_cons]
section
variable {X : Cx} {C : Ct} {B : Nw} {e o : Expr} {d de : TD} {f : Str} {fi : Nat → Option Nat} {pos pos' : Pos}
theorem ins_ok {w : World} {K : PySem.W.Frag} {n : Nw} {m : Mem} {env : Env'} {σ : L2.St} {v : V} {x : Lv} {c : Nat} {xs : List Dat} (ok : Ok C w K B n env m σ) (h : LvOk C w K n env σ v x) (e : insOf env m x = some (c, xs)) :
    ∃ a dx vs, v = .ref a ∧ n.H a = some (.ins (C.addr c) dx ((C.flds c).zip vs)) ∧ vs.length ≤ (C.flds c).length ∧ FzAllN C w K n vs xs := by
  have key : ∀ y, moOf env m x = some y → (match some y with
      | some (Mo.ins c xs) => some (c, xs)
      | _ => none) = some (c, xs) → ∃ a dx vs, v = .ref a ∧ n.H a = some (.ins (C.addr c) dx ((C.flds c).zip vs)) ∧ vs.length ≤ (C.flds c).length ∧ FzAllN C w K n vs xs := fun y hy e => by
    obtain ⟨a, rfl, h1, _⟩ := mut_ok ok h hy
    cases y with
    | ins c' xs' =>
      cases e
      obtain ⟨dx, vs, q1, q2, q3⟩ := h1
      exact ⟨a, dx, vs, rfl, q1, q2, q3⟩
    | lst _ => cases e
    | dct _ => cases e
  cases x with
  | o i =>
    cases hy : moOf env m (.o i) with
    | none =>
      have e' : (match moOf env m (.o i) with
        | some (Mo.ins c xs) => some (c, xs)
        | _ => none) = some (c, xs) := e
      rw [hy] at e'; cases e'
    | some y =>
      refine key y hy ?_
      have e' : (match moOf env m (.o i) with
        | some (Mo.ins c xs) => some (c, xs)
        | _ => none) = some (c, xs) := e
      rw [hy] at e'; exact e'
  | f y =>
    cases y with
    | ins c' xs' =>
      cases e
      have h : FzN C w K n v (.ins c xs) := h
      cases h with
      | ins h1 h2 h3 => exact ⟨_, _, _, rfl, ok.good.sub _ _ h1, Nat.le_of_eq h2, h3⟩
    | obj k =>
      cases hy : moOf env m (.f (.obj k)) with
      | none =>
        have e' : (match moOf env m (.f (.obj k)) with
          | some (Mo.ins c xs) => some (c, xs)
          | _ => none) = some (c, xs) := e
        rw [hy] at e'; cases e'
      | some y =>
        refine key y hy ?_
        have e' : (match moOf env m (.f (.obj k)) with
          | some (Mo.ins c xs) => some (c, xs)
          | _ => none) = some (c, xs) := e
        rw [hy] at e'; exact e'
    | _ => cases e
/-- e.f -/
def dFld (fi : Nat → Option Nat) (d : TD) : TD := fun env m Q => d env m fun x m1 => match insOf env m1 x with
  | some (c, xs) => match fi c with
    | some k => match xs[k]? with
      | some y => Q (.f y) m1
      | none => False
    | none => False
  | none => False
theorem de_fld (F : FiOk X.K C f fi) (hd : DE X C B e d) (hb : attributeBase e f X.env (eval e X.env) = eval e X.env) : DE X C B (.Attribute e f pos) (dFld fi d) := by
  refine ⟨fun env m Q Q' i q => hd.mono _ _ _ _ (fun x m1 h1 => ?_) q, imp (pe_fld hd.run hb) ?_⟩
  · try dsimp only at h1 ⊢
    split at h1
    · split at h1
      · split at h1
        · exact i _ _ h1
        · exact h1
      · exact h1
    · exact h1
  rintro σ H Q ⟨n, env, m, rfl, ok, q⟩
  refine ⟨n, env, m, rfl, ok, hd.mono _ _ _ _ (fun x m1 h1 n1 v g1 l1 lx => ?_) q⟩
  have ok1 := ok.go g1 l1
  split at h1
  · rename_i c xs hx
    split at h1
    · rename_i k hk
      split at h1
      · rename_i y hy
        obtain ⟨a, dx, vs, rfl, e1, e2, z⟩ := ins_ok ok1 lx hx
        obtain ⟨FO, e3⟩ := F.ok c k hk
        obtain ⟨u, e4, z4⟩ := z.get hy
        exact ⟨a, C.addr c, dx, _, u, rfl, e1, FO.cls, FO.na, zip_lookup FO.nd e3 e4, h1 n1 u g1 l1 z4⟩
      · exact h1.elim
    · exact h1.elim
  · exact h1.elim
/-- o.f = e -/
def sFldD (fi : Nat → Option Nat) (d de : TD) : TSd := fun D env m => de env m fun y m1 => d env m1 fun x m2 => match moOf env m2 x, y with
  | some (.ins c xs), .f z => match fi c with
    | some k => if k < xs.length then D.nx (setE x (.ins c (xs.set k z)) env) (setM x (.ins c (xs.set k z)) m2) else k = xs.length ∧ D.nx (setE x (.ins c (xs ++ [z])) env) (setM x (.ins c (xs ++ [z])) m2)
    | none => False
  | _, _ => False
theorem sFldD.mono (hd : MonoD d) (he : MonoD de) : MonoS (sFldD fi d de) := fun env m D D' l h => he _ _ _ _ (fun y m1 h1 => hd _ _ _ _ (fun x m2 h2 => by
  try dsimp only at h2 ⊢
  split at h2
  · split at h2
    · split at h2
      · rename_i hh
        rw [if_pos hh]; exact l.nx _ _ h2
      · rename_i hh
        rw [if_neg hh]; exact ⟨h2.1, l.nx _ _ h2.2⟩
    · exact h2
  · exact h2) h1) h
theorem ds_fld (F : FiOk X.K C f fi) (hd : DE X C B o d) (he : DE X C B e de) (hs : swapsWith e (some (.Attribute o f pos')) pos.line X.env = pure false := by rfl) : DS X C B (.Assign [.Attribute o f pos'] e pos) (sFldD fi d de) := by
  refine ⟨sFldD.mono hd.mono he.mono, impS (ps_fld hd.run he.run hs) ?_⟩
  rintro D σ H ⟨n, env, m, rfl, ok, q⟩
  refine ⟨n, env, m, rfl, ok, he.mono _ _ _ _ (fun y m1 h1 n1 v g1 l1 ly => ?_) q⟩
  have ok1 := ok.go g1 l1
  refine ⟨n1, env, m1, rfl, ok1, hd.mono _ _ _ _ (fun x m2 h2 n2 u g2 l2 lx => ?_) h1⟩
  have ok2 := ok1.go g2 l2
  have l12 := l1.trans l2
  split at h2
  · rename_i c xs z hx
    obtain ⟨a, rfl, ⟨dx, vs, e1, e2, z1⟩, hset⟩ := mut_ok ok2 lx hx
    have lz : FzN C X.w X.K n2 v z := FzN.le (n := n1) ly l2
    split at h2
    · rename_i k hk
      obtain ⟨FO, e3⟩ := F.ok c k hk
      have few : ((C.flds c).zip vs).length < 1000 := by
        rw [List.length_zip]
        have := FO.few
        omega
      refine ⟨a, C.addr c, dx, _, rfl, e1, FO.cls, FO.na, few, ?_⟩
      have up : ∀ {v d} {o : HO}, FzN C X.w X.K n2 v d → FzN C X.w X.K ⟨n2.G, n2.al, upd n2.H a o⟩ v d := fun h => Fz.keep (fun _ _ e => e) (fun _ _ e => e) h
      have ups : ∀ {v d} {o : HO}, FzAllN C X.w X.K n2 v d → FzAllN C X.w X.K ⟨n2.G, n2.al, upd n2.H a o⟩ v d := fun h => FzAll.keep (fun _ _ e => e) (fun _ _ e => e) h
      split at h2
      · rename_i hlt
        rw [zip_put_old FO.nd e3 (by rw [z1.length]; exact hlt)]
        have ok3 := hset (.ins (C.addr c) dx ((C.flds c).zip (vs.set k v))) (.ins c (xs.set k z)) ⟨dx, vs.set k v, upd_same, by simpa using e2, FzAll.set k (ups z1) (up lz)⟩
        exact h2 ⟨n2.G, n2.al, upd n2.H a (.ins (C.addr c) dx ((C.flds c).zip (vs.set k v)))⟩ σ (l12.sub.trans sub_upd) ok3
      · obtain ⟨hk2, h2⟩ := h2
        rw [hk2, ← z1.length] at e3
        rw [zip_put_new FO.nd e3]
        have hlt := (List.getElem?_eq_some_iff.mp e3).1
        have ok3 := hset (.ins (C.addr c) dx ((C.flds c).zip (vs ++ [v]))) (.ins c (xs ++ [z])) ⟨dx, vs ++ [v], upd_same, by rw [List.length_append]; exact hlt, (ups z1).append (.cons (up lz) .nil)⟩
        exact h2 ⟨n2.G, n2.al, upd n2.H a (.ins (C.addr c) dx ((C.flds c).zip (vs ++ [v])))⟩ σ (l12.sub.trans sub_upd) ok3
    · exact h2.elim
  · exact h2.elim
end

/-! ### C(..): the new instance is the last shared object while its __init__ runs -/
mutual
/-- no shared object from the k-th on -/
def bel (k : Nat) : Dat → Bool
  | .obj j => decide (j < k)
  | .tup xs => bels k xs
  | .lst xs => bels k xs
  | .ins _ xs => bels k xs
  | .dct kvs => belk k kvs
  | _ => true
def bels (k : Nat) : List Dat → Bool
  | [] => true
  | x :: xs => bel k x && bels k xs
def belk (k : Nat) : List (Dat × Dat) → Bool
  | [] => true
  | (a, b) :: r => bel k a && (bel k b && belk k r)
end
def belM (k : Nat) (m : Mem) : Bool := m.all fun
  | .lst xs => bels k xs
  | .ins _ xs => bels k xs
  | .dct kvs => belk k kvs
section
variable {C : Ct} {w : World} {K : PySem.W.Frag} {al : List Addr} {G : Hp} {n n' : Nw} {m : Mem}
mutual
theorem Fz.cut (k : Nat) : ∀ {v d}, Fz C w K al G v d → bel k d = true → Fz C w K (al.take k) G v d
  | _, _, .non, _ => .non
  | _, _, .bl b, _ => .bl b
  | _, _, .int i, _ => .int i
  | _, _, .str x, _ => .str x
  | _, _, .ty n, _ => .ty n
  | _, _, .ref a, _ => .ref a
  | _, _, .cls c, _ => .cls c
  | _, _, .tup s r, h => .tup s (FzAll.cutB k r (by rw [bel] at h; exact h))
  | _, _, .lst s r, h => .lst s (FzAll.cutB k r (by rw [bel] at h; exact h))
  | _, _, .dct e s r, h => .dct e s (FzEs.cutB k r (by rw [bel] at h; exact h))
  | _, _, .ins e l r, h => .ins e l (FzAll.cutB k r (by rw [bel] at h; exact h))
  | _, _, .obj e, h => .obj (by rw [bel] at h; rw [List.getElem?_take_of_lt (of_decide_eq_true h)]; exact e)
theorem FzAll.cutB (k : Nat) : ∀ {v d}, FzAll C w K al G v d → bels k d = true → FzAll C w K (al.take k) G v d
  | _, _, .nil, _ => .nil
  | _, _, .cons x r, h => by
    rw [bels, Bool.and_eq_true] at h
    exact .cons (Fz.cut k x h.1) (FzAll.cutB k r h.2)
theorem FzEs.cutB (k : Nat) : ∀ {v d}, FzEs C w K al G v d → belk k d = true → FzEs C w K (al.take k) G v d
  | _, _, .nil, _ => .nil
  | _, _, .cons r1 x r2 y e r, h => by
    rw [belk, Bool.and_eq_true, Bool.and_eq_true] at h
    exact .cons r1 (Fz.cut k x h.1) r2 (Fz.cut k y h.2.1) e (FzEs.cutB k r h.2.2)
end
theorem Good.dropM {y : Mo} (g : Good C w K n (m ++ [y])) (hb : belM m.length m = true) : Good C w K ⟨n.G, n.al.take m.length, n.H⟩ m := by
  refine ⟨g.sub, g.nd.sublist (List.take_sublist _ _), ?_, fun k x a e1 e2 => ?_⟩
  · have := g.len
    simp at this
    simp [← this]
  · have hk : k < m.length := (List.getElem?_eq_some_iff.mp e1).1
    have e2' : (n.al.take m.length)[k]? = some a := e2
    rw [List.getElem?_take_of_lt hk] at e2'
    obtain ⟨h1, h2⟩ := g.at_ k x a (by rw [List.getElem?_append_left hk]; exact e1) e2'
    refine ⟨?_, h2⟩
    have hx := List.all_eq_true.mp hb x (List.mem_of_getElem? e1)
    cases x with
    | lst xs => obtain ⟨vs, q1, q2⟩ := h1; exact ⟨vs, q1, FzAll.cutB _ q2 hx⟩
    | ins c xs => obtain ⟨dx, vs, q1, q2, q3⟩ := h1; exact ⟨dx, vs, q1, q2, FzAll.cutB _ q3 hx⟩
    | dct kvs => obtain ⟨es, q1, q2, q3⟩ := h1; exact ⟨es, q1, q2, FzEs.cutB _ q3 hx⟩
theorem Nw.le.dropM {k : Nat} (l : n.le n') (hk : n.al.length = k) : n.le ⟨n'.G, n'.al.take k, n'.H⟩ := by
  have e : n'.al.take k = n.al := by
    obtain ⟨t, ht⟩ := l.ale
    rw [← ht, ← hk]
    simp
  refine ⟨l.g, l.keep, l.there, l.gnew, ?_, fun j p hj q => ?_⟩
  · show n.al <+: n'.al.take k
    rw [e]
    exact List.prefix_rfl
  · have q' : (n'.al.take k)[j]? = some p := q
    rw [e, List.getElem?_eq_none hj] at q'
    cases q'
/-- the last shared object changes no more -/
theorem Good.sealM {c : Nat} {xs : List Dat} {x : Addr} (l : n.le n') (hk : n.al.length = m.length) (g : Good C w K n' (m ++ [.ins c xs])) (hx : n'.al[m.length]? = some x) (hb : belM m.length m = true) (hbx : bels m.length xs = true) (hl : xs.length = (C.flds c).length) :
    ∃ n'', n''.H = n'.H ∧ Good C w K n'' m ∧ n.le n'' ∧ FzN C w K n'' (.ref x) (.ins c xs) := by
  have hlen : (m ++ [Mo.ins c xs])[m.length]? = some (.ins c xs) := by simp
  obtain ⟨⟨dx, vs, q1, q2, q3⟩, q4⟩ := g.at_ _ _ _ hlen hx
  have g1 := g.dropM hb
  have l1 := l.dropM hk
  have z1 : FzAllN C w K ⟨n'.G, n'.al.take m.length, n'.H⟩ vs xs := FzAll.cutB _ q3 hbx
  have hnx : n.H x = none := l.anew m.length x (by omega) hx
  have hal : x ∉ n'.al.take m.length := fun z => by
    obtain ⟨j, hj⟩ := List.getElem?_of_mem z
    have hjl : j < m.length := by
      have := (List.getElem?_eq_some_iff.mp hj).1
      simp at this
      omega
    rw [List.getElem?_take_of_lt hjl] at hj
    have := (List.getElem?_inj (List.getElem?_eq_some_iff.mp hj).1 g.nd).mp (hj.trans hx.symm)
    omega
  obtain ⟨g2, l2⟩ := refreeze (o := .ins (C.addr c) dx ((C.flds c).zip vs)) l1 hnx g1 q4 hal
  refine ⟨⟨upd n'.G x (.ins (C.addr c) dx ((C.flds c).zip vs)), n'.al.take m.length, n'.H⟩, rfl, ?_, ?_, .ins upd_same (by rw [z1.length, hl]) (FzAllN.up (n1 := ⟨n'.G, n'.al.take m.length, n'.H⟩) q4 z1)⟩
  · have e : upd n'.H x (.ins (C.addr c) dx ((C.flds c).zip vs)) = n'.H := by
      funext b
      by_cases hbx : b = x
      · subst hbx; rw [upd_same, q1]
      · rw [upd_ne hbx]
    have g2' : Good C w K ⟨upd n'.G x (.ins (C.addr c) dx ((C.flds c).zip vs)), n'.al.take m.length, upd n'.H x (.ins (C.addr c) dx ((C.flds c).zip vs))⟩ m := g2
    rw [e] at g2'
    exact g2'
  · have e : upd n'.H x (.ins (C.addr c) dx ((C.flds c).zip vs)) = n'.H := by
      funext b
      by_cases hbx : b = x
      · subst hbx; rw [upd_same, q1]
      · rw [upd_ne hbx]
    have l2' : n.le ⟨upd n'.G x (.ins (C.addr c) dx ((C.flds c).zip vs)), n'.al.take m.length, upd n'.H x (.ins (C.addr c) dx ((C.flds c).zip vs))⟩ := l2
    rw [e] at l2'
    exact l2'
end
section
variable {X : Cx} {CX : CXT} {k : Nat} {f C : Addr} {fd : FuncData} {ps : List Str} {sp : Sp} {E : L2.St → XK} {x : Str} {p pos : Pos} {e : Expr} {es : List Expr} {t : TA}
theorem run_makeS {pins : List (Addr × Obj)} {σ : L2.St} {H : Hp} {s : Shared} {Q : VK} {us : List Value} {vs : List V} (M : Mk X.K C f) (F : FnOk X.prog X.w X.K X.mg X.base CX k f fd ps sp) (hr : Room (k + 1) X.A) (hb : Binds X.K fd ps [])
    (hx : PassesAt CX X σ (E σ)) (I : Inv X pins σ H s) (r : Vals vs us)
    (h : ∀ x dx, H x = none → H dx = none → dx ≠ x → sp (.ref x :: vs) (upd (upd H dx (.own x)) x (.ins C dx [])) (fun v H2 => v = .non ∧ Q (.ref x) H2) (E σ)) :
    wpAny (model X.prog X.w) X.A (call (.ref C) us) (EP X pins σ Q) X.xe s := by
  have hq := h (s.heap.objs.size + 1) s.heap.objs.size (I.hok.fresh (Nat.le_succ _)) (I.hok.fresh (Nat.le_refl _)) (Nat.ne_of_lt (Nat.lt_succ_self _))
  have I2 := Inv.made (C := C) I
  have r2 : Vals (V.ref (s.heap.objs.size + 1) :: vs) (Value.ref (s.heap.objs.size + 1) :: us) := .cons rfl r
  have hl : ((Value.ref (s.heap.objs.size + 1) :: us) ++ []).length = ps.length := by
    have e := r2.length
    rw [F.len _ _ _ _ hq] at e
    rw [List.append_nil]
    exact e.symm
  have hb' := hb _ (Value.ref (s.heap.objs.size + 1) :: us) I2.kIn hl
  rw [List.append_nil] at hb'
  refine wpAny_call (make_map (f := f) I.kIn M.makes M.init (beq_iff_eq.mp M.fn) (codeAny_mono (F.run _ X.stack _ _ ⟨Value.ref (s.heap.objs.size + 1) :: us, []⟩ (Value.ref (s.heap.objs.size + 1) :: us) _ _ (E σ) (hr.make C us [])
    (I2.env0.make C us []) hb' r2 hq) fun r s' hq' => ?_))
  cases r with
  | error e => exact hx pins _ _ e s' I2 hq'
  | ok fl =>
    cases fl with
    | ret u =>
      obtain ⟨v, H', I3, rv, ev, q3⟩ := I2.after hq'
      subst ev
      exact ⟨rv, ⟨V.ref (s.heap.objs.size + 1), H', I3, rfl, q3⟩⟩
    | next => exact False.elim hq'
    | brk => exact False.elim hq'
    | cont => exact False.elim hq'
def tMakeS (C : Addr) (sp : Sp) (E : L2.St → XK) (t : TA) : TE := fun σ H Q => t σ H fun vs H1 => ∀ x dx, H1 x = none → H1 dx = none → dx ≠ x → sp (.ref x :: vs) (upd (upd H1 dx (.own x)) x (.ins C dx [])) (fun v H2 => v = .non ∧ Q (.ref x) H2) (E σ)
theorem pe_makeS (M : Mk X.K C f) (F : FnOk X.prog X.w X.K X.mg X.base CX k f fd ps sp) (hr : Room (k + 1) X.A) (hg : Gl X x) (hm : X.mg x = some (.ref C)) (hb : Binds X.K fd ps []) (hx : ∀ σ, PassesAt CX X σ (E σ))
    (ha : PA X (e :: es) t) (hdb : (x == ("__debug__" : Str)) = false := by decide) (he : starEach (e :: es) X.env = (false, eval e X.env) :: starEach es X.env := by rfl) (hpl : (backTo pos (starEach es X.env)).any (·.1) = false := by rfl) :
    PE X (.Call (.Name x p) (e :: es) [] pos) (tMakeS C sp E t) := by
  refine ⟨fun pins s σ H Q I h => ?_⟩
  refine wpAny_Call_Name_kw (ld_glob I hg hm ?_ hdb)
  refine PySem.W.callWith_K (h₀ := X.base) I.ok.mod.kin M.kp (thn (ha.run pos pins s σ H _ I h) fun us s1 ⟨vs, H1, I1, r, q⟩ => ⟨I1.kIn, ?_⟩) he hpl
  exact run_makeS M F hr hb (hx σ) I1 r q
end
/-- C(..), whose instance does not change later -/
def dMakeF (c nf : Nat) (p : DSp) (EX : QXe) (da : TAd) : TD := fun env m Q => da env m fun xs m1 => match frs xs with
  | some ds => p (.obj m1.length :: ds) (m1 ++ [.ins c []]) (fun d m2 => d = .non ∧ ∃ m3 ys, m2 = m3 ++ [.ins c ys] ∧ m3.length = m1.length ∧ ys.length = nf ∧ belM m1.length m3 = true ∧ bels m1.length ys = true ∧ Q (.f (.ins c ys)) m3)
    (fun c' ys m2 => ∃ m3 y, m2 = m3 ++ [y] ∧ m3.length = m1.length ∧ belM m1.length m3 = true ∧ bels m1.length ys = true ∧ EX c' ys env m3)
  | none => False
/-- C(..), whose instance is shared -/
def dMakeS (c : Nat) (p : DSp) (EX : QXe) (da : TAd) : TD := fun env m Q => da env m fun xs m1 => match frs xs with
  | some ds => p (.obj m1.length :: ds) (m1 ++ [.ins c []]) (fun d m2 => d = .non ∧ Q (.f (.obj m1.length)) m2)
    (fun c' ys m2 => ∃ m3 y, m2 = m3 ++ [y] ∧ m3.length = m1.length ∧ belM m1.length m3 = true ∧ bels m1.length ys = true ∧ EX c' ys env m3)
  | none => False
section
variable {X : Cx} {C : Ct} {B : Nw} {k c nf : Nat} {f : Addr} {fd : FuncData} {ps : List Str} {p : DSp} {EX : QXe} {x : Str} {p1 pos : Pos} {e : Expr} {es : List Expr} {da : TAd}
theorem make_start {w : World} {K : PySem.W.Frag} {n : Nw} {m : Mem} {x dx : Addr} (g : Good C w K n m) (hx : n.H x = none) (hdx : n.H dx = none) (hne : dx ≠ x) :
    ∃ n2 : Nw, n2.H = upd (upd n.H dx (.own x)) x (.ins (C.addr c) dx []) ∧ Good C w K n2 (m ++ [.ins c []]) ∧ n.le n2 ∧ n2.al = n.al ++ [x] := by
  obtain ⟨b1, b2⟩ := g.free hdx
  have g1 : Good C w K ⟨n.G, n.al, upd n.H dx (.own x)⟩ m := g.at b1 b2
  have l1 : n.le ⟨n.G, n.al, upd n.H dx (.own x)⟩ := (Nw.le.refl n).at hdx
  have hx1 : (upd n.H dx (.own x)) x = none := by rw [upd_ne (Ne.symm hne)]; exact hx
  obtain ⟨g2, l2⟩ := g1.newM (p := x) (o := .ins (C.addr c) dx []) (x := .ins c []) hx1 ⟨dx, [], by
    show upd _ x _ x = _
    rw [upd_same]; simp, Nat.zero_le _, .nil⟩
  exact ⟨_, rfl, g2, l1.trans l2, rfl⟩
theorem make_err {w : World} {K : PySem.W.Frag} {n1 n2 : Nw} {B : Nw} {m1 : Mem} {env : Env'} {σ : L2.St} (ok : Ok C w K B n1 env m1 σ) (l : n1.le n2) {c' : Nat} {ys : List Dat} {m2 m3 : Mem} {y : Mo} (e1 : m2 = m3 ++ [y]) (e2 : m3.length = m1.length)
    (b1 : belM m1.length m3 = true) (b2 : bels m1.length ys = true) (h : EX c' ys env m3) : AftX C w K n2 (atX C B w K EX σ) c' ys m2 := by
  intro n' dx vs g' l' hx hz
  subst e1
  rw [← e2] at b1 b2
  have g3 := g'.dropM b1
  have l3 : n1.le ⟨n'.G, n'.al.take m3.length, n'.H⟩ := (l.trans l').dropM (by rw [e2, ok.good.len])
  exact ⟨⟨n'.G, n'.al.take m3.length, n'.H⟩, env, m3, c', ys, vs, rfl, ok.go g3 l3, rfl, hx.base (ok.base.trans l), FzAll.cutB _ hz b2, h⟩
theorem makeF_imp (hp : MonoP p) (ha : MonoA da) (hl : ∀ ds m Q E, p ds m Q E → ds.length = ps.length) (hf : (C.flds c).length = nf) : ∀ σ H Q, lE C B X.w X.K (dMakeF c nf p EX da) σ H Q → tMakeS (C.addr c) (spD C X.w X.K ps.length p) (atX C B X.w X.K EX) (lA C B X.w X.K da) σ H Q := by
  rintro σ H Q ⟨n, env, m, rfl, ok, h⟩
  refine ⟨n, env, m, rfl, ok, ha _ _ _ _ (fun xs m1 h1 n1 vs g1 l1 lx => ?_) h⟩
  split at h1
  · rename_i ds hd
    have hz := frs_ok lx hd
    intro x dx hx hdx hne
    obtain ⟨n2, e2, g2, l2, ea⟩ := make_start (c := c) g1 hx hdx hne
    have ok1 := ok.go g1 l1
    have hat : n2.al[m1.length]? = some x := by
      rw [ea, g1.len, List.getElem?_append_right (Nat.le_refl _)]; simp
    have hz2 : FzAllN C X.w X.K n2 (.ref x :: vs) (.obj m1.length :: ds) := .cons (.obj hat) (FzAllN.le hz l2)
    refine ⟨?_, n2, m1 ++ [.ins c []], _, e2, g2, hz2, hp _ _ _ _ _ _ (fun d m2 h2 n3 v g3 l3 hv => ?_) (fun c' ys m2 h2 => ?_) h1⟩
    · rw [hz2.length]; exact hl _ _ _ _ h1
    · obtain ⟨rfl, m3, ys, rfl, h4, h5, h6, h7, h8⟩ := h2
      have hv' : FzN C X.w X.K n3 v .non := hv
      cases hv'
      rw [← h4] at h6 h7
      have hx3 : n3.al[m3.length]? = some x := by
        rw [h4]; exact pre_get l3.ale _ _ hat
      obtain ⟨n4, q1, q2, q3, q4⟩ := Good.sealM (l2.trans l3) (by rw [← g1.len, h4]) g3 hx3 h6 h7 (by rw [h5, hf])
      refine ⟨rfl, ?_⟩
      rw [← q1]
      exact h8 n4 _ q2 (l1.trans q3) q4
    · obtain ⟨m3, y, e1, e3, b1, b2, h3⟩ := h2
      exact make_err ok1 l2 e1 e3 b1 b2 h3
  · exact h1.elim
theorem makeS_imp (hp : MonoP p) (ha : MonoA da) (hl : ∀ ds m Q E, p ds m Q E → ds.length = ps.length) : ∀ σ H Q, lE C B X.w X.K (dMakeS c p EX da) σ H Q → tMakeS (C.addr c) (spD C X.w X.K ps.length p) (atX C B X.w X.K EX) (lA C B X.w X.K da) σ H Q := by
  rintro σ H Q ⟨n, env, m, rfl, ok, h⟩
  refine ⟨n, env, m, rfl, ok, ha _ _ _ _ (fun xs m1 h1 n1 vs g1 l1 lx => ?_) h⟩
  split at h1
  · rename_i ds hd
    have hz := frs_ok lx hd
    intro x dx hx hdx hne
    obtain ⟨n2, e2, g2, l2, ea⟩ := make_start (c := c) g1 hx hdx hne
    have ok1 := ok.go g1 l1
    have hat : n2.al[m1.length]? = some x := by
      rw [ea, g1.len, List.getElem?_append_right (Nat.le_refl _)]; simp
    have hz2 : FzAllN C X.w X.K n2 (.ref x :: vs) (.obj m1.length :: ds) := .cons (.obj hat) (FzAllN.le hz l2)
    refine ⟨?_, n2, m1 ++ [.ins c []], _, e2, g2, hz2, hp _ _ _ _ _ _ (fun d m2 h2 n3 v g3 l3 hv => ?_) (fun c' ys m2 h2 => ?_) h1⟩
    · rw [hz2.length]; exact hl _ _ _ _ h1
    · obtain ⟨rfl, h8⟩ := h2
      have hv' : FzN C X.w X.K n3 v .non := hv
      cases hv'
      exact ⟨rfl, h8 n3 _ g3 (l1.trans (l2.trans l3)) (.obj (pre_get l3.ale _ _ hat))⟩
    · obtain ⟨m3, y, e1, e3, b1, b2, h3⟩ := h2
      exact make_err ok1 l2 e1 e3 b1 b2 h3
  · exact h1.elim
theorem dMakeF.mono (hp : MonoP p) (ha : MonoA da) : MonoD (dMakeF c nf p EX da) := fun env m Q Q' i => ha _ _ _ _ fun xs m1 => by
  split
  · exact hp _ _ _ _ _ _ (fun d m2 ⟨h1, m3, ys, h2, h3, h4, h5, h6, h7⟩ => ⟨h1, m3, ys, h2, h3, h4, h5, h6, i _ _ h7⟩) fun _ _ _ h => h
  · exact id
theorem dMakeS.mono (hp : MonoP p) (ha : MonoA da) : MonoD (dMakeS c p EX da) := fun env m Q Q' i => ha _ _ _ _ fun xs m1 => by
  split
  · exact hp _ _ _ _ _ _ (fun d m2 ⟨h1, h2⟩ => ⟨h1, i _ _ h2⟩) fun _ _ _ h => h
  · exact id
theorem de_makeF (M : Mk X.K (C.addr c) f) (F : DF X.prog X.w X.K X.mg X.base C k f fd ps p) (hl : ∀ ds m Q E, p ds m Q E → ds.length = ps.length) (hf : (C.flds c).length = nf) (hr : Room (k + 1) X.A) (hg : Gl X x) (hm : X.mg x = some (.ref (C.addr c))) (hb : Binds X.K fd ps []) (hx : PassD X C B EX) (ha : DA X C B (e :: es) da)
    (hdb : (x == ("__debug__" : Str)) = false := by decide) (he : starEach (e :: es) X.env = (false, eval e X.env) :: starEach es X.env := by rfl) (hpl : (backTo pos (starEach es X.env)).any (·.1) = false := by rfl) :
    DE X C B (.Call (.Name x p1) (e :: es) [] pos) (dMakeF c nf p EX da) :=
  ⟨dMakeF.mono F.mono ha.mono, imp (pe_makeS M F.ok hr hg hm hb hx ha.run hdb he hpl) (makeF_imp F.mono ha.mono hl hf)⟩
theorem de_makeS (M : Mk X.K (C.addr c) f) (F : DF X.prog X.w X.K X.mg X.base C k f fd ps p) (hl : ∀ ds m Q E, p ds m Q E → ds.length = ps.length) (hr : Room (k + 1) X.A) (hg : Gl X x) (hm : X.mg x = some (.ref (C.addr c))) (hb : Binds X.K fd ps []) (hx : PassD X C B EX) (ha : DA X C B (e :: es) da)
    (hdb : (x == ("__debug__" : Str)) = false := by decide) (he : starEach (e :: es) X.env = (false, eval e X.env) :: starEach es X.env := by rfl) (hpl : (backTo pos (starEach es X.env)).any (·.1) = false := by rfl) :
    DE X C B (.Call (.Name x p1) (e :: es) [] pos) (dMakeS c p EX da) :=
  ⟨dMakeS.mono F.mono ha.mono, imp (pe_makeS M F.ok hr hg hm hb hx ha.run hdb he hpl) (makeS_imp F.mono ha.mono hl)⟩
end
end DL

set_option maxHeartbeats 4000000
namespace PySem.W
open PySem PySem.Spec PySem.Calls PyProof.Rows
section
variable {prog : Program} {w : World} {A : Around} {E : Value → Shared → Prop} {s : Shared} {K : Frag} {x D : Addr} {ox : Obj} {od : Option Obj}
theorem dl_findN {C : Addr} {name : Str} {a g : Value} (hc : (clsIn K C).isSome = true) (ha : findIn K (.ref C) name = some (some a)) (hg : specialIn K a "__get__" = some (some g)) (ht : takesIn K a = some true) : findObj K C od name = some (.bind g a) := by
  obtain ⟨cd, hc⟩ := Option.isSome_iff_exists.mp hc
  unfold findObj
  rw [hc, Option.bind_some, ha, Option.bind_some]
  simp [hg, ht]
/-- e.__class__ of an exception of an own class, with or without a dict of its own -/
theorem dl_class {Q : Option Value → Shared → Prop} (c : L2.ExcC K D) (X : K.In s.heap) (I : InstAt s.heap x ox D od) (h : Q (some (.ref D)) { s with toks := s.toks + 1 }) : wpAny (model prog w) A (getAttr? (.ref x) "__class__") Q E s := by
  have hf : findObj K D od "__class__" = some (.bind (.builtin "getset_descriptor.__get__") (.builtin "object.__class__")) := dl_findN (by obtain ⟨cd, hc, _⟩ := any_some c.hd; rw [hc]; rfl) c.ha c.hn c.ht
  obtain ⟨hp, g, d, t, os⟩ := s
  have L0 := I.type (M := model prog w)
  have L1 := looks_findIn (M := model prog w) X c.hg
  have L2 := looks_findIn (M := model prog w) X c.hk
  have L3 := looks_find (M := model prog w) X I hf
  have sub : Looks (model prog w) hp (isInstance (.ref x) (.type "BaseException")) true := L0.andThen (looks_subIn X c.hs)
  have hx0 : (false && onTheHeap (Value.builtin "BaseException.__getattribute__")) = false := rfl
  have hx2 : (Value.builtin "BaseException.__getattribute__" == Value.builtin "object.__getattribute__") = false := by decide +kernel
  have hx1 : (onTheHeap (Value.ref D) && Value.builtin "BaseException.__getattribute__" == Value.builtin "object.__getattribute__") = false := by rw [hx2]; rfl
  unfold getAttr? getAttrBy? getAttrBy
  refine wpAny_bind (wpAny_mkText (wpAny_bind (wpAny_attempt (wpAny_holding (wpAny_bind (L0.at (wpAny_bind (L1.at ?_))))))))
  show wpAny _ _ (if (onTheHeap (Value.ref D) && Value.builtin "BaseException.__getattribute__" == Value.builtin "object.__getattribute__") = true then _ else _) _ _ _
  rw [hx1, if_neg Bool.false_ne_true]
  unfold getAttrByItsOwn hookBefore
  refine wpAny_bind ?_
  rw [if_pos (show onTheHeap (Value.ref D) = true from rfl)]
  refine L2.at ?_
  refine wpAny_bind (wpAny_attempt (wpAny_holding ?_))
  unfold callGetattribute
  rw [hx0, if_neg Bool.false_ne_true]
  unfold boundAndCalled
  rw [PySem.F.excAttr_ValueError.ga.bind (.ref x)]
  refine wpAny_bind (wpAny_pure ?_)
  show wpAny _ _ (call (.builtin "BaseException.__getattribute__") [.ref x, .str "__class__" t]) _ _ _
  refine wpAny_call (codeAny_call_builtin PySem.F.excAttr_ValueError.ga.plain PySem.F.entry_bexc_ga ?_)
  refine @check_slot (model prog w) _ _ ⟨hp, g, d, t + 1, os⟩ "BaseException.__getattribute__" "BaseException" "__getattribute__" (.ref x) [.str "__class__" t] [] _ (by decide +kernel) (by decide +kernel) sub (PySem.F.args_bexc_ga (.ref x) (.str "__class__" t)) ?_
  unfold Builtin.«object.__getattribute__»
  refine wpAny_bind (wpAny_of_eq (a := ((Value.ref x : Value), [Value.str "__class__" t])) (by first | rfl | (simp only [slotArgs]; rfl)) ?_)
  refine wpAny_bind (wpAny_pure (wpAny_bind (L0.at (wpAny_bind (L3.at ?_)))))
  show wpAny _ _ (holding [Value.builtin "object.__class__"] (call (.builtin "getset_descriptor.__get__") [.builtin "object.__class__", .ref x, .ref D]) >>= ret) _ _ _
  refine wpAny_bind (wpAny_holding (wpAny_call (class_get (s := ⟨hp, g, d, t + 1, os⟩) (ox := ox) (od := od) X I c.hm ?_)))
  refine wpAny_pure ?_
  show wpAny _ _ (handedOut (.ref D)) _ _ _
  rw [handedOut_of (v := .ref D) rfl]
  first
    | exact wpAny_pure (wpAny_pure h)
    | exact wpAny_pure h
    | exact wpAny_pure (wpAny_bind (wpAny_pure (wpAny_pure h)))
theorem dl_kitx (c : L2.ExcC K D) : KitX K (.ref x) (.ref D) (fun h => ∃ od, InstAt h x ox D od) where
  ty := fun _ _ _ ⟨_, I⟩ => I.type
  it := fun _ _ X _ => by
    obtain ⟨cdD, hcD, _⟩ := any_some c.hd
    unfold clsIn at hcD
    split at hcD
    · rename_i c' d' cd' sl' ho
      intro A' Q' E' s' k q
      unfold isType loadHead
      exact wpAny_bind (wpAny_loadPart (k _ _ (X _ _ ho)) (wpAny_pure q))
    · cases hcD
  ne := fun h tp dd its n sl X htp => by
    obtain ⟨cdD, hcD, _⟩ := any_some c.hd
    refine Bool.eq_false_iff.mpr fun q => ?_
    have e : D = tp := Value.ref.inj (beq_iff_eq.mp q)
    subst e
    unfold clsIn at hcD
    split at hcD
    · rename_i c' d' cd' sl' ho
      have z := (X _ _ ho).symm.trans htp
      cases z
    · cases hcD
  ca := fun X ⟨_, I⟩ k => dl_class c X I k
end
end PySem.W
namespace DL
open PySem PySem.Spec PyProof.Rows L2

/-! ### own exceptions are made and raised -/
/-- what the __init__ of an own exception with these fields (in the order of the parameters) does -/
def spX (K : PySem.W.Frag) (fs : List Str) : Sp := fun vs H Q _ => ∃ a C us, vs = .ref a :: us ∧ us.length = fs.length ∧ H a = some (exo a C none) ∧ OexC K C ∧ (∀ f ∈ fs, PySem.W.findIn K (.ref C) f = some none) ∧
  ∀ d, H d = none → d ≠ a → Q .non (upd (upd H d (exd d (fs.zip us).reverse)) a (exo a C (some d)))
section
variable {P : Program} {w : World} {K : PySem.W.Frag} {mg : Str → Option Value} {base : Heap} {y qual : Str} {params : Arguments} {body : List Stmt} {scope : Scope} {fI : Addr} {fd : FuncData} {f1 f2 x0 x1 x2 : Str}
theorem exc_init1 (F : FunD K y qual params body scope [] [] fI fd) (S : FnScope [x0, x1] [x0, x1] scope)
    (hb : ∀ (cdv : Value) (A : Around) (outer : List Env) (s : Shared) (H : Hp) (E : XK), PSs (cxOf (L2.CX P w) P w K mg base [x0, x1] qual scope fI cdv A outer s H E) body (tOst K f1 (tVar 0) (tVar 1))) :
    FnOk P w K mg base (L2.CX P w) 1 fI fd [x0, x1] (spX K [f1]) := by
  refine F.ok S (fun vs H Q E h => ?_) fun cdv A outer s H vs Q E hr h => ⟨_, hb cdv A outer s H E, ?_⟩
  · obtain ⟨a, C, us, rfl, h1, _⟩ := h
    simp at h1; simp [h1]
  · obtain ⟨a, C, us, rfl, h1, h2, h3, h4, h5⟩ := h
    match us, h1 with
    | [v], _ =>
      exact ⟨v, rfl, .ref a, rfl, a, C, rfl, h3, h4 f1 (by simp), .inl ⟨h2, fun d hd hne => h5 d hd hne⟩⟩
theorem exc_init2 (F : FunD K y qual params body scope [] [] fI fd) (S : FnScope [x0, x1, x2] [x0, x1, x2] scope)
    (hb : ∀ (cdv : Value) (A : Around) (outer : List Env) (s : Shared) (H : Hp) (E : XK), PSs (cxOf (L2.CX P w) P w K mg base [x0, x1, x2] qual scope fI cdv A outer s H E) body (tSeq (tOst K f1 (tVar 0) (tVar 1)) (tOst K f2 (tVar 0) (tVar 2)))) :
    FnOk P w K mg base (L2.CX P w) 1 fI fd [x0, x1, x2] (spX K [f1, f2]) := by
  refine F.ok S (fun vs H Q E h => ?_) fun cdv A outer s H vs Q E hr h => ⟨_, hb cdv A outer s H E, ?_⟩
  · obtain ⟨a, C, us, rfl, h1, _⟩ := h
    simp at h1; simp [h1]
  · obtain ⟨a, C, us, rfl, h1, h2, h3, h4, h5⟩ := h
    match us, h1 with
    | [v, u], _ =>
      refine ⟨v, rfl, .ref a, rfl, a, C, rfl, h3, h4 f1 (by simp), .inl ⟨h2, fun d hd hne => ?_⟩⟩
      refine ⟨u, rfl, .ref a, rfl, a, C, rfl, h3, h4 f2 (by simp), .inr ⟨d, [(f1, v)], upd_same, ?_, by show 1 ≤ 900; decide, ?_⟩⟩
      · rw [upd_ne hne, upd_same]
      · have e : upd (upd (upd H d (exd d [(f1, v)])) a (exo a C (some d))) d (exd d [(f2, u), (f1, v)]) = upd (upd H d (exd d [(f2, u), (f1, v)])) a (exo a C (some d)) := by
          funext b
          by_cases h1 : b = d
          · subst h1; rw [upd_same, upd_ne hne, upd_same]
          · rw [upd_ne h1]
            by_cases h2 : b = a
            · subst h2; rw [upd_same, upd_same]
            · rw [upd_ne h2, upd_ne h2, upd_ne h1, upd_ne h1]
        rw [e]
        exact h5 d hd hne
end
theorem zip_rev {α β : Type} : ∀ {xs : List α} {ys : List β}, xs.length = ys.length → (xs.zip ys).reverse = xs.reverse.zip ys.reverse
  | [], [], _ => rfl
  | x :: xs, y :: ys, h => by
    have h' : xs.length = ys.length := by simpa using h
    rw [List.zip_cons_cons, List.reverse_cons, List.reverse_cons, List.reverse_cons, zip_rev h', List.zip_append (by simp [h'])]
    rfl
  | [], _ :: _, h => by simp at h
  | _ :: _, [], h => by simp at h
abbrev TMd := Env' → Mem → (Nat → List Dat → Mem → Prop) → Prop
def lM (C : Ct) (B : Nw) (w : World) (K : PySem.W.Frag) (d : TMd) : L2.St → Hp → XK → Prop := fun σ H Q => ∃ n env m, n.H = H ∧ Ok C w K B n env m σ ∧ d env m fun c ys m' => ∀ n' dx vs, Good C w K n' m' → n.le n' → XAt C n n' c dx vs → FzAllN C w K n' vs ys → Q (.ref (C.addr c)) dx n'.H
structure DM (X : Cx) (C : Ct) (B : Nw) (e : Expr) (d : TMd) : Prop where
  mono : ∀ env m (Q Q' : Nat → List Dat → Mem → Prop), (∀ c ys m', Q c ys m' → Q' c ys m') → d env m Q → d env m Q'
  run : PMk X e (lM C B X.w X.K d)
def sRaise (d : TMd) (EX : QXe) : TSd := fun _ env m => d env m fun c ys m' => EX c ys env m'
section
variable {X : Cx} {C : Ct} {B : Nw} {e : Expr} {es : List Expr} {d : TMd} {EX : QXe} {p pos : Pos} {x : Str} {fI : Addr} {fd : FuncData} {ps fs : List Str} {c k : Nat} {da : TAd}
theorem ds_raise (hc : X.calm = true) (tk : TakesD X C B EX) (he : DM X C B e d) : DS X C B (.Raise (some e) none pos) (sRaise d EX) := by
  refine ⟨fun env m D D' l h => h, ⟨fun pins s σ H D I q => (ps_raise hc tk he.run).run pins s σ H D I ?_⟩⟩
  obtain ⟨n, env, m, rfl, ok, h⟩ := q
  refine ⟨n, env, m, rfl, ok, he.mono _ _ _ _ (fun c ys m' h1 n' dx vs g l hx hz => ?_) h⟩
  exact ⟨n', env, m', c, ys, vs, rfl, ok.go g l, rfl, hx.base ok.base, hz, h1⟩
/-- C(e, ..), an own exception with its own __init__ -/
def mOwn (c nf : Nat) (da : TAd) : TMd := fun env m Q => da env m fun xs m1 => match frs xs with
  | some ds => ds.length = nf ∧ Q c ds.reverse m1
  | none => False
theorem dm_own (T : OexC X.K (C.addr c)) (hno : ∀ f ∈ fs, PySem.W.findIn X.K (.ref (C.addr c)) f = some none) (hf : C.flds c = fs.reverse) (h64 : fs.length ≤ 1000) (iC : PySem.W.findIn X.K (.ref (C.addr c)) "__init__" = some (some (.ref fI))) (tI : PySem.W.typeIn X.K (.ref fI) = some (.type "function"))
    (F1 : FnOk X.prog X.w X.K X.mg X.base (L2.CX X.prog X.w) k fI fd ps (spX X.K fs)) (hr : Room (k + 1) X.A) (hb : Binds X.K fd ps []) (hg : Gl X x) (hm : X.mg x = some (.ref (C.addr c))) (ha : DA X C B (e :: es) da)
    (hdb : (x == ("__debug__" : Str)) = false := by decide) (he : starEach (e :: es) X.env = (false, eval e X.env) :: starEach es X.env := by rfl) (hpl : (backTo pos (starEach es X.env)).any (·.1) = false := by rfl) :
    DM X C B (.Call (.Name x p) (e :: es) [] pos) (mOwn c fs.length da) := by
  refine ⟨fun env m Q Q' i q => ha.mono _ _ _ _ (fun xs m1 h1 => ?_) q, ?_⟩
  · split at h1
    · exact ⟨h1.1, i _ _ _ h1.2⟩
    · exact h1
  have hx : Passes (L2.CX X.prog X.w) X (fun _ _ _ => False) := fun pins σ H s e s' I h => by
    obtain ⟨_, _, _, _, _, _, _, _, _, _, _, _, z⟩ := h
    exact z.elim
  intro pins s σ H Q I q
  refine pmk_oex (dvs := []) T iC tI F1 hr hb .nil hx hg hm ha.run hdb he hpl pins s σ H Q I ?_
  obtain ⟨n, env, m, rfl, ok, h⟩ := q
  refine ⟨n, env, m, rfl, ok, ha.mono _ _ _ _ (fun xs m1 h1 n1 vs g1 l1 lx => ?_) h⟩
  split at h1
  · rename_i ds hd
    obtain ⟨hl, h1⟩ := h1
    have hz := frs_ok lx hd
    have hlen : vs.length = fs.length := by rw [hz.length, hl]
    refine ⟨by omega, fun a ha1 => ?_⟩
    rw [List.append_nil]
    refine ⟨a, C.addr c, vs, rfl, hlen, upd_same, T, hno, fun d hd1 hne => ⟨rfl, d, (fs.zip vs).reverse, upd_same, ?_, ?_, ?_⟩⟩
    · rw [upd_ne hne, upd_same]
    · rw [upd_ne hne] at hd1; exact hd1
    · have hd2 : n1.H d = none := by rw [upd_ne hne] at hd1; exact hd1
      have e : upd (L2.del (upd (upd (upd n1.H a (exo a (C.addr c) none)) d (exd d (fs.zip vs).reverse)) a (exo a (C.addr c) (some d))) a) d (.xd (fs.zip vs).reverse) = upd n1.H d (.xd ((C.flds c).zip vs.reverse)) := by
        funext b
        by_cases h1 : b = d
        · subst h1
          rw [upd_same, upd_same, hf, zip_rev hlen.symm]
        · rw [upd_ne h1, upd_ne h1]
          by_cases h2 : b = a
          · subst h2; rw [L2.del_same, ha1]
          · rw [L2.del_ne h2, upd_ne h2, upd_ne h1, upd_ne h2]
      rw [e]
      obtain ⟨b2, b4⟩ := g1.free hd2
      have g2 : Good C X.w X.K ⟨n1.G, n1.al, upd n1.H d (.xd ((C.flds c).zip vs.reverse))⟩ m1 := g1.at b2 b4
      have l2 : n.le ⟨n1.G, n1.al, upd n1.H d (.xd ((C.flds c).zip vs.reverse))⟩ := l1.at (l1.base hd2)
      refine h1 _ (some d) vs.reverse g2 l2 ⟨by rw [hf]; simp [hlen], .inr ⟨d, rfl, l1.base hd2, upd_same⟩⟩ ?_
      exact FzAll.reverse (FzAll.keep (fun _ _ e => e) (fun _ _ e => e) hz)
  · exact h1.elim
end
end DL

set_option maxHeartbeats 2000000
namespace DL
open PySem PySem.Spec PyProof.Rows L2

/-! ### try, except .. as -/
section
variable {C : Ct} {w : World} {K : PySem.W.Frag} {B n n0 : Nw} {m : Mem} {env : Env'} {σ : L2.St}
/-- all that does not change now, as a ground -/
abbrev Nw.now (n B : Nw) : Nw := ⟨n.G, n.al, B.H⟩
theorem pre_mem {a b : List Addr} (h : a <+: b) {p : Addr} (e : p ∈ a) : p ∈ b := by
  obtain ⟨t, rfl⟩ := h
  exact List.mem_append_left _ e
theorem Ok.rebase (ok : Ok C w K B n env m σ) : Ok C w K (n.now B) n env m σ :=
  ⟨ok.good, ⟨fun _ _ h => h, fun p o e na => ok.base.keep p o e fun z => na (pre_mem ok.base.ale z), ok.base.there, fun _ _ => rfl, List.prefix_rfl, fun k p hk e => by
    have hk' : n.al.length ≤ k := hk
    rw [List.getElem?_eq_none hk'] at e; cases e⟩,
   ⟨ok.env.len, ok.env.fz, fun i x e => let ⟨a, f, q⟩ := ok.env.own i x e; ⟨a, f, q.ok, q.g, q.al, q.new⟩, ok.env.apart⟩⟩
theorem le_back (l : B.le n0) (l' : (n0.now B).le n) : B.le n :=
  ⟨fun p o e => l'.g p o (l.g p o e), fun p o e na => l'.keep p o e (l.nal (by rw [e]; simp) na), l'.there, fun p e => (l'.gnew p e).trans (l.gnew p e), l.ale.trans l'.ale, fun k p hk e => by
    by_cases h : k < n0.al.length
    · exact l.anew k p hk (pre_back l'.ale e h)
    · exact l'.anew k p (Nat.le_of_not_lt h) e⟩
theorem Ok.unbase (l : B.le n0) (ok : Ok C w K (n0.now B) n env m σ) : Ok C w K B n env m σ :=
  ⟨ok.good, le_back l ok.base, ⟨ok.env.len, ok.env.fz, fun i x e => let ⟨a, f, q⟩ := ok.env.own i x e; ⟨a, f, q.ok, q.g, q.al, q.new⟩, ok.env.apart⟩⟩
theorem le_sub (l : (n0.now B).le n) : n0.sub n := ⟨l.g, l.ale⟩
theorem MoOk.noxd {a : Addr} {x : Mo} {fs : List (Str × V)} (h : MoOk C w K n a x) : n.H a ≠ some (.xd fs) := fun z => by
  cases x with
  | lst xs => obtain ⟨vs, e, r⟩ := h; rw [e] at z; cases z
  | ins c xs => obtain ⟨dx, vs, e, q, r⟩ := h; rw [e] at z; cases z
  | dct kvs =>
    obtain ⟨es, e, q, r⟩ := h
    rw [e] at z
    have z' : HO.ext _ = HO.xd fs := Option.some.inj z
    cases z'
/-- the dict of an exception, new since B, changes no more -/
theorem Ok.frz {dd : Addr} {fs : List (Str × V)} (ok : Ok C w K B n env m σ) (hB : B.H dd = none) (hH : n.H dd = some (.xd fs)) :
    Ok C w K B ⟨upd n.G dd (.xd fs), n.al, n.H⟩ env m σ ∧ ∀ p o, n.G p = some o → upd n.G dd (.xd fs) p = some o := by
  have hg : ∀ p o, n.G p = some o → upd n.G dd (.xd fs) p = some o := fun p o e => by
    by_cases z : p = dd
    · subst z
      have := ok.good.sub p o e
      rw [hH] at this
      cases this
      exact upd_same
    · rw [upd_ne z]; exact e
  refine ⟨⟨⟨fun p o e => ?_, ok.good.nd, ok.good.len, fun k x a e1 e2 => ?_⟩, ⟨fun p o e => hg p o (ok.base.g p o e), ok.base.keep, ok.base.there, fun p e => ?_, ok.base.ale, ok.base.anew⟩,
    ⟨ok.env.len, fun i d e => let ⟨v, f, z⟩ := ok.env.fz i d e; ⟨v, f, Fz.keep hg (fun _ _ e => e) z⟩, fun i x e => ?_, ok.env.apart⟩⟩, hg⟩
  · have e' : upd n.G dd (.xd fs) p = some o := e
    show n.H p = some o
    by_cases z : p = dd
    · subst z; rw [upd_same] at e'; cases e'; exact hH
    · rw [upd_ne z] at e'; exact ok.good.sub p o e'
  · obtain ⟨h1, h2⟩ := ok.good.at_ k x a e1 e2
    refine ⟨h1.imp (n := n) hg (fun _ _ e => e) fun _ e => e, ?_⟩
    show upd n.G dd (.xd fs) a = none
    rw [upd_ne (fun z => by subst z; exact h1.noxd hH)]; exact h2
  · show upd n.G dd (.xd fs) p = B.G p
    rw [upd_ne (fun z => by subst z; exact e hB)]; exact ok.base.gnew p e
  · obtain ⟨a, f, q⟩ := ok.env.own i x e
    refine ⟨a, f, q.ok.imp (n := n) hg (fun _ _ e => e) fun _ e => e, ?_, q.al, q.new⟩
    show upd n.G dd (.xd fs) a = none
    rw [upd_ne (fun z => by subst z; exact q.ok.noxd hH)]; exact q.g
end
/-- what the ground holds of a caught error: its dict, its fields -/
def XFz (C : Ct) (w : World) (K : PySem.W.Frag) (B : Nw) (c : Nat) (d : Option Addr) (vs : List V) (xs : List Dat) : Prop :=
  vs.length = (C.flds c).length ∧ ((d = none ∧ vs = []) ∨ ∃ a, d = some a ∧ B.G a = some (.xd ((C.flds c).zip vs))) ∧ FzAllN C w K B vs xs
/-- the ends of a suite: slot i is emptied -/
def En.gone (D : En) (i : Nat) : En := ⟨fun e m => D.nx (e.set i none) m, D.rt, fun e m => D.bk (e.set i none) m, fun e m => D.ct (e.set i none) m⟩
def hGo (i : Nat) (tst : Nat → Option Bool) (ds : Addr → Nat → List Dat → TSd) (EXo : QXe) (D : En) : QXe := fun c xs env m => match tst c with
  | some true => ∀ a, ds a c xs (D.gone i) (env.set i (some (.f (.ref a)))) m
  | some false => EXo c xs env m
  | none => False
def sTry (i : Nat) (tst : Nat → Option Bool) (dt : QXe → TSd) (ds : Addr → Nat → List Dat → TSd) (EXo : QXe) : TSd := fun D env m => ∀ EX', (∀ c xs env' m', hGo i tst ds EXo D c xs env' m' → EX' c xs env' m') → dt EX' D env m
section
variable {X : Cx} {C : Ct} {B : Nw} {x nm : Str} {cv : Value} {i : Nat} {body suite : List Stmt} {b0 : Stmt} {np pos pos' : Pos} {tst : Nat → Option Bool} {dt : QXe → TSd} {ds : Addr → Nat → List Dat → TSd} {EXo : QXe}
theorem sTry.mono (hb : ∀ EX, MonoS (dt EX)) (hs : ∀ a c xs, MonoS (ds a c xs)) : MonoS (sTry i tst dt ds EXo) := fun env m D D' l h EX' hE => by
  refine hb EX' env m D D' l (h EX' fun c xs env' m' q => hE c xs env' m' ?_)
  unfold hGo at q ⊢
  split at q
  · exact fun a => hs a c xs _ _ (D.gone i) (D'.gone i) ⟨fun e m h => l.nx _ _ h, l.rt, fun e m h => l.bk _ _ h, fun e m h => l.ct _ _ h⟩ (q a)
  · exact q
  · exact q
theorem ds_try (hs : X.stack = X.env :: X.outer) (hf : X.env.frame = some X.env.locals) (hN : X.N.Nodup) (hi : X.N[i]? = some nm) (hln : X.env.kindOf nm = some .local) (hc : Names X x cv) (tk : TakesD X C B EXo)
    (htst : ∀ c b, tst c = some b → PySem.W.exmOne X.K (.ref (C.addr c)) cv = some b) (mb : ∀ EX, MonoS (dt EX)) (ms : ∀ a c xs, MonoS (ds a c xs))
    (hb : ∀ (pn : List (Addr × Obj)) (xe : Value → Shared → Prop) (B' : Nw) (EX : QXe), TakesD (X.tr pn xe) C B' EX → PassesOwn (model X.prog X.w) X.A X.env xe → DSs (X.tr pn xe) C B' body (dt EX))
    (hsu : ∀ (a : Addr) (oe : Obj) (d : Option Addr) (pn : List (Addr × Obj)) (c : Nat) (vs : List V) (xs : List Dat) (B' : Nw), Zc (.ref (C.addr c)) d oe → (∃ vs, oe.data = .fields vs) → XFz C X.w X.K B' c d vs xs → DSs (X.suite a ((a, oe) :: pn)) C B' (b0 :: suite) (ds a c xs)) :
    DS X C B (.Try body [.ExceptHandler (some (.Name x np)) (some nm) (b0 :: suite) pos'] [] [] pos) (sTry i tst dt ds EXo) := by
  let exOf : Nw → WX → QXe := fun B' W c xs env m => ∀ n dx vs σ, Ok C X.w X.K B' n env m σ → XAt C B' n c dx vs → FzAllN C X.w X.K n vs xs → W (.ref (C.addr c)) dx σ n.H
  refine ⟨sTry.mono mb ms, impS (ps_try_as (tb := fun W D σ H => ∃ B', lS C B' X.w X.K (dt (exOf B' W)) D σ H) (ts := fun a cls d D σ H => ∃ c xs vs B', cls = .ref (C.addr c) ∧ XFz C X.w X.K B' c d vs xs ∧ lS C B' X.w X.K (ds a c xs) D σ H)
    (Wout := fun cls dx σ H => atX C B X.w X.K EXo σ cls dx H) hs hf hN hi hln hc tk (fun W pn xe tkW hp => ⟨fun pins s σ H D I h => ?_⟩) (fun a oe cls d pn hz hd => ⟨fun pins s σ H D I h => ?_⟩)) ?_⟩
  · obtain ⟨B', h⟩ := h
    refine (hb pn xe B' (exOf B' W) (tkW.imp fun cls dx σ H q => ?_) hp).run.run pins s σ H D I h
    obtain ⟨n, env, m, c, xs, vs, rfl, ok, rfl, hx, hz, hE⟩ := q
    exact hE n dx vs σ ok hx hz
  · obtain ⟨c, xs, vs, B', rfl, hx, h⟩ := h
    exact (hsu a oe d pn c vs xs B' hz hd hx).run.run pins s σ H D I h
  · rintro D σ H ⟨n, env, m, rfl, ok, h⟩
    refine ⟨n.now B, n, env, m, rfl, ok.rebase, ?_⟩
    have back : En.le (lD C B X.w X.K n D) (lD C (n.now B) X.w X.K n D) := ⟨fun e m h n' σ' l ok' => h n' σ' l (ok'.unbase ok.base), fun y m h n' v l => h n' v (le_back ok.base l), fun e m h n' σ' l ok' => h n' σ' l (ok'.unbase ok.base), fun e m h n' σ' l ok' => h n' σ' l (ok'.unbase ok.base)⟩
    refine mb _ env m _ _ back (h _ fun c xs env' m' q => ?_)
    intro n1 dx vs σ1 ok1 hx hz
    have s1 : n.sub n1 := le_sub ok1.base
    have ok1' := ok1.unbase ok.base
    unfold hGo at q
    show ∃ b, PySem.W.exmOne X.K (.ref (C.addr c)) cv = some b ∧ _ ∧ _
    split at q
    · rename_i ht
      refine ⟨true, htst c true ht, fun _ a ha => ?_, fun z => Bool.noConfusion z⟩
      -- the dict changes no more
      obtain ⟨n2, e2, ok2, s2, hF, hz2⟩ : ∃ n2 : Nw, n2.H = n1.H ∧ Ok C X.w X.K B n2 env' m' σ1 ∧ n1.sub n2 ∧ XFz C X.w X.K (n2.now B) c dx vs xs ∧ FzAllN C X.w X.K n2 vs xs := by
        obtain ⟨hl, hx | ⟨dd, rfl, h1, h2⟩⟩ := hx
        · exact ⟨n1, rfl, ok1', .refl _, ⟨hl, .inl hx, hz⟩, hz⟩
        · obtain ⟨ok2, hg⟩ := ok1'.frz h1 h2
          have hz2 : FzAllN C X.w X.K ⟨upd n1.G dd (.xd ((C.flds c).zip vs)), n1.al, n1.H⟩ vs xs := FzAll.keep hg (fun _ _ e => e) hz
          exact ⟨⟨upd n1.G dd (.xd ((C.flds c).zip vs)), n1.al, n1.H⟩, rfl, ok2, ⟨hg, List.prefix_rfl⟩, ⟨hl, .inr ⟨dd, rfl, upd_same⟩, hz2⟩, hz2⟩
      refine ⟨c, xs, vs, n2.now B, rfl, hF, n2, env'.set i (some (.f (.ref a))), m', e2, ok2.rebase.setF (.ref a), ?_⟩
      have s12 := s1.trans s2
      refine ms a c xs _ _ _ _ ⟨fun e m h n' σ' l ok' => ?_, fun y m h n' v l g z => ?_, fun e m h n' σ' l ok' => ?_, fun e m h n' σ' l ok' => ?_⟩ (q a)
      · exact h n' (σ'.set i none) (s12.trans l) ⟨ok'.good, le_back ok2.base ok'.base, (ok'.unbase ok2.base).env.set0⟩
      · exact h n' v (le_back ok2.base l) g z
      · exact h n' (σ'.set i none) (s12.trans l) ⟨ok'.good, le_back ok2.base ok'.base, (ok'.unbase ok2.base).env.set0⟩
      · exact h n' (σ'.set i none) (s12.trans l) ⟨ok'.good, le_back ok2.base ok'.base, (ok'.unbase ok2.base).env.set0⟩
    · rename_i ht
      exact ⟨false, htst c false ht, fun z => Bool.noConfusion z, fun _ => ⟨n1, env', m', c, xs, vs, rfl, ok1', rfl, ⟨hx.1, hx.2⟩, hz, q⟩⟩
    · exact q.elim

/-! ### the caught error -/
/-- error.f -/
def dXf (a : Addr) (c : Nat) (xs : List Dat) (fi : Nat → Option Nat) (d : TD) : TD := fun env m Q => d env m fun x m1 => match x with
  | .f (.ref b) => b = a ∧ match fi c with
    | some k => match xs[k]? with
      | some y => Q (.f y) m1
      | none => False
    | none => False
  | _ => False
structure XfiOk (K : PySem.W.Frag) (C : Ct) (f : Str) (fi : Nat → Option Nat) : Prop where
  ok : ∀ c k, fi c = some k → XfC K (C.addr c) ∧ PySem.W.findIn K (.ref (C.addr c)) f = some none ∧ (C.flds c)[k]? = some f ∧ (C.flds c).Nodup
theorem de_xf {a : Addr} {oe : Obj} {d : Option Addr} {pn : List (Addr × Obj)} {c : Nat} {vs : List V} {xs : List Dat} {e : Expr} {de : TD} {f : Str} {fi : Nat → Option Nat} (F : XfiOk X.K C f fi) (hz : Zc (.ref (C.addr c)) d oe) (hd : ∃ vs, oe.data = .fields vs) (hx : XFz C X.w X.K B c d vs xs)
    (he : DE (X.suite a ((a, oe) :: pn)) C B e de) (hb : attributeBase e f X.env (eval e X.env) = eval e X.env := by rfl) : DE (X.suite a ((a, oe) :: pn)) C B (.Attribute e f pos) (dXf a c xs fi de) := by
  refine ⟨fun env m Q Q' i q => he.mono _ _ _ _ (fun y m1 h1 => ?_) q, ?_⟩
  · try dsimp only at h1 ⊢
    split at h1
    · refine ⟨h1.1, ?_⟩
      obtain ⟨_, h1⟩ := h1
      split at h1
      · split at h1
        · exact i _ _ h1
        · exact h1
      · exact h1
    · exact h1
  · cases hfi : fi c with
    | none =>
      refine ⟨fun pins s σ H Q I q => attr_of hb (wpAny_mono (he.run.run pins s σ H (fun _ _ => False) I ?_) (fun u s1 ⟨_, _, _, _, z⟩ => z.elim) fun _ _ z => z)⟩
      obtain ⟨n, env, m, rfl, ok, q⟩ := q
      refine ⟨n, env, m, rfl, ok, he.mono _ _ _ _ (fun y m1 q1 n1 v g1 l1 ly => ?_) q⟩
      split at q1
      · obtain ⟨_, q1⟩ := q1
        rw [hfi] at q1
        exact q1
      · exact q1
    | some k =>
      obtain ⟨T, h1, h2, h3⟩ := F.ok c k hfi
      refine imp (pe_xf T h1 hz hd he.run hb) ?_
      rintro σ H Q ⟨n, env, m, rfl, ok, q⟩
      refine ⟨n, env, m, rfl, ok, he.mono _ _ _ _ (fun y m1 q1 n1 v g1 l1 ly => ?_) q⟩
      split at q1
      · rename_i b
        obtain ⟨rfl, q1⟩ := q1
        rw [hfi] at q1
        have q1' : (match xs[k]? with
          | some y => AftL C X.w X.K n env σ Q (.f y) m1
          | none => False) := q1
        split at q1'
        · rename_i y hy
          have ly : FzN C X.w X.K n1 v (.ref b) := ly
          have ev : v = .ref b := by cases ly; rfl
          subst ev
          have ok1 := ok.go g1 l1
          obtain ⟨hl, hx1, hx2⟩ := hx
          have hx2' : FzAllN C X.w X.K n1 vs xs := FzAllN.le (n := B) hx2 ok1.base
          obtain ⟨u, e4, z4⟩ := hx2'.get hy
          rcases hx1 with ⟨_, rfl⟩ | ⟨dd, rfl, hG⟩
          · simp at e4
          · exact ⟨rfl, rfl, dd, _, u, rfl, g1.sub _ _ (ok1.base.g _ _ hG), zip_lookup h3 h2 e4, q1' n1 u g1 l1 z4⟩
        · exact q1'.elim
      · exact q1.elim
/-- isinstance(error, c) -/
def oIsE (a : Addr) (c : Nat) (isE : Nat → Nat → Option Bool) : OpN := fun env m xs Q => match xs with
  | [.f (.ref b), .f (.cls c')] => b = a ∧ match isE c c' with
    | some r => Q (.bl r) m
    | none => False
  | _ => False
structure IsEOk (K : PySem.W.Frag) (C : Ct) (isE : Nat → Nat → Option Bool) : Prop where
  ok : ∀ c c' b, isE c c' = some b → ExcC K (C.addr c) ∧ PySem.W.kitOne K (.ref (C.addr c)) (.ref (C.addr c')) = some b
theorem oIsE.mono {a : Addr} {c : Nat} {isE : Nat → Nat → Option Bool} : MonoN (oIsE a c isE) := fun env m xs Q Q' i => by
  unfold oIsE
  split
  · refine fun h => ⟨h.1, ?_⟩
    obtain ⟨_, h⟩ := h
    split at h
    · exact i _ _ h
    · exact h
  · exact id
theorem call_isED {a : Addr} {oe : Obj} {d : Option Addr} {pn : List (Addr × Obj)} {c : Nat} {isE : Nat → Nat → Option Bool} (F : IsEOk X.K C isE) (hz : Zc (.ref (C.addr c)) d oe) (hd : ∃ vs, oe.data = .fields vs) {vs : List V} {xs : List Dat} (hx : XFz C X.w X.K B c d vs xs) :
    CallR (X.suite a ((a, oe) :: pn)) (.builtin "isinstance") (fun vs H Q => ∃ n env m σ xs, n.H = H ∧ Ok C X.w X.K B n env m σ ∧ LvsOk C X.w X.K n env σ vs xs ∧ oIsE a c isE env m xs (AftD C X.w X.K n Q)) := by
  intro pins s σ H ws us Q I rv h
  obtain ⟨n, env, m, σ', xs, rfl, ok, lx, h⟩ := h
  unfold oIsE at h
  split at h
  · rename_i b c'
    obtain ⟨rfl, h⟩ := h
    split at h
    · rename_i r hr
      obtain ⟨T, kit⟩ := F.ok c c' r hr
      cases lx with
      | cons l1 lx =>
        cases lx with
        | cons l2 lx =>
          cases lx
          have l1 : FzN C X.w X.K n _ (.ref b) := l1
          have l2 : FzN C X.w X.K n _ (.cls c') := l2
          cases l1
          cases l2
          cases rv with
          | cons r1 rv =>
            cases rv with
            | cons r2 rv =>
              cases rv
              cases r1
              cases r2
              obtain ⟨hget, _⟩ := I.pin (b, oe) (List.mem_append.mpr (.inl List.mem_cons_self))
              obtain ⟨us, hv⟩ := hd
              have J : ∃ od, PySem.W.InstAt s.heap b oe (C.addr c) od := by
                obtain ⟨hl, hx1, _⟩ := hx
                rcases hx1 with ⟨rfl, _⟩ | ⟨dd, rfl, hG⟩
                · refine ⟨none, hget, hz.1, by unfold PySem.W.notCls; rw [hv] <;> rfl, ?_⟩
                  rw [hz.2]; exact True.intro
                · have e1 := ok.good.sub _ _ (ok.base.g _ _ hG)
                  obtain ⟨mA, ⟨o, es, ep, ho, _⟩, _⟩ : ∃ mA, s.heap.Ns1 dd mA ∧ _ := I.hok _ _ e1
                  refine ⟨some o, hget, hz.1, by unfold PySem.W.notCls; rw [hv] <;> rfl, ?_⟩
                  rw [hz.2]; exact ho
              exact PySem.W.kia_one (PySem.W.dl_kitx T) I.kIn J kit (fun z => nomatch z) fun tk => ⟨.bl r, _, I.kept (t' := tk) fun _ _ z => z, rfl, h n _ ok.good (.refl _) (.bl _)⟩
    · exact h.elim
  · exact h.elim
theorem de_isE {a : Addr} {oe : Obj} {d : Option Addr} {pn : List (Addr × Obj)} {c : Nat} {isE : Nat → Nat → Option Bool} {vs : List V} {xs : List Dat} {e : Expr} {es : List Expr} {da : TAd} {p : Pos} (F : IsEOk X.K C isE) (hz : Zc (.ref (C.addr c)) d oe) (hd : ∃ vs, oe.data = .fields vs) (hx : XFz C X.w X.K B c d vs xs)
    (hg : Gl (X.suite a ((a, oe) :: pn)) "isinstance") (hm : X.mg "isinstance" = none) (hv : bootBuiltins "isinstance" = some (.builtin "isinstance")) (ha : DA (X.suite a ((a, oe) :: pn)) C B (e :: es) da)
    (he : starEach (e :: es) X.env = (false, eval e X.env) :: starEach es X.env := by rfl) (hpl : (backTo pos (starEach es X.env)).any (·.1) = false := by rfl) :
    DE (X.suite a ((a, oe) :: pn)) C B (.Call (.Name "isinstance" p) (e :: es) [] pos) (dN (oIsE a c isE) da) := by
  refine ⟨dN.mono oIsE.mono ha.mono, imp (pe_callB (call_isED F hz hd hx) hg hm hv ha.run (by decide) (by decide) he hpl) ?_⟩
  rintro σ H Q ⟨n, env, m, rfl, ok, h⟩
  refine ⟨n, env, m, rfl, ok, ha.mono _ _ _ _ (fun xs m1 h1 n1 vs g1 l1 lx => ?_) h⟩
  exact ⟨n1, env, m1, σ, xs, rfl, ok.go g1 l1, lx, oIsE.mono _ _ _ _ _ (fun z m2 h2 n2 v g2 l2 hz => h2 n2 v g2 (l1.trans l2) hz) h1⟩
end
end DL

set_option maxHeartbeats 1000000
namespace DL
open PySem PySem.Spec PyProof.Rows L2

/-! ### words for printed walks -/
/-- a promise by what is needed and what is behind it -/
def pRel (n : Nat) (pre : List Dat → Mem → Prop) (post : List Dat → Mem → Dat → Mem → Prop) (posE : List Dat → Mem → Nat → List Dat → Mem → Prop) : DSp := fun ds m Q E => ds.length = n ∧ pre ds m ∧ (∀ r m', post ds m r m' → Q r m') ∧ ∀ c xs m', posE ds m c xs m' → E c xs m'
theorem pRel.mono {n pre post posE} : MonoP (pRel n pre post posE) := fun ds m Q Q' E E' i j h => ⟨h.1, h.2.1, fun r m' q => i _ _ (h.2.2.1 r m' q), fun c xs m' q => j _ _ _ (h.2.2.2 c xs m' q)⟩
theorem pRel.len {n pre post posE} : ∀ ds m Q E, pRel n pre post posE ds m Q E → ds.length = n := fun _ _ _ _ h => h.1
/-- the function object of the def at p -/
def fdA (K : PySem.W.Frag) (p : Str × Option Str) : FuncData := match K.lookup (He.fAd K p) with
  | some ⟨_, _, .func fd, _⟩ => fd
  | _ => default
theorem fdA_of {K : PySem.W.Frag} {p : Str × Option Str} {fd : FuncData} {x qual : Str} {params : Arguments} {body : List Stmt} {scope : Scope} {dvs kws} (F : FunD K x qual params body scope dvs kws (He.fAd K p) fd) : FunD K x qual params body scope dvs kws (He.fAd K p) (fdA K p) := by
  have e : fdA K p = fd := by
    obtain ⟨oc, od, dV, kV, doc, pm, an, cdv, ct, osl, e1, lk, _⟩ := F.ex
    unfold fdA
    rw [lk]
  rw [e]
  exact F
/-- a def that can be called by its name -/
structure FnC (P : Program) (w : World) (K : PySem.W.Frag) (mg : Str → Option Value) (base : Heap) (C : Ct) (x : Str) (k : Nat) (ps : List Str) (p : DSp) : Prop where
  hm : mg x = some (.ref (He.ga K x))
  hk : PySem.W.keepIn K (.ref (He.ga K x)) = true
  F : DF P w K mg base C k (He.ga K x) (fdA K (x, none)) ps p
  hb : Binds K (fdA K (x, none)) ps []
  hl : ∀ ds m Q E, p ds m Q E → ds.length = ps.length
structure FnCG (P : Program) (w : World) (K : PySem.W.Frag) (mg : Str → Option Value) (base : Heap) (C : Ct) (x : Str) (k : Nat) (ps : List Str) (p : DSp) : Prop where
  hm : mg x = some (.ref (He.ga K x))
  hk : PySem.W.keepIn K (.ref (He.ga K x)) = true
  F : DG P w K mg base C k (He.ga K x) (fdA K (x, none)) ps p
  hb : Binds K (fdA K (x, none)) ps []
  hl : ∀ ds m Q E, p ds m Q E → ds.length = ps.length
theorem DG.lift {P : Program} {w : World} {K : PySem.W.Frag} {mg : Str → Option Value} {base : Heap} {C : Ct} {j k : Nat} {f : Addr} {fd : FuncData} {ps : List Str} {p : DSp} (F : DG P w K mg base C j f fd ps p) (h : j ≤ k) : DG P w K mg base C k f fd ps p :=
  ⟨F.mono, ⟨F.ok.len, fun A outer s H args us vs Q E hr => F.ok.run A outer s H args us vs Q E ⟨hr.room.mono h, hr.gd⟩⟩⟩
theorem DF.lift {P : Program} {w : World} {K : PySem.W.Frag} {mg : Str → Option Value} {base : Heap} {C : Ct} {j k : Nat} {f : Addr} {fd : FuncData} {ps : List Str} {p : DSp} (F : DF P w K mg base C j f fd ps p) (h : j ≤ k) : DF P w K mg base C k f fd ps p :=
  ⟨F.mono, F.ok.mono h⟩
section
variable {X : Cx} {C : Ct} {B : Nw} {k j : Nat} {ps : List Str} {p : DSp} {EX : QXe} {x : Str} {p1 pos : Pos} {e : Expr} {es : List Expr} {da : TAd}
theorem de_fn (F : FnC X.prog X.w X.K X.mg X.base C x j ps p) (hr : Room k X.A) (h : j ≤ k) (ha : DA X C B (e :: es) da) (hx : PassD X C B EX) (hg : Gl X x := by rfl)
    (hdb : (x == ("__debug__" : Str)) = false := by decide) (he : starEach (e :: es) X.env = (false, eval e X.env) :: starEach es X.env := by rfl) (hpl : (backTo pos (starEach es X.env)).any (·.1) = false := by rfl) :
    DE X C B (.Call (.Name x p1) (e :: es) [] pos) (dCall p EX da) := de_call (F.F.lift h) F.hl hr hg F.hm F.hk F.hb hx ha hdb he hpl
theorem de_fnG (F : FnCG X.prog X.w X.K X.mg X.base C x j ps p) (hr : RoomG k X.A) (h : j ≤ k) (ha : DA X C B (e :: es) da) (hx : PassD X C B EX) (hg : Gl X x := by rfl)
    (hdb : (x == ("__debug__" : Str)) = false := by decide) (he : starEach (e :: es) X.env = (false, eval e X.env) :: starEach es X.env := by rfl) (hpl : (backTo pos (starEach es X.env)).any (·.1) = false := by rfl) :
    DE X C B (.Call (.Name x p1) (e :: es) [] pos) (dCall p EX da) := de_callG (F.F.lift h) F.hl hr hg F.hm F.hk F.hb hx ha hdb he hpl
theorem rm {k : Nat} {A : Around} (h : Room k A) : A.units + 70 < cLine := by have := h.un; omega
theorem op_eqR (hr : Room k X.A) : OpD X C (compareOp .Eq) (oEq id) := op_eqd (by have := rm hr; omega)
theorem op_neR (hr : Room k X.A) : OpD X C (compareOp .NotEq) (oEq not) := op_ned (by have := rm hr; omega)
theorem op_inR (hr : Room k X.A) : OpD X C (compareOp .In) (oIn id) := op_inS (by have := rm hr; omega)
theorem op_ninR (hr : Room k X.A) : OpD X C (compareOp .NotIn) (oIn not) := op_notInS (by have := rm hr; omega)
/-- a name is given a value, a new list -/
theorem ds_setV {i : Nat} {de : TD} {pos' : Pos} (hN : X.N.Nodup) (he : DE X C B e de) (hi : X.N[i]? = some x := by rfl) (hx : Loc X.env.scope x := by first | exact Or.inl rfl | exact Or.inr rfl) (hs : swapsWith e (some (.Name x pos')) pos.line X.env = pure false := by rfl)
    (hf : X.fn x = true ∨ X.env.scope.names.lookup x = some .local := by first | exact .inl rfl | exact .inr rfl) : DS X C B (.Assign [.Name x pos'] e pos) (sAsg (.nm i) de) := ds_set hN hi hx he hs (hf := hf)
theorem ds_setNV {i : Nat} {dn : TN} {pos' : Pos} (hN : X.N.Nodup) (he : DN X C B e dn) (hi : X.N[i]? = some x := by rfl) (hx : Loc X.env.scope x := by first | exact Or.inl rfl | exact Or.inr rfl) (hs : swapsWith e (some (.Name x pos')) pos.line X.env = pure false := by rfl)
    (hf : X.fn x = true ∨ X.env.scope.names.lookup x = some .local := by first | exact .inl rfl | exact .inr rfl) : DS X C B (.Assign [.Name x pos'] e pos) (sSetN i dn) := ds_setN hN hi hx he hs (hf := hf)
theorem tg_v {i : Nat} (hN : X.N.Nodup) (hi : X.N[i]? = some x := by rfl) (hx : Loc X.env.scope x := by first | exact Or.inl rfl | exact Or.inr rfl) (hf : X.fn x = true ∨ X.env.scope.names.lookup x = some .local := by first | exact .inl rfl | exact .inr rfl) : TgOk X (.Name x pos) (.nm i) := tg_nm hN hi hx hf
theorem tgs_v {i : Nat} {is : List Nat} (hN : X.N.Nodup) (r : TgsOk X es is) (hi : X.N[i]? = some x := by rfl) (hx : Loc X.env.scope x := by first | exact Or.inl rfl | exact Or.inr rfl) (hf : X.fn x = true ∨ X.env.scope.names.lookup x = some .local := by first | exact .inl rfl | exact .inr rfl) :
    TgsOk X (.Name x pos :: es) (i :: is) := tgs_cons hN hi hx r hf
theorem de_tyN {T : String} (hm : X.mg x = none) (hv : bootBuiltins x = some (.type T)) (hg : Gl X x := by rfl) (hn : x ≠ "__name__" := by decide) (hd : (x == ("__debug__" : Str)) = false := by decide) : DE X C B (.Name x pos) (dC (.ty T)) :=
  de_bltn (v := .ty T) hg hm hv (show RelV (.ty T) (.type T) from rfl) (fun _ _ _ _ _ => .ty T) hn hd
theorem de_gInt {i : Int} (hm : ∃ t, X.mg x = some (.int i t)) (hg : Gl X x := by rfl) (hd : (x == ("__debug__" : Str)) = false := by decide) : DE X C B (.Name x pos) (dC (.int i)) := by
  obtain ⟨t, e⟩ := hm
  exact de_glob (v := .int i) hg e ⟨t, rfl⟩ (fun _ _ _ _ _ => .int i) hd
theorem const_cls {c : Nat} : ∀ σ H Q, lE C B X.w X.K (dC (.cls c)) σ H Q → tC (.ref (C.addr c)) σ H Q := by
  rintro σ H Q ⟨n, env, m, rfl, ok, h⟩
  exact h n _ ok.good (.refl _) (.cls c)
theorem de_gCls {c : Nat} (hm : X.mg x = some (.ref (C.addr c))) (hg : Gl X x := by rfl) (hd : (x == ("__debug__" : Str)) = false := by decide) : DE X C B (.Name x pos) (dC (.cls c)) :=
  ⟨dC.mono _, imp (pe_glob hg hm (show RelV (.ref (C.addr c)) (.ref (C.addr c)) from rfl) hd) const_cls⟩
/-- a call of a built-in by name -/
theorem de_b {id : String} {f : OpN} (hc : CallD X C (.builtin id) f) (hm : X.mg x = none) (hv : bootBuiltins x = some (.builtin id)) (ha : DA X C B (e :: es) da) (hg : Gl X x := by rfl) (hn : x ≠ "__name__" := by decide) (hdb : (x == ("__debug__" : Str)) = false := by decide)
    (he : starEach (e :: es) X.env = (false, eval e X.env) :: starEach es X.env := by rfl) (hpl : (backTo pos (starEach es X.env)).any (·.1) = false := by rfl) : DE X C B (.Call (.Name x p1) (e :: es) [] pos) (dN f da) := de_callB hc hg hm hv ha hn hdb he hpl
theorem de_t {T : String} {f : OpN} (hc : CallD X C (.type T) f) (hm : X.mg x = none) (hv : bootBuiltins x = some (.type T)) (ha : DA X C B (e :: es) da) (hg : Gl X x := by rfl) (hn : x ≠ "__name__" := by decide) (hdb : (x == ("__debug__" : Str)) = false := by decide)
    (he : starEach (e :: es) X.env = (false, eval e X.env) :: starEach es X.env := by rfl) (hpl : (backTo pos (starEach es X.env)).any (·.1) = false := by rfl) : DE X C B (.Call (.Name x p1) (e :: es) [] pos) (dN f da) := de_callTy hc hg hm hv ha hn hdb he hpl
variable {elt te iter : Expr} {ifs : List Expr} {scope : Scope} {own : List (Str × Nat)} {tg : Tg} {dt : TB} {de : TD} {di : TId}
theorem dn_comp (own : List (Str × Nat)) (hc : X.calm = true) (hN : X.N.Nodup) (hi : DI X C B te iter di) (hg : Blk X scope fun Y => TgOk Y te tg) (ht : Blk X scope fun Y => DTs Y C B ifs dt) (he : Blk X scope fun Y => DE Y C B elt de)
    (ok : BlkOk X.N X.env.scope scope own) (htg : ∀ i ∈ tg.ids, i ∈ own.map (·.2)) (hs : ∀ x, foldedSetIterable iter X.env x = pure x := by intro _; rfl) : DN X C B (.ListComp elt [⟨te, iter, ifs, 0⟩] scope pos) (nLc tg dt de (own.map (·.2)) di) :=
  dn_lc hc hN hi ok (ht X.s_0 X.H_0 0 [] []).mono (he X.s_0 X.H_0 0 [] []).mono hg ht he htg hs
theorem ds_setC {i : Nat} {y : Str} {py spos : Pos} (own : List (Str × Nat)) (hc : X.calm = true) (hN : X.N.Nodup) (hi : DI X C B te iter di) (hg : Blk X scope fun Y => TgOk Y te tg) (ht : Blk X scope fun Y => DTs Y C B ifs dt) (he : Blk X scope fun Y => DE Y C B elt de)
    (ok : BlkOk X.N X.env.scope scope own) (htg : ∀ i ∈ tg.ids, i ∈ own.map (·.2)) (hy : X.N[i]? = some y := by rfl) (hyl : X.env.scope.names.lookup y = some .local := by rfl) (hsw : swapsWith (.ListComp elt [⟨te, iter, ifs, 0⟩] scope pos) (some (.Name y py)) spos.line X.env = pure true := by rfl)
    (hs : ∀ x, foldedSetIterable iter X.env x = pure x := by intro _; rfl) : DS X C B (.Assign [.Name y py] (.ListComp elt [⟨te, iter, ifs, 0⟩] scope pos) spos) (sAsg (.nm i) (dNew (nLc tg dt de (own.map (·.2)) di))) :=
  ds_setLc hc hN hy hyl hsw hi ok (ht X.s_0 X.H_0 0 [] []).mono (he X.s_0 X.H_0 0 [] []).mono hg ht he htg hs
theorem ds_setCN {i : Nat} {y : Str} {py spos : Pos} (own : List (Str × Nat)) (hc : X.calm = true) (hN : X.N.Nodup) (hi : DI X C B te iter di) (hg : Blk X scope fun Y => TgOk Y te tg) (ht : Blk X scope fun Y => DTs Y C B ifs dt) (he : Blk X scope fun Y => DE Y C B elt de)
    (ok : BlkOk X.N X.env.scope scope own) (htg : ∀ i ∈ tg.ids, i ∈ own.map (·.2)) (hy : X.N[i]? = some y := by rfl) (hyl : X.env.scope.names.lookup y = some .local := by rfl) (hsw : swapsWith (.ListComp elt [⟨te, iter, ifs, 0⟩] scope pos) (some (.Name y py)) spos.line X.env = pure true := by rfl)
    (hs : ∀ x, foldedSetIterable iter X.env x = pure x := by intro _; rfl) : DS X C B (.Assign [.Name y py] (.ListComp elt [⟨te, iter, ifs, 0⟩] scope pos) spos) (sSetN i (nLc tg dt de (own.map (·.2)) di)) :=
  ds_setLcN hc hN hy hyl hsw hi ok (ht X.s_0 X.H_0 0 [] []).mono (he X.s_0 X.H_0 0 [] []).mono hg ht he htg hs
end
end DL

set_option maxHeartbeats 1000000
namespace DL
open PySem PySem.Spec PyProof.Rows L2
abbrev oSub : Op2 := oI0 fun i j => .int (i - j)
abbrev oMul : Op2 := oI CMul fun i j => .int (i * j)
abbrev oFdiv : Op2 := oI CDivW fun i j => .int (i / j)
abbrev oMod : Op2 := oI (fun _ j => 0 < j) fun i j => .int (i % j)
abbrev oPow : Op2 := oI CPow fun i j => .int (i ^ j.toNat)
abbrev oShl : Op2 := oI CPow fun i j => .int (i * 2 ^ j.toNat)
abbrev oShr : Op2 := oI (fun _ j => 0 ≤ j) fun i j => .int (i / 2 ^ j.toNat)
abbrev oBand : Op2 := oI0 fun i j => .int (Builtin.bitAnd i j)
abbrev oLt : Op2 := oI0 fun i j => .bl (decide (i < j))
abbrev oLe : Op2 := oI0 fun i j => .bl (decide (i ≤ j))
abbrev oGt : Op2 := oI0 fun i j => .bl (decide (j < i))
abbrev oGe : Op2 := oI0 fun i j => .bl (decide (j ≤ i))
/-- a class that can be called by its name -/
structure MkC (P : Program) (w : World) (K : PySem.W.Frag) (mg : Str → Option Value) (base : Heap) (C : Ct) (x : Str) (c nf k : Nat) (ps : List Str) (p : DSp) : Prop where
  hm : mg x = some (.ref (C.addr c))
  M : Mk K (C.addr c) (He.fAd K (x, some "__init__"))
  F : DF P w K mg base C k (He.fAd K (x, some "__init__")) (fdA K (x, some "__init__")) ps p
  hb : Binds K (fdA K (x, some "__init__")) ps []
  hl : ∀ ds m Q E, p ds m Q E → ds.length = ps.length
  nf : (C.flds c).length = nf
/-- an own exception that can be called by its name -/
structure XcC (P : Program) (w : World) (K : PySem.W.Frag) (mg : Str → Option Value) (base : Heap) (C : Ct) (x : Str) (c : Nat) (fs : List Str) : Prop where
  hm : mg x = some (.ref (C.addr c))
  T : OexC K (C.addr c)
  no : ∀ f ∈ fs, PySem.W.findIn K (.ref (C.addr c)) f = some none
  fl : C.flds c = fs.reverse
  few : fs.length ≤ 1000
  ini : PySem.W.findIn K (.ref (C.addr c)) "__init__" = some (some (.ref (He.fAd K (x, some "__init__"))))
  ty : PySem.W.typeIn K (.ref (He.fAd K (x, some "__init__"))) = some (.type "function")
  F : ∃ ps, FnOk P w K mg base (L2.CX P w) 1 (He.fAd K (x, some "__init__")) (fdA K (x, some "__init__")) ps (spX K fs) ∧ Binds K (fdA K (x, some "__init__")) ps []
section
variable {X : Cx} {C : Ct} {B : Nw} {k j c nf : Nat} {ps : List Str} {p : DSp} {EX : QXe} {x : Str} {p1 pos : Pos} {e : Expr} {es : List Expr} {da : TAd}
theorem de_mk (M : MkC X.prog X.w X.K X.mg X.base C x c nf j ps p) (hg : Gl X x) (hr : Room k X.A) (h : j + 1 ≤ k) (ha : DA X C B (e :: es) da) (hx : PassD X C B EX)
    (hdb : (x == ("__debug__" : Str)) = false := by decide) (he : starEach (e :: es) X.env = (false, eval e X.env) :: starEach es X.env := by rfl) (hpl : (backTo pos (starEach es X.env)).any (·.1) = false := by rfl) :
    DE X C B (.Call (.Name x p1) (e :: es) [] pos) (dMakeF c nf p EX da) := by
  obtain ⟨i, rfl⟩ : ∃ i, k = i + 1 := ⟨k - 1, by omega⟩
  exact de_makeF M.M (M.F.lift (by omega)) M.hl M.nf hr hg M.hm M.hb hx ha hdb he hpl
theorem dm_x {fs : List Str} {n : Nat} (M : XcC X.prog X.w X.K X.mg X.base C x c fs) (hr : Room k X.A) (h : 2 ≤ k) (ha : DA X C B (e :: es) da) (hn : fs.length = n := by rfl) (hg : Gl X x := by rfl)
    (hdb : (x == ("__debug__" : Str)) = false := by decide) (he : starEach (e :: es) X.env = (false, eval e X.env) :: starEach es X.env := by rfl) (hpl : (backTo pos (starEach es X.env)).any (·.1) = false := by rfl) :
    DM X C B (.Call (.Name x p1) (e :: es) [] pos) (mOwn c n da) := by
  subst hn
  obtain ⟨ps, F, hb⟩ := M.F
  exact dm_own M.T M.no M.fl M.few M.ini M.ty F (hr.mono h) hb hg M.hm ha hdb he hpl
theorem sDrop.mono {de : TD} (h : MonoD de) : MonoS (sDrop de) := fun env m D D' l => h _ _ _ _ fun _ m1 => l.nx _ _
theorem dNil.mono : MonoA dNil := fun _ _ _ _ i => i _ _
theorem dXf.mono {a : Addr} {c : Nat} {xs : List Dat} {fi : Nat → Option Nat} {d : TD} (h : MonoD d) : MonoD (dXf a c xs fi d) := fun env m Q Q' i q => h _ _ _ _ (fun y m1 h1 => by
  try dsimp only at h1 ⊢
  split at h1
  · refine ⟨h1.1, ?_⟩
    obtain ⟨_, h1⟩ := h1
    split at h1
    · split at h1
      · exact i _ _ h1
      · exact h1
    · exact h1
  · exact h1) q
theorem dn_sortedR {a : Expr} {da : TD} (hr : Room k X.A) (ns : NoSys X.K) (hm : X.mg "sorted" = none) (ha : DE X C B a da) (hg : Gl X "sorted" := by rfl)
    (he : starEach [a] X.env = (false, eval a X.env) :: starEach [] X.env := by rfl) (hpl : (backTo pos (starEach [] X.env)).any (·.1) = false := by rfl) : DN X C B (.Call (.Name "sorted" p1) [a] [] pos) (nSort da) := dn_sorted (by have := rm hr; omega) ns hg hm boot_sorted ha he hpl
theorem reprR (hr : Room k X.A) (hg : X.A.guards = some []) (ns : NoSys X.K) : CallD X C (.builtin "repr") oRepr := call_reprD hg (by have := rm hr; omega) ns
theorem strR (hr : Room k X.A) (hg : X.A.guards = some []) (ns : NoSys X.K) : CallD X C (.type "str") oStr := call_strD hg (rm hr) ns
end
/-- BlkOk by a look -/
def blkB (N : List Str) (sc scope : Scope) (own : List (Str × Nat)) : Bool :=
  decide (scope.kind = .function) && (scope.names.all (fun y => decide (scope.names.lookup y.1 = some y.2)) && (own.all (fun p => decide (N[p.2]? = some p.1)) &&
    (scope.names.all (fun y => !(decide (y.2 = .free)) || (decide (sc.names.lookup y.1 = some .cell) || decide (sc.names.lookup y.1 = some .free))) &&
      scope.names.all (fun y => !(decide (y.2 = .local) || decide (y.2 = .cell)) || (decide (y.1 ∈ own.map (·.1)) || !(decide (y.1 ∈ N)))))))
theorem blkB_ok {N : List Str} {sc scope : Scope} {own : List (Str × Nat)} (h : blkB N sc scope own = true) : BlkOk N sc scope own := by
  unfold blkB at h
  simp only [Bool.and_eq_true, decide_eq_true_eq, List.all_eq_true] at h
  obtain ⟨h1, h2, h3, h4, h5⟩ := h
  refine ⟨h1, h2, h3, fun y hy e => ?_, fun y hy e => ?_⟩
  · have := h4 y hy
    simp [e] at this
    exact this
  · have := h5 y hy
    rcases e with e | e <;> · simp [e] at this; simpa using this
end DL

set_option maxHeartbeats 2000000
namespace DL
open PySem PySem.Spec PyProof.Rows L2

/-! ### the end of a law that is run where no text is under way -/
/-- no list stands in the written part -/
def NoLst (K : PySem.W.Frag) : Prop := ∀ b o, K.lookup b = some o → o.cls ≠ .type "list"
def onlyAt (a : Addr) (u : HO) : Hp := fun b => if b = a then some u else none
theorem onlyAt_same {a : Addr} {u : HO} : onlyAt a u a = some u := if_pos rfl
theorem onlyAt_ne {a b : Addr} {u : HO} (h : b ≠ a) : onlyAt a u b = none := if_neg h
theorem onlyAt_inv {a b : Addr} {u x : HO} (h : onlyAt a u b = some x) : b = a ∧ x = u := by
  by_cases e : b = a
  · subst e; rw [onlyAt_same] at h; cases h; exact ⟨rfl, rfl⟩
  · rw [onlyAt_ne e] at h; cases h
section
variable {P : Program} {w : World} {K : PySem.W.Frag} {gl bn : Str → Option Value} {CX : CXT} {k : Nat} {f a : Addr} {fd : FuncData} {x : Str} {sp : Sp} {S : Shared} {us : List Value} {is : List Int}
theorem end_call (inK : K.In S.heap) (gG : S.heap.Ns mainGlobals gl) (gB : S.heap.Ns builtinsNs bn) (boot : ∀ y : Str, y ≠ "__name__" → bn y = bootBuiltins y) (nl : S.heap.NoLimit) (gens : S.gens = #[])
    (at_ : S.heap.get? a = some { cls := .type "list", data := .seq us.toArray }) (hin : IntsAre us is) (len : is.length ≤ sizeLine) (rm : RoomG k callerA) (noL : NoLst K)
    (F : ∀ B : Heap, K.In B → B.Ns mainGlobals gl → FnG P w K gl B CX k f fd [x] sp) (bind : ∀ (s : Shared) (v : Value), BindsTo s fd ⟨[v], []⟩ [(x, v)])
    (prom : sp [.ref a] (onlyAt a (.frz { cls := .type "list", data := .seq us.toArray } (.lst (is.map V.int)))) (fun v _ => v = .bl true) fun _ _ _ => False)
    (none_out : ∀ H e s', CX [] H S (fun _ _ _ => False) e s' → False) :
    codeAny (model P w) callerA (.call (.ref f) ⟨[.ref a], []⟩) (fun r s' => r = .ok (.ret (.bool true)) ∧ OldK S.heap s'.heap ∧ s'.os = S.os ∧ AllBare s'.gens) S := by
  let u : HO := .frz { cls := .type "list", data := .seq us.toArray } (.lst (is.map V.int))
  have rv := vals_ints hin
  have ka : K.lookup a = none := by
    cases e : K.lookup a with
    | none => rfl
    | some o =>
      have h1 := inK a o e
      rw [at_] at h1
      cases h1
      exact absurd rfl (noL a _ e)
  have okH : HOk P w (onlyAt a u) S.heap := fun b y e => by
    obtain ⟨rfl, rfl⟩ := onlyAt_inv e
    exact ⟨at_, by rw [List.length_map]; exact len, us, _, rv, at_⟩
  have hide : ∀ {b : Addr} {o : Obj}, S.heap.get? b = some o → b ≠ a → (hidT S.heap (onlyAt a u)).get? b = some o := fun e n => hidT_get e (onlyAt_ne n)
  have nsH : ∀ {b : Addr} {m : Str → Option Value}, S.heap.Ns b m → (hidT S.heap (onlyAt a u)).Ns b m := fun {b m} ⟨o, es, ep, e, d, r⟩ => ⟨o, es, ep, hide e (fun z => by
    subst z
    rw [at_] at e; cases e
    have d2 : Data.seq us.toArray _ = Data.dict es ep := d
    cases d2), d, r⟩
  have kB : K.In (hidT S.heap (onlyAt a u)) := fun b o e => hide (inK b o e) fun z => by rw [z, ka] at e; cases e
  have md : Mod K gl (hidT S.heap (onlyAt a u)) := ⟨kB, nsH gG, ⟨bn, nsH gB, boot⟩, let ⟨mc, h1, h2⟩ := nl; ⟨mc, nsH h1, h2⟩⟩
  have env : Env0 P w K gl (hidT S.heap (onlyAt a u)) callerA [] S (onlyAt a u) :=
    ⟨rfl, md, fun b o e => of_hidT e, Nat.le_of_eq (hidT_size _ _), trivial, fun b z => absurd (show b ∈ ([] : List Addr) from z) (by simp), okH, .of_eq gens⟩
  have run := (F _ kB (nsH gG)).run callerA [] S (onlyAt a u) ⟨[.ref a], []⟩ [.ref a] [.ref a] _ _ rm env (bind S (.ref a)) (.cons rfl .nil) prom
  refine codeAny_mono run fun r s' q => ?_
  cases r with
  | error e => exact (none_out _ e s' q).elim
  | ok z =>
    cases z with
    | next => exact False.elim q
    | brk => exact False.elim q
    | cont => exact False.elim q
    | ret y =>
      obtain ⟨v, H', eos, bare, un, hok', r', q1⟩ := q
      have q2 : v = .bl true := q1
      subst q2
      obtain rfl : y = Value.bool true := r'
      refine ⟨rfl, OldK.of_keep fun b o e => ?_, eos, bare⟩
      by_cases n : b = a
      · subst n
        obtain ⟨e1, _⟩ := hok' b _ (un.frzs b _ _ onlyAt_same)
        rw [at_] at e; cases e
        exact e1
      · exact un.keep b o e (onlyAt_ne n) (by intro z; exact absurd (show b ∈ ([] : List Addr) from z) (by simp)) (by simp)
end
theorem walk_ofG {l : PySem.W.OpenLaw} {n k : Nat} {q : Program} {lo : List Str} {XP : (Str → Option Value) → Heap → Prop} {YP : World → Heap → Prop} {d : DefRec} {x : Str}
    (most : l.most = some n) (hn : n ≤ sizeLine) (nodef : d.params.defaults = []) (rm : RoomG k callerA)
    (F : ∀ (w : World) (gl : Str → Option Value) (f : Addr) (h : Heap), YP w h → h.Ns mainGlobals gl → gl d.name = some (.ref f) →
      ∃ (K : PySem.W.Frag) (fd : FuncData) (sp : Sp), K.In h ∧ NoLst K ∧ (∀ (s : Shared) (v : Value), BindsTo s fd ⟨[v], []⟩ [(x, v)]) ∧
        (∀ (a : Addr) (o : Obj) (is : List Int), is.length ≤ n → sp [.ref a] (onlyAt a (.frz o (.lst (is.map V.int)))) (fun v _ => v = .bl true) fun _ _ _ => False) ∧
        ∀ B : Heap, K.In B → B.Ns mainGlobals gl → FnG l.prog w K gl B (L2.CX l.prog w) k f fd [x] sp) :
    PySem.W.WalkO q lo XP YP l.row.toRowW d [] (fun f vs => PySem.call f vs) := by
  refine Att.attach_call most nodef ?_
  intro w S0 S mg mb f o pm cd doc a us is G Y ho hd hcd hmg hobj hi hlen hg
  obtain ⟨K, fd, sp, inK, noL, hb, prom, hF⟩ := F w mg f _ Y G.T.g hmg
  refine end_call inK G.T.g G.T.b G.T.builtins G.T.nolimit hg hobj hi (Nat.le_trans hlen hn) rm noL hF hb (prom a _ is hlen) ?_
  rintro H e s' ⟨_, _, _, _, _, _, _, _, _, _, _, _, z⟩
  exact z
/-- the law's promise over data: any list of at most n ints, nothing shared; it gives True -/
def pLaw (n : Nat) : DSp := fun ds m Q _ => ∃ is : List Int, is.length ≤ n ∧ ds = [.lst (is.map Dat.int)] ∧ m = [] ∧ ∀ m', Q (.bl true) m'
theorem pLaw.mono {n : Nat} : MonoP (pLaw n) := fun ds m Q Q' E E' i _ ⟨is, h1, h2, h3, h4⟩ => ⟨is, h1, h2, h3, fun m' => i _ _ (h4 m')⟩
theorem pLaw.len {n : Nat} : ∀ ds m Q E, pLaw n ds m Q E → ds.length = 1 := fun ds m Q E ⟨is, h1, h2, h3, h4⟩ => by rw [h2]; rfl
theorem fz_ints {C : Ct} {w : World} {K : PySem.W.Frag} {al : List Addr} {G : Hp} : ∀ is : List Int, FzAll C w K al G (is.map V.int) (is.map Dat.int)
  | [] => .nil
  | i :: is => .cons (.int i) (fz_ints is)
theorem law_prom {C : Ct} {w : World} {K : PySem.W.Frag} {n : Nat} {a : Addr} {o : Obj} {is : List Int} (h : is.length ≤ n) :
    spD C w K 1 (pLaw n) [.ref a] (onlyAt a (.frz o (.lst (is.map V.int)))) (fun v _ => v = .bl true) fun _ _ _ => False := by
  refine ⟨rfl, ⟨onlyAt a (.frz o (.lst (is.map V.int))), [], onlyAt a (.frz o (.lst (is.map V.int)))⟩, [], [.lst (is.map Dat.int)], rfl, ?_, ?_, is, h, rfl, rfl, ?_⟩
  · exact ⟨fun _ _ e => e, List.nodup_nil, rfl, fun k x b e => by simp at e⟩
  · exact .cons (.lst (.inr ⟨o, onlyAt_same⟩) (fz_ints is)) .nil
  · intro m' n' v g l z
    cases z; rfl
end DL

set_option maxHeartbeats 2000000
namespace DL
open PySem PySem.Spec PyProof.Rows L2

/-! ### facts of the top by tables: all are looks at the written part -/
structure Tab where
  names : List Str
  flds : List (List Str) := []
  /-- plain classes of instances -/
  owns : List Nat := []
  ii : List (Nat × Nat × Bool) := []
  ib : List (Nat × String × Bool) := []
  it : List (String × Nat × Bool) := []
def Tab.at (t : Tab) (K : PySem.W.Frag) (c : Nat) : Addr := He.ga K (t.names.getD c Str.empty)
def fi2 (tab : List (Nat × Nat × Bool)) (c d : Nat) : Option Bool := match tab with
  | [] => none
  | (a, b, r) :: l => if a = c ∧ b = d then some r else fi2 l c d
def fiB (tab : List (Nat × String × Bool)) (c : Nat) (T : String) : Option Bool := match tab with
  | [] => none
  | (a, b, r) :: l => if a = c ∧ b = T then some r else fiB l c T
def fiT (tab : List (String × Nat × Bool)) (T : String) (d : Nat) : Option Bool := match tab with
  | [] => none
  | (a, b, r) :: l => if a = T ∧ b = d then some r else fiT l T d
def fiOf (tab : List (Nat × Nat)) (c : Nat) : Option Nat := match tab with
  | [] => none
  | (a, b) :: l => if a = c then some b else fiOf l c
def tsOf (tab : List (Nat × Bool)) (c : Nat) : Option Bool := match tab with
  | [] => none
  | (a, b) :: l => if a = c then some b else tsOf l c
theorem fi2_mem : ∀ {tab : List (Nat × Nat × Bool)} {c d : Nat} {r : Bool}, fi2 tab c d = some r → (c, d, r) ∈ tab
  | [], _, _, _, h => by cases h
  | (a, b, q) :: l, c, d, r, h => by
    unfold fi2 at h
    split at h
    · rename_i e; obtain ⟨rfl, rfl⟩ := e; cases h; exact List.mem_cons_self
    · exact List.mem_cons_of_mem _ (fi2_mem h)
theorem fiB_mem : ∀ {tab : List (Nat × String × Bool)} {c : Nat} {d : String} {r : Bool}, fiB tab c d = some r → (c, d, r) ∈ tab
  | [], _, _, _, h => by cases h
  | (a, b, q) :: l, c, d, r, h => by
    unfold fiB at h
    split at h
    · rename_i e; obtain ⟨rfl, rfl⟩ := e; cases h; exact List.mem_cons_self
    · exact List.mem_cons_of_mem _ (fiB_mem h)
theorem fiT_mem : ∀ {tab : List (String × Nat × Bool)} {c : String} {d : Nat} {r : Bool}, fiT tab c d = some r → (c, d, r) ∈ tab
  | [], _, _, _, h => by cases h
  | (a, b, q) :: l, c, d, r, h => by
    unfold fiT at h
    split at h
    · rename_i e; obtain ⟨rfl, rfl⟩ := e; cases h; exact List.mem_cons_self
    · exact List.mem_cons_of_mem _ (fiT_mem h)
theorem fiOf_mem : ∀ {tab : List (Nat × Nat)} {c d : Nat}, fiOf tab c = some d → (c, d) ∈ tab
  | [], _, _, h => by cases h
  | (a, b) :: l, c, d, h => by
    unfold fiOf at h
    split at h
    · rename_i e; subst e; cases h; exact List.mem_cons_self
    · exact List.mem_cons_of_mem _ (fiOf_mem h)
theorem tsOf_mem : ∀ {tab : List (Nat × Bool)} {c : Nat} {d : Bool}, tsOf tab c = some d → (c, d) ∈ tab
  | [], _, _, h => by cases h
  | (a, b) :: l, c, d, h => by
    unfold tsOf at h
    split at h
    · rename_i e; subst e; cases h; exact List.mem_cons_self
    · exact List.mem_cons_of_mem _ (tsOf_mem h)
def Tab.ct (t : Tab) (K : PySem.W.Frag) : Ct where
  addr := t.at K
  flds := fun c => t.flds.getD c []
  own := fun c => decide (c ∈ t.owns)
  isaI := fi2 t.ii
  isaB := fiB t.ib
  isaT := fiT t.it
def clsB (K : PySem.W.Frag) (C : Addr) : Bool := PySem.W.plainGet K C Str.empty && (PySem.W.hasDictIn K C && (PySem.W.plainOver K C && decide (PySem.W.findIn K (.ref C) "__setattr__" = some (some (.builtin "object.__setattr__")))))
theorem and2 {a b : Bool} (h : (a && b) = true) : a = true ∧ b = true := Bool.and_eq_true_iff.mp h
theorem clsB_ok {K : PySem.W.Frag} {C : Addr} (h : clsB K C = true) : Cls K C := by
  obtain ⟨h1, h⟩ := and2 h
  obtain ⟨h2, h⟩ := and2 h
  obtain ⟨h3, h4⟩ := and2 h
  exact ⟨h1, h2, h3, of_decide_eq_true h4⟩
def ownB (K : PySem.W.Frag) (C : Addr) : Bool := clsB K C && (decide (PySem.W.findIn K (.ref C) "__class__" = some (some (.builtin "object.__class__"))) &&
  (decide (PySem.W.specialIn K (.builtin "object.__class__") "__get__" = some (some (.builtin "getset_descriptor.__get__"))) && (decide (PySem.W.takesIn K (.builtin "object.__class__") = some true) && decide (PySem.W.mroIn K C (.type "object") = some true))))
def Tab.chk (t : Tab) (K : PySem.W.Frag) : Bool := (t.ii.all fun p => decide (PySem.W.kitOne K (.ref (t.at K p.1)) (.ref (t.at K p.2.1)) = some p.2.2)) &&
  ((t.ib.all fun p => decide (PySem.W.kitOne K (.ref (t.at K p.1)) (.type p.2.1) = some p.2.2)) &&
  ((t.it.all fun p => decide (PySem.W.kitOne K (.type p.1) (.ref (t.at K p.2.1)) = some p.2.2)) && t.owns.all fun c => ownB K (t.at K c)))
theorem Tab.ok {t : Tab} {K : PySem.W.Frag} (h : t.chk K = true) : CtOk (t.ct K) K := by
  obtain ⟨h1, h⟩ := and2 h
  obtain ⟨h2, h⟩ := and2 h
  obtain ⟨h3, h4⟩ := and2 h
  refine ⟨fun c d b e => ?_, fun c T b e => ?_, fun T d b e => ?_, fun c e => ?_⟩
  · exact of_decide_eq_true (List.all_eq_true.mp h1 _ (fi2_mem e))
  · exact of_decide_eq_true (List.all_eq_true.mp h2 _ (fiB_mem e))
  · exact of_decide_eq_true (List.all_eq_true.mp h3 _ (fiT_mem e))
  · obtain ⟨q1, q⟩ := and2 (List.all_eq_true.mp h4 c (of_decide_eq_true e))
    obtain ⟨q2, q⟩ := and2 q
    obtain ⟨q3, q⟩ := and2 q
    obtain ⟨q4, q5⟩ := and2 q
    exact ⟨clsB_ok q1, of_decide_eq_true q2, of_decide_eq_true q3, of_decide_eq_true q4, of_decide_eq_true q5⟩
/-- a field of plain instances -/
def Tab.fiC (t : Tab) (f : Str) (tab : List (Nat × Nat)) (K : PySem.W.Frag) : Bool := tab.all fun p => clsB K (t.at K p.1) && (decide (PySem.W.findIn K (.ref (t.at K p.1)) f = some none) &&
  (decide ((t.flds.getD p.1 []).Nodup) && (decide ((t.flds.getD p.1 []).length < 1000) && decide ((t.flds.getD p.1 [])[p.2]? = some f))))
theorem Tab.fi_ok {t : Tab} {f : Str} {tab : List (Nat × Nat)} {K : PySem.W.Frag} (h : t.fiC f tab K = true) : FiOk K (t.ct K) f (fiOf tab) := ⟨fun c k e => by
  obtain ⟨h1, q⟩ := and2 (List.all_eq_true.mp h _ (fiOf_mem e))
  obtain ⟨h2, q⟩ := and2 q
  obtain ⟨h3, q⟩ := and2 q
  obtain ⟨h4, h5⟩ := and2 q
  have e2 : PySem.W.findIn K (.ref (t.at K c)) f = some none := of_decide_eq_true h2
  exact ⟨⟨clsB_ok h1, e2, of_decide_eq_true h3, of_decide_eq_true h4⟩, of_decide_eq_true h5⟩⟩
/-- a field of caught errors -/
def Tab.xfC (t : Tab) (f : Str) (tab : List (Nat × Nat)) (K : PySem.W.Frag) : Bool := tab.all fun p => xfB K (t.at K p.1) && (decide (PySem.W.findIn K (.ref (t.at K p.1)) f = some none) &&
  (decide ((t.flds.getD p.1 [])[p.2]? = some f) && decide ((t.flds.getD p.1 []).Nodup)))
theorem Tab.xf_ok {t : Tab} {f : Str} {tab : List (Nat × Nat)} {K : PySem.W.Frag} (h : t.xfC f tab K = true) : XfiOk K (t.ct K) f (fiOf tab) := ⟨fun c k e => by
  obtain ⟨h1, q⟩ := and2 (List.all_eq_true.mp h _ (fiOf_mem e))
  obtain ⟨h2, q⟩ := and2 q
  obtain ⟨h3, h4⟩ := and2 q
  exact ⟨xfB_ok h1, of_decide_eq_true h2, of_decide_eq_true h3, of_decide_eq_true h4⟩⟩
/-- isinstance of a caught error -/
def excB (K : PySem.W.Frag) (D : Addr) : Bool := decide (PySem.W.findIn K (.ref D) "__getattribute__" = some (some (.builtin "BaseException.__getattribute__"))) && (decide (PySem.W.findIn K (.ref D) "__getattr__" = some none) &&
  (decide (PySem.W.subIn K (.ref D) (.type "BaseException") = some true) && (PySem.W.hasDictIn K D && (decide (PySem.W.findIn K (.ref D) "__class__" = some (some (.builtin "object.__class__"))) &&
  (decide (PySem.W.specialIn K (.builtin "object.__class__") "__get__" = some (some (.builtin "getset_descriptor.__get__"))) && (decide (PySem.W.takesIn K (.builtin "object.__class__") = some true) && decide (PySem.W.mroIn K D (.type "object") = some true)))))))
theorem excB_ok {K : PySem.W.Frag} {D : Addr} (h : excB K D = true) : ExcC K D := by
  obtain ⟨h1, h⟩ := and2 h
  obtain ⟨h2, h⟩ := and2 h
  obtain ⟨h3, h⟩ := and2 h
  obtain ⟨h4, h⟩ := and2 h
  obtain ⟨h5, h⟩ := and2 h
  obtain ⟨h6, h⟩ := and2 h
  obtain ⟨h7, h8⟩ := and2 h
  exact ⟨of_decide_eq_true h1, of_decide_eq_true h2, of_decide_eq_true h3, h4, of_decide_eq_true h5, of_decide_eq_true h6, of_decide_eq_true h7, of_decide_eq_true h8⟩
def Tab.ieC (t : Tab) (tab : List (Nat × Nat × Bool)) (K : PySem.W.Frag) : Bool := tab.all fun p => excB K (t.at K p.1) && decide (PySem.W.kitOne K (.ref (t.at K p.1)) (.ref (t.at K p.2.1)) = some p.2.2)
theorem Tab.ie_ok {t : Tab} {tab : List (Nat × Nat × Bool)} {K : PySem.W.Frag} (h : t.ieC tab K = true) : IsEOk K (t.ct K) (fi2 tab) := ⟨fun c d b e => by
  obtain ⟨h1, h2⟩ := and2 (List.all_eq_true.mp h _ (fi2_mem e))
  exact ⟨excB_ok h1, of_decide_eq_true h2⟩⟩
/-- which errors an except takes -/
def Tab.exC (t : Tab) (d : Nat) (tab : List (Nat × Bool)) (K : PySem.W.Frag) : Bool := tab.all fun p => decide (PySem.W.exmOne K (.ref (t.at K p.1)) (.ref (t.at K d)) = some p.2)
theorem Tab.ex_ok {t : Tab} {d : Nat} {tab : List (Nat × Bool)} {K : PySem.W.Frag} (h : t.exC d tab K = true) : ∀ c b, tsOf tab c = some b → PySem.W.exmOne K (.ref ((t.ct K).addr c)) (.ref ((t.ct K).addr d)) = some b := fun c b e =>
  of_decide_eq_true (List.all_eq_true.mp h _ (tsOf_mem e))
/-- own exceptions that are made -/
def oexB (K : PySem.W.Frag) (C : Addr) : Bool := match K.lookup C with
  | some ⟨.type "type", _, .cls cd, sl⟩ => (match cd.mro, sl.toList with
    | .ref C2 :: bm, [_, _, _, _, some (.builtin n), _] => C2 == C && (n == "ValueError.__new__" && (!cd.hasDel && (cd.hasDict && PySem.HandSPX.refsVE bm)))
    | _, _ => false)
  | _ => false
theorem oexB_ok {K : PySem.W.Frag} {C : Addr} (h : oexB K C = true) : ∃ nm q N bs bm sn sub ab col dd k0 k1 k2 k3 k5, K.lookup C = some (excClassObj nm q C N bs bm true sn sub ab col dd k0 k1 k2 k3 k5 "ValueError.__new__") ∧ PySem.HandSPX.refsVE bm = true := by
  unfold oexB at h
  split at h
  · rename_i dd cd sl lk
    split at h
    · rename_i C2 bm k0 k1 k2 k3 n k5 em es
      obtain ⟨h1, h⟩ := and2 h
      obtain ⟨h2, h⟩ := and2 h
      obtain ⟨h3, h⟩ := and2 h
      obtain ⟨h4, h5⟩ := and2 h
      have e1 := eq_of_beq h1
      have e2 := eq_of_beq h2
      subst e1 e2
      have es2 : sl = #[k0, k1, k2, k3, some (.builtin "ValueError.__new__"), k5] := by
        cases sl; simp at es; rw [es]
      subst es2
      obtain ⟨nm, bs, mro, ns, qn, hd, sn, sub, ab, col, del⟩ := cd
      have e3 : mro = .ref C2 :: bm := em
      have e4 : hd = true := h4
      have e5 : del = false := by simpa using h3
      subst e3 e4 e5
      exact ⟨nm, qn, ns, bs, bm, sn, sub, ab, col, dd, k0, k1, k2, k3, k5, lk, h5⟩
    · cases h
  · cases h
def Tab.xcC (t : Tab) (c : Nat) (fs : List Str) (K : PySem.W.Frag) : Bool := oexB K (t.at K c) && (decide (PySem.W.findIn K (.ref (t.at K c)) "__setattr__" = some (some (.builtin "object.__setattr__"))) && (decide (PySem.W.subIn K (.ref (t.at K c)) (.type "BaseException") = some true) &&
  (decide (PySem.W.typeIn K (.ref (t.at K c)) = some (.type "type")) && (PySem.W.keepIn K (.ref (t.at K c)) && ((fs.all fun f => decide (PySem.W.findIn K (.ref (t.at K c)) f = some none)) &&
  (decide (PySem.W.findIn K (.ref (t.at K c)) "__init__" = some (some (.ref (He.fAd K (t.names.getD c Str.empty, some "__init__"))))) && decide (PySem.W.typeIn K (.ref (He.fAd K (t.names.getD c Str.empty, some "__init__"))) = some (.type "function"))))))))
theorem Tab.xc_ok {t : Tab} {c : Nat} {fs : List Str} {P : Program} {w : World} {K : PySem.W.Frag} {mg : Str → Option Value} {base : Heap} {x : Str} (h : t.xcC c fs K = true) (hx : t.names.getD c Str.empty = x) (hm : mg x = some (.ref (He.ga K x))) (fl : t.flds.getD c [] = fs.reverse) (few : fs.length ≤ 1000)
    (F : ∃ ps, FnOk P w K mg base (L2.CX P w) 1 (He.fAd K (x, some "__init__")) (fdA K (x, some "__init__")) ps (spX K fs) ∧ Binds K (fdA K (x, some "__init__")) ps []) : XcC P w K mg base (t.ct K) x c fs := by
  subst hx
  obtain ⟨h1, h⟩ := and2 h
  obtain ⟨h2, h⟩ := and2 h
  obtain ⟨h3, h⟩ := and2 h
  obtain ⟨h4, h⟩ := and2 h
  obtain ⟨h5, h⟩ := and2 h
  obtain ⟨h6, h⟩ := and2 h
  obtain ⟨h7, h8⟩ := and2 h
  exact ⟨hm, ⟨oexB_ok h1, of_decide_eq_true h2, of_decide_eq_true h3, of_decide_eq_true h4, h5⟩, fun f hf => of_decide_eq_true (List.all_eq_true.mp h6 f hf), fl, few, of_decide_eq_true h7, of_decide_eq_true h8, F⟩
/-- classes that are made by their own __init__ -/
def Tab.mkC (t : Tab) (c : Nat) (K : PySem.W.Frag) : Bool := PySem.W.makesIn K (t.at K c) && (decide (PySem.W.findIn K (.ref (t.at K c)) "__init__" = some (some (.ref (He.fAd K (t.names.getD c Str.empty, some "__init__"))))) &&
  (PySem.W.isFn K (.ref (He.fAd K (t.names.getD c Str.empty, some "__init__"))) && PySem.W.keepIn K (.ref (t.at K c))))
theorem Tab.mk_ok {t : Tab} {c : Nat} {K : PySem.W.Frag} {x : Str} (h : t.mkC c K = true) (hx : t.names.getD c Str.empty = x) : Mk K ((t.ct K).addr c) (He.fAd K (x, some "__init__")) := by
  subst hx
  obtain ⟨h1, h⟩ := and2 h
  obtain ⟨h2, h⟩ := and2 h
  obtain ⟨h3, h4⟩ := and2 h
  exact ⟨h1, of_decide_eq_true h2, h3, h4⟩
def noSysB (K : PySem.W.Frag) : Bool := match K.lookup sysModules with
  | some o => !(decide (o.cls = .type "list"))
  | none => false
theorem noSysB_ok {K : PySem.W.Frag} (h : noSysB K = true) : NoSys K := by
  unfold noSysB at h
  split at h
  · rename_i o e
    exact ⟨o, e, by simpa using h⟩
  · cases h
def noLstB (K : PySem.W.Frag) : Bool := K.all fun p => !(decide (p.2.cls = .type "list"))
theorem lookup_mem {α β : Type} [BEq α] [LawfulBEq α] : ∀ {l : List (α × β)} {a : α} {b : β}, l.lookup a = some b → (a, b) ∈ l
  | [], _, _, h => by cases h
  | (x, y) :: l, a, b, h => by
    rw [List.lookup_cons] at h
    split at h
    · rename_i e
      cases h
      rw [eq_of_beq e]
      exact List.mem_cons_self
    · exact List.mem_cons_of_mem _ (lookup_mem h)
theorem noLstB_ok {K : PySem.W.Frag} (h : noLstB K = true) : NoLst K := fun b o e => by
  have q := List.all_eq_true.mp h _ (lookup_mem e)
  simpa using q

/-! ### the hook -/
abbrev Fk : Type := PySem.W.Frag → Bool
def obsX (ex : List Fk) (fn : List He.DefD) (K : PySem.W.Frag) : He.AlD := ((ex.all fun g => g K) && fn.all fun d => d.ok K, fn.map fun d => He.fnW K d.at_)
def SaysX (ex : List Fk) (fn : List He.DefD) (K : PySem.W.Frag) : Prop := obsX ex fn K = He.valD fn
def asX (g : Addr → Option Obj) (n : Nat) : List Addr := sysModules :: He.asD g n
def obsXG (n : Nat) (ex : List Fk) (fn : List He.DefD) (g : Addr → Option Obj) : He.AlD := obsX ex fn (He.frG g (asX g n))
def hookX (n : Nat) (ex : List Fk) (fn : List He.DefD) : PySem.W.Hook where
  α := He.AlD
  obs := fun s => obsXG n ex fn s.heap.get?
  val := fun _ => He.valD fn
  says := fun _ h => ∃ K : PySem.W.Frag, K.In h ∧ SaysX ex fn K
  of := fun _ _ e => ⟨_, He.frG_in, e⟩
  keeps := fun _ _ _ ⟨K, inK, c⟩ k => ⟨K, PySem.W.Frag.In.keeps inK k, c⟩
theorem obsXG_eq {n : Nat} {ex : List Fk} {fn : List He.DefD} {g : Addr → Option Obj} {s : Shared} (h : ∀ a, g a = s.heap.get? a) : obsXG n ex fn g = (hookX n ex fn).obs s := by
  have e : g = s.heap.get? := funext h
  rw [e] <;> rfl
section
variable {ex : List Fk} {fn : List He.DefD} {K : PySem.W.Frag}
theorem SaysX.fact (c : SaysX ex fn K) (i : Nat) {g : Fk} (h : ex[i]? = some g := by rfl) : g K = true :=
  List.all_eq_true.mp (and2 (show ((ex.all fun g => g K) && fn.all fun d => d.ok K) = true from congrArg (fun z : He.AlD => z.1) c)).1 g (List.mem_of_getElem? h)
theorem SaysX.def_ (c : SaysX ex fn K) (i : Nat) {d : He.DefD} (h : fn[i]? = some d := by rfl) : ∃ fd, FunD K d.name d.qual d.params d.body d.scope (d.dvs K) (d.kws K) (He.fAd K d.at_) fd := by
  have c1 := (and2 (show ((ex.all fun g => g K) && fn.all fun d => d.ok K) = true from congrArg (fun z : He.AlD => z.1) c)).2
  have e1 : fn.map (fun d => He.fnW K d.at_) = fn.map He.DefD.val := congrArg (fun z : He.AlD => z.2) c
  have e2 : (fn.map fun d => He.fnW K d.at_)[i]? = (fn.map He.DefD.val)[i]? := by rw [e1]
  rw [List.getElem?_map, List.getElem?_map, h] at e2
  exact He.DefD.funD (Option.some.inj e2) (List.all_eq_true.mp c1 d (List.mem_of_getElem? h))
end
end DL

set_option maxHeartbeats 2000000
namespace DL
open PySem PySem.Spec PyProof.Rows L2
/-- a promise that asks what cannot be: for a def that is not called -/
def pNo : DSp := fun _ _ _ _ => False
theorem pNo.mono : MonoP pNo := fun _ _ _ _ _ _ _ _ h => h
theorem pNo.len {n : Nat} : ∀ ds m Q E, pNo ds m Q E → ds.length = n := fun _ _ _ _ h => h.elim
section
variable {P : Program} {w : World} {K : PySem.W.Frag} {mg : Str → Option Value} {base : Heap} {C : Ct} {k : Nat} {f : Addr} {fd : FuncData} {ps : List Str}
theorem noSp {n : Nat} {vs : List V} {H : Hp} {Q : VK} {E : XK} (h : spD C w K n pNo vs H Q E) : False := by
  obtain ⟨_, _, _, _, _, _, _, z⟩ := h
  exact z
theorem noG : DG P w K mg base C k f fd ps pNo := ⟨pNo.mono, ⟨fun _ _ _ _ z => (noSp z).elim, fun _ _ _ _ _ _ _ _ _ _ _ _ _ z => (noSp z).elim⟩⟩
theorem noF : DF P w K mg base C k f fd ps pNo := ⟨pNo.mono, ⟨fun _ _ _ _ z => (noSp z).elim, fun _ _ _ _ _ _ _ _ _ _ _ _ _ z => (noSp z).elim⟩⟩
end
end DL

set_option maxHeartbeats 1000000
namespace DL
open PySem PySem.Spec PyProof.Rows L2

/-! ### plain parts: words -/
theorem lc_map {i : Nat} {de : TD} {env : Env'} {f : Dat → Dat} : ∀ {xs : List Dat} {m : Mem} {Q : List Dat → Mem → Prop}, (∀ x ∈ xs, ∀ Q : QL, Q (.f (f x)) m → de (env.set i (some (.f x))) m Q) → Q (xs.map f) m → lcGo (.nm i) dYes de env xs m Q
  | [], m, Q, _, h => h
  | x :: xs, m, Q, hd, h => by
    unfold lcGo
    refine hd x (by simp) _ ?_
    exact lc_map (Q := fun ds m' => Q (f x :: ds) m') (fun y hy => hd y (by simp [hy])) h
theorem lc_filter {i : Nat} {dt : TB} {de : TD} {env : Env'} {f : Dat → Dat} {g : Dat → Bool} : ∀ {xs : List Dat} {m : Mem} {Q : List Dat → Mem → Prop}, (∀ x ∈ xs, ∀ Q : Bool → Mem → Prop, Q (g x) m → dt (env.set i (some (.f x))) m Q) → (∀ x ∈ xs, g x = true → ∀ Q : QL, Q (.f (f x)) m → de (env.set i (some (.f x))) m Q) →
    Q ((xs.filter g).map f) m → lcGo (.nm i) dt de env xs m Q
  | [], m, Q, _, _, h => h
  | x :: xs, m, Q, ht, hd, h => by
    unfold lcGo
    refine ht x (by simp) _ ?_
    cases hg : g x with
    | true =>
      rw [if_pos rfl]
      refine hd x (by simp) hg _ ?_
      refine lc_filter (g := g) (f := f) (Q := fun ds m' => Q (f x :: ds) m') (fun y hy => ht y (by simp [hy])) (fun y hy => hd y (by simp [hy])) ?_
      rw [List.filter_cons_of_pos hg] at h
      exact h
    | false =>
      rw [if_neg (by decide)]
      refine lc_filter (g := g) (f := f) (fun y hy => ht y (by simp [hy])) (fun y hy => hd y (by simp [hy])) ?_
      rw [List.filter_cons_of_neg (by simp [hg])] at h
      exact h
/-- a comprehension with an invariant -/
theorem lc_inv {tg : Tg} {dt : TB} {de : TD} {env : Env'} (I : Nat → List Dat → Mem → Prop) : ∀ {xs : List Dat} {k : Nat} {acc : List Dat} {m : Mem} {Q : List Dat → Mem → Prop}, I k acc m →
    (∀ j x acc m, xs[j]? = some x → I (k + j) acc m → ∃ env2, bind tg (.f x) env = some env2 ∧ dt env2 m fun b m1 => if b = true then de env2 m1 fun y m2 => match y with
      | .f d => I (k + j + 1) (acc ++ [d]) m2
      | .o _ => False
      else I (k + j + 1) acc m1) → MonoB dt → MonoD de → (∀ ds m', I (k + xs.length) (acc ++ ds) m' → Q ds m') → lcGo tg dt de env xs m Q
  | [], k, acc, m, Q, h0, _, _, _, hq => hq [] m (by simpa using h0)
  | x :: xs, k, acc, m, Q, h0, hs, mt, md, hq => by
    obtain ⟨env2, hb, h1⟩ := hs 0 x acc m rfl h0
    unfold lcGo
    rw [hb]
    refine mt _ _ _ _ (fun b m1 h2 => ?_) h1
    have step : ∀ (acc : List Dat) (m1 : Mem) (Q1 : List Dat → Mem → Prop), I (k + 0 + 1) acc m1 → (∀ ds m', I (k + 1 + xs.length) (acc ++ ds) m' → Q1 ds m') → lcGo tg dt de env xs m1 Q1 := fun acc m1 Q1 h3 h4 =>
      lc_inv I (k := k + 1) (acc := acc) h3 (fun j y acc m hy hi => by
        have := hs (j + 1) y acc m (by simpa using hy) (by rw [show k + (j + 1) = k + 1 + j by omega]; exact hi)
        rw [show k + (j + 1) = k + 1 + j by omega] at this
        exact this) mt md h4
    cases b with
    | true =>
      rw [if_pos rfl] at h2 ⊢
      refine md _ _ _ _ (fun y m2 h3 => ?_) h2
      cases y with
      | f d => exact step _ _ _ h3 fun ds m' h4 => hq (d :: ds) m' (by
          rw [List.append_assoc] at h4
          rw [List.length_cons, show k + (xs.length + 1) = k + 1 + xs.length by omega]
          exact h4)
      | o j => exact h3
    | false =>
      rw [if_neg (by decide)] at h2 ⊢
      exact step _ _ _ h2 fun ds m' h4 => hq ds m' (by
          rw [List.length_cons, show k + (xs.length + 1) = k + 1 + xs.length by omega]
          exact h4)
/-- a for with an invariant -/
theorem for_inv {tg : Tg} {tb : TSd} {D : En} (I : Nat → Env' → Mem → Prop) (mb : MonoS tb) : ∀ {xs : List Dat} {k : Nat} {env : Env'} {m : Mem}, I k env m →
    (∀ j x env m, xs[j]? = some x → I (k + j) env m → ∃ env2, bind tg (.f x) env = some env2 ∧ tb { D with nx := I (k + j + 1), ct := I (k + j + 1), bk := D.nx } env2 m) → (∀ env m, I (k + xs.length) env m → D.nx env m) → forGo tg tb D xs env m
  | [], k, env, m, h0, _, hq => hq _ _ (by simpa using h0)
  | x :: xs, k, env, m, h0, hs, hq => by
    obtain ⟨env2, hb, h1⟩ := hs 0 x env m rfl h0
    unfold forGo
    rw [hb]
    have step : ∀ env m, I (k + 0 + 1) env m → forGo tg tb D xs env m := fun env m h3 =>
      for_inv I mb (k := k + 1) h3 (fun j y env m hy hi => by
        have := hs (j + 1) y env m (by simpa using hy) (by rw [show k + (j + 1) = k + 1 + j by omega]; exact hi)
        rw [show k + (j + 1) = k + 1 + j by omega] at this
        exact this) fun env m h4 => hq env m (by
          rw [List.length_cons, show k + (xs.length + 1) = k + 1 + xs.length by omega]
          exact h4)
    exact mb env2 m { D with nx := I (k + 0 + 1), ct := I (k + 0 + 1), bk := D.nx } _ ⟨step, fun _ _ h => h, fun _ _ h => h, step⟩ h1
theorem all_int {k : Nat} : ∀ ns : List Int, (ns.map Dat.int).all (okN k) = true
  | [] => rfl
  | n :: ns => by
    have h : okN k (.int n) = true := by cases k <;> rfl
    rw [List.map_cons, List.all_cons, h, all_int ns]
    rfl
theorem all_intR {k : Nat} : ∀ ns : List Int, (∀ n ∈ ns, n.natAbs.log2 < 1920) → (ns.map Dat.int).all (okR k) = true
  | [], _ => rfl
  | n :: ns, h => by
    have h1 : okR k (.int n) = true := by
      have := h n (by simp)
      cases k <;> exact decide_eq_true this
    rw [List.map_cons, List.all_cons, h1, all_intR ns fun x hx => h x (by simp [hx])]
    rfl
theorem der_ok60 {k : Nat} {env : Env'} {m : Mem} {a : Dat} (h : okN k a = true) : der env m (.f a) = some a := by
  cases a <;> first | rfl | (cases k <;> cases h)
theorem oIn_l {f : Bool → Bool} {env : Env'} {m : Mem} {a : Dat} {bs : List Dat} {Q : QD} (ha : okN 60 a = true) (hb : bs.all (okN 59) = true) (h : Q (.bl (f (bs.any fun b => eqd b a))) m) : oIn f env m (.f a) (.f (.lst bs)) Q := by
  unfold oIn
  rw [der_ok60 ha]
  exact ⟨ha, hb, h⟩
theorem oIn_o {f : Bool → Bool} {env : Env'} {m : Mem} {a : Dat} {i : Nat} {bs : List Dat} {Q : QD} (hi : env[i]? = some (some (.own (.lst bs)))) (ha : okN 60 a = true) (hb : bs.all (okN 59) = true) (h : Q (.bl (f (bs.any fun b => eqd b a))) m) : oIn f env m (.f a) (.o i) Q := by
  unfold oIn
  have e : seqOf env m (.o i) = some bs := by
    unfold seqOf der
    simp only [hi]
    rfl
  rw [der_ok60 ha, e]
  exact ⟨ha, hb, h⟩
theorem oEq_l {f : Bool → Bool} {env : Env'} {m : Mem} {a b : Dat} {Q : QD} (ha : okN 60 a = true) (hb : okN 60 b = true) (h : Q (.bl (f (eqd a b))) m) : oEq f env m (.f a) (.f b) Q := by
  unfold oEq
  rw [der_ok60 ha, der_ok60 hb]
  exact ⟨ha, hb, h⟩
theorem ixN_nat {n j : Nat} (h : j < n) : ixN n (j : Int) = some j := by
  unfold ixN
  rw [if_pos (by omega), if_pos (by omega)]
  simp
theorem atI0 {α : Type} (a : α) (l : List α) : atI (a :: l) 0 = some a := by
  unfold atI ixN
  rw [if_pos (by decide), if_pos (by simp only [List.length_cons]; omega)]
  rfl
theorem atI1 {α : Type} (a b : α) (l : List α) : atI (a :: b :: l) 1 = some b := by
  unfold atI ixN
  rw [if_pos (by decide), if_pos (by simp only [List.length_cons]; omega)]
  rfl
theorem atI2 {α : Type} (a b c : α) (l : List α) : atI (a :: b :: c :: l) 2 = some c := by
  unfold atI ixN
  rw [if_pos (by decide), if_pos (by simp only [List.length_cons]; omega)]
  rfl
theorem atI_nat {α : Type} {l : List α} {i : Nat} {a : α} (h : l[i]? = some a) : atI l (i : Int) = some a := by
  unfold atI
  rw [ixN_nat (List.getElem?_eq_some_iff.mp h).1]
  exact h
theorem atI_int {α : Type} {l : List α} {i : Int} (h0 : 0 ≤ i) (h1 : i < l.length) : ∃ a, atI l i = some a ∧ l[i.toNat]? = some a := by
  have hl : i.toNat < l.length := by omega
  refine ⟨l[i.toNat], ?_, List.getElem?_eq_getElem hl⟩
  have := atI_nat (l := l) (i := i.toNat) (List.getElem?_eq_getElem hl)
  rw [show ((i.toNat : Nat) : Int) = i by omega] at this
  exact this
theorem log2_lt {n k : Nat} (hk : 0 < k) (h : n < 2 ^ k) : n.log2 < k := by
  by_cases h0 : n = 0
  · subst h0; simpa using hk
  · exact (Nat.log2_lt h0).mpr h
theorem sz {n : Nat} (h : n ≤ 16777216) : n ≤ sizeLine := by rw [sizeLine_eq]; exact h
end DL

set_option maxHeartbeats 1000000
namespace DL
open PySem PySem.Spec PyProof.Rows L2

/-! ### plain values: an expression gives v and changes nothing -/
def Ev (d : TD) (env : Env') (m : Mem) (v : Lv) : Prop := ∀ Q : QL, Q v m → d env m Q
def EvB (d : TB) (env : Env') (m : Mem) (b : Bool) : Prop := ∀ Q : Bool → Mem → Prop, Q b m → d env m Q
def EvA (d : TAd) (env : Env') (m : Mem) (vs : List Lv) : Prop := ∀ Q : List Lv → Mem → Prop, Q vs m → d env m Q
def EvN (d : TN) (env : Env') (m : Mem) (xs : List Dat) : Prop := ∀ Q : List Dat → Mem → Prop, Q xs m → d env m Q
def EvI (d : TId) (env : Env') (m : Mem) (xs : List Dat) : Prop := ∀ Q : List Dat → Mem → Prop, Q xs m → d env m Q
def EvO (d : TOd) (env : Env') (m : Mem) (i : Option Int) : Prop := ∀ Q : Option Int → Mem → Prop, Q i m → d env m Q
def Ev1 (f : Op1) (env : Env') (m : Mem) (x : Lv) (z : Dat) : Prop := ∀ Q : QD, Q z m → f env m x Q
def Ev2 (f : Op2) (env : Env') (m : Mem) (x y : Lv) (z : Dat) : Prop := ∀ Q : QD, Q z m → f env m x y Q
def EvM (f : OpN) (env : Env') (m : Mem) (xs : List Lv) (z : Dat) : Prop := ∀ Q : QD, Q z m → f env m xs Q
section
variable {env : Env'} {m : Mem} {d da db : TD} {v x y : Lv} {z : Dat} {b : Bool}
theorem Ev.use (h : Ev d env m v) {Q : QL} (q : Q v m) : d env m Q := h Q q
theorem Ev.eq {w : Lv} (h : Ev d env m v) (e : v = w) : Ev d env m w := e ▸ h
theorem EvB.eq {p : TB} {c : Bool} (h : EvB p env m b) (e : b = c) : EvB p env m c := e ▸ h
theorem EvN.eq {p : TN} {xs ys : List Dat} (h : EvN p env m xs) (e : xs = ys) : EvN p env m ys := e ▸ h
theorem EvI.eq {p : TId} {xs ys : List Dat} (h : EvI p env m xs) (e : xs = ys) : EvI p env m ys := e ▸ h
theorem ev_c {a : Dat} : Ev (dC a) env m (.f a) := fun _ q => q
theorem ev_v {i : Nat} {a : Dat} (e : env[i]? = some (some (.f a)) := by rfl) : Ev (dVar i) env m (.f a) := fun Q q => by unfold dVar; rw [e]; exact q
theorem ev_o {i : Nat} {a : Mo} (e : env[i]? = some (some (.own a)) := by rfl) : Ev (dVar i) env m (.o i) := fun Q q => by unfold dVar; rw [e]; exact q
theorem ev_bin {f : Op2} (ha : Ev da env m x) (hb : Ev db env m y) (hf : Ev2 f env m x y z) : Ev (dBin f da db) env m (.f z) := fun Q q => ha _ (hb _ (hf _ q))
theorem ev_un {f : Op1} (ha : Ev da env m x) (hf : Ev1 f env m x z) : Ev (dUn f da) env m (.f z) := fun Q q => ha _ (hf _ q)
theorem ev_n {f : OpN} {da : TAd} {xs : List Lv} (ha : EvA da env m xs) (hf : EvM f env m xs z) : Ev (dN f da) env m (.f z) := fun Q q => ha _ (hf _ q)
theorem eva_nil : EvA dNil env m [] := fun _ q => q
theorem eva_cons {r : TAd} {xs : List Lv} (h : Ev d env m x) (hr : EvA r env m xs) : EvA (dCons d r) env m (x :: xs) := fun Q q => h _ (hr _ q)
theorem ev_new {p : TN} {xs : List Dat} (h : EvN p env m xs) : Ev (dNew p) env m (.f (.lst xs)) := fun Q q => h _ q
theorem evn_lst {r : TAd} {ls : List Lv} {xs : List Dat} (h : EvA r env m ls) (e : frs ls = some xs) (hl : xs.length ≤ sizeLine) : EvN (nLst r) env m xs := fun Q q => h _ (by simp only [e]; exact ⟨hl, q⟩)
theorem evn_cat {xs ys : List Dat} (ha : Ev da env m x) (hb : Ev db env m y) (ea : lstOf env m x = some xs) (eb : lstOf env m y = some ys) (hl : xs.length + ys.length ≤ sizeLine) : EvN (nCat da db) env m (xs ++ ys) := fun Q q => ha _ (hb _ (by
  simp only [ea, eb]; exact ⟨hl, q⟩))
theorem evn_list {xs : List Dat} (ha : Ev da env m x) (ea : seqOf env m x = some xs) : EvN (nList da) env m xs := fun Q q => ha _ (by
  simp only [ea]; exact q)
theorem evn_sort {xs : List Dat} (ha : Ev da env m x) (ea : seqOf env m x = some xs) (hs : sortOk xs) : EvN (nSort da) env m (sortD xs) := fun Q q => ha _ (by
  simp only [ea]; exact ⟨hs, q⟩)
/-! tests -/
theorem evb_tst (h : Ev d env m (.f (.bl b))) : EvB (dTst d) env m b := fun Q q => h _ q
theorem evb_not {p : TB} (h : EvB p env m b) : EvB (dNot p) env m (!b) := fun Q q => h _ q
theorem evb_and {p q : TB} {c : Bool} (h : EvB p env m b) (h2 : b = true → EvB q env m c) : EvB (dAnd p q) env m (b && c) := fun Q k => h _ (by
  cases b with
  | true => exact h2 rfl _ k
  | false => exact k)
theorem evb_or {p q : TB} {c : Bool} (h : EvB p env m b) (h2 : b = false → EvB q env m c) : EvB (dOr p q) env m (b || c) := fun Q k => h _ (by
  cases b with
  | false => exact h2 rfl _ k
  | true => exact k)
theorem ev_and {c : Bool} (h : Ev da env m (.f (.bl b))) (h2 : b = true → Ev db env m (.f (.bl c))) : Ev (dAndV da db) env m (.f (.bl (b && c))) := fun Q k => h _ (by
  cases b with
  | true => exact h2 rfl _ k
  | false => exact k)
theorem ev_or {c : Bool} (h : Ev da env m (.f (.bl b))) (h2 : b = false → Ev db env m (.f (.bl c))) : Ev (dOrV da db) env m (.f (.bl (b || c))) := fun Q k => h _ (by
  cases b with
  | false => exact h2 rfl _ k
  | true => exact k)
theorem ev_not (h : Ev da env m (.f (.bl b))) : Ev (dNotV da) env m (.f (.bl (!b))) := fun Q k => h _ k
theorem ev_if {p : TB} {u w : Dat} (h : EvB p env m b) (h1 : b = true → Ev da env m (.f u)) (h2 : b = false → Ev db env m (.f w)) : Ev (dIf p da db) env m (.f (if b = true then u else w)) := fun Q k => h _ (by
  cases b with
  | true => exact h1 rfl _ k
  | false => exact h2 rfl _ k)
/-! operators -/
theorem e2_add {i j : Int} : Ev2 oAdd env m (.f (.int i)) (.f (.int j)) (.int (i + j)) := fun Q q => q
theorem e2_addT {xs ys : List Dat} (h : xs.length + ys.length ≤ sizeLine) : Ev2 oAdd env m (.f (.tup xs)) (.f (.tup ys)) (.tup (xs ++ ys)) := fun Q q => ⟨h, q⟩
theorem e2_addS {a c : Str} (h : a.length + c.length ≤ sizeLine) : Ev2 oAdd env m (.f (.str a)) (.f (.str c)) (.str (a ++ c)) := fun Q q => ⟨h, q⟩
theorem e2_i {c : Int → Int → Prop} {g : Int → Int → Dat} {i j : Int} (h : c i j) : Ev2 (oI c g) env m (.f (.int i)) (.f (.int j)) (g i j) := fun Q q => ⟨h, q⟩
theorem e2_i0 {g : Int → Int → Dat} {i j : Int} : Ev2 (oI0 g) env m (.f (.int i)) (.f (.int j)) (g i j) := fun Q q => ⟨trivial, q⟩
theorem e1_u {g : Int → Int} {i : Int} : Ev1 (oU g) env m (.f (.int i)) (.int (g i)) := fun Q q => q
theorem e2_eq {f : Bool → Bool} {x y : Lv} {a c : Dat} (ea : der env m x = some a) (ec : der env m y = some c) (ha : okN 60 a = true) (hc : okN 60 c = true) : Ev2 (oEq f) env m x y (.bl (f (eqd a c))) := fun Q q => by
  unfold oEq; rw [ea, ec]; exact ⟨ha, hc, q⟩
theorem e2_in {f : Bool → Bool} {x y : Lv} {a : Dat} {bs : List Dat} (ea : der env m x = some a) (ec : seqOf env m y = some bs) (ha : okN 60 a = true) (hb : bs.all (okN 59) = true) : Ev2 (oIn f) env m x y (.bl (f (bs.any fun b => eqd b a))) := fun Q q => by
  unfold oIn; rw [ea, ec]; exact ⟨ha, hb, q⟩
theorem e2_isn {f : Bool → Bool} {x : Lv} : Ev2 (oIsN f) env m x (.f .non) (.bl (f (isN x))) := fun Q q => q
theorem e2_ix {x : Lv} {xs : List Dat} {i : Int} {z : Dat} (ex : seqOf env m x = some xs) (h : atI xs i = some z) : Ev2 oIx env m x (.f (.int i)) z := fun Q q => by
  unfold seqOf at ex
  unfold oIx
  split at ex
  · rename_i ys e; cases ex; rw [e]; simp only [h]; exact q
  · rename_i ys e; cases ex; rw [e]; simp only [h]; exact q
  · cases ex
theorem em_tup {ls : List Lv} {xs : List Dat} (e : frs ls = some xs) (hl : xs.length ≤ sizeLine) : EvM oTup env m ls (.tup xs) := fun Q q => by
  unfold oTup; rw [e]; exact ⟨hl, q⟩
theorem em_len {x : Lv} {xs : List Dat} (e : seqOf env m x = some xs) : EvM oLen env m [x] (.int xs.length) := fun Q q => by
  unfold seqOf at e
  unfold oLen
  split at e
  · rename_i ys e2; cases e; simp only [e2]; exact q
  · rename_i ys e2; cases e; simp only [e2]; exact q
  · cases e
theorem em_bs {f : List Bool → Bool} {x : Lv} {xs : List Dat} {bs : List Bool} (e : lstOf env m x = some xs) (eb : bools xs = some bs) : EvM (oBs f) env m [x] (.bl (f bs)) := fun Q q => by
  unfold oBs
  simp only [e, eb]; exact q
theorem em_is {f : List Int → Int} {c : List Int → Prop} {x : Lv} {xs : List Dat} {ns : List Int} (e : seqOf env m x = some xs) (en : intsD xs = some ns) (h : c ns) : EvM (oIs f c) env m [x] (.int (f ns)) := fun Q q => by
  unfold oIs
  simp only [e, en]; exact ⟨h, q⟩
theorem bools_map {α : Type} (g : α → Bool) : ∀ xs : List α, bools (xs.map fun x => .bl (g x)) = some (xs.map g)
  | [] => rfl
  | x :: xs => by
    have h := bools_map g xs
    rw [List.map_cons, bools, h]; rfl
theorem intsD_map {α : Type} (g : α → Int) : ∀ xs : List α, intsD (xs.map fun x => .int (g x)) = some (xs.map g)
  | [] => rfl
  | x :: xs => by
    have h := intsD_map g xs
    rw [List.map_cons, intsD, h]; rfl
/-! calls of pure defs -/
theorem ev_call {p : DSp} {EX : QXe} {da : TAd} {ls : List Lv} {ds : List Dat} {r : Dat} (ha : EvA da env m ls) (e : frs ls = some ds) (h : ∀ (Q : QD) (E : QX), Q r m → p ds m Q E) : Ev (dCall p EX da) env m (.f r) := fun Q q => ha _ (by
  simp only [e]; exact h _ _ q)
/-! what is walked -/
theorem evi_lst {xs : List Dat} (h : Ev d env m (.f (.lst xs))) : EvI (iVal d) env m xs := fun Q q => h _ q
theorem evi_tup {xs : List Dat} (h : Ev d env m (.f (.tup xs))) : EvI (iVal d) env m xs := fun Q q => h _ q
theorem evi_rg1 {j : Int} (h : Ev d env m (.f (.int j))) (h1 : -(2 ^ 62) ≤ j) (h2 : j < 2 ^ 62) : EvI (iRg1 d) env m ((List.range j.toNat).map fun i => .int (i : Nat)) := fun Q q => h _ ⟨h1, h2, by
  unfold rangeD; simpa using q⟩
theorem evi_rg1n {j : Nat} (h : Ev d env m (.f (.int j))) (h2 : j < 2 ^ 62) : EvI (iRg1 d) env m ((List.range j).map fun i => .int (i : Nat)) := by
  have := evi_rg1 h (by omega) (by omega)
  simpa using this
theorem evi_rg2 {i j : Int} (h : Ev da env m (.f (.int i))) (h' : Ev db env m (.f (.int j))) (hb : -(2 ^ 62) ≤ i ∧ i < 2 ^ 62 ∧ -(2 ^ 62) ≤ j ∧ j < 2 ^ 62) : EvI (iRg2 da db) env m (rangeD i (j - i).toNat) := fun Q q => h _ (h' _ ⟨hb, q⟩)
theorem enumD_map {α : Type} (g : α → Dat) : ∀ (k : Nat) (xs : List α), enumD k (xs.map g) = (xs.zipIdx k).map fun p => .tup [.int (p.2 : Nat), g p.1]
  | _, [] => rfl
  | k, x :: xs => by rw [List.map_cons, enumD, enumD_map g (k + 1) xs]; rfl
theorem zipD_map {α β : Type} (g : α → Dat) (h : β → Dat) : ∀ (xs : List α) (ys : List β), zipD (xs.map g) (ys.map h) = (xs.zip ys).map fun p => .tup [g p.1, h p.2]
  | [], _ => by rw [List.map_nil, List.zip_nil_left]; rfl
  | x :: xs, [] => rfl
  | x :: xs, y :: ys => by rw [List.map_cons, List.map_cons, zipD, zipD_map g h xs ys]; rfl
theorem evi_enum {x : List Dat} (h : Ev d env m (.f (.lst x)) ∨ Ev d env m (.f (.tup x))) : EvI (iEnumD d) env m (enumD 0 x) := fun Q q => by
  rcases h with h | h <;> exact h _ q
theorem evi_zipL {xs ys : List Dat} (h : Ev da env m (.f (.lst xs))) (h' : Ev db env m (.f (.lst ys))) : EvI (iZipD da db) env m (zipD xs ys) := fun Q q => h _ (h' _ q)
theorem evi_zipT {xs ys : List Dat} (h : Ev da env m (.f (.tup xs))) (h' : Ev db env m (.f (.tup ys))) : EvI (iZipD da db) env m (zipD xs ys) := fun Q q => h _ (h' _ q)
/-! comprehensions -/
theorem lcGo_map {α : Type} {tg : Tg} {g : α → Dat} {de : TD} {env : Env'} {f : α → Dat} : ∀ {xs : List α} {m : Mem} {Q : List Dat → Mem → Prop}, (∀ x ∈ xs, ∃ env2, bind tg (.f (g x)) env = some env2 ∧ Ev de env2 m (.f (f x))) → Q (xs.map f) m → lcGo tg dYes de env (xs.map g) m Q
  | [], m, Q, _, h => h
  | x :: xs, m, Q, hd, h => by
    obtain ⟨env2, e, h1⟩ := hd x List.mem_cons_self
    rw [List.map_cons]
    unfold lcGo
    rw [e]
    exact h1 _ (lcGo_map (Q := fun ds m' => Q (f x :: ds) m') (fun y hy => hd y (List.mem_cons_of_mem _ hy)) h)
theorem lcGo_filter {α : Type} {tg : Tg} {g : α → Dat} {dt : TB} {de : TD} {env : Env'} {t : α → Bool} {f : α → Dat} : ∀ {xs : List α} {m : Mem} {Q : List Dat → Mem → Prop},
    (∀ x ∈ xs, ∃ env2, bind tg (.f (g x)) env = some env2 ∧ EvB dt env2 m (t x) ∧ (t x = true → Ev de env2 m (.f (f x)))) → Q ((xs.filter t).map f) m → lcGo tg dt de env (xs.map g) m Q
  | [], m, Q, _, h => h
  | x :: xs, m, Q, hd, h => by
    obtain ⟨env2, e, h1, h2⟩ := hd x List.mem_cons_self
    rw [List.map_cons]
    unfold lcGo
    rw [e]
    refine h1 _ ?_
    cases ht : t x with
    | true =>
      rw [if_pos rfl]
      refine h2 ht _ ?_
      refine lcGo_filter (t := t) (f := f) (Q := fun ds m' => Q (f x :: ds) m') (fun y hy => hd y (List.mem_cons_of_mem _ hy)) ?_
      rw [List.filter_cons_of_pos ht] at h
      exact h
    | false =>
      rw [if_neg (by decide)]
      refine lcGo_filter (t := t) (f := f) (fun y hy => hd y (List.mem_cons_of_mem _ hy)) ?_
      rw [List.filter_cons_of_neg (by simp [ht])] at h
      exact h
theorem evn_lc {α : Type} {tg : Tg} {g f : α → Dat} {de : TD} {vs : List Nat} {di : TId} {xs : List α} {ys : List Dat} (hi : EvI di env m ys) (e : ys = xs.map g) (hl : xs.length ≤ sizeLine)
    (h : ∀ x ∈ xs, ∃ env2, bind tg (.f (g x)) (wipeE env vs) = some env2 ∧ Ev de env2 m (.f (f x))) : EvN (nLc tg dYes de vs di) env m (xs.map f) := fun Q q => hi _ (by
  subst e
  exact ⟨by simpa using hl, lcGo_map h q⟩)
theorem evn_lcf {α : Type} {tg : Tg} {g f : α → Dat} {t : α → Bool} {dt : TB} {de : TD} {vs : List Nat} {di : TId} {xs : List α} {ys : List Dat} (hi : EvI di env m ys) (e : ys = xs.map g) (hl : xs.length ≤ sizeLine)
    (h : ∀ x ∈ xs, ∃ env2, bind tg (.f (g x)) (wipeE env vs) = some env2 ∧ EvB dt env2 m (t x) ∧ (t x = true → Ev de env2 m (.f (f x)))) : EvN (nLc tg dt de vs di) env m ((xs.filter t).map f) := fun Q q => hi _ (by
  subst e
  exact ⟨by simpa using hl, lcGo_filter h q⟩)
/-! slices -/
theorem evo_no : EvO dNo env m none := fun _ q => q
theorem evo_p {i : Int} (h : Ev d env m (.f (.int i))) : EvO (dPart d) env m (some i) := fun Q q => h _ q
theorem ev_slL {lo hi : TOd} {a c : Option Int} {xs : List Dat} (h : Ev d env m x) (hl : EvO lo env m a) (hh : EvO hi env m c) (e : der env m x = some (.lst xs)) : Ev (dSl d lo hi) env m (.f (.lst (cutD xs a c))) := fun Q q => h _ (hl _ (hh _ (by
  simp only [e]; exact q)))
theorem ev_slT {lo hi : TOd} {a c : Option Int} {xs : List Dat} (h : Ev d env m x) (hl : EvO lo env m a) (hh : EvO hi env m c) (e : der env m x = some (.tup xs)) : Ev (dSl d lo hi) env m (.f (.tup (cutD xs a c))) := fun Q q => h _ (hl _ (hh _ (by
  simp only [e]; exact q)))
theorem ev_backL {xs : List Dat} (h : Ev d env m x) (e : der env m x = some (.lst xs)) : Ev (dBack d) env m (.f (.lst xs.reverse)) := fun Q q => h _ (by simp only [e]; exact q)
theorem ev_backT {xs : List Dat} (h : Ev d env m x) (e : der env m x = some (.tup xs)) : Ev (dBack d) env m (.f (.tup xs.reverse)) := fun Q q => h _ (by simp only [e]; exact q)
end
/-! statements -/
section
variable {D : En} {env : Env'} {m : Mem} {d : TD} {v : Lv} {a : Dat}
theorem st_seq {s t : TSd} (h : s { D with nx := t D } env m) : sSeq s t D env m := h
theorem st_set {i : Nat} (h : Ev d env m (.f a)) (k : D.nx (env.set i (some (.f a))) m) : sAsg (.nm i) d D env m := h _ k
theorem st_setT {is : List Nat} {as : List Dat} (h : Ev d env m (.f (.tup as))) (hl : as.length = is.length) (k : D.nx (setAll is as env) m) : sAsg (.tp is) d D env m := h _ (by
  show match (if as.length = is.length then some (setAll is as env) else none) with | some env2 => D.nx env2 m | none => False
  rw [if_pos hl]; exact k)
theorem st_setN {i : Nat} {p : TN} {xs : List Dat} (h : EvN p env m xs) (k : D.nx (env.set i (some (.own (.lst xs)))) m) : sSetN i p D env m := h _ k
theorem st_ret (h : Ev d env m (.f a)) (k : D.rt a m) : sRet d D env m := h _ k
theorem st_if {c : TB} {s t : TSd} {b : Bool} (h : EvB c env m b) (k1 : b = true → s D env m) (k2 : b = false → t D env m) : sIf c s t D env m := h _ (by
  cases b with
  | true => exact k1 rfl
  | false => exact k2 rfl)
theorem st_ifT {c : TB} {s t : TSd} (h : EvB c env m true) (k : s D env m) : sIf c s t D env m := h _ k
theorem st_ifF {c : TB} {s t : TSd} (h : EvB c env m false) (k : t D env m) : sIf c s t D env m := h _ k
theorem st_for {tg : Tg} {di : TId} {tb : TSd} {xs : List Dat} (h : EvI di env m xs) (k : forGo tg tb D xs env m) : sFor tg di tb D env m := h _ k
theorem st_app {i : Nat} {xs : List Dat} {de : TD} {z : Dat} (e : env[i]? = some (some (.own (.lst xs)))) (h : Ev de env m (.f z)) (hl : xs.length < sizeLine) (k : D.nx (env.set i (some (.own (.lst (xs ++ [z]))))) m) : sApp (dVar i) de D env m := by
  unfold sApp
  refine ev_o e _ ?_
  have em : moOf env m (.o i) = some (.lst xs) := by unfold moOf; simp only [e]
  simp only [em]
  refine h _ ?_
  simp only [em]
  exact ⟨hl, k⟩
theorem st_drop (h : Ev d env m v) (k : D.nx env m) : sDrop d D env m := h _ k
theorem st_par {i j : Nat} {d1 d2 : TD} {a b : Dat} (h1 : Ev d1 env m (.f a)) (h2 : Ev d2 env m (.f b)) (k : D.nx ((env.set i (some (.f a))).set j (some (.f b))) m) : sPar i j d1 d2 D env m := h1 _ (h2 _ k)
end
end DL

set_option maxHeartbeats 1000000
namespace DL.S
open PySem PySem.Spec PyProof.Rows L2 DL
def rd_law_deck (C : Ct)  (EX : QXe) : TSd :=
  (sSeq (sAsg (.nm 1) (dNew (nLc (.nm 2) dYes (dN (oN1 fAbs) (dCons (dVar 2) dNil)) [2] (iVal (dVar 0)))))
  (sRet (dShr (nLst (dCons (dShr (nLc (.nm 2) (dTst (dBin oGe (dVar 2) (dBin oPow (dC (.int 10)) (dC (.int 18))))) (dVar 2) [2] (iVal (dVar 1)))) (dCons (dNew (nCat (dVar 1) (dNew (nLst (dCons (dBin oAdd (dN oLen (dCons (dVar 1) dNil)) (dC (.int 5))) dNil))))) (dCons (dC (.int 0)) dNil)))))))
def rd_law_next (C : Ct)  (EX : QXe) : TSd :=
  (sSeq (sWhile (dTst (dBin (oEq not) (dBin oIx (dVar 0) (dC (.int 0))) (dNew (nLst dNil))))
  (sSeq (sAsg (.nm 5) (dBin oIx (dBin oIx (dVar 0) (dC (.int 0))) (dC (.int 0))))
  (sSeq (sIf (dTst (dBin oGt (dVar 5) (dC (.int 0))))
  (sSeq (sSetI (dBin oFdiv (dVar 5) (dVar 1)) (dBin oIx (dVar 0) (dC (.int 0))) (dC (.int 0)))
  (sRet (dBin oMod (dN (oN1 fInt) (dCons (dVar 5) dNil)) (dVar 1))))
  sNext)
  (sPop0 (dBin oIx (dVar 0) (dC (.int 0)))))))
  (sSeq (sSetI (dBin oAdd (dBin oIx (dVar 0) (dC (.int 2))) (dC (.int 1))) (dVar 0) (dC (.int 2)))
  (sSeq (sAsg (.nm 2) (dBin oIx (dVar 0) (dC (.int 2))))
  (sSeq (sAsg (.nm 3) (dBin oMod (dN (oN1 fInt) (dCons (dBin oIx (dBin oIx (dVar 0) (dC (.int 1))) (dBin oMod (dN (oN1 fInt) (dCons (dVar 2) dNil)) (dN oLen (dCons (dBin oIx (dVar 0) (dC (.int 1))) dNil)))) dNil)) (dC (.int 2147483629))))
  (sSeq (sAsg (.nm 4) (dBin oMod (dN (oN1 fInt) (dCons (dBin oAdd (dBin oAdd (dBin oMul (dVar 3) (dBin oAdd (dC (.int 50331)) (dBin oMul (dC (.int 68111)) (dVar 2)))) (dBin oMul (dBin oMul (dC (.int 41287)) (dVar 2)) (dVar 2))) (dC (.int 19))) dNil)) (dC (.int 2147483587))))
  (sRet (dBin oMod (dBin oFdiv (dBin oMod (dN (oN1 fInt) (dCons (dBin oMul (dVar 4) (dVar 4)) dNil)) (dC (.int 2147483579))) (dC (.int 16))) (dVar 1))))))))
def rd_law_pairs (C : Ct)  (EX : QXe) : TSd :=
  (sSeq (sAsg (.nm 1) (dNew (nLst dNil)))
  (sSeq (sFor (.nm 2) (iRg1 (dVar 0))
  (sAsg (.nm 1) (dNew (nCat (dVar 1) (dNew (nLc (.nm 3) dYes (dN oTup (dCons (dVar 3) (dCons (dVar 2) dNil))) [3] (iRg1 (dVar 2))))))))
  (sRet (dVar 1))))
def rd_law_net (C : Ct) (p_law_next : DSp) (p_law_pairs : DSp) (EX : QXe) : TSd :=
  (sSeq (sAsg (.nm 2) (dBin oIx (dNew (nLst (dCons (dBin oAdd (dC (.int 1)) (dCall p_law_next EX0 (dCons (dVar 0) (dCons (dC (.int 7)) dNil)))) (dCons (dC (.int 4)) (dCons (dC (.int 5)) (dCons (dC (.int 7)) dNil)))))) (dCall p_law_next EX0 (dCons (dVar 0) (dCons (dC (.int 4)) dNil)))))
  (sSeq (sPar3N 3 4 5 (dCall p_law_pairs EX0 (dCons (dVar 2) dNil)) (dCall p_law_next EX0 (dCons (dVar 0) (dCons (dC (.int 4)) dNil))) (nLst dNil))
  (sSeq (sIf (dAnd (dTst (dBin (oEq id) (dVar 4) (dC (.int 0)))) (dTst (dBin oGt (dVar 2) (dC (.int 2)))))
  (sSetN 5 (nCat (dNew (nLc (.nm 6) dYes (dN oTup (dCons (dVar 6) (dCons (dBin oAdd (dVar 6) (dC (.int 1))) dNil))) [6] (iRg1 (dBin oSub (dVar 2) (dC (.int 1)))))) (dNew (nLst (dCons (dN oTup (dCons (dC (.int 0)) (dCons (dBin oSub (dVar 2) (dC (.int 1))) dNil))) dNil)))))
  sNext)
  (sSeq (sIf (dTst (dBin (oEq id) (dVar 4) (dC (.int 1))))
  (sSetN 5 (nLc (.nm 6) dYes (dN oTup (dCons (dCall p_law_next EX0 (dCons (dVar 0) (dCons (dVar 6) dNil))) (dCons (dVar 6) dNil))) [6] (iRg2 (dC (.int 1)) (dVar 2))))
  sNext)
  (sSeq (sFor (.nm 6) (iRg1 (dBin oMul (dBin oIx (dNew (nLst (dCons (dVar 1) (dCons (dCall p_law_next EX0 (dCons (dVar 0) (dCons (dBin oAdd (dVar 1) (dC (.int 1))) dNil))) dNil)))) (dCall p_law_next EX0 (dCons (dVar 0) (dCons (dC (.int 2)) dNil)))) (dN (oN1 fInt) (dCons (dBin oGt (dVar 2) (dC (.int 1))) dNil))))
  (sSeq (sAsg (.nm 7) (dBin oIx (dVar 3) (dCall p_law_next EX0 (dCons (dVar 0) (dCons (dN oLen (dCons (dVar 3) dNil)) dNil)))))
  (sIf (dTst (dBin (oIn not) (dVar 7) (dVar 5)))
  (sApp (dVar 5) (dVar 7))
  sNext)))
  (sKeep 5 (sRet (dN oTup (dCons (dVar 2) (dCons (dNew (nSort (dSl (dVar 5) dNo (dPart (dVar 1))))) dNil))))))))))
def rd_law_same (C : Ct) (p_law_same : DSp) (EX : QXe) : TSd :=
  (sSeq (sIf (dTst (dN (oIsi C) (dCons (dVar 1) (dCons (dN oTup (dCons (dC (.ty "tuple")) (dCons (dC (.ty "list")) dNil))) dNil))))
  (sSeq (sIf (dOr (dTst (dBin (oEq not) (dN (oIsi C) (dCons (dVar 1) (dCons (dC (.ty "tuple")) dNil))) (dN (oIsi C) (dCons (dVar 0) (dCons (dC (.ty "tuple")) dNil))))) (dTst (dBin (oEq not) (dN (oIsi C) (dCons (dVar 1) (dCons (dC (.ty "list")) dNil))) (dN (oIsi C) (dCons (dVar 0) (dCons (dC (.ty "list")) dNil))))))
  (sRet (dC (.bl false)))
  sNext)
  (sRet (dAndV (dBin (oEq id) (dN oLen (dCons (dVar 0) dNil)) (dN oLen (dCons (dVar 1) dNil))) (dN (oBs fun bs => bs.all id) (dCons (dNew (nLc (.tp [2, 3]) dYes (dCall p_law_same EX0 (dCons (dVar 2) (dCons (dVar 3) dNil))) [2, 3] (iZipD (dVar 0) (dVar 1)))) dNil)))))
  sNext)
  (sSeq (sIf (dTst (dBin (oIsN id) (dVar 1) (dC .non)))
  (sRet (dBin (oIsN id) (dVar 0) (dC .non)))
  sNext)
  (sSeq (sIf (dTst (dN (oIsi C) (dCons (dVar 1) (dCons (dC (.ty "str")) dNil))))
  (sRet (dAndV (dN (oIsi C) (dCons (dVar 0) (dCons (dC (.ty "str")) dNil))) (dBin (oEq id) (dVar 0) (dVar 1))))
  sNext)
  (sSeq (sIf (dOr (dTst (dN (oIsi C) (dCons (dVar 1) (dCons (dC (.ty "bool")) dNil)))) (dTst (dN (oIsi C) (dCons (dVar 0) (dCons (dC (.ty "bool")) dNil)))))
  (sRet (dAndV (dN (oIsi C) (dCons (dVar 0) (dCons (dC (.ty "bool")) dNil))) (dAndV (dN (oIsi C) (dCons (dVar 1) (dCons (dC (.ty "bool")) dNil))) (dBin (oEq id) (dVar 0) (dVar 1)))))
  sNext)
  (sSeq (sIf (dTst (dN (oIsi C) (dCons (dVar 1) (dCons (dC (.ty "int")) dNil))))
  (sRet (dAndV (dN (oIsi C) (dCons (dVar 0) (dCons (dC (.ty "int")) dNil))) (dBin (oEq id) (dVar 0) (dVar 1))))
  sNext)
  (sRet (dAndV (dN (oIsi C) (dCons (dVar 1) (dCons (dC (.ty "dict")) dNil))) (dAndV (dN (oIsi C) (dCons (dVar 0) (dCons (dC (.ty "dict")) dNil))) (dBin (oEq id) (dN oRepr (dCons (dVar 0) dNil)) (dN oRepr (dCons (dVar 1) dNil)))))))))))
def rd_law_whole (C : Ct)  (EX : QXe) : TSd :=
  (sRet (dAndV (dN (oIsi C) (dCons (dVar 0) (dCons (dC (.ty "int")) dNil))) (dNotV (dN (oIsi C) (dCons (dVar 0) (dCons (dC (.ty "bool")) dNil))))))
def rd_law_odd (C : Ct) (p_law_next : DSp) (EX : QXe) : TSd :=
  (sSeq (sAsg (.nm 2) (dNew (nLst (dCons (dC .non) (dCons (dC (.bl true)) (dCons (dC (.bl false)) (dCons (dC (.int 0)) (dCons (dC (.int 1)) (dCons (dC (.int 2)) (dCons (dUn (oU fun i => -i) (dC (.int 1))) (dCons (dBin oPow (dC (.int 10)) (dC (.int 30))) (dCons (dC (.str "")) (dCons (dC (.str "0")) (dCons (dC (.str "01")) (dCons (dN oTup dNil) (dCons (dNew (nLst dNil)) (dCons (dC (.dct [])) (dCons (dN oTup (dCons (dC (.int 0)) dNil)) (dCons (dN oTup (dCons (dC (.int 0)) (dCons (dC (.int 1)) dNil))) (dCons (dNew (nLst (dCons (dC (.int 0)) (dCons (dC (.int 1)) dNil)))) (dCons (dN oTup (dCons (dC (.int 1)) (dCons (dC (.int 0)) dNil))) (dCons (dN oTup (dCons (dC (.int 0)) (dCons (dC (.int 0)) dNil))) dNil))))))))))))))))))))))
  (sSeq (sAsg (.nm 2) (dNew (nCat (dVar 2) (dNew (nLst (dCons (dN oTup (dCons (dC (.int 0)) (dCons (dC (.bl true)) dNil))) (dCons (dN oTup (dCons (dC (.bl false)) (dCons (dC (.int 1)) dNil))) (dCons (dN oTup (dCons (dC (.int 0)) (dCons (dC .non) dNil))) (dCons (dN oTup (dCons (dC (.int 0)) (dCons (dC (.str "1")) dNil))) (dCons (dN oTup (dCons (dC (.int 0)) (dCons (dC (.int 1)) (dCons (dC (.int 2)) dNil)))) (dCons (dN oTup (dCons (dC (.int 0)) (dCons (dUn (oU fun i => -i) (dC (.int 1))) dNil))) (dCons (dN oTup (dCons (dC (.int 0)) (dCons (dC (.int 7)) dNil))) (dCons (dN oTup (dCons (dN oTup (dCons (dC (.int 0)) (dCons (dC (.int 1)) dNil))) dNil)) (dCons (dN oTup (dCons (dN oTup (dCons (dC (.int 0)) (dCons (dC (.int 1)) dNil))) (dCons (dC (.int 0)) dNil))) dNil))))))))))))))
  (sSeq (sAsg (.nm 2) (dNew (nCat (dVar 2) (dNew (nLst (dCons (dVar 1) (dCons (dNew (nList (dVar 1))) (dCons (dBack (dVar 1)) (dCons (dBin oAdd (dVar 1) (dVar 1)) (dCons (dN oTup (dCons (dVar 1) dNil)) (dCons (dDct1 0 (dC (.int 1))) (dCons (dN oTup (dCons (dBin oIx (dVar 1) (dC (.int 0))) (dCons (dBin oIx (dVar 1) (dC (.int 0))) dNil))) (dCons (dN oTup (dCons (dC (.int 0)) (dCons (dNew (nLst (dCons (dC (.int 1)) dNil))) dNil))) (dCons (dN oTup (dCons (dC (.int 0)) (dCons (dC (.dct [])) dNil))) dNil))))))))))))))
  (sRet (dBin oIx (dVar 2) (dCall p_law_next EX0 (dCons (dVar 0) (dCons (dN oLen (dCons (dVar 2) dNil)) dNil))))))))
end DL.S

set_option maxHeartbeats 1000000
namespace DL.S
open PySem PySem.Spec PyProof.Rows L2 DL

/-- the deck: what is left of great numbers, all numbers, how many draws behind them (c at most); other shared objects behind it -/
def Dk (c : Nat) (tl m : Mem) : Prop := ∃ (rest cells : List Int) (t : Nat), m = [.lst (rest.map Dat.int), .lst [.obj 0, .lst (cells.map Dat.int), .int t]] ++ tl ∧ t ≤ c ∧ cells ≠ [] ∧ cells.length ≤ 100
theorem Dk.mono {c d : Nat} {tl m : Mem} (h : Dk c tl m) (e : c ≤ d) : Dk d tl m := by
  obtain ⟨rest, cells, t, h1, h2, h3⟩ := h
  exact ⟨rest, cells, t, h1, Nat.le_trans h2 e, h3⟩
def noE : List Dat → Mem → Nat → List Dat → Mem → Prop := fun _ _ _ _ _ => False
def lim : Nat := 2 ^ 40
def p_next : DSp := pRel 2 (fun ds m => ∃ (many : Int) (c : Nat) (tl : Mem), ds = [.obj 1, .int many] ∧ 0 < many ∧ many < 2 ^ 40 ∧ Dk c tl m ∧ c < lim)
  (fun ds m r m' => ∃ (many i : Int), ds = [.obj 1, .int many] ∧ r = .int i ∧ 0 ≤ i ∧ i < many ∧ ∀ c tl, Dk c tl m → Dk (c + 1) tl m') noE
theorem okR1 (k : Nat) (i : Int) : okN k (.int i) = true := by cases k <;> rfl
/-- one look at the deck's parts -/
theorem law_next (C : Ct) : ∀ ds m (Q : QD) (E : QX), p_next ds m Q E → rd_law_next C (fun c xs _ m => E c xs m) { nx := fun _ m => Q .non m, rt := Q } (env0 6 ds) m := by
  rintro ds m Q E ⟨_, ⟨many, c, tl, rfl, h0, h1, ⟨rest, cells, t, rfl, ht, hc, h100⟩, hlim⟩, hQ, _⟩
  have hl : many.natAbs.log2 < 9000 := Nat.lt_of_lt_of_le (log2_lt (k := 40) (by decide) (by omega)) (by decide)
  have e0 : env0 6 [.obj 1, .int many] = [some (.f (.obj 1)), some (.f (.int many)), none, none, none, none] := rfl
  rw [e0]
  unfold rd_law_next
  have loop : ∀ (cont : Env' → Mem → Prop) (bk ct : Env' → Mem → Prop) (rest : List Int) (x : Option Sl), (∀ m', (∃ rest' : List Int, m' = [Mo.lst (rest'.map Dat.int), .lst [.obj 0, .lst (cells.map Dat.int), .int t]] ++ tl) → ∀ i, 0 ≤ i → i < many → Q (.int i) m') → (∀ x, cont [some (.f (.obj 1)), some (.f (.int many)), none, none, none, x] ([Mo.lst [], .lst [.obj 0, .lst (cells.map Dat.int), .int t]] ++ tl)) →
    whGo (dTst (dBin (oEq not) (dBin oIx (dVar 0) (dC (.int 0))) (dNew (nLst dNil))))
    (sSeq (sAsg (.nm 5) (dBin oIx (dBin oIx (dVar 0) (dC (.int 0))) (dC (.int 0))))
  (sSeq (sIf (dTst (dBin oGt (dVar 5) (dC (.int 0))))
  (sSeq (sSetI (dBin oFdiv (dVar 5) (dVar 1)) (dBin oIx (dVar 0) (dC (.int 0))) (dC (.int 0)))
  (sRet (dBin oMod (dN (oN1 fInt) (dCons (dVar 5) dNil)) (dVar 1))))
  sNext)
  (sPop0 (dBin oIx (dVar 0) (dC (.int 0))))))
    { nx := cont, rt := Q, bk := bk, ct := ct } (rest.length + 1) [some (.f (.obj 1)), some (.f (.int many)), none, none, none, x] ([.lst (rest.map Dat.int), .lst [.obj 0, .lst (cells.map Dat.int), .int t]] ++ tl) := by
    intro cont bk ct rest
    induction rest with
    | nil =>
      intro x hq hc
      unfold whGo
      simp [dTst, dBin, dVar, dC, oIx, der, moD, atI, ixN, dNew, nLst, dNil, frs, oEq, okN, eqd, eqds]
      exact hc x
    | cons r rest ih =>
      intro x hq hc
      unfold whGo
      simp [dTst, dBin, dVar, dC, oIx, der, moD, atI, ixN, dNew, nLst, dNil, frs, oEq, okN, eqd, eqds, okR1, all_int, sSeq, sAsg, bind, sIf, oI0, oI, sSetI, sRet, dN, dCons, oN1, fInt, sNext, sPop0, moOf, setE, setM, CDivW, h0, hl]
      by_cases hr : 0 < r
      · rw [if_pos hr]
        exact hq _ ⟨(r / many) :: rest, rfl⟩ _ (Int.emod_nonneg _ (by omega)) (Int.emod_lt_of_pos _ h0)
      · rw [if_neg hr]
        exact ih _ hq hc
  refine ⟨rest.length + 1, ?_⟩
  have post : ∀ (rest' : List Int) (t' : Nat), t' ≤ t + 1 → ∀ c' tl', Dk c' tl' ([Mo.lst (rest.map Dat.int), .lst [.obj 0, .lst (cells.map Dat.int), .int t]] ++ tl) → Dk (c' + 1) tl' ([Mo.lst (rest'.map Dat.int), .lst [.obj 0, .lst (cells.map Dat.int), .int t']] ++ tl) := by
    rintro rest' t' h c' tl' ⟨r2, c2, t2, e, h2, h3, h4⟩
    simp at e
    obtain ⟨e1, ⟨e2, e3⟩, e4⟩ := e
    subst e4
    exact ⟨rest', cells, t', rfl, by omega, hc, h100⟩
  refine loop _ _ _ rest none (fun m' ⟨rest', e⟩ i h2 h3 => hQ _ _ ⟨many, i, rfl, rfl, h2, h3, ?_⟩) fun x => ?_
  · subst e
    exact post rest' t (by omega)
  · have hcl : 0 < cells.length := Nat.pos_of_ne_zero (fun h => hc (List.length_eq_zero_iff.mp h))
    obtain ⟨y, hy, hy2⟩ := atI_int (l := cells.map Dat.int) (i := ((t : Int) + 1) % (cells.length : Int)) (Int.emod_nonneg _ (by omega)) (by rw [List.length_map]; exact Int.emod_lt_of_pos _ (by omega))
    obtain ⟨v, rfl⟩ : ∃ v, y = .int v := by
      rw [List.getElem?_map] at hy2
      cases q : cells[(((t : Int) + 1) % (cells.length : Int)).toNat]? with
      | none => rw [q] at hy2; cases hy2
      | some v => rw [q] at hy2; exact ⟨v, (Option.some.inj hy2).symm⟩
    have ht2 : (t : Int) < 2 ^ 40 := by
      have : lim = 2 ^ 40 := rfl
      omega
    have m1 : CMul 68111 ((t : Int) + 1) := .inl ⟨by decide, by decide⟩
    have m2 : CMul 41287 ((t : Int) + 1) := .inl ⟨by decide, by decide⟩
    have m3 : CMul (41287 * ((t : Int) + 1)) ((t : Int) + 1) := .inr ⟨by omega, by omega⟩
    have m4 : ∀ z : Int, CMul (v % 2147483629) z := fun z => .inl ⟨by have := Int.emod_nonneg v (show (2147483629 : Int) ≠ 0 by decide); omega, by have := Int.emod_lt_of_pos v (show (0 : Int) < 2147483629 by decide); omega⟩
    have m5 : ∀ a z : Int, CMul (a % 2147483587) z := fun a z => .inl ⟨by have := Int.emod_nonneg a (show (2147483587 : Int) ≠ 0 by decide); omega, by have := Int.emod_lt_of_pos a (show (0 : Int) < 2147483587 by decide); omega⟩
    have m6 : ∀ z : Int, CDivW z 16 := fun z => ⟨by decide, by decide⟩
    simp [dBin, dVar, dC, oIx, der, moD, atI0, atI1, atI2, hy, sSeq, sAsg, bind, oI0, oI, sSetI, sRet, dN, dCons, dNil, oN1, fInt, moOf, setE, setM, oAdd, oLen, ixN, m1, m2, m3, m4, m5, m6, h0, hcl]
    exact hQ _ _ ⟨many, _, rfl, rfl, Int.emod_nonneg _ (by omega), Int.emod_lt_of_pos _ h0, post [] (t + 1) (by omega)⟩
end DL.S

set_option maxHeartbeats 1000000
namespace DL.S
open PySem PySem.Spec PyProof.Rows L2 DL

def p_deck : DSp := pRel 1 (fun ds m => ∃ ns : List Int, ds = [.lst (ns.map Dat.int)] ∧ ns.length ≤ 63 ∧ m = []) (fun ds m r m' => r = .obj 1 ∧ Dk 0 [] m') noE
def absI (i : Int) : Int := if i < 0 then -i else i
theorem law_deck (C : Ct) : ∀ ds m (Q : QD) (E : QX), p_deck ds m Q E → rd_law_deck C (fun c xs _ m => E c xs m) { nx := fun _ m => Q .non m, rt := Q } (env0 3 ds) m := by
  rintro ds m Q E ⟨_, ⟨ns, rfl, hn, rfl⟩, hQ, _⟩
  have e0 : env0 3 [.lst (ns.map Dat.int)] = [some (.f (.lst (ns.map Dat.int))), none, none] := rfl
  rw [e0]
  unfold rd_law_deck
  have s1 : 100 ≤ sizeLine := sz (by decide)
  show (ns.map Dat.int).length ≤ sizeLine ∧ lcGo _ _ _ _ _ _ _
  refine ⟨by rw [List.length_map]; omega, lc_map (f := fun d => match d with | .int i => .int (absI i) | d => d) (fun x hx Q h => ?_) ?_⟩
  · obtain ⟨i, _, rfl⟩ := List.mem_map.mp hx
    exact h
  have e1 : (ns.map Dat.int).map (fun d => match d with | .int i => .int (absI i) | d => d) = (ns.map absI).map Dat.int := by
    rw [List.map_map, List.map_map]; rfl
  rw [e1]
  show ((ns.map absI).map Dat.int).length ≤ sizeLine ∧ lcGo _ _ _ _ _ _ _
  refine ⟨by rw [List.length_map, List.length_map]; omega, lc_filter (f := id) (g := fun d => match d with | .int i => decide ((10 : Int) ^ 18 ≤ i) | _ => false) (fun x hx Q h => ?_) (fun x hx _ Q h => h) ?_⟩
  · obtain ⟨i, _, rfl⟩ := List.mem_map.mp hx
    exact ⟨⟨by decide, by decide, by decide⟩, trivial, h⟩
  have e2 : (((ns.map absI).map Dat.int).filter (fun d => match d with | .int i => decide ((10 : Int) ^ 18 ≤ i) | _ => false)).map id = ((ns.map absI).filter fun i => decide ((10 : Int) ^ 18 ≤ i)).map Dat.int := by
    rw [List.map_id, List.filter_map]; rfl
  rw [e2]
  simp [dNew, nCat, dVar, lstOf, der, nLst, dN, oLen, dCons, dNil, oAdd, dBin, dC, frs, dShr]
  refine ⟨by omega, by omega, by omega, hQ _ _ ⟨rfl, ?_⟩⟩
  refine ⟨(ns.map absI).filter fun i => decide ((10 : Int) ^ 18 ≤ i), ns.map absI ++ [(ns.length : Int) + 5], 0, ?_, Nat.le_refl _, by simp, by simp; omega⟩
  simp
end DL.S

set_option maxHeartbeats 1000000
namespace DL.S
open PySem PySem.Spec PyProof.Rows L2 DL

/-! ### _law_same of a datum and itself -/
/-- plain data, at most k deep, whose parts can be compared, shown and counted -/
def good : Nat → Dat → Bool
  | _, .non => true
  | _, .bl _ => true
  | _, .int i => decide (i.natAbs.log2 < 1920)
  | _, .str x => PyData.strOk x
  | k + 1, .tup xs => decide (xs.length ≤ 10000) && xs.all (good k)
  | k + 1, .lst xs => decide (xs.length ≤ 10000) && xs.all (good k)
  | _, .dct kvs => okR 60 (.dct kvs) && (decide ((py (.dct kvs)).shown.length ≤ 10000) && PyData.strOk (py (.dct kvs)).shown)
  | _, _ => false
theorem good_tup {k : Nat} {xs : List Dat} (h : good k (.tup xs) = true) : ∃ j, k = j + 1 ∧ xs.length ≤ 10000 ∧ ∀ x ∈ xs, good j x = true := by
  cases k with
  | zero => cases h
  | succ j =>
    rw [good, Bool.and_eq_true] at h
    exact ⟨j, rfl, of_decide_eq_true h.1, List.all_eq_true.mp h.2⟩
theorem good_lst {k : Nat} {xs : List Dat} (h : good k (.lst xs) = true) : ∃ j, k = j + 1 ∧ xs.length ≤ 10000 ∧ ∀ x ∈ xs, good j x = true := by
  cases k with
  | zero => cases h
  | succ j =>
    rw [good, Bool.and_eq_true] at h
    exact ⟨j, rfl, of_decide_eq_true h.1, List.all_eq_true.mp h.2⟩
def p_same (k : Nat) : DSp := pRel 2 (fun ds m => ∃ d, ds = [d, d] ∧ good k d = true) (fun ds m r m' => r = .bl true ∧ m' = m) noE
theorem strOkN (k : Nat) {x : Str} (h : PyData.strOk x = true) : okN k (.str x) = true := by cases k <;> exact h
theorem intOkN (k : Nat) (i : Int) : okN k (.int i) = true := by cases k <;> rfl
theorem blOkN (k : Nat) (i : Bool) : okN k (.bl i) = true := by cases k <;> rfl
theorem eqd_int (i j : Int) : eqd (.int i) (.int j) = (i == j) := by simp [eqd]
theorem eqd_bl (i j : Bool) : eqd (.bl i) (.bl j) = (i == j) := by simp [eqd]
theorem eqd_str (i j : Str) : eqd (.str i) (.str j) = (i == j) := by simp [eqd]
/-- a call that changes nothing and answers v -/
theorem call_is {p : DSp} {EX : QXe} {da : TAd} {env : Env'} {m : Mem} {Q : QL} (xs : List Lv) (ds : List Dat) (ha : ∀ Q : List Lv → Mem → Prop, Q xs m → da env m Q) (hf : frs xs = some ds) (h : p ds m (fun d m2 => Q (.f d) m2) fun c ys m2 => EX c ys env m2) : dCall p EX da env m Q := by
  refine ha _ ?_
  rw [hf]
  exact h
theorem zipD_self : ∀ xs : List Dat, zipD xs xs = xs.map fun x => .tup [x, x]
  | [] => rfl
  | x :: xs => by rw [zipD, zipD_self xs]; rfl
theorem bools_map : ∀ bs : List Bool, bools (bs.map Dat.bl) = some bs
  | [] => rfl
  | b :: bs => by
    show (bools (bs.map Dat.bl)).map (b :: ·) = some (b :: bs)
    rw [bools_map bs]; rfl
/-- the comprehension within -/
theorem same_all {j : Nat} {xs : List Dat} {m : Mem} {env : Env'} {Q : List Dat → Mem → Prop} (he : env.length = 4) (hx : ∀ x ∈ xs, good j x = true) (h : Q (xs.map fun _ => .bl true) m) :
    lcGo (.tp [2, 3]) dYes (dCall (p_same j) EX0 (dCons (dVar 2) (dCons (dVar 3) dNil))) env (zipD xs xs) m Q := by
  rw [zipD_self]
  induction xs generalizing Q with
  | nil => exact h
  | cons x xs ih =>
    rw [List.map_cons]
    unfold lcGo
    match env, he with
    | [e0, e1, e2, e3], _ =>
      have hb : bind (.tp [2, 3]) (.f (.tup [x, x])) [e0, e1, e2, e3] = some [e0, e1, some (.f x), some (.f x)] := by simp [bind, setAll]
      rw [hb]
      dsimp only [dYes]
      rw [if_pos rfl]
      refine ⟨rfl, ⟨x, rfl, hx x (by simp)⟩, fun r m' q => ?_, fun _ _ _ q => q.elim⟩
      obtain ⟨rfl, rfl⟩ := q
      exact ih (Q := fun ds m3 => Q (.bl true :: ds) m3) (fun y hy => hx y (by simp [hy])) h
theorem law_same (C : Ct) (k : Nat) : ∀ ds m (Q : QD) (E : QX), p_same k ds m Q E → rd_law_same C (p_same (k - 1)) (fun c xs _ m => E c xs m) { nx := fun _ m => Q .non m, rt := Q } (env0 4 ds) m := by
  rintro ds m Q E ⟨_, ⟨d, rfl, hd⟩, hQ, _⟩
  have hQ' : Q (.bl true) m := hQ _ _ ⟨rfl, rfl⟩
  have e0 : env0 4 [d, d] = [some (.f d), some (.f d), none, none] := rfl
  rw [e0]
  unfold rd_law_same
  have s1 : 10000 ≤ sizeLine := sz (by decide)
  have s2 : 2 ≤ sizeLine := sz (by decide)
  cases d with
  | non => simp [sSeq, sIf, dTst, dN, oIsi, dCons, dVar, dC, dNil, oTup, frs, s2, derI, der, isaD, isaL, isa1, tyN, isT, sNext, dBin, oIsN, isN, sRet, hQ']
  | bl b => simp [sSeq, sIf, dTst, dN, oIsi, dCons, dVar, dC, dNil, oTup, frs, s2, derI, der, isaD, isaL, isa1, tyN, isT, sNext, dBin, oIsN, isN, sRet, dOr, dAndV, oEq, eqd_bl, blOkN, hQ']
  | int i => simp [sSeq, sIf, dTst, dN, oIsi, dCons, dVar, dC, dNil, oTup, frs, s2, derI, der, isaD, isaL, isa1, tyN, isT, sNext, dBin, oIsN, isN, sRet, dOr, dAndV, oEq, eqd_int, intOkN, hQ']
  | str x =>
    have hx : PyData.strOk x = true := by cases k <;> exact hd
    simp [sSeq, sIf, dTst, dN, oIsi, dCons, dVar, dC, dNil, oTup, frs, s2, derI, der, isaD, isaL, isa1, tyN, isT, sNext, dBin, oIsN, isN, sRet, dOr, dAndV, oEq, eqd_str, strOkN _ hx, hQ']
  | tup xs =>
    obtain ⟨j, rfl, hl, hx⟩ := good_tup hd
    simp [sSeq, sIf, dTst, dN, oIsi, dCons, dVar, dC, dNil, oTup, frs, s2, derI, der, isaD, isaL, isa1, tyN, isT, sNext, dBin, oIsN, isN, sRet, dOr, dAndV, oEq, eqd_int, eqd_bl, intOkN, blOkN, oLen, dNew, nLc, iZipD, zipD_len, oBs]
    refine ⟨by omega, same_all rfl hx ?_⟩
    have eb : bools (xs.map fun _ => Dat.bl true) = some (xs.map fun _ => true) := by
      rw [show (xs.map fun _ => Dat.bl true) = (xs.map fun _ => true).map Dat.bl by rw [List.map_map]; rfl]
      exact bools_map _
    have ea : (xs.map fun _ => true).all id = true := by
      rw [List.all_eq_true]
      intro b hb
      obtain ⟨_, _, rfl⟩ := List.mem_map.mp hb
      rfl
    simp only [seqOf, lstOf, tupOf, der, eb, ea]
    exact hQ'
  | lst xs =>
    obtain ⟨j, rfl, hl, hx⟩ := good_lst hd
    simp [sSeq, sIf, dTst, dN, oIsi, dCons, dVar, dC, dNil, oTup, frs, s2, derI, der, isaD, isaL, isa1, tyN, isT, sNext, dBin, oIsN, isN, sRet, dOr, dAndV, oEq, eqd_int, eqd_bl, intOkN, blOkN, oLen, dNew, nLc, iZipD, zipD_len, oBs]
    refine ⟨by omega, same_all rfl hx ?_⟩
    have eb : bools (xs.map fun _ => Dat.bl true) = some (xs.map fun _ => true) := by
      rw [show (xs.map fun _ => Dat.bl true) = (xs.map fun _ => true).map Dat.bl by rw [List.map_map]; rfl]
      exact bools_map _
    have ea : (xs.map fun _ => true).all id = true := by
      rw [List.all_eq_true]
      intro b hb
      obtain ⟨_, _, rfl⟩ := List.mem_map.mp hb
      rfl
    simp only [seqOf, lstOf, tupOf, der, eb, ea]
    exact hQ'
  | dct kvs =>
    have hx : okR 60 (.dct kvs) = true ∧ (py (.dct kvs)).shown.length ≤ 10000 ∧ PyData.strOk (py (.dct kvs)).shown = true := by
      have h' : (okR 60 (.dct kvs) && (decide ((py (.dct kvs)).shown.length ≤ 10000) && PyData.strOk (py (.dct kvs)).shown)) = true := by cases k <;> exact hd
      rw [Bool.and_eq_true, Bool.and_eq_true] at h'
      exact ⟨h'.1, of_decide_eq_true h'.2.1, h'.2.2⟩
    simp [sSeq, sIf, dTst, dN, oIsi, dCons, dVar, dC, dNil, oTup, frs, s2, derI, der, isaD, isaL, isa1, tyN, isT, sNext, dBin, oIsN, isN, sRet, dOr, dAndV, oEq, eqd_str, oRepr]
    exact ⟨hx.1, by omega, hx.1, by omega, strOkN _ hx.2.2, hQ'⟩
  | _ => cases k <;> cases hd
end DL.S

set_option maxHeartbeats 2000000
namespace K02
open PySem PySem.Spec PyProof.Rows L2 DL
def top (i : Nat) : Stmt := PySem.Challenge.pw_sparerows_k02_net_forms.main.body.getD i (.Pass ⟨0, 0, 0, 0⟩)
def inCls (s : Stmt) (i : Nat) : Stmt := match s with
  | .ClassDef _ _ _ body _ _ _ _ _ _ _ => body.getD i (.Pass ⟨0, 0, 0, 0⟩)
  | _ => .Pass ⟨0, 0, 0, 0⟩
def tab : Tab := { names := ["SpareError", "BadLink", "BadNet", "Net"], flds := [[], ["index"], ["error"], ["size", "pairs"]], owns := [3], ii := [], ib := [], it := [] }
def ft_pairs : List (Nat × Nat) := [(3, 1)]
def fi_pairs : Nat → Option Nat := fiOf ft_pairs
def ft_size : List (Nat × Nat) := [(3, 0)]
def fi_size : Nat → Option Nat := fiOf ft_size
def ft_error : List (Nat × Nat) := [(2, 0)]
def fi_error : Nat → Option Nat := fiOf ft_error
def ise : List (Nat × Nat × Bool) := [(2, 2, true)]
def isE : Nat → Nat → Option Bool := fi2 ise
def ts_SpareError : List (Nat × Bool) := [(2, true)]
def tst_SpareError : Nat → Option Bool := tsOf ts_SpareError
structure Txt (K : PySem.W.Frag) (mg : Str → Option Value) (C : Ct) : Prop where
  ns : NoSys K
  ct : CtOk C K
  f_abs : mg "abs" = none
  f_all : mg "all" = none
  f_bool : mg "bool" = none
  f_dict : mg "dict" = none
  f_enumerate : mg "enumerate" = none
  f_int : mg "int" = none
  f_isinstance : mg "isinstance" = none
  f_len : mg "len" = none
  f_list : mg "list" = none
  f_max : mg "max" = none
  f_min : mg "min" = none
  f_range : mg "range" = none
  f_repr : mg "repr" = none
  f_sorted : mg "sorted" = none
  f_str : mg "str" = none
  f_tuple : mg "tuple" = none
  f_zip : mg "zip" = none
  c_MAX_LINKS : ∃ t, mg "MAX_LINKS" = some (.int 8 t)
  c_MAX_NODES : ∃ t, mg "MAX_NODES" = some (.int 7 t)
  k_BadNet : mg "BadNet" = some (.ref (C.addr 2))
  fl_pairs : FiOk K C "pairs" fi_pairs
  fl_size : FiOk K C "size" fi_size
  xf_error : XfiOk K C "error" fi_error
  isE : IsEOk K C isE
  g_SpareError : mg "SpareError" = some (.ref (C.addr 0))
  tst_SpareError : ∀ c b, tst_SpareError c = some b → PySem.W.exmOne K (.ref (C.addr c)) (.ref (C.addr 0)) = some b
section
variable {P : Program} {w : World} {K : PySem.W.Frag} {mg : Str → Option Value} {base : Heap} {C : Ct}
abbrev st_is_whole : Stmt := (top 8)
theorem sc_is_whole : FnScope ["value"] ["value"] (defScope st_is_whole) := ⟨rfl, rfl, rfl, by decide +kernel, rfl, by decide +kernel, by decide +kernel⟩
def rd_is_whole (C : Ct)  (EX : QXe) : TSd :=
  (sRet (dAndV (dN (oIsi C) (dCons (dVar 0) (dCons (dC (.ty "int")) dNil))) (dNotV (dN (oIsi C) (dCons (dVar 0) (dCons (dC (.ty "bool")) dNil))))))
theorem wk_is_whole (T : Txt K mg C) {K0 : Nat} {p : DSp} (mono : MonoP p) (len : ∀ ds m Q E, p ds m Q E → ds.length = 1)
    (F : FunD K "is_whole" "is_whole" (defArgs st_is_whole) (defBody st_is_whole) (defScope st_is_whole) [] [] (He.fAd K ("is_whole", none)) (fdA K ("is_whole", none)))
    (law : ∀ ds m (Q : QD) (E : QX), p ds m Q E → rd_is_whole C  (fun c xs _ m => E c xs m) { nx := fun _ m => Q .non m, rt := Q } (env0 1 ds) m) : DF P w K mg base C (K0 + 1) (He.fAd K ("is_whole", none)) (fdA K ("is_whole", none)) ["value"] p := by
  refine df_of (k := K0) (d := rd_is_whole C ) F sc_is_whole mono len ?_ law
  intro cdv A outer s H E B EX hr tk
  exact (dss_one (ds_ret (de_and (de_b (call_isiD T.ct) T.f_isinstance boot_isinstance (da_cons (de_var 0) (da_cons (de_tyN T.f_int boot_int) da_nil))) (de_one (de_not (de_b (call_isiD T.ct) T.f_isinstance boot_isinstance (da_cons (de_var 0) (da_cons (de_tyN T.f_bool boot_bool) da_nil))))))))

abbrev st_is_below : Stmt := (top 9)
theorem sc_is_below : FnScope ["value", "bound"] ["value", "bound"] (defScope st_is_below) := ⟨rfl, rfl, rfl, by decide +kernel, rfl, by decide +kernel, by decide +kernel⟩
def rd_is_below (C : Ct) (p_is_whole : DSp) (EX : QXe) : TSd :=
  (sRet (dAndV (dCall p_is_whole EX0 (dCons (dVar 0) dNil)) (dChain oLe oLt (dC (.int 0)) (dVar 0) (dVar 1))))
theorem wk_is_below (T : Txt K mg C) {K0 : Nat} {p_is_whole : DSp} {k_is_whole : Nat} {p : DSp} (mono : MonoP p) (len : ∀ ds m Q E, p ds m Q E → ds.length = 2) (c_is_whole : FnC P w K mg base C "is_whole" k_is_whole ["value"] p_is_whole) (h_is_whole : k_is_whole ≤ K0)
    (F : FunD K "is_below" "is_below" (defArgs st_is_below) (defBody st_is_below) (defScope st_is_below) [] [] (He.fAd K ("is_below", none)) (fdA K ("is_below", none)))
    (law : ∀ ds m (Q : QD) (E : QX), p ds m Q E → rd_is_below C p_is_whole (fun c xs _ m => E c xs m) { nx := fun _ m => Q .non m, rt := Q } (env0 2 ds) m) : DF P w K mg base C (K0 + 1) (He.fAd K ("is_below", none)) (fdA K ("is_below", none)) ["value", "bound"] p := by
  refine df_of (k := K0) (d := rd_is_below C p_is_whole) F sc_is_below mono len ?_ law
  intro cdv A outer s H E B EX hr tk
  exact (dss_one (ds_ret (de_and (de_fn c_is_whole hr (by omega) (da_cons (de_var 0) da_nil) passD0) (de_one (de_chain op_leD op_ltD de_int (de_var 0) (de_var 1))))))

abbrev st_is_pair : Stmt := (top 10)
theorem sc_is_pair : FnScope ["value"] ["value"] (defScope st_is_pair) := ⟨rfl, rfl, rfl, by decide +kernel, rfl, by decide +kernel, by decide +kernel⟩
def rd_is_pair (C : Ct)  (EX : QXe) : TSd :=
  (sRet (dAndV (dN (oIsi C) (dCons (dVar 0) (dCons (dC (.ty "tuple")) dNil))) (dBin (oEq id) (dN oLen (dCons (dVar 0) dNil)) (dC (.int 2)))))
theorem wk_is_pair (T : Txt K mg C) {K0 : Nat} {p : DSp} (mono : MonoP p) (len : ∀ ds m Q E, p ds m Q E → ds.length = 1)
    (F : FunD K "is_pair" "is_pair" (defArgs st_is_pair) (defBody st_is_pair) (defScope st_is_pair) [] [] (He.fAd K ("is_pair", none)) (fdA K ("is_pair", none)))
    (law : ∀ ds m (Q : QD) (E : QX), p ds m Q E → rd_is_pair C  (fun c xs _ m => E c xs m) { nx := fun _ m => Q .non m, rt := Q } (env0 1 ds) m) : DF P w K mg base C (K0 + 1) (He.fAd K ("is_pair", none)) (fdA K ("is_pair", none)) ["value"] p := by
  refine df_of (k := K0) (d := rd_is_pair C ) F sc_is_pair mono len ?_ law
  intro cdv A outer s H E B EX hr tk
  exact (dss_one (ds_ret (de_and (de_b (call_isiD T.ct) T.f_isinstance boot_isinstance (da_cons (de_var 0) (da_cons (de_tyN T.f_tuple boot_tuple) da_nil))) (de_one (de_cmp (op_eqR hr) (de_b call_lenD T.f_len boot_len (da_cons (de_var 0) da_nil)) de_int)))))

abbrev st_is_link : Stmt := (top 12)
theorem sc_is_link : FnScope ["value", "nodes"] ["value", "nodes"] (defScope st_is_link) := ⟨rfl, rfl, rfl, by decide +kernel, rfl, by decide +kernel, by decide +kernel⟩
def rd_is_link (C : Ct) (p_is_pair : DSp) (p_is_below : DSp) (EX : QXe) : TSd :=
  (sSeq (sIf (dOr (dNot (dTst (dCall p_is_pair EX0 (dCons (dVar 0) dNil)))) (dOr (dNot (dTst (dCall p_is_below EX0 (dCons (dBin oIx (dVar 0) (dC (.int 0))) (dCons (dVar 1) dNil))))) (dNot (dTst (dCall p_is_below EX0 (dCons (dBin oIx (dVar 0) (dC (.int 1))) (dCons (dVar 1) dNil)))))))
  (sRet (dC (.bl false)))
  sNext)
  (sRet (dBin (oEq not) (dBin oIx (dVar 0) (dC (.int 0))) (dBin oIx (dVar 0) (dC (.int 1))))))
theorem wk_is_link (T : Txt K mg C) {K0 : Nat} {p_is_pair : DSp} {k_is_pair : Nat} {p_is_below : DSp} {k_is_below : Nat} {p : DSp} (mono : MonoP p) (len : ∀ ds m Q E, p ds m Q E → ds.length = 2) (c_is_pair : FnC P w K mg base C "is_pair" k_is_pair ["value"] p_is_pair) (h_is_pair : k_is_pair ≤ K0) (c_is_below : FnC P w K mg base C "is_below" k_is_below ["value", "bound"] p_is_below) (h_is_below : k_is_below ≤ K0)
    (F : FunD K "is_link" "is_link" (defArgs st_is_link) (defBody st_is_link) (defScope st_is_link) [] [] (He.fAd K ("is_link", none)) (fdA K ("is_link", none)))
    (law : ∀ ds m (Q : QD) (E : QX), p ds m Q E → rd_is_link C p_is_pair p_is_below (fun c xs _ m => E c xs m) { nx := fun _ m => Q .non m, rt := Q } (env0 2 ds) m) : DF P w K mg base C (K0 + 1) (He.fAd K ("is_link", none)) (fdA K ("is_link", none)) ["value", "nodes"] p := by
  refine df_of (k := K0) (d := rd_is_link C p_is_pair p_is_below) F sc_is_link mono len ?_ law
  intro cdv A outer s H E B EX hr tk
  exact (dss_cons (ds_if (DW.dt (dw_or (dt_not (dt_val (de_fn c_is_pair hr (by omega) (da_cons (de_var 0) da_nil) passD0))) (dw_or (dt_not (dt_val (de_fn c_is_below hr (by omega) (da_cons (de_ix ix_D (de_var 0) de_int) (da_cons (de_var 1) da_nil)) passD0))) (dw_or1 (dt_not (dt_val (de_fn c_is_below hr (by omega) (da_cons (de_ix ix_D (de_var 0) de_int) (da_cons (de_var 1) da_nil)) passD0))))))) (dss_one (ds_ret de_bl)) dss_nil)
  (dss_one (ds_ret (de_cmp (op_neR hr) (de_ix ix_D (de_var 0) de_int) (de_ix ix_D (de_var 0) de_int)))))

abbrev st_net_error : Stmt := (top 13)
theorem sc_net_error : FnScope ["nodes", "links", "index", "link", "other"] ["nodes", "links"] (defScope st_net_error) := ⟨rfl, rfl, rfl, by decide +kernel, rfl, by decide +kernel, by decide +kernel⟩
def rd_net_error (C : Ct) (p_is_whole : DSp) (p_is_link : DSp) (EX : QXe) : TSd :=
  (sSeq (sIf (dOr (dNot (dTst (dCall p_is_whole EX0 (dCons (dVar 0) dNil)))) (dNot (dTst (dChain oLe oLe (dC (.int 1)) (dVar 0) (dC (.int 7))))))
  (sRet (dN oTup (dCons (dC .non) (dCons (dC (.str "nodes")) dNil))))
  sNext)
  (sSeq (sIf (dOr (dNot (dTst (dN (oIsi C) (dCons (dVar 1) (dCons (dC (.ty "tuple")) dNil))))) (dTst (dBin oGt (dN oLen (dCons (dVar 1) dNil)) (dC (.int 8)))))
  (sRet (dN oTup (dCons (dC .non) (dCons (dC (.str "links")) dNil))))
  sNext)
  (sSeq (sFor (.tp [2, 3]) (iEnumD (dVar 1))
  (sSeq (sIf (dNot (dTst (dCall p_is_link EX0 (dCons (dVar 3) (dCons (dVar 0) dNil)))))
  (sRet (dN oTup (dCons (dVar 2) (dCons (dC (.str "link")) dNil))))
  sNext)
  (sIf (dTst (dBin (oIn id) (dNew (nSort (dVar 3))) (dNew (nLc (.nm 4) dYes (dNew (nSort (dVar 4))) [4] (iVal (dSl (dVar 1) dNo (dPart (dVar 2))))))))
  (sRet (dN oTup (dCons (dVar 2) (dCons (dC (.str "again")) dNil))))
  sNext)))
  (sRet (dC .non)))))
theorem wk_net_error (T : Txt K mg C) {K0 : Nat} {p_is_whole : DSp} {k_is_whole : Nat} {p_is_link : DSp} {k_is_link : Nat} {p : DSp} (mono : MonoP p) (len : ∀ ds m Q E, p ds m Q E → ds.length = 2) (c_is_whole : FnC P w K mg base C "is_whole" k_is_whole ["value"] p_is_whole) (h_is_whole : k_is_whole ≤ K0) (c_is_link : FnC P w K mg base C "is_link" k_is_link ["value", "nodes"] p_is_link) (h_is_link : k_is_link ≤ K0)
    (F : FunD K "net_error" "net_error" (defArgs st_net_error) (defBody st_net_error) (defScope st_net_error) [] [] (He.fAd K ("net_error", none)) (fdA K ("net_error", none)))
    (law : ∀ ds m (Q : QD) (E : QX), p ds m Q E → rd_net_error C p_is_whole p_is_link (fun c xs _ m => E c xs m) { nx := fun _ m => Q .non m, rt := Q } (env0 5 ds) m) : DF P w K mg base C (K0 + 1) (He.fAd K ("net_error", none)) (fdA K ("net_error", none)) ["nodes", "links"] p := by
  refine df_of (k := K0) (d := rd_net_error C p_is_whole p_is_link) F sc_net_error mono len ?_ law
  intro cdv A outer s H E B EX hr tk
  exact (dss_cons (ds_if (DW.dt (dw_or (dt_not (dt_val (de_fn c_is_whole hr (by omega) (da_cons (de_var 0) da_nil) passD0))) (dw_or1 (dt_not (dt_chain op_leD op_leD de_int (de_var 0) (de_gInt T.c_MAX_NODES)))))) (dss_one (ds_ret (de_tup (da_cons de_non (da_cons de_str da_nil))))) dss_nil)
  (dss_cons (ds_if (DW.dt (dw_or (dt_not (dt_val (de_b (call_isiD T.ct) T.f_isinstance boot_isinstance (da_cons (de_var 1) (da_cons (de_tyN T.f_tuple boot_tuple) da_nil))))) (dw_or1 (dt_cmp op_gtD (de_b call_lenD T.f_len boot_len (da_cons (de_var 1) da_nil)) (de_gInt T.c_MAX_LINKS))))) (dss_one (ds_ret (de_tup (da_cons de_non (da_cons de_str da_nil))))) dss_nil)
  (dss_cons (ds_for (passes_of rfl) rfl (di_enum rfl T.f_enumerate (de_var 1)) (tg_tp rfl (tgs_v sc_net_error.nd (tgs_v sc_net_error.nd tgs_nil))) (dss_cons (ds_if (dt_not (dt_val (de_fn c_is_link hr (by omega) (da_cons (de_var 3) (da_cons (de_var 0) da_nil)) passD0))) (dss_one (ds_ret (de_tup (da_cons (de_var 2) (da_cons de_str da_nil))))) dss_nil)
  (dss_one (ds_if (dt_cmp (op_inR hr) (DN.de (dn_sortedR hr T.ns T.f_sorted (de_var 3))) (DN.de (dn_comp [("other", 4)] rfl sc_net_error.nd (di_val (de_sl (de_var 1) do_none (do_some (de_var 2)))) (fun _ _ _ _ _ => (tg_v sc_net_error.nd)) (fun _ _ _ _ _ => dts_nil) (fun _ _ _ _ _ => (DN.de (dn_sortedR hr T.ns T.f_sorted (de_var 4)))) (blkB_ok (by kernel_rfl)) (by decide)))) (dss_one (ds_ret (de_tup (da_cons (de_var 2) (da_cons de_str da_nil))))) dss_nil))))
  (dss_one (ds_ret de_non)))))

abbrev st_Net_init : Stmt := (inCls (top 14) 0)
theorem sc_Net_init : FnScope ["self", "nodes", "links", "error", "link"] ["self", "nodes", "links"] (defScope st_Net_init) := ⟨rfl, rfl, rfl, by decide +kernel, rfl, by decide +kernel, by decide +kernel⟩
def rd_Net_init (C : Ct) (p_net_error : DSp) (EX : QXe) : TSd :=
  (sSeq (sAsg (.nm 3) (dCall p_net_error EX0 (dCons (dVar 1) (dCons (dVar 2) dNil))))
  (sSeq (sIf (dTst (dBin (oIsN not) (dVar 3) (dC .non)))
  (sRaise (mOwn 2 1 (dCons (dVar 3) dNil)) EX)
  sNext)
  (sSeq (sFldD fi_size (dVar 0) (dVar 1))
  (sFldD fi_pairs (dVar 0) (dN oTuple (dCons (dNew (nSort (dNew (nLc (.nm 4) dYes (dN oTup (dCons (dN (oIs minI fun ns => 0 < ns.length) (dCons (dVar 4) dNil)) (dCons (dN (oIs maxI fun ns => 0 < ns.length) (dCons (dVar 4) dNil)) dNil))) [4] (iVal (dVar 2)))))) dNil))))))
theorem wk_Net_init (T : Txt K mg C) {K0 : Nat} {p_net_error : DSp} {k_net_error : Nat} {p : DSp} (mono : MonoP p) (len : ∀ ds m Q E, p ds m Q E → ds.length = 3) (c_net_error : FnC P w K mg base C "net_error" k_net_error ["nodes", "links"] p_net_error) (h_net_error : k_net_error ≤ K0) (x_BadNet : XcC P w K mg base C "BadNet" 2 ["error"]) (h_BadNet : 2 ≤ K0)
    (F : FunD K "__init__" "Net.__init__" (defArgs st_Net_init) (defBody st_Net_init) (defScope st_Net_init) [] [] (He.fAd K ("Net", some "__init__")) (fdA K ("Net", some "__init__")))
    (law : ∀ ds m (Q : QD) (E : QX), p ds m Q E → rd_Net_init C p_net_error (fun c xs _ m => E c xs m) { nx := fun _ m => Q .non m, rt := Q } (env0 5 ds) m) : DF P w K mg base C (K0 + 1) (He.fAd K ("Net", some "__init__")) (fdA K ("Net", some "__init__")) ["self", "nodes", "links"] p := by
  refine df_of (k := K0) (d := rd_Net_init C p_net_error) F sc_Net_init mono len ?_ law
  intro cdv A outer s H E B EX hr tk
  exact (dss_cons (ds_setV sc_Net_init.nd (de_fn c_net_error hr (by omega) (da_cons (de_var 1) (da_cons (de_var 2) da_nil)) passD0))
  (dss_cons (ds_if (dt_cmp op_notNd (de_var 3) de_non) (dss_one (ds_raise rfl tk (dm_x x_BadNet hr (by omega) (da_cons (de_var 3) da_nil)))) dss_nil)
  (dss_cons (ds_fld T.fl_size (de_var 0) (de_var 1))
  (dss_one (ds_fld T.fl_pairs (de_var 0) (de_t call_tupleD T.f_tuple boot_tuple (da_cons (DN.de (dn_sortedR hr T.ns T.f_sorted (DN.de (dn_comp [("link", 4)] rfl sc_Net_init.nd (di_val (de_var 2)) (fun _ _ _ _ _ => (tg_v sc_Net_init.nd)) (fun _ _ _ _ _ => dts_nil) (fun _ _ _ _ _ => (de_tup (da_cons (de_b (call_minD rfl) T.f_min boot_min (da_cons (de_var 4) da_nil)) (da_cons (de_b (call_maxD rfl) T.f_max boot_max (da_cons (de_var 4) da_nil)) da_nil)))) (blkB_ok (by kernel_rfl)) (by decide))))) da_nil)))))))

abbrev st_law_deck : Stmt := (top 16)
theorem sc_law_deck : FnScope ["_law_script", "_law_cells", "_law_number"] ["_law_script"] (defScope st_law_deck) := ⟨rfl, rfl, rfl, by decide +kernel, rfl, by decide +kernel, by decide +kernel⟩
def rd_law_deck (C : Ct)  (EX : QXe) : TSd :=
  (sSeq (sAsg (.nm 1) (dNew (nLc (.nm 2) dYes (dN (oN1 fAbs) (dCons (dVar 2) dNil)) [2] (iVal (dVar 0)))))
  (sRet (dShr (nLst (dCons (dShr (nLc (.nm 2) (dTst (dBin oGe (dVar 2) (dBin oPow (dC (.int 10)) (dC (.int 18))))) (dVar 2) [2] (iVal (dVar 1)))) (dCons (dNew (nCat (dVar 1) (dNew (nLst (dCons (dBin oAdd (dN oLen (dCons (dVar 1) dNil)) (dC (.int 5))) dNil))))) (dCons (dC (.int 0)) dNil)))))))
theorem wk_law_deck (T : Txt K mg C) {K0 : Nat} {p : DSp} (mono : MonoP p) (len : ∀ ds m Q E, p ds m Q E → ds.length = 1)
    (F : FunD K "_law_deck" "_law_deck" (defArgs st_law_deck) (defBody st_law_deck) (defScope st_law_deck) [] [] (He.fAd K ("_law_deck", none)) (fdA K ("_law_deck", none)))
    (law : ∀ ds m (Q : QD) (E : QX), p ds m Q E → rd_law_deck C  (fun c xs _ m => E c xs m) { nx := fun _ m => Q .non m, rt := Q } (env0 3 ds) m) : DF P w K mg base C (K0 + 1) (He.fAd K ("_law_deck", none)) (fdA K ("_law_deck", none)) ["_law_script"] p := by
  refine df_of (k := K0) (d := rd_law_deck C ) F sc_law_deck mono len ?_ law
  intro cdv A outer s H E B EX hr tk
  exact (dss_cons (ds_setC [("_law_number", 2)] rfl sc_law_deck.nd (di_val (de_var 0)) (fun _ _ _ _ _ => (tg_v sc_law_deck.nd)) (fun _ _ _ _ _ => dts_nil) (fun _ _ _ _ _ => (de_b call_absD T.f_abs boot_abs (da_cons (de_var 2) da_nil))) (blkB_ok (by kernel_rfl)) (by decide))
  (dss_one (ds_ret (DN.shr (dn_lst (da_cons (DN.shr (dn_comp [("_law_number", 2)] rfl sc_law_deck.nd (di_val (de_var 1)) (fun _ _ _ _ _ => (tg_v sc_law_deck.nd)) (fun _ _ _ _ _ => (dts_one (dt_cmp op_geD (de_var 2) (de_bin op_powD de_int de_int)))) (fun _ _ _ _ _ => (de_var 2)) (blkB_ok (by kernel_rfl)) (by decide))) (da_cons (DN.de (dn_cat (de_var 1) (DN.de (dn_lst (da_cons (de_bin op_addD (de_b call_lenD T.f_len boot_len (da_cons (de_var 1) da_nil)) de_int) da_nil))))) (da_cons de_int da_nil))))))))

abbrev st_law_next : Stmt := (top 17)
theorem sc_law_next : FnScope ["_law_deck_here", "_law_many", "_law_turn", "_law_number", "_law_mixed", "_law_rest"] ["_law_deck_here", "_law_many"] (defScope st_law_next) := ⟨rfl, rfl, rfl, by decide +kernel, rfl, by decide +kernel, by decide +kernel⟩
def rd_law_next (C : Ct)  (EX : QXe) : TSd :=
  (sSeq (sWhile (dTst (dBin (oEq not) (dBin oIx (dVar 0) (dC (.int 0))) (dNew (nLst dNil))))
  (sSeq (sAsg (.nm 5) (dBin oIx (dBin oIx (dVar 0) (dC (.int 0))) (dC (.int 0))))
  (sSeq (sIf (dTst (dBin oGt (dVar 5) (dC (.int 0))))
  (sSeq (sSetI (dBin oFdiv (dVar 5) (dVar 1)) (dBin oIx (dVar 0) (dC (.int 0))) (dC (.int 0)))
  (sRet (dBin oMod (dN (oN1 fInt) (dCons (dVar 5) dNil)) (dVar 1))))
  sNext)
  (sPop0 (dBin oIx (dVar 0) (dC (.int 0)))))))
  (sSeq (sSetI (dBin oAdd (dBin oIx (dVar 0) (dC (.int 2))) (dC (.int 1))) (dVar 0) (dC (.int 2)))
  (sSeq (sAsg (.nm 2) (dBin oIx (dVar 0) (dC (.int 2))))
  (sSeq (sAsg (.nm 3) (dBin oMod (dN (oN1 fInt) (dCons (dBin oIx (dBin oIx (dVar 0) (dC (.int 1))) (dBin oMod (dN (oN1 fInt) (dCons (dVar 2) dNil)) (dN oLen (dCons (dBin oIx (dVar 0) (dC (.int 1))) dNil)))) dNil)) (dC (.int 2147483629))))
  (sSeq (sAsg (.nm 4) (dBin oMod (dN (oN1 fInt) (dCons (dBin oAdd (dBin oAdd (dBin oMul (dVar 3) (dBin oAdd (dC (.int 50331)) (dBin oMul (dC (.int 68111)) (dVar 2)))) (dBin oMul (dBin oMul (dC (.int 41287)) (dVar 2)) (dVar 2))) (dC (.int 19))) dNil)) (dC (.int 2147483587))))
  (sRet (dBin oMod (dBin oFdiv (dBin oMod (dN (oN1 fInt) (dCons (dBin oMul (dVar 4) (dVar 4)) dNil)) (dC (.int 2147483579))) (dC (.int 16))) (dVar 1))))))))
theorem wk_law_next (T : Txt K mg C) {K0 : Nat} {p : DSp} (mono : MonoP p) (len : ∀ ds m Q E, p ds m Q E → ds.length = 2)
    (F : FunD K "_law_next" "_law_next" (defArgs st_law_next) (defBody st_law_next) (defScope st_law_next) [] [] (He.fAd K ("_law_next", none)) (fdA K ("_law_next", none)))
    (law : ∀ ds m (Q : QD) (E : QX), p ds m Q E → rd_law_next C  (fun c xs _ m => E c xs m) { nx := fun _ m => Q .non m, rt := Q } (env0 6 ds) m) : DF P w K mg base C (K0 + 1) (He.fAd K ("_law_next", none)) (fdA K ("_law_next", none)) ["_law_deck_here", "_law_many"] p := by
  refine df_of (k := K0) (d := rd_law_next C ) F sc_law_next mono len ?_ law
  intro cdv A outer s H E B EX hr tk
  exact (dss_cons (ds_while (passes_of rfl) (dt_cmp (op_neR hr) (de_ix ix_D (de_var 0) de_int) (DN.de (dn_lst da_nil))) (dss_cons (ds_setV sc_law_next.nd (de_ix ix_D (de_ix ix_D (de_var 0) de_int) de_int))
  (dss_cons (ds_if (dt_cmp op_gtD (de_var 5) de_int) (dss_cons (ds_setI (de_bin op_fdivWD (de_var 5) (de_var 1)) (de_ix ix_D (de_var 0) de_int) de_int)
  (dss_one (ds_ret (de_bin op_modD (de_t call_intD T.f_int boot_int (da_cons (de_var 5) da_nil)) (de_var 1))))) dss_nil)
  (dss_one (ds_pop0 (de_ix ix_D (de_var 0) de_int))))))
  (dss_cons (ds_setI (de_bin op_addD (de_ix ix_D (de_var 0) de_int) de_int) (de_var 0) de_int)
  (dss_cons (ds_setV sc_law_next.nd (de_ix ix_D (de_var 0) de_int))
  (dss_cons (ds_setV sc_law_next.nd (de_bin op_modD (de_t call_intD T.f_int boot_int (da_cons (de_ix ix_D (de_ix ix_D (de_var 0) de_int) (de_bin op_modD (de_t call_intD T.f_int boot_int (da_cons (de_var 2) da_nil)) (de_b call_lenD T.f_len boot_len (da_cons (de_ix ix_D (de_var 0) de_int) da_nil)))) da_nil)) de_int))
  (dss_cons (ds_setV sc_law_next.nd (de_bin op_modD (de_t call_intD T.f_int boot_int (da_cons (de_bin op_addD (de_bin op_addD (de_bin op_mulD (de_var 3) (de_bin op_addD de_int (de_bin op_mulD de_int (de_var 2)))) (de_bin op_mulD (de_bin op_mulD de_int (de_var 2)) (de_var 2))) de_int) da_nil)) de_int))
  (dss_one (ds_ret (de_bin op_modD (de_bin op_fdivWD (de_bin op_modD (de_t call_intD T.f_int boot_int (da_cons (de_bin op_mulD (de_var 4) (de_var 4)) da_nil)) de_int) de_int) (de_var 1)))))))))

abbrev st_law_pairs : Stmt := (top 18)
theorem sc_law_pairs : FnScope ["_law_nodes", "_law_found", "_law_other", "_law_one"] ["_law_nodes"] (defScope st_law_pairs) := ⟨rfl, rfl, rfl, by decide +kernel, rfl, by decide +kernel, by decide +kernel⟩
def rd_law_pairs (C : Ct)  (EX : QXe) : TSd :=
  (sSeq (sAsg (.nm 1) (dNew (nLst dNil)))
  (sSeq (sFor (.nm 2) (iRg1 (dVar 0))
  (sAsg (.nm 1) (dNew (nCat (dVar 1) (dNew (nLc (.nm 3) dYes (dN oTup (dCons (dVar 3) (dCons (dVar 2) dNil))) [3] (iRg1 (dVar 2))))))))
  (sRet (dVar 1))))
theorem wk_law_pairs (T : Txt K mg C) {K0 : Nat} {p : DSp} (mono : MonoP p) (len : ∀ ds m Q E, p ds m Q E → ds.length = 1)
    (F : FunD K "_law_pairs" "_law_pairs" (defArgs st_law_pairs) (defBody st_law_pairs) (defScope st_law_pairs) [] [] (He.fAd K ("_law_pairs", none)) (fdA K ("_law_pairs", none)))
    (law : ∀ ds m (Q : QD) (E : QX), p ds m Q E → rd_law_pairs C  (fun c xs _ m => E c xs m) { nx := fun _ m => Q .non m, rt := Q } (env0 4 ds) m) : DF P w K mg base C (K0 + 1) (He.fAd K ("_law_pairs", none)) (fdA K ("_law_pairs", none)) ["_law_nodes"] p := by
  refine df_of (k := K0) (d := rd_law_pairs C ) F sc_law_pairs mono len ?_ law
  intro cdv A outer s H E B EX hr tk
  exact (dss_cons (ds_setV sc_law_pairs.nd (DN.de (dn_lst da_nil)))
  (dss_cons (ds_for (passes_of rfl) rfl (di_range1 rfl T.f_range (de_var 0)) (tg_v sc_law_pairs.nd) (dss_one (ds_setV sc_law_pairs.nd (DN.de (dn_cat (de_var 1) (DN.de (dn_comp [("_law_one", 3)] rfl sc_law_pairs.nd (di_range1 rfl T.f_range (de_var 2)) (fun _ _ _ _ _ => (tg_v sc_law_pairs.nd)) (fun _ _ _ _ _ => dts_nil) (fun _ _ _ _ _ => (de_tup (da_cons (de_var 3) (da_cons (de_var 2) da_nil)))) (blkB_ok (by kernel_rfl)) (by decide))))))))
  (dss_one (ds_ret (de_var 1)))))

abbrev st_law_net : Stmt := (top 19)
theorem sc_law_net : FnScope ["_law_deck_here", "_law_most", "_law_nodes", "_law_pairs_here", "_law_kind", "_law_found", "_law_k", "_law_pair"] ["_law_deck_here", "_law_most"] (defScope st_law_net) := ⟨rfl, rfl, rfl, by decide +kernel, rfl, by decide +kernel, by decide +kernel⟩
def rd_law_net (C : Ct) (p_law_next : DSp) (p_law_pairs : DSp) (EX : QXe) : TSd :=
  (sSeq (sAsg (.nm 2) (dBin oIx (dNew (nLst (dCons (dBin oAdd (dC (.int 1)) (dCall p_law_next EX0 (dCons (dVar 0) (dCons (dC (.int 7)) dNil)))) (dCons (dC (.int 4)) (dCons (dC (.int 5)) (dCons (dC (.int 7)) dNil)))))) (dCall p_law_next EX0 (dCons (dVar 0) (dCons (dC (.int 4)) dNil)))))
  (sSeq (sPar3N 3 4 5 (dCall p_law_pairs EX0 (dCons (dVar 2) dNil)) (dCall p_law_next EX0 (dCons (dVar 0) (dCons (dC (.int 4)) dNil))) (nLst dNil))
  (sSeq (sIf (dAnd (dTst (dBin (oEq id) (dVar 4) (dC (.int 0)))) (dTst (dBin oGt (dVar 2) (dC (.int 2)))))
  (sSetN 5 (nCat (dNew (nLc (.nm 6) dYes (dN oTup (dCons (dVar 6) (dCons (dBin oAdd (dVar 6) (dC (.int 1))) dNil))) [6] (iRg1 (dBin oSub (dVar 2) (dC (.int 1)))))) (dNew (nLst (dCons (dN oTup (dCons (dC (.int 0)) (dCons (dBin oSub (dVar 2) (dC (.int 1))) dNil))) dNil)))))
  sNext)
  (sSeq (sIf (dTst (dBin (oEq id) (dVar 4) (dC (.int 1))))
  (sSetN 5 (nLc (.nm 6) dYes (dN oTup (dCons (dCall p_law_next EX0 (dCons (dVar 0) (dCons (dVar 6) dNil))) (dCons (dVar 6) dNil))) [6] (iRg2 (dC (.int 1)) (dVar 2))))
  sNext)
  (sSeq (sFor (.nm 6) (iRg1 (dBin oMul (dBin oIx (dNew (nLst (dCons (dVar 1) (dCons (dCall p_law_next EX0 (dCons (dVar 0) (dCons (dBin oAdd (dVar 1) (dC (.int 1))) dNil))) dNil)))) (dCall p_law_next EX0 (dCons (dVar 0) (dCons (dC (.int 2)) dNil)))) (dN (oN1 fInt) (dCons (dBin oGt (dVar 2) (dC (.int 1))) dNil))))
  (sSeq (sAsg (.nm 7) (dBin oIx (dVar 3) (dCall p_law_next EX0 (dCons (dVar 0) (dCons (dN oLen (dCons (dVar 3) dNil)) dNil)))))
  (sIf (dTst (dBin (oIn not) (dVar 7) (dVar 5)))
  (sApp (dVar 5) (dVar 7))
  sNext)))
  (sKeep 5 (sRet (dN oTup (dCons (dVar 2) (dCons (dNew (nSort (dSl (dVar 5) dNo (dPart (dVar 1))))) dNil))))))))))
theorem wk_law_net (T : Txt K mg C) {K0 : Nat} {p_law_next : DSp} {k_law_next : Nat} {p_law_pairs : DSp} {k_law_pairs : Nat} {p : DSp} (mono : MonoP p) (len : ∀ ds m Q E, p ds m Q E → ds.length = 2) (c_law_next : FnC P w K mg base C "_law_next" k_law_next ["_law_deck_here", "_law_many"] p_law_next) (h_law_next : k_law_next ≤ K0) (c_law_pairs : FnC P w K mg base C "_law_pairs" k_law_pairs ["_law_nodes"] p_law_pairs) (h_law_pairs : k_law_pairs ≤ K0)
    (F : FunD K "_law_net" "_law_net" (defArgs st_law_net) (defBody st_law_net) (defScope st_law_net) [] [] (He.fAd K ("_law_net", none)) (fdA K ("_law_net", none)))
    (law : ∀ ds m (Q : QD) (E : QX), p ds m Q E → rd_law_net C p_law_next p_law_pairs (fun c xs _ m => E c xs m) { nx := fun _ m => Q .non m, rt := Q } (env0 8 ds) m) : DF P w K mg base C (K0 + 1) (He.fAd K ("_law_net", none)) (fdA K ("_law_net", none)) ["_law_deck_here", "_law_most"] p := by
  refine df_of (k := K0) (d := rd_law_net C p_law_next p_law_pairs) F sc_law_net mono len ?_ law
  intro cdv A outer s H E B EX hr tk
  exact (dss_cons (ds_setV sc_law_net.nd (de_ix ix_D (DN.de (dn_lst (da_cons (de_bin op_addD de_int (de_fn c_law_next hr (by omega) (da_cons (de_var 0) (da_cons de_int da_nil)) passD0)) (da_cons de_int (da_cons de_int (da_cons de_int da_nil)))))) (de_fn c_law_next hr (by omega) (da_cons (de_var 0) (da_cons de_int da_nil)) passD0)))
  (dss_cons (ds_par3N rfl sc_law_net.nd rfl rfl rfl (by decide) (by decide) (by decide) rfl rfl rfl (de_fn c_law_pairs hr (by omega) (da_cons (de_var 2) da_nil) passD0) (de_fn c_law_next hr (by omega) (da_cons (de_var 0) (da_cons de_int da_nil)) passD0) (dn_lst da_nil) (by rfl))
  (dss_cons (ds_if (DW.dt (dw_and (dt_cmp (op_eqR hr) (de_var 4) de_int) (dw_and1 (dt_cmp op_gtD (de_var 2) de_int)))) (dss_one (ds_setNV sc_law_net.nd (dn_cat (DN.de (dn_comp [("_law_k", 6)] rfl sc_law_net.nd (di_range1 rfl T.f_range (de_bin op_subD (de_var 2) de_int)) (fun _ _ _ _ _ => (tg_v sc_law_net.nd)) (fun _ _ _ _ _ => dts_nil) (fun _ _ _ _ _ => (de_tup (da_cons (de_var 6) (da_cons (de_bin op_addD (de_var 6) de_int) da_nil)))) (blkB_ok (by kernel_rfl)) (by decide))) (DN.de (dn_lst (da_cons (de_tup (da_cons de_int (da_cons (de_bin op_subD (de_var 2) de_int) da_nil))) da_nil)))))) dss_nil)
  (dss_cons (ds_if (dt_cmp (op_eqR hr) (de_var 4) de_int) (dss_one (ds_setCN [("_law_k", 6)] rfl sc_law_net.nd (di_range2 rfl T.f_range de_int (de_var 2)) (fun _ _ _ _ _ => (tg_v sc_law_net.nd)) (fun _ _ _ _ _ => dts_nil) (fun _ _ _ _ _ => (de_tup (da_cons (de_fn c_law_next hr (by omega) (da_cons (de_var 0) (da_cons (de_var 6) da_nil)) passD0) (da_cons (de_var 6) da_nil)))) (blkB_ok (by kernel_rfl)) (by decide))) dss_nil)
  (dss_cons (ds_for (passes_of rfl) rfl (di_range1 rfl T.f_range (de_bin op_mulD (de_ix ix_D (DN.de (dn_lst (da_cons (de_var 1) (da_cons (de_fn c_law_next hr (by omega) (da_cons (de_var 0) (da_cons (de_bin op_addD (de_var 1) de_int) da_nil)) passD0) da_nil)))) (de_fn c_law_next hr (by omega) (da_cons (de_var 0) (da_cons de_int da_nil)) passD0)) (de_t call_intD T.f_int boot_int (da_cons (de_cmp op_gtD (de_var 2) de_int) da_nil)))) (tg_v sc_law_net.nd) (dss_cons (ds_setV sc_law_net.nd (de_ix ix_D (de_var 3) (de_fn c_law_next hr (by omega) (da_cons (de_var 0) (da_cons (de_b call_lenD T.f_len boot_len (da_cons (de_var 3) da_nil)) da_nil)) passD0)))
  (dss_one (ds_if (dt_cmp (op_ninR hr) (de_var 7) (de_var 5)) (dss_one (ds_app (de_var 5) (de_var 7))) dss_nil))))
  (dss_one (ds_keep 5 (ds_ret (de_tup (da_cons (de_var 2) (da_cons (DN.de (dn_sortedR hr T.ns T.f_sorted (de_sl (de_var 5) do_none (do_some (de_var 1))))) da_nil)))))))))))

abbrev st_law_same : Stmt := (top 20)
theorem sc_law_same : FnScope ["_law_found", "_law_due_here", "_law_one", "_law_other"] ["_law_found", "_law_due_here"] (defScope st_law_same) := ⟨rfl, rfl, rfl, by decide +kernel, rfl, by decide +kernel, by decide +kernel⟩
def rd_law_same (C : Ct) (p_law_same : DSp) (EX : QXe) : TSd :=
  (sSeq (sIf (dTst (dN (oIsi C) (dCons (dVar 1) (dCons (dN oTup (dCons (dC (.ty "tuple")) (dCons (dC (.ty "list")) dNil))) dNil))))
  (sSeq (sIf (dOr (dTst (dBin (oEq not) (dN (oIsi C) (dCons (dVar 1) (dCons (dC (.ty "tuple")) dNil))) (dN (oIsi C) (dCons (dVar 0) (dCons (dC (.ty "tuple")) dNil))))) (dTst (dBin (oEq not) (dN (oIsi C) (dCons (dVar 1) (dCons (dC (.ty "list")) dNil))) (dN (oIsi C) (dCons (dVar 0) (dCons (dC (.ty "list")) dNil))))))
  (sRet (dC (.bl false)))
  sNext)
  (sRet (dAndV (dBin (oEq id) (dN oLen (dCons (dVar 0) dNil)) (dN oLen (dCons (dVar 1) dNil))) (dN (oBs fun bs => bs.all id) (dCons (dNew (nLc (.tp [2, 3]) dYes (dCall p_law_same EX0 (dCons (dVar 2) (dCons (dVar 3) dNil))) [2, 3] (iZipD (dVar 0) (dVar 1)))) dNil)))))
  sNext)
  (sSeq (sIf (dTst (dBin (oIsN id) (dVar 1) (dC .non)))
  (sRet (dBin (oIsN id) (dVar 0) (dC .non)))
  sNext)
  (sSeq (sIf (dTst (dN (oIsi C) (dCons (dVar 1) (dCons (dC (.ty "str")) dNil))))
  (sRet (dAndV (dN (oIsi C) (dCons (dVar 0) (dCons (dC (.ty "str")) dNil))) (dBin (oEq id) (dVar 0) (dVar 1))))
  sNext)
  (sSeq (sIf (dOr (dTst (dN (oIsi C) (dCons (dVar 1) (dCons (dC (.ty "bool")) dNil)))) (dTst (dN (oIsi C) (dCons (dVar 0) (dCons (dC (.ty "bool")) dNil)))))
  (sRet (dAndV (dN (oIsi C) (dCons (dVar 0) (dCons (dC (.ty "bool")) dNil))) (dAndV (dN (oIsi C) (dCons (dVar 1) (dCons (dC (.ty "bool")) dNil))) (dBin (oEq id) (dVar 0) (dVar 1)))))
  sNext)
  (sSeq (sIf (dTst (dN (oIsi C) (dCons (dVar 1) (dCons (dC (.ty "int")) dNil))))
  (sRet (dAndV (dN (oIsi C) (dCons (dVar 0) (dCons (dC (.ty "int")) dNil))) (dBin (oEq id) (dVar 0) (dVar 1))))
  sNext)
  (sRet (dAndV (dN (oIsi C) (dCons (dVar 1) (dCons (dC (.ty "dict")) dNil))) (dAndV (dN (oIsi C) (dCons (dVar 0) (dCons (dC (.ty "dict")) dNil))) (dBin (oEq id) (dN oRepr (dCons (dVar 0) dNil)) (dN oRepr (dCons (dVar 1) dNil)))))))))))
theorem wk_law_same (T : Txt K mg C) {K0 : Nat} {p_law_same : DSp} {k_law_same : Nat} {p : DSp} (mono : MonoP p) (len : ∀ ds m Q E, p ds m Q E → ds.length = 2) (c_law_same : FnCG P w K mg base C "_law_same" k_law_same ["_law_found", "_law_due_here"] p_law_same) (h_law_same : k_law_same ≤ K0)
    (F : FunD K "_law_same" "_law_same" (defArgs st_law_same) (defBody st_law_same) (defScope st_law_same) [] [] (He.fAd K ("_law_same", none)) (fdA K ("_law_same", none)))
    (law : ∀ ds m (Q : QD) (E : QX), p ds m Q E → rd_law_same C p_law_same (fun c xs _ m => E c xs m) { nx := fun _ m => Q .non m, rt := Q } (env0 4 ds) m) : DG P w K mg base C (K0 + 1) (He.fAd K ("_law_same", none)) (fdA K ("_law_same", none)) ["_law_found", "_law_due_here"] p := by
  refine dg_of (k := K0) (d := rd_law_same C p_law_same) F sc_law_same mono len ?_ law
  intro cdv A outer s H E B EX hrg tk
  have hr := hrg.room
  have gd := hrg.gd
  exact (dss_cons (ds_if (dt_val (de_b (call_isiD T.ct) T.f_isinstance boot_isinstance (da_cons (de_var 1) (da_cons (de_tup (da_cons (de_tyN T.f_tuple boot_tuple) (da_cons (de_tyN T.f_list boot_list) da_nil))) da_nil)))) (dss_cons (ds_if (DW.dt (dw_or (dt_cmp (op_neR hr) (de_b (call_isiD T.ct) T.f_isinstance boot_isinstance (da_cons (de_var 1) (da_cons (de_tyN T.f_tuple boot_tuple) da_nil))) (de_b (call_isiD T.ct) T.f_isinstance boot_isinstance (da_cons (de_var 0) (da_cons (de_tyN T.f_tuple boot_tuple) da_nil)))) (dw_or1 (dt_cmp (op_neR hr) (de_b (call_isiD T.ct) T.f_isinstance boot_isinstance (da_cons (de_var 1) (da_cons (de_tyN T.f_list boot_list) da_nil))) (de_b (call_isiD T.ct) T.f_isinstance boot_isinstance (da_cons (de_var 0) (da_cons (de_tyN T.f_list boot_list) da_nil))))))) (dss_one (ds_ret de_bl)) dss_nil)
  (dss_one (ds_ret (de_and (de_cmp (op_eqR hr) (de_b call_lenD T.f_len boot_len (da_cons (de_var 0) da_nil)) (de_b call_lenD T.f_len boot_len (da_cons (de_var 1) da_nil))) (de_one (de_b (call_allD rfl) T.f_all boot_all (da_cons (DN.de (dn_comp [("_law_one", 2), ("_law_other", 3)] rfl sc_law_same.nd (di_zip rfl T.f_zip (de_var 0) (de_var 1)) (fun _ _ _ _ _ => (tg_tp rfl (tgs_v sc_law_same.nd (tgs_v sc_law_same.nd tgs_nil)))) (fun _ _ _ _ _ => dts_nil) (fun _ _ _ _ _ => (de_fnG c_law_same hrg (by omega) (da_cons (de_var 2) (da_cons (de_var 3) da_nil)) passD0)) (blkB_ok (by kernel_rfl)) (by decide))) da_nil))))))) dss_nil)
  (dss_cons (ds_if (dt_cmp op_isNd (de_var 1) de_non) (dss_one (ds_ret (de_cmp op_isNd (de_var 0) de_non))) dss_nil)
  (dss_cons (ds_if (dt_val (de_b (call_isiD T.ct) T.f_isinstance boot_isinstance (da_cons (de_var 1) (da_cons (de_tyN T.f_str boot_str) da_nil)))) (dss_one (ds_ret (de_and (de_b (call_isiD T.ct) T.f_isinstance boot_isinstance (da_cons (de_var 0) (da_cons (de_tyN T.f_str boot_str) da_nil))) (de_one (de_cmp (op_eqR hr) (de_var 0) (de_var 1)))))) dss_nil)
  (dss_cons (ds_if (DW.dt (dw_or (dt_val (de_b (call_isiD T.ct) T.f_isinstance boot_isinstance (da_cons (de_var 1) (da_cons (de_tyN T.f_bool boot_bool) da_nil)))) (dw_or1 (dt_val (de_b (call_isiD T.ct) T.f_isinstance boot_isinstance (da_cons (de_var 0) (da_cons (de_tyN T.f_bool boot_bool) da_nil))))))) (dss_one (ds_ret (de_and (de_b (call_isiD T.ct) T.f_isinstance boot_isinstance (da_cons (de_var 0) (da_cons (de_tyN T.f_bool boot_bool) da_nil))) (de_and (de_b (call_isiD T.ct) T.f_isinstance boot_isinstance (da_cons (de_var 1) (da_cons (de_tyN T.f_bool boot_bool) da_nil))) (de_one (de_cmp (op_eqR hr) (de_var 0) (de_var 1))))))) dss_nil)
  (dss_cons (ds_if (dt_val (de_b (call_isiD T.ct) T.f_isinstance boot_isinstance (da_cons (de_var 1) (da_cons (de_tyN T.f_int boot_int) da_nil)))) (dss_one (ds_ret (de_and (de_b (call_isiD T.ct) T.f_isinstance boot_isinstance (da_cons (de_var 0) (da_cons (de_tyN T.f_int boot_int) da_nil))) (de_one (de_cmp (op_eqR hr) (de_var 0) (de_var 1)))))) dss_nil)
  (dss_one (ds_ret (de_and (de_b (call_isiD T.ct) T.f_isinstance boot_isinstance (da_cons (de_var 1) (da_cons (de_tyN T.f_dict boot_dict) da_nil))) (de_and (de_b (call_isiD T.ct) T.f_isinstance boot_isinstance (da_cons (de_var 0) (da_cons (de_tyN T.f_dict boot_dict) da_nil))) (de_one (de_cmp (op_eqR hr) (de_b (reprR hr gd T.ns) T.f_repr boot_repr (da_cons (de_var 0) da_nil)) (de_b (reprR hr gd T.ns) T.f_repr boot_repr (da_cons (de_var 1) da_nil)))))))))))))

abbrev st_law_whole : Stmt := (top 21)
theorem sc_law_whole : FnScope ["_law_value"] ["_law_value"] (defScope st_law_whole) := ⟨rfl, rfl, rfl, by decide +kernel, rfl, by decide +kernel, by decide +kernel⟩
def rd_law_whole (C : Ct)  (EX : QXe) : TSd :=
  (sRet (dAndV (dN (oIsi C) (dCons (dVar 0) (dCons (dC (.ty "int")) dNil))) (dNotV (dN (oIsi C) (dCons (dVar 0) (dCons (dC (.ty "bool")) dNil))))))
theorem wk_law_whole (T : Txt K mg C) {K0 : Nat} {p : DSp} (mono : MonoP p) (len : ∀ ds m Q E, p ds m Q E → ds.length = 1)
    (F : FunD K "_law_whole" "_law_whole" (defArgs st_law_whole) (defBody st_law_whole) (defScope st_law_whole) [] [] (He.fAd K ("_law_whole", none)) (fdA K ("_law_whole", none)))
    (law : ∀ ds m (Q : QD) (E : QX), p ds m Q E → rd_law_whole C  (fun c xs _ m => E c xs m) { nx := fun _ m => Q .non m, rt := Q } (env0 1 ds) m) : DF P w K mg base C (K0 + 1) (He.fAd K ("_law_whole", none)) (fdA K ("_law_whole", none)) ["_law_value"] p := by
  refine df_of (k := K0) (d := rd_law_whole C ) F sc_law_whole mono len ?_ law
  intro cdv A outer s H E B EX hr tk
  exact (dss_one (ds_ret (de_and (de_b (call_isiD T.ct) T.f_isinstance boot_isinstance (da_cons (de_var 0) (da_cons (de_tyN T.f_int boot_int) da_nil))) (de_one (de_not (de_b (call_isiD T.ct) T.f_isinstance boot_isinstance (da_cons (de_var 0) (da_cons (de_tyN T.f_bool boot_bool) da_nil))))))))

abbrev st_law_odd : Stmt := (top 22)
theorem sc_law_odd : FnScope ["_law_deck_here", "_law_link", "_law_some"] ["_law_deck_here", "_law_link"] (defScope st_law_odd) := ⟨rfl, rfl, rfl, by decide +kernel, rfl, by decide +kernel, by decide +kernel⟩
def rd_law_odd (C : Ct) (p_law_next : DSp) (EX : QXe) : TSd :=
  (sSeq (sAsg (.nm 2) (dNew (nLst (dCons (dC .non) (dCons (dC (.bl true)) (dCons (dC (.bl false)) (dCons (dC (.int 0)) (dCons (dC (.int 1)) (dCons (dC (.int 2)) (dCons (dUn (oU fun i => -i) (dC (.int 1))) (dCons (dBin oPow (dC (.int 10)) (dC (.int 30))) (dCons (dC (.str "")) (dCons (dC (.str "0")) (dCons (dC (.str "01")) (dCons (dN oTup dNil) (dCons (dNew (nLst dNil)) (dCons (dC (.dct [])) (dCons (dN oTup (dCons (dC (.int 0)) dNil)) (dCons (dN oTup (dCons (dC (.int 0)) (dCons (dC (.int 1)) dNil))) (dCons (dNew (nLst (dCons (dC (.int 0)) (dCons (dC (.int 1)) dNil)))) (dCons (dN oTup (dCons (dC (.int 1)) (dCons (dC (.int 0)) dNil))) (dCons (dN oTup (dCons (dC (.int 0)) (dCons (dC (.int 0)) dNil))) dNil))))))))))))))))))))))
  (sSeq (sAsg (.nm 2) (dNew (nCat (dVar 2) (dNew (nLst (dCons (dN oTup (dCons (dC (.int 0)) (dCons (dC (.bl true)) dNil))) (dCons (dN oTup (dCons (dC (.bl false)) (dCons (dC (.int 1)) dNil))) (dCons (dN oTup (dCons (dC (.int 0)) (dCons (dC .non) dNil))) (dCons (dN oTup (dCons (dC (.int 0)) (dCons (dC (.str "1")) dNil))) (dCons (dN oTup (dCons (dC (.int 0)) (dCons (dC (.int 1)) (dCons (dC (.int 2)) dNil)))) (dCons (dN oTup (dCons (dC (.int 0)) (dCons (dUn (oU fun i => -i) (dC (.int 1))) dNil))) (dCons (dN oTup (dCons (dC (.int 0)) (dCons (dC (.int 7)) dNil))) (dCons (dN oTup (dCons (dN oTup (dCons (dC (.int 0)) (dCons (dC (.int 1)) dNil))) dNil)) (dCons (dN oTup (dCons (dN oTup (dCons (dC (.int 0)) (dCons (dC (.int 1)) dNil))) (dCons (dC (.int 0)) dNil))) dNil))))))))))))))
  (sSeq (sAsg (.nm 2) (dNew (nCat (dVar 2) (dNew (nLst (dCons (dVar 1) (dCons (dNew (nList (dVar 1))) (dCons (dBack (dVar 1)) (dCons (dBin oAdd (dVar 1) (dVar 1)) (dCons (dN oTup (dCons (dVar 1) dNil)) (dCons (dDct1 0 (dC (.int 1))) (dCons (dN oTup (dCons (dBin oIx (dVar 1) (dC (.int 0))) (dCons (dBin oIx (dVar 1) (dC (.int 0))) dNil))) (dCons (dN oTup (dCons (dC (.int 0)) (dCons (dNew (nLst (dCons (dC (.int 1)) dNil))) dNil))) (dCons (dN oTup (dCons (dC (.int 0)) (dCons (dC (.dct [])) dNil))) dNil))))))))))))))
  (sRet (dBin oIx (dVar 2) (dCall p_law_next EX0 (dCons (dVar 0) (dCons (dN oLen (dCons (dVar 2) dNil)) dNil))))))))
theorem wk_law_odd (T : Txt K mg C) {K0 : Nat} {p_law_next : DSp} {k_law_next : Nat} {p : DSp} (mono : MonoP p) (len : ∀ ds m Q E, p ds m Q E → ds.length = 2) (c_law_next : FnC P w K mg base C "_law_next" k_law_next ["_law_deck_here", "_law_many"] p_law_next) (h_law_next : k_law_next ≤ K0)
    (F : FunD K "_law_odd" "_law_odd" (defArgs st_law_odd) (defBody st_law_odd) (defScope st_law_odd) [] [] (He.fAd K ("_law_odd", none)) (fdA K ("_law_odd", none)))
    (law : ∀ ds m (Q : QD) (E : QX), p ds m Q E → rd_law_odd C p_law_next (fun c xs _ m => E c xs m) { nx := fun _ m => Q .non m, rt := Q } (env0 3 ds) m) : DF P w K mg base C (K0 + 1) (He.fAd K ("_law_odd", none)) (fdA K ("_law_odd", none)) ["_law_deck_here", "_law_link"] p := by
  refine df_of (k := K0) (d := rd_law_odd C p_law_next) F sc_law_odd mono len ?_ law
  intro cdv A outer s H E B EX hr tk
  exact (dss_cons (ds_setV sc_law_odd.nd (DN.de (dn_lst (da_cons de_non (da_cons de_bl (da_cons de_bl (da_cons de_int (da_cons de_int (da_cons de_int (da_cons (de_un un_negD de_int) (da_cons (de_bin op_powD de_int de_int) (da_cons de_str (da_cons de_str (da_cons de_str (da_cons (de_tup da_nil) (da_cons (DN.de (dn_lst da_nil)) (da_cons de_dct0 (da_cons (de_tup (da_cons de_int da_nil)) (da_cons (de_tup (da_cons de_int (da_cons de_int da_nil))) (da_cons (DN.de (dn_lst (da_cons de_int (da_cons de_int da_nil)))) (da_cons (de_tup (da_cons de_int (da_cons de_int da_nil))) (da_cons (de_tup (da_cons de_int (da_cons de_int da_nil))) da_nil))))))))))))))))))))))
  (dss_cons (ds_setV sc_law_odd.nd (DN.de (dn_cat (de_var 2) (DN.de (dn_lst (da_cons (de_tup (da_cons de_int (da_cons de_bl da_nil))) (da_cons (de_tup (da_cons de_bl (da_cons de_int da_nil))) (da_cons (de_tup (da_cons de_int (da_cons de_non da_nil))) (da_cons (de_tup (da_cons de_int (da_cons de_str da_nil))) (da_cons (de_tup (da_cons de_int (da_cons de_int (da_cons de_int da_nil)))) (da_cons (de_tup (da_cons de_int (da_cons (de_un un_negD de_int) da_nil))) (da_cons (de_tup (da_cons de_int (da_cons de_int da_nil))) (da_cons (de_tup (da_cons (de_tup (da_cons de_int (da_cons de_int da_nil))) da_nil)) (da_cons (de_tup (da_cons (de_tup (da_cons de_int (da_cons de_int da_nil))) (da_cons de_int da_nil))) da_nil))))))))))))))
  (dss_cons (ds_setV sc_law_odd.nd (DN.de (dn_cat (de_var 2) (DN.de (dn_lst (da_cons (de_var 1) (da_cons (DN.de (dn_list rfl T.f_list boot_list (de_var 1))) (da_cons (de_back (de_var 1)) (da_cons (de_bin op_addD (de_var 1) (de_var 1)) (da_cons (de_tup (da_cons (de_var 1) da_nil)) (da_cons (de_dct1 de_int) (da_cons (de_tup (da_cons (de_ix ix_D (de_var 1) de_int) (da_cons (de_ix ix_D (de_var 1) de_int) da_nil))) (da_cons (de_tup (da_cons de_int (da_cons (DN.de (dn_lst (da_cons de_int da_nil))) da_nil))) (da_cons (de_tup (da_cons de_int (da_cons de_dct0 da_nil))) da_nil))))))))))))))
  (dss_one (ds_ret (de_ix ix_D (de_var 2) (de_fn c_law_next hr (by omega) (da_cons (de_var 0) (da_cons (de_b call_lenD T.f_len boot_len (da_cons (de_var 2) da_nil)) da_nil)) passD0)))))))

abbrev st_law_due : Stmt := (top 23)
theorem sc_law_due : FnScope ["_law_nodes", "_law_links", "_law_seen", "_law_k", "_law_link", "_law_node"] ["_law_nodes", "_law_links"] (defScope st_law_due) := ⟨rfl, rfl, rfl, by decide +kernel, rfl, by decide +kernel, by decide +kernel⟩
def rd_law_due (C : Ct) (p_law_whole : DSp) (EX : QXe) : TSd :=
  (sSeq (sIf (dOr (dNot (dTst (dCall p_law_whole EX0 (dCons (dVar 0) dNil)))) (dOr (dTst (dBin oLt (dVar 0) (dC (.int 1)))) (dTst (dBin oGt (dVar 0) (dC (.int 7))))))
  (sRet (dN oTup (dCons (dC .non) (dCons (dC (.str "nodes")) dNil))))
  sNext)
  (sSeq (sIf (dOr (dNot (dTst (dN (oIsi C) (dCons (dVar 1) (dCons (dC (.ty "tuple")) dNil))))) (dTst (dBin oGt (dN oLen (dCons (dVar 1) dNil)) (dC (.int 8)))))
  (sRet (dN oTup (dCons (dC .non) (dCons (dC (.str "links")) dNil))))
  sNext)
  (sSeq (sSetN 2 (nLst dNil))
  (sSeq (sFor (.nm 3) (iRg1 (dN oLen (dCons (dVar 1) dNil)))
  (sSeq (sAsg (.nm 4) (dBin oIx (dVar 1) (dVar 3)))
  (sSeq (sIf (dOr (dNot (dTst (dN (oIsi C) (dCons (dVar 4) (dCons (dC (.ty "tuple")) dNil))))) (dOr (dTst (dBin (oEq not) (dN oLen (dCons (dVar 4) dNil)) (dC (.int 2)))) (dNot (dTst (dN (oBs fun bs => bs.all id) (dCons (dNew (nLc (.nm 5) dYes (dCall p_law_whole EX0 (dCons (dVar 5) dNil)) [5] (iVal (dVar 4)))) dNil))))))
  (sRet (dN oTup (dCons (dVar 3) (dCons (dC (.str "link")) dNil))))
  sNext)
  (sSeq (sIf (dOr (dTst (dBin oLt (dN (oIs minI fun ns => 0 < ns.length) (dCons (dVar 4) dNil)) (dC (.int 0)))) (dOr (dTst (dBin oGe (dN (oIs maxI fun ns => 0 < ns.length) (dCons (dVar 4) dNil)) (dVar 0))) (dTst (dBin (oEq id) (dBin oIx (dVar 4) (dC (.int 0))) (dBin oIx (dVar 4) (dC (.int 1)))))))
  (sRet (dN oTup (dCons (dVar 3) (dCons (dC (.str "link")) dNil))))
  sNext)
  (sSeq (sIf (dTst (dBin (oIn id) (dNew (nLst (dCons (dN (oIs minI fun ns => 0 < ns.length) (dCons (dVar 4) dNil)) (dCons (dN (oIs maxI fun ns => 0 < ns.length) (dCons (dVar 4) dNil)) dNil)))) (dVar 2)))
  (sRet (dN oTup (dCons (dVar 3) (dCons (dC (.str "again")) dNil))))
  sNext)
  (sApp (dVar 2) (dNew (nLst (dCons (dN (oIs minI fun ns => 0 < ns.length) (dCons (dVar 4) dNil)) (dCons (dN (oIs maxI fun ns => 0 < ns.length) (dCons (dVar 4) dNil)) dNil))))))))))
  (sRet (dC .non))))))
theorem wk_law_due (T : Txt K mg C) {K0 : Nat} {p_law_whole : DSp} {k_law_whole : Nat} {p : DSp} (mono : MonoP p) (len : ∀ ds m Q E, p ds m Q E → ds.length = 2) (c_law_whole : FnC P w K mg base C "_law_whole" k_law_whole ["_law_value"] p_law_whole) (h_law_whole : k_law_whole ≤ K0)
    (F : FunD K "_law_due" "_law_due" (defArgs st_law_due) (defBody st_law_due) (defScope st_law_due) [] [] (He.fAd K ("_law_due", none)) (fdA K ("_law_due", none)))
    (law : ∀ ds m (Q : QD) (E : QX), p ds m Q E → rd_law_due C p_law_whole (fun c xs _ m => E c xs m) { nx := fun _ m => Q .non m, rt := Q } (env0 6 ds) m) : DF P w K mg base C (K0 + 1) (He.fAd K ("_law_due", none)) (fdA K ("_law_due", none)) ["_law_nodes", "_law_links"] p := by
  refine df_of (k := K0) (d := rd_law_due C p_law_whole) F sc_law_due mono len ?_ law
  intro cdv A outer s H E B EX hr tk
  exact (dss_cons (ds_if (DW.dt (dw_or (dt_not (dt_val (de_fn c_law_whole hr (by omega) (da_cons (de_var 0) da_nil) passD0))) (dw_or (dt_cmp op_ltD (de_var 0) de_int) (dw_or1 (dt_cmp op_gtD (de_var 0) de_int))))) (dss_one (ds_ret (de_tup (da_cons de_non (da_cons de_str da_nil))))) dss_nil)
  (dss_cons (ds_if (DW.dt (dw_or (dt_not (dt_val (de_b (call_isiD T.ct) T.f_isinstance boot_isinstance (da_cons (de_var 1) (da_cons (de_tyN T.f_tuple boot_tuple) da_nil))))) (dw_or1 (dt_cmp op_gtD (de_b call_lenD T.f_len boot_len (da_cons (de_var 1) da_nil)) de_int)))) (dss_one (ds_ret (de_tup (da_cons de_non (da_cons de_str da_nil))))) dss_nil)
  (dss_cons (ds_setNV sc_law_due.nd (dn_lst da_nil))
  (dss_cons (ds_for (passes_of rfl) rfl (di_range1 rfl T.f_range (de_b call_lenD T.f_len boot_len (da_cons (de_var 1) da_nil))) (tg_v sc_law_due.nd) (dss_cons (ds_setV sc_law_due.nd (de_ix ix_D (de_var 1) (de_var 3)))
  (dss_cons (ds_if (DW.dt (dw_or (dt_not (dt_val (de_b (call_isiD T.ct) T.f_isinstance boot_isinstance (da_cons (de_var 4) (da_cons (de_tyN T.f_tuple boot_tuple) da_nil))))) (dw_or (dt_cmp (op_neR hr) (de_b call_lenD T.f_len boot_len (da_cons (de_var 4) da_nil)) de_int) (dw_or1 (dt_not (dt_val (de_b (call_allD rfl) T.f_all boot_all (da_cons (DN.de (dn_comp [("_law_node", 5)] rfl sc_law_due.nd (di_val (de_var 4)) (fun _ _ _ _ _ => (tg_v sc_law_due.nd)) (fun _ _ _ _ _ => dts_nil) (fun _ _ _ _ _ => (de_fn c_law_whole hr (by omega) (da_cons (de_var 5) da_nil) passD0)) (blkB_ok (by kernel_rfl)) (by decide))) da_nil)))))))) (dss_one (ds_ret (de_tup (da_cons (de_var 3) (da_cons de_str da_nil))))) dss_nil)
  (dss_cons (ds_if (DW.dt (dw_or (dt_cmp op_ltD (de_b (call_minD rfl) T.f_min boot_min (da_cons (de_var 4) da_nil)) de_int) (dw_or (dt_cmp op_geD (de_b (call_maxD rfl) T.f_max boot_max (da_cons (de_var 4) da_nil)) (de_var 0)) (dw_or1 (dt_cmp (op_eqR hr) (de_ix ix_D (de_var 4) de_int) (de_ix ix_D (de_var 4) de_int)))))) (dss_one (ds_ret (de_tup (da_cons (de_var 3) (da_cons de_str da_nil))))) dss_nil)
  (dss_cons (ds_if (dt_cmp (op_inR hr) (DN.de (dn_lst (da_cons (de_b (call_minD rfl) T.f_min boot_min (da_cons (de_var 4) da_nil)) (da_cons (de_b (call_maxD rfl) T.f_max boot_max (da_cons (de_var 4) da_nil)) da_nil)))) (de_var 2)) (dss_one (ds_ret (de_tup (da_cons (de_var 3) (da_cons de_str da_nil))))) dss_nil)
  (dss_one (ds_app (de_var 2) (DN.de (dn_lst (da_cons (de_b (call_minD rfl) T.f_min boot_min (da_cons (de_var 4) da_nil)) (da_cons (de_b (call_maxD rfl) T.f_max boot_max (da_cons (de_var 4) da_nil)) da_nil)))))))))))
  (dss_one (ds_ret de_non))))))

abbrev st_law_bent : Stmt := (top 24)
theorem sc_law_bent : FnScope ["_law_deck_here", "_law_links", "_law_at", "_law_kind", "_law_link", "_law_rest", "_law_some", "_law_k"] ["_law_deck_here", "_law_links"] (defScope st_law_bent) := ⟨rfl, rfl, rfl, by decide +kernel, rfl, by decide +kernel, by decide +kernel⟩
def rd_law_bent (C : Ct) (p_law_next : DSp) (p_law_odd : DSp) (EX : QXe) : TSd :=
  (sSeq (sPar 2 3 (dCall p_law_next EX0 (dCons (dVar 0) (dCons (dBin oAdd (dN oLen (dCons (dVar 1) dNil)) (dC (.int 1))) dNil))) (dCall p_law_next EX0 (dCons (dVar 0) (dCons (dC (.int 7)) dNil))))
  (sSeq (sAsg (.nm 4) (dBin oIx (dNew (nCat (dVar 1) (dNew (nLst (dCons (dN oTup (dCons (dC (.int 0)) (dCons (dC (.int 1)) dNil))) dNil))))) (dVar 2)))
  (sSeq (sAsg (.nm 5) (dSl (dVar 1) (dPart (dBin oAdd (dVar 2) (dC (.int 1)))) dNo))
  (sSeq (sAsg (.nm 6) (dNew (nLst (dCons (dCall p_law_odd EX0 (dCons (dVar 0) (dCons (dN oTup (dCons (dC (.int 0)) (dCons (dC (.int 1)) dNil))) dNil))) (dCons (dBin oIx (dNew (nCat (dVar 1) (dNew (nLst (dCons (dN oTup (dCons (dC (.int 1)) (dCons (dC (.int 0)) dNil))) dNil))))) (dCall p_law_next EX0 (dCons (dVar 0) (dCons (dBin oAdd (dN oLen (dCons (dVar 1) dNil)) (dC (.int 1))) dNil)))) dNil)))))
  (sSeq (sIf (dTst (dBin oLt (dVar 3) (dC (.int 2))))
  (sRet (dNew (nCat (dNew (nCat (dSl (dVar 1) dNo (dPart (dVar 2))) (dNew (nLst (dCons (dBin oIx (dVar 6) (dVar 3)) dNil))))) (dVar 5))))
  sNext)
  (sSeq (sIf (dTst (dBin oLt (dVar 3) (dC (.int 4))))
  (sRet (dNew (nCat (dNew (nCat (dSl (dVar 1) dNo (dPart (dVar 2))) (dNew (nLst (dCons (dBin oIx (dVar 6) (dBin oSub (dVar 3) (dC (.int 2)))) dNil))))) (dSl (dVar 1) (dPart (dVar 2)) dNo))))
  sNext)
  (sSeq (sIf (dAnd (dTst (dBin (oEq id) (dVar 3) (dC (.int 4)))) (dTst (dN (oIsi C) (dCons (dVar 4) (dCons (dC (.ty "tuple")) dNil)))))
  (sRet (dNew (nCat (dNew (nCat (dSl (dVar 1) dNo (dPart (dVar 2))) (dNew (nLst (dCons (dBack (dVar 4)) dNil))))) (dVar 5))))
  sNext)
  (sSeq (sIf (dTst (dBin (oEq id) (dVar 3) (dC (.int 5))))
  (sRet (dBin oAdd (dSl (dVar 1) dNo (dPart (dVar 2))) (dVar 5)))
  sNext)
  (sRet (dNew (nCat (dVar 1) (dNew (nLc (.nm 7) dYes (dN oTup (dCons (dVar 7) (dCons (dBin oAdd (dVar 7) (dC (.int 1))) dNil))) [7] (iRg1 (dCall p_law_next EX0 (dCons (dVar 0) (dCons (dC (.int 9)) dNil)))))))))))))))))
theorem wk_law_bent (T : Txt K mg C) {K0 : Nat} {p_law_next : DSp} {k_law_next : Nat} {p_law_odd : DSp} {k_law_odd : Nat} {p : DSp} (mono : MonoP p) (len : ∀ ds m Q E, p ds m Q E → ds.length = 2) (c_law_next : FnC P w K mg base C "_law_next" k_law_next ["_law_deck_here", "_law_many"] p_law_next) (h_law_next : k_law_next ≤ K0) (c_law_odd : FnC P w K mg base C "_law_odd" k_law_odd ["_law_deck_here", "_law_link"] p_law_odd) (h_law_odd : k_law_odd ≤ K0)
    (F : FunD K "_law_bent" "_law_bent" (defArgs st_law_bent) (defBody st_law_bent) (defScope st_law_bent) [] [] (He.fAd K ("_law_bent", none)) (fdA K ("_law_bent", none)))
    (law : ∀ ds m (Q : QD) (E : QX), p ds m Q E → rd_law_bent C p_law_next p_law_odd (fun c xs _ m => E c xs m) { nx := fun _ m => Q .non m, rt := Q } (env0 8 ds) m) : DF P w K mg base C (K0 + 1) (He.fAd K ("_law_bent", none)) (fdA K ("_law_bent", none)) ["_law_deck_here", "_law_links"] p := by
  refine df_of (k := K0) (d := rd_law_bent C p_law_next p_law_odd) F sc_law_bent mono len ?_ law
  intro cdv A outer s H E B EX hr tk
  exact (dss_cons (ds_par rfl sc_law_bent.nd rfl rfl (by decide) rfl rfl (de_fn c_law_next hr (by omega) (da_cons (de_var 0) (da_cons (de_bin op_addD (de_b call_lenD T.f_len boot_len (da_cons (de_var 1) da_nil)) de_int) da_nil)) passD0) (de_fn c_law_next hr (by omega) (da_cons (de_var 0) (da_cons de_int da_nil)) passD0) (by rfl))
  (dss_cons (ds_setV sc_law_bent.nd (de_ix ix_D (DN.de (dn_cat (de_var 1) (DN.de (dn_lst (da_cons (de_tup (da_cons de_int (da_cons de_int da_nil))) da_nil))))) (de_var 2)))
  (dss_cons (ds_setV sc_law_bent.nd (de_sl (de_var 1) (do_some (de_bin op_addD (de_var 2) de_int)) do_none))
  (dss_cons (ds_setV sc_law_bent.nd (DN.de (dn_lst (da_cons (de_fn c_law_odd hr (by omega) (da_cons (de_var 0) (da_cons (de_tup (da_cons de_int (da_cons de_int da_nil))) da_nil)) passD0) (da_cons (de_ix ix_D (DN.de (dn_cat (de_var 1) (DN.de (dn_lst (da_cons (de_tup (da_cons de_int (da_cons de_int da_nil))) da_nil))))) (de_fn c_law_next hr (by omega) (da_cons (de_var 0) (da_cons (de_bin op_addD (de_b call_lenD T.f_len boot_len (da_cons (de_var 1) da_nil)) de_int) da_nil)) passD0)) da_nil)))))
  (dss_cons (ds_if (dt_cmp op_ltD (de_var 3) de_int) (dss_one (ds_ret (DN.de (dn_cat (DN.de (dn_cat (de_sl (de_var 1) do_none (do_some (de_var 2))) (DN.de (dn_lst (da_cons (de_ix ix_D (de_var 6) (de_var 3)) da_nil))))) (de_var 5))))) dss_nil)
  (dss_cons (ds_if (dt_cmp op_ltD (de_var 3) de_int) (dss_one (ds_ret (DN.de (dn_cat (DN.de (dn_cat (de_sl (de_var 1) do_none (do_some (de_var 2))) (DN.de (dn_lst (da_cons (de_ix ix_D (de_var 6) (de_bin op_subD (de_var 3) de_int)) da_nil))))) (de_sl (de_var 1) (do_some (de_var 2)) do_none))))) dss_nil)
  (dss_cons (ds_if (DW.dt (dw_and (dt_cmp (op_eqR hr) (de_var 3) de_int) (dw_and1 (dt_val (de_b (call_isiD T.ct) T.f_isinstance boot_isinstance (da_cons (de_var 4) (da_cons (de_tyN T.f_tuple boot_tuple) da_nil))))))) (dss_one (ds_ret (DN.de (dn_cat (DN.de (dn_cat (de_sl (de_var 1) do_none (do_some (de_var 2))) (DN.de (dn_lst (da_cons (de_back (de_var 4)) da_nil))))) (de_var 5))))) dss_nil)
  (dss_cons (ds_if (dt_cmp (op_eqR hr) (de_var 3) de_int) (dss_one (ds_ret (de_bin op_addD (de_sl (de_var 1) do_none (do_some (de_var 2))) (de_var 5)))) dss_nil)
  (dss_one (ds_ret (DN.de (dn_cat (de_var 1) (DN.de (dn_comp [("_law_k", 7)] rfl sc_law_bent.nd (di_range1 rfl T.f_range (de_fn c_law_next hr (by omega) (da_cons (de_var 0) (da_cons de_int da_nil)) passD0)) (fun _ _ _ _ _ => (tg_v sc_law_bent.nd)) (fun _ _ _ _ _ => dts_nil) (fun _ _ _ _ _ => (de_tup (da_cons (de_var 7) (da_cons (de_bin op_addD (de_var 7) de_int) da_nil)))) (blkB_ok (by kernel_rfl)) (by decide)))))))))))))))

abbrev st_law_told : Stmt := (top 25)
theorem sc_law_told : FnScope ["_law_nodes", "_law_links", "_law_found", "error"] ["_law_nodes", "_law_links"] (defScope st_law_told) := ⟨rfl, rfl, rfl, by decide +kernel, rfl, by decide +kernel, by decide +kernel⟩
def rd_law_told (C : Ct)  (p_Net_init : DSp) (EX : QXe) : TSd :=
  (sSeq (sAsg (.nm 2) (dC .non))
  (sSeq (sTry 3 tst_SpareError (fun EX' => (sDrop (dMakeF 3 2 p_Net_init EX' (dCons (dVar 0) (dCons (dVar 1) dNil))))) (fun a c xs => (sAsg (.nm 2) (dIf (dTst (dN (oIsE a c isE) (dCons (dVar 3) (dCons (dC (.cls 2)) dNil)))) (dXf a c xs fi_error (dVar 3)) (dC (.str "other"))))) EX)
  (sRet (dVar 2))))
theorem wk_law_told (T : Txt K mg C) {K0 : Nat} {p_Net_init : DSp} {k_Net : Nat} {p : DSp} (mono : MonoP p) (len : ∀ ds m Q E, p ds m Q E → ds.length = 2) (m_Net : MkC P w K mg base C "Net" 3 2 k_Net ["self", "nodes", "links"] p_Net_init) (h_Net : k_Net + 1 ≤ K0)
    (F : FunD K "_law_told" "_law_told" (defArgs st_law_told) (defBody st_law_told) (defScope st_law_told) [] [] (He.fAd K ("_law_told", none)) (fdA K ("_law_told", none)))
    (law : ∀ ds m (Q : QD) (E : QX), p ds m Q E → rd_law_told C  p_Net_init (fun c xs _ m => E c xs m) { nx := fun _ m => Q .non m, rt := Q } (env0 4 ds) m) : DF P w K mg base C (K0 + 1) (He.fAd K ("_law_told", none)) (fdA K ("_law_told", none)) ["_law_nodes", "_law_links"] p := by
  refine df_of (k := K0) (d := rd_law_told C  p_Net_init) F sc_law_told mono len ?_ law
  intro cdv A outer s H E B EX hr tk
  exact (dss_cons (ds_setV sc_law_told.nd de_non)
  (dss_cons (ds_try rfl rfl sc_law_told.nd rfl rfl ⟨rfl, by decide, Or.inl T.g_SpareError⟩ tk T.tst_SpareError (fun EX' => (by repeat (first | apply sDrop.mono | apply sAsg.mono | apply sRet.mono | apply sIf.mono | apply dMakeF.mono | apply dCall.mono | apply dIf.mono | apply dTst.mono | apply dN.mono | apply dXf.mono | apply dBin.mono | apply dCons.mono | exact dNil.mono | exact dVar.mono _ | exact dC.mono _ | exact oIsE.mono | exact oTup.mono | exact m_Net.F.mono))) (fun a c xs => (by repeat (first | apply sDrop.mono | apply sAsg.mono | apply sRet.mono | apply sIf.mono | apply dMakeF.mono | apply dCall.mono | apply dIf.mono | apply dTst.mono | apply dN.mono | apply dXf.mono | apply dBin.mono | apply dCons.mono | exact dNil.mono | exact dVar.mono _ | exact dC.mono _ | exact oIsE.mono | exact oTup.mono | exact m_Net.F.mono))) (fun pn xe B' EX' tk' hp' => (dss_one (ds_expr (de_mk m_Net rfl hr (by omega) (da_cons (de_var 0) (da_cons (de_var 1) da_nil)) (TakesD.pass tk'))))) (fun a oe d pn c vs xs B' hz hd hx => (dss_one (ds_setV sc_law_told.nd (de_ifExp (dt_val (de_isE T.isE hz hd hx rfl T.f_isinstance boot_isinstance (da_cons (de_var 3) (da_cons (de_gCls T.k_BadNet) da_nil)))) (de_xf T.xf_error hz hd hx (de_var 3)) de_str)))))
  (dss_one (ds_ret (de_var 2)))))

abbrev st_law : Stmt := (top 26)
theorem sc_law : FnScope ["_law_script", "_law_deck_here", "_law_turn", "_law_nodes", "_law_links", "_law_change", "_law_sizes", "_law_size", "_law_rows", "_law_kept", "_law_due_here"] ["_law_script"] (defScope st_law) := ⟨rfl, rfl, rfl, by decide +kernel, rfl, by decide +kernel, by decide +kernel⟩
def rd_law (C : Ct) (p_law_deck : DSp) (p_law_net : DSp) (p_law_next : DSp) (p_law_bent : DSp) (p_law_odd : DSp) (p_law_due : DSp) (p_law_same : DSp) (p_net_error : DSp) (p_law_told : DSp) (EX : QXe) : TSd :=
  (sSeq (sAsg (.nm 1) (dCall p_law_deck EX0 (dCons (dVar 0) dNil)))
  (sSeq (sFor (.nm 2) (iRg1 (dC (.int 6)))
  (sSeq (sAsg (.tp [3, 4]) (dCall p_law_net EX0 (dCons (dVar 1) (dCons (dC (.int 8)) dNil))))
  (sSeq (sFor (.nm 5) (iRg1 (dCall p_law_next EX0 (dCons (dVar 1) (dCons (dC (.int 4)) dNil))))
  (sAsg (.nm 4) (dCall p_law_bent EX0 (dCons (dVar 1) (dCons (dVar 4) dNil)))))
  (sSeq (sAsg (.nm 6) (dNew (nLst (dCons (dVar 3) (dCons (dVar 3) (dCons (dVar 3) (dCons (dVar 3) (dCons (dC (.int 7)) (dCons (dC (.int 8)) (dCons (dC (.int 0)) (dCons (dUn (oU fun i => -i) (dC (.int 1))) (dCons (dBin oSub (dVar 3) (dC (.int 1))) (dCons (dC (.bl true)) (dCons (dC .non) (dCons (dN oStr (dCons (dVar 3) dNil)) (dCons (dN oTup (dCons (dVar 3) dNil)) (dCons (dBin oPow (dC (.int 10)) (dC (.int 30))) dNil)))))))))))))))))
  (sSeq (sPar 7 8 (dBin oIx (dVar 6) (dCall p_law_next EX0 (dCons (dVar 1) (dCons (dC (.int 14)) dNil)))) (dBin oIx (dNew (nLst (dCons (dN oTuple (dCons (dVar 4) dNil)) (dCons (dN oTuple (dCons (dVar 4) dNil)) (dCons (dN oTuple (dCons (dVar 4) dNil)) (dCons (dVar 4) dNil)))))) (dCall p_law_next EX0 (dCons (dVar 1) (dCons (dC (.int 4)) dNil)))))
  (sSeq (sIf (dTst (dBin (oEq id) (dCall p_law_next EX0 (dCons (dVar 1) (dCons (dC (.int 12)) dNil))) (dC (.int 0))))
  (sAsg (.nm 8) (dCall p_law_odd EX0 (dCons (dVar 1) (dCons (dN oTup (dCons (dC (.int 0)) (dCons (dC (.int 1)) dNil))) dNil))))
  sNext)
  (sSeq (sPar 9 10 (dN oRepr (dCons (dN oTup (dCons (dVar 7) (dCons (dVar 8) dNil))) dNil)) (dCall p_law_due EX0 (dCons (dVar 7) (dCons (dVar 8) dNil))))
  (sSeq (sIf (dOr (dNot (dTst (dCall p_law_same EX0 (dCons (dCall p_net_error EX0 (dCons (dVar 7) (dCons (dVar 8) dNil))) (dCons (dVar 10) dNil))))) (dNot (dTst (dCall p_law_same EX0 (dCons (dCall p_law_told EX0 (dCons (dVar 7) (dCons (dVar 8) dNil))) (dCons (dVar 10) dNil))))))
  (sRet (dC (.bl false)))
  sNext)
  (sIf (dTst (dBin (oEq not) (dN oRepr (dCons (dN oTup (dCons (dVar 7) (dCons (dVar 8) dNil))) dNil)) (dVar 9)))
  (sRet (dC (.bl false)))
  sNext)))))))))
  (sRet (dC (.bl true)))))
theorem wk_law (T : Txt K mg C) {K0 : Nat} {p_law_deck : DSp} {k_law_deck : Nat} {p_law_net : DSp} {k_law_net : Nat} {p_law_next : DSp} {k_law_next : Nat} {p_law_bent : DSp} {k_law_bent : Nat} {p_law_odd : DSp} {k_law_odd : Nat} {p_law_due : DSp} {k_law_due : Nat} {p_law_same : DSp} {k_law_same : Nat} {p_net_error : DSp} {k_net_error : Nat} {p_law_told : DSp} {k_law_told : Nat} {p : DSp} (mono : MonoP p) (len : ∀ ds m Q E, p ds m Q E → ds.length = 1) (c_law_deck : FnC P w K mg base C "_law_deck" k_law_deck ["_law_script"] p_law_deck) (h_law_deck : k_law_deck ≤ K0) (c_law_net : FnC P w K mg base C "_law_net" k_law_net ["_law_deck_here", "_law_most"] p_law_net) (h_law_net : k_law_net ≤ K0) (c_law_next : FnC P w K mg base C "_law_next" k_law_next ["_law_deck_here", "_law_many"] p_law_next) (h_law_next : k_law_next ≤ K0) (c_law_bent : FnC P w K mg base C "_law_bent" k_law_bent ["_law_deck_here", "_law_links"] p_law_bent) (h_law_bent : k_law_bent ≤ K0) (c_law_odd : FnC P w K mg base C "_law_odd" k_law_odd ["_law_deck_here", "_law_link"] p_law_odd) (h_law_odd : k_law_odd ≤ K0) (c_law_due : FnC P w K mg base C "_law_due" k_law_due ["_law_nodes", "_law_links"] p_law_due) (h_law_due : k_law_due ≤ K0) (c_law_same : FnCG P w K mg base C "_law_same" k_law_same ["_law_found", "_law_due_here"] p_law_same) (h_law_same : k_law_same ≤ K0) (c_net_error : FnC P w K mg base C "net_error" k_net_error ["nodes", "links"] p_net_error) (h_net_error : k_net_error ≤ K0) (c_law_told : FnC P w K mg base C "_law_told" k_law_told ["_law_nodes", "_law_links"] p_law_told) (h_law_told : k_law_told ≤ K0)
    (F : FunD K "law" "law" (defArgs st_law) (defBody st_law) (defScope st_law) [] [] (He.fAd K ("law", none)) (fdA K ("law", none)))
    (law : ∀ ds m (Q : QD) (E : QX), p ds m Q E → rd_law C p_law_deck p_law_net p_law_next p_law_bent p_law_odd p_law_due p_law_same p_net_error p_law_told (fun c xs _ m => E c xs m) { nx := fun _ m => Q .non m, rt := Q } (env0 11 ds) m) : DG P w K mg base C (K0 + 1) (He.fAd K ("law", none)) (fdA K ("law", none)) ["_law_script"] p := by
  refine dg_of (k := K0) (d := rd_law C p_law_deck p_law_net p_law_next p_law_bent p_law_odd p_law_due p_law_same p_net_error p_law_told) F sc_law mono len ?_ law
  intro cdv A outer s H E B EX hrg tk
  have hr := hrg.room
  have gd := hrg.gd
  exact (dss_cons (ds_setV sc_law.nd (de_fn c_law_deck hr (by omega) (da_cons (de_var 0) da_nil) passD0))
  (dss_cons (ds_for (passes_of rfl) rfl (di_range1 rfl T.f_range de_int) (tg_v sc_law.nd) (dss_cons (ds_asg (de_fn c_law_net hr (by omega) (da_cons (de_var 1) (da_cons de_int da_nil)) passD0) (tg_tp rfl (tgs_v sc_law.nd (tgs_v sc_law.nd tgs_nil))))
  (dss_cons (ds_for (passes_of rfl) rfl (di_range1 rfl T.f_range (de_fn c_law_next hr (by omega) (da_cons (de_var 1) (da_cons de_int da_nil)) passD0)) (tg_v sc_law.nd) (dss_one (ds_setV sc_law.nd (de_fn c_law_bent hr (by omega) (da_cons (de_var 1) (da_cons (de_var 4) da_nil)) passD0))))
  (dss_cons (ds_setV sc_law.nd (DN.de (dn_lst (da_cons (de_var 3) (da_cons (de_var 3) (da_cons (de_var 3) (da_cons (de_var 3) (da_cons de_int (da_cons de_int (da_cons de_int (da_cons (de_un un_negD de_int) (da_cons (de_bin op_subD (de_var 3) de_int) (da_cons de_bl (da_cons de_non (da_cons (de_t (strR hr gd T.ns) T.f_str boot_str (da_cons (de_var 3) da_nil)) (da_cons (de_tup (da_cons (de_var 3) da_nil)) (da_cons (de_bin op_powD de_int de_int) da_nil)))))))))))))))))
  (dss_cons (ds_par rfl sc_law.nd rfl rfl (by decide) rfl rfl (de_ix ix_D (de_var 6) (de_fn c_law_next hr (by omega) (da_cons (de_var 1) (da_cons de_int da_nil)) passD0)) (de_ix ix_D (DN.de (dn_lst (da_cons (de_t call_tupleD T.f_tuple boot_tuple (da_cons (de_var 4) da_nil)) (da_cons (de_t call_tupleD T.f_tuple boot_tuple (da_cons (de_var 4) da_nil)) (da_cons (de_t call_tupleD T.f_tuple boot_tuple (da_cons (de_var 4) da_nil)) (da_cons (de_var 4) da_nil)))))) (de_fn c_law_next hr (by omega) (da_cons (de_var 1) (da_cons de_int da_nil)) passD0)) (by rfl))
  (dss_cons (ds_if (dt_cmp (op_eqR hr) (de_fn c_law_next hr (by omega) (da_cons (de_var 1) (da_cons de_int da_nil)) passD0) de_int) (dss_one (ds_setV sc_law.nd (de_fn c_law_odd hr (by omega) (da_cons (de_var 1) (da_cons (de_tup (da_cons de_int (da_cons de_int da_nil))) da_nil)) passD0))) dss_nil)
  (dss_cons (ds_par rfl sc_law.nd rfl rfl (by decide) rfl rfl (de_b (reprR hr gd T.ns) T.f_repr boot_repr (da_cons (de_tup (da_cons (de_var 7) (da_cons (de_var 8) da_nil))) da_nil)) (de_fn c_law_due hr (by omega) (da_cons (de_var 7) (da_cons (de_var 8) da_nil)) passD0) (by rfl))
  (dss_cons (ds_if (DW.dt (dw_or (dt_not (dt_val (de_fnG c_law_same hrg (by omega) (da_cons (de_fn c_net_error hr (by omega) (da_cons (de_var 7) (da_cons (de_var 8) da_nil)) passD0) (da_cons (de_var 10) da_nil)) passD0))) (dw_or1 (dt_not (dt_val (de_fnG c_law_same hrg (by omega) (da_cons (de_fn c_law_told hr (by omega) (da_cons (de_var 7) (da_cons (de_var 8) da_nil)) passD0) (da_cons (de_var 10) da_nil)) passD0)))))) (dss_one (ds_ret de_bl)) dss_nil)
  (dss_one (ds_if (dt_cmp (op_neR hr) (de_b (reprR hr gd T.ns) T.f_repr boot_repr (da_cons (de_tup (da_cons (de_var 7) (da_cons (de_var 8) da_nil))) da_nil)) (de_var 9)) (dss_one (ds_ret de_bl)) dss_nil))))))))))
  (dss_one (ds_ret de_bl))))

end
end K02

set_option maxHeartbeats 1000000
namespace K02
open PySem PySem.Spec PyProof.Rows L2 DL DL.S

def plain (d : Dat) : Bool := (tyN d).isSome
def isInt : Dat → Bool
  | .int _ => true
  | _ => false
def below (b : Int) : Dat → Bool
  | .int i => decide (0 ≤ i) && decide (i < b)
  | _ => false
def isPair : Dat → Bool
  | .tup xs => decide (xs.length = 2)
  | _ => false
def linkB (n : Int) : Dat → Bool
  | .tup [.int a, .int b] => (decide (0 ≤ a) && decide (a < n)) && ((decide (0 ≤ b) && decide (b < n)) && decide (a ≠ b))
  | _ => false
theorem q_bl {Q : QD} {a b : Bool} {m : Mem} (h : Q (.bl a) m) (e : b = a) : Q (.bl b) m := e ▸ h
def p_whole : DSp := pRel 1 (fun ds m => ∃ d, ds = [d] ∧ plain d = true) (fun ds m r m' => ∃ d, ds = [d] ∧ r = .bl (isInt d) ∧ m' = m) noE
def p_below : DSp := pRel 2 (fun ds m => ∃ d b, ds = [d, .int b] ∧ plain d = true) (fun ds m r m' => ∃ d b, ds = [d, .int b] ∧ r = .bl (below b d) ∧ m' = m) noE
def p_pair : DSp := pRel 1 (fun ds m => ∃ d, ds = [d] ∧ plain d = true) (fun ds m r m' => ∃ d, ds = [d] ∧ r = .bl (isPair d) ∧ m' = m) noE
def p_link : DSp := pRel 2 (fun ds m => ∃ d n, ds = [d, .int n] ∧ plain d = true ∧ ∀ xs, d = .tup xs → ∀ x ∈ xs, plain x = true) (fun ds m r m' => ∃ d n, ds = [d, .int n] ∧ r = .bl (linkB n d) ∧ m' = m) noE
theorem good_plain {k : Nat} {d : Dat} (h : good k d = true) : plain d = true := by
  cases d <;> first | rfl | (cases k <;> cases h)
theorem law_is_whole (C : Ct) : ∀ ds m (Q : QD) (E : QX), p_whole ds m Q E → rd_is_whole C (fun c xs _ m => E c xs m) { nx := fun _ m => Q .non m, rt := Q } (env0 1 ds) m := by
  rintro ds m Q E ⟨_, ⟨d, rfl, hd⟩, hQ, _⟩
  have hQ' : Q (.bl (isInt d)) m := hQ _ _ ⟨d, rfl, rfl, rfl⟩
  have e0 : env0 1 [d] = [some (.f d)] := rfl
  rw [e0]
  unfold rd_is_whole
  cases d <;> first
    | (simp [sRet, dAndV, dNotV, dN, oIsi, dCons, dVar, dC, dNil, derI, der, isaD, isa1, tyN, isT]; exact hQ')
    | cases hd
theorem law_law_whole (C : Ct) : ∀ ds m (Q : QD) (E : QX), p_whole ds m Q E → K02.rd_law_whole C (fun c xs _ m => E c xs m) { nx := fun _ m => Q .non m, rt := Q } (env0 1 ds) m := law_is_whole C
theorem call_whole {da : TAd} {env : Env'} {m : Mem} {Q : QL} (d : Dat) (hd : plain d = true) (ha : ∀ Q : List Lv → Mem → Prop, Q [.f d] m → da env m Q) (h : Q (.f (.bl (isInt d))) m) : dCall p_whole EX0 da env m Q :=
  call_is [.f d] [d] ha rfl ⟨rfl, ⟨d, rfl, hd⟩, fun r m' ⟨d', e1, e2, e3⟩ => by cases e1; subst e2 e3; exact h, fun _ _ _ q => q.elim⟩
theorem call_below {da : TAd} {env : Env'} {m : Mem} {Q : QL} (d : Dat) (b : Int) (hd : plain d = true) (ha : ∀ Q : List Lv → Mem → Prop, Q [.f d, .f (.int b)] m → da env m Q) (h : Q (.f (.bl (below b d))) m) : dCall p_below EX0 da env m Q :=
  call_is [.f d, .f (.int b)] [d, .int b] ha rfl ⟨rfl, ⟨d, b, rfl, hd⟩, fun r m' ⟨d', b', e1, e2, e3⟩ => by cases e1; subst e2 e3; exact h, fun _ _ _ q => q.elim⟩
theorem call_pair {da : TAd} {env : Env'} {m : Mem} {Q : QL} (d : Dat) (hd : plain d = true) (ha : ∀ Q : List Lv → Mem → Prop, Q [.f d] m → da env m Q) (h : Q (.f (.bl (isPair d))) m) : dCall p_pair EX0 da env m Q :=
  call_is [.f d] [d] ha rfl ⟨rfl, ⟨d, rfl, hd⟩, fun r m' ⟨d', e1, e2, e3⟩ => by cases e1; subst e2 e3; exact h, fun _ _ _ q => q.elim⟩
theorem call_link {da : TAd} {env : Env'} {m : Mem} {Q : QL} (d : Dat) (n : Int) (hd : plain d = true) (hx : ∀ xs, d = .tup xs → ∀ x ∈ xs, plain x = true) (ha : ∀ Q : List Lv → Mem → Prop, Q [.f d, .f (.int n)] m → da env m Q) (h : Q (.f (.bl (linkB n d))) m) : dCall p_link EX0 da env m Q :=
  call_is [.f d, .f (.int n)] [d, .int n] ha rfl ⟨rfl, ⟨d, n, rfl, hd, hx⟩, fun r m' ⟨d', b', e1, e2, e3⟩ => by cases e1; subst e2 e3; exact h, fun _ _ _ q => q.elim⟩
theorem law_is_below (C : Ct) : ∀ ds m (Q : QD) (E : QX), p_below ds m Q E → rd_is_below C p_whole (fun c xs _ m => E c xs m) { nx := fun _ m => Q .non m, rt := Q } (env0 2 ds) m := by
  rintro ds m Q E ⟨_, ⟨d, b, rfl, hd⟩, hQ, _⟩
  have hQ' : Q (.bl (below b d)) m := hQ _ _ ⟨d, b, rfl, rfl, rfl⟩
  have e0 : env0 2 [d, .int b] = [some (.f d), some (.f (.int b))] := rfl
  rw [e0]
  unfold rd_is_below sRet dAndV
  refine call_whole d hd (fun Q h => h) ?_
  cases d with
  | int i =>
    simp [isInt, dChain, dVar, dC, oI0, oI]
    by_cases h1 : 0 ≤ i
    · simp only [h1, decide_true]
      exact q_bl hQ' (by simp [below, h1])
    · simp only [h1, decide_false]
      exact q_bl hQ' (by simp [below, h1])
  | _ => first
    | (cases hd; done)
    | exact hQ'
theorem law_is_pair (C : Ct) : ∀ ds m (Q : QD) (E : QX), p_pair ds m Q E → rd_is_pair C (fun c xs _ m => E c xs m) { nx := fun _ m => Q .non m, rt := Q } (env0 1 ds) m := by
  rintro ds m Q E ⟨_, ⟨d, rfl, hd⟩, hQ, _⟩
  have hQ' : Q (.bl (isPair d)) m := hQ _ _ ⟨d, rfl, rfl, rfl⟩
  have e0 : env0 1 [d] = [some (.f d)] := rfl
  rw [e0]
  unfold rd_is_pair
  cases d with
  | tup xs =>
    simp [sRet, dAndV, dNotV, dN, oIsi, dCons, dVar, dC, dNil, derI, der, isaD, isa1, tyN, isT, dBin, oEq, oLen, eqd_int, intOkN]
    refine q_bl hQ' ?_
    rw [isPair, Bool.eq_iff_iff, beq_iff_eq, decide_eq_true_iff]
    omega
  | _ => first
    | (cases hd; done)
    | (simp [sRet, dAndV, dNotV, dN, oIsi, dCons, dVar, dC, dNil, derI, der, isaD, isa1, tyN, isT]; exact hQ')
theorem law_is_link (C : Ct) : ∀ ds m (Q : QD) (E : QX), p_link ds m Q E → rd_is_link C p_pair p_below (fun c xs _ m => E c xs m) { nx := fun _ m => Q .non m, rt := Q } (env0 2 ds) m := by
  rintro ds m Q E ⟨_, ⟨d, n, rfl, hd, hx⟩, hQ, _⟩
  have hQ' : Q (.bl (linkB n d)) m := hQ _ _ ⟨d, n, rfl, rfl, rfl⟩
  have e0 : env0 2 [d, .int n] = [some (.f d), some (.f (.int n))] := rfl
  rw [e0]
  unfold rd_is_link sSeq sIf dOr dNot dTst
  refine call_pair d hd (fun Q h => h) ?_
  by_cases hp : isPair d = true
  · cases d with
    | tup xs =>
      match xs, hp with
      | [a, b], _ =>
        have hp2 : isPair (.tup [a, b]) = true := rfl
        have ha := hx _ rfl a (by simp)
        have hb := hx _ rfl b (by simp)
        simp [hp2]
        refine call_below a n ha (fun Q h => by simp [dCons, dNil, dBin, dVar, dC, oIx, der, atI0, atI1]; exact h) ?_
        by_cases h1 : below n a = true
        · simp [h1]
          refine call_below b n hb (fun Q h => by simp [dCons, dNil, dBin, dVar, dC, oIx, der, atI0, atI1]; exact h) ?_
          by_cases h2 : below n b = true
          · simp [h2, sNext, sRet, dBin, dVar, dC, oIx, der, atI0, atI1]
            cases a with
            | int i =>
              cases b with
              | int j =>
                simp [der, oEq, intOkN, eqd_int]
                rw [below, Bool.and_eq_true, decide_eq_true_iff, decide_eq_true_iff] at h1 h2
                refine q_bl hQ' ?_
                simp only [linkB, h1, h2, decide_true, Bool.and_self, Bool.true_and]
                by_cases e : i = j
                · simp [e]
                · simp [e]
              | _ => cases h2
            | _ => cases h1
          · simp [h2, sRet, dC]
            refine q_bl hQ' ?_
            rw [Bool.not_eq_true] at h2
            cases b with
            | int j =>
              rw [below] at h2
              cases a <;> first | rfl | (rw [linkB, h2]; simp)
            | _ => cases a <;> rfl
        · simp [h1, sRet, dC]
          refine q_bl hQ' ?_
          rw [Bool.not_eq_true] at h1
          cases a with
          | int i =>
            rw [below] at h1
            cases b <;> first | rfl | (rw [linkB, h1]; simp)
          | _ => rfl
    | _ => cases hp
  · simp [hp, sRet, dC]
    refine q_bl hQ' ?_
    cases d with
    | tup xs =>
      match xs, hp with
      | [], _ => rfl
      | [a], _ => cases a <;> rfl
      | [a, b], hp => exact absurd rfl hp
      | a :: b :: c :: r, _ => cases a <;> first | rfl | (cases b <;> rfl)
    | _ => rfl
end K02

set_option maxHeartbeats 1000000
namespace DL
open PySem PySem.Spec PyProof.Rows L2
theorem sortD_ints (ns : List Int) : sortD (ns.map Dat.int) = (ns.mergeSort fun a b => decide (a ≤ b)).map Dat.int := by
  unfold sortD
  refine (List.map_mergeSort (r := fun a b => decide (a ≤ b)) (s := PySem.W.dataLe false py) (f := Dat.int) (l := ns) fun a _ b _ => ?_).symm
  have e := congrFun (congrFun (PySem.W.dataLe_int (β := Int) id) a) b
  exact e.symm
theorem sort2 (a b : Int) : [a, b].mergeSort (fun a b => decide (a ≤ b)) = [min a b, max a b] := by
  by_cases h : a ≤ b
  · rw [Int.min_eq_left h, Int.max_eq_right h]
    simp [List.mergeSort, List.MergeSort.Internal.splitInTwo, List.merge, h]
  · rw [Int.min_eq_right (by omega), Int.max_eq_left (by omega)]
    simp [List.mergeSort, List.MergeSort.Internal.splitInTwo, List.merge, h]
theorem sortOk_ints {ns : List Int} (h : ∀ n ∈ ns, n.natAbs.log2 < 1920) : sortOk (ns.map Dat.int) := by
  refine ⟨?_, ?_, all_intR ns h⟩
  · rw [List.map_map]
    exact PySem.W.AllAlike.of fun _ _ => by simp [py, PySem.W.alike]
  · rw [List.map_map]
    exact PySem.W.Sortable.others fun _ => ⟨by simp [py], by simp [py]⟩
end DL

set_option maxHeartbeats 1000000
namespace K02
open PySem PySem.Spec PyProof.Rows L2 DL DL.S

def nrm : Dat → Dat
  | .tup [.int a, .int b] => .lst [.int (min a b), .int (max a b)]
  | d => d
def errGo (n : Int) : List Dat → Nat → List Dat → Dat
  | _, _, [] => .non
  | seen, k, x :: xs => if linkB n x = true then (if (seen.any fun s => eqd s (nrm x)) = true then .tup [.int k, .str "again"] else errGo n (seen ++ [nrm x]) (k + 1) xs) else .tup [.int k, .str "link"]
def errL (n : Int) : Dat → Dat
  | .tup xs => if xs.length ≤ 8 then errGo n [] 0 xs else .tup [.non, .str "links"]
  | _ => .tup [.non, .str "links"]
def errD (nd ld : Dat) : Dat := match nd with
  | .int n => if 1 ≤ n ∧ n ≤ 7 then errL n ld else .tup [.non, .str "nodes"]
  | _ => .tup [.non, .str "nodes"]
def p_err : DSp := pRel 2 (fun ds m => ∃ nd ld, ds = [nd, ld] ∧ plain nd = true ∧ good 5 ld = true) (fun ds m r m' => ∃ nd ld, ds = [nd, ld] ∧ r = errD nd ld ∧ m' = m) noE
theorem link_is {n : Int} {d : Dat} (h : linkB n d = true) : ∃ a b, d = .tup [.int a, .int b] ∧ 0 ≤ a ∧ a < n ∧ 0 ≤ b ∧ b < n ∧ a ≠ b := by
  cases d with
  | tup xs =>
    match xs, h with
    | [.int a, .int b], h =>
      simp [linkB] at h
      exact ⟨a, b, rfl, h.1.1, h.1.2, h.2.1.1, h.2.1.2, h.2.2⟩
  | _ => cases h
theorem small {i : Int} (h : 0 ≤ i) (h7 : i ≤ 1000000) : i.natAbs.log2 < 1920 := Nat.lt_of_lt_of_le (log2_lt (k := 20) (by decide) (by omega)) (by decide)
theorem sort_link {n : Int} {d : Dat} (hn : n ≤ 7) (h : linkB n d = true) : ∃ xs, d = .tup xs ∧ sortOk xs ∧ Dat.lst (sortD xs) = nrm d ∧ okN 5 (nrm d) = true := by
  obtain ⟨a, b, rfl, h1, h2, h3, h4, h5⟩ := link_is h
  have e : [Dat.int a, .int b] = [a, b].map Dat.int := rfl
  refine ⟨_, rfl, ?_, ?_, ?_⟩
  · rw [e]
    refine sortOk_ints fun x hx => ?_
    rcases List.mem_cons.mp hx with rfl | hx
    · exact small h1 (by omega)
    · rw [List.mem_singleton.mp hx]
      exact small h3 (by omega)
  · rw [e, sortD_ints, sort2]; rfl
  · rfl
theorem cut_pre {α : Type} (xs ys : List α) : DL.cutD (xs ++ ys) none (some (xs.length : Int)) = xs := by
  unfold DL.cutD
  rw [HT.sIx_none, HT.sIx_nat, List.drop_zero, Nat.sub_zero, List.length_append, Nat.min_eq_left (by omega), List.take_left']
  rfl
theorem ne_step {D : En} {n : Int} {x : Dat} {done rest : List Dat} {x2 x3 : Option Sl} {m : Mem} (hn : n ≤ 7) (hd : ∀ d ∈ done, linkB n d = true) (h8 : done.length + rest.length ≤ 8) (gx : good 4 x = true)
    (q1 : linkB n x = false → D.rt (.tup [.int (done.length : Nat), .str "link"]) m) (q2 : linkB n x = true → ((done.map nrm).any fun s => eqd s (nrm x)) = true → D.rt (.tup [.int (done.length : Nat), .str "again"]) m)
    (q3 : linkB n x = true → ((done.map nrm).any fun s => eqd s (nrm x)) = false → D.nx [some (.f (.int n)), some (.f (.tup (done ++ rest))), some (.f (.int (done.length : Nat))), some (.f x), none] m) :
    (sSeq (sIf (dNot (dTst (dCall p_link EX0 (dCons (dVar 3) (dCons (dVar 0) dNil)))))
  (sRet (dN oTup (dCons (dVar 2) (dCons (dC (.str "link")) dNil))))
  sNext)
  (sIf (dTst (dBin (oIn id) (dNew (nSort (dVar 3))) (dNew (nLc (.nm 4) dYes (dNew (nSort (dVar 4))) [4] (iVal (dSl (dVar 1) dNo (dPart (dVar 2))))))))
  (sRet (dN oTup (dCons (dVar 2) (dCons (dC (.str "again")) dNil))))
  sNext)) D [some (.f (.int n)), some (.f (.tup (done ++ rest))), some (.f (.int (done.length : Nat))), some (.f x), none] m := by
  have s1 : 10000 ≤ sizeLine := sz (by decide)
  have s2 : 2 ≤ sizeLine := sz (by decide)
  unfold sSeq sIf dNot dTst
  refine call_link x n (good_plain gx) (fun xs e y hy => ?_) (fun Q h => h) ?_
  · subst e
    obtain ⟨j, hj, _, h⟩ := good_tup gx
    exact good_plain (h y hy)
  cases hl : linkB n x with
  | false =>
    simp [sRet, dN, oTup, dCons, dVar, dC, dNil, DL.frs, s2]
    exact q1 hl
  | true =>
    obtain ⟨xs, rfl, o1, o2, o3⟩ := sort_link hn hl
    simp [sNext, dBin, dNew, nSort, dVar, seqOf, der]
    refine ⟨o1, ?_⟩
    simp [nLc, iVal, dSl, dNo, dPart, dVar, der, cut_pre, wipeE]
    refine ⟨by omega, lc_map (f := nrm) (fun y hy Q h => ?_) ?_⟩
    · obtain ⟨ys, rfl, p1, p2, p3⟩ := sort_link hn (hd y hy)
      show sortOk ys ∧ Q (.f (.lst (sortD ys))) m
      rw [p2]
      exact ⟨p1, h⟩
    · rw [o2]
      have hall : (done.map nrm).all (okN 59) = true := by
        rw [List.all_eq_true]
        intro y hy
        obtain ⟨z, hz, rfl⟩ := List.mem_map.mp hy
        obtain ⟨ys, rfl, p1, p2, p3⟩ := sort_link hn (hd z hz)
        obtain ⟨a, b, e, _⟩ := link_is (hd _ hz)
        rw [e]; rfl
      have h60 : okN 60 (nrm (.tup xs)) = true := by
        obtain ⟨a, b, e, _⟩ := link_is hl
        rw [e]; rfl
      refine oIn_l h60 hall ?_
      cases ha : (done.map nrm).any fun s => eqd s (nrm (.tup xs)) with
      | false =>
        have q := q3 hl ha
        simp only [id]
        rw [if_neg (by decide)]
        exact q
      | true =>
        have q := q2 hl ha
        simp only [id]
        rw [if_pos trivial]
        simp [sRet, dN, oTup, dCons, dVar, dC, dNil, DL.frs, s2]
        exact q
theorem ne_loop {D : En} {n : Int} (hn : n ≤ 7) : ∀ (rest done : List Dat) (x2 x3 : Option Sl) (m : Mem), (∀ d ∈ done, linkB n d = true) → done.length + rest.length ≤ 8 → (∀ d ∈ rest, good 4 d = true) → (errGo n (done.map nrm) done.length rest ≠ .non → D.rt (errGo n (done.map nrm) done.length rest) m) →
    (errGo n (done.map nrm) done.length rest = .non → ∀ env, D.nx env m) →
    forGo (.tp [2, 3]) (sSeq (sIf (dNot (dTst (dCall p_link EX0 (dCons (dVar 3) (dCons (dVar 0) dNil)))))
  (sRet (dN oTup (dCons (dVar 2) (dCons (dC (.str "link")) dNil))))
  sNext)
  (sIf (dTst (dBin (oIn id) (dNew (nSort (dVar 3))) (dNew (nLc (.nm 4) dYes (dNew (nSort (dVar 4))) [4] (iVal (dSl (dVar 1) dNo (dPart (dVar 2))))))))
  (sRet (dN oTup (dCons (dVar 2) (dCons (dC (.str "again")) dNil))))
  sNext)) D (enumD done.length rest) [some (.f (.int n)), some (.f (.tup (done ++ rest))), x2, x3, none] m
  | [], done, x2, x3, m, _, _, _, _, hQ => hQ rfl _
  | x :: rest, done, x2, x3, m, hd, h8, hg, hR, hQ => by
    have gx := hg x (by simp)
    unfold enumD forGo
    have hb : DL.bind (.tp [2, 3]) (.f (.tup [.int (done.length : Nat), x])) [some (.f (.int n)), some (.f (.tup (done ++ x :: rest))), x2, x3, none] = some [some (.f (.int n)), some (.f (.tup (done ++ x :: rest))), some (.f (.int (done.length : Nat))), some (.f x), none] := by simp [DL.bind, setAll]
    rw [hb]
    refine ne_step (x2 := x2) (x3 := x3) hn hd (rest := x :: rest) h8 gx (fun h => ?_) (fun h h' => ?_) fun h h' => ?_
    · have e : errGo n (done.map nrm) done.length (x :: rest) = .tup [.int (done.length : Nat), .str "link"] := by
        rw [errGo, h, if_neg (by decide)]
      rw [e] at hR
      exact hR (by simp)
    · have e : errGo n (done.map nrm) done.length (x :: rest) = .tup [.int (done.length : Nat), .str "again"] := by
        rw [errGo, h, if_pos rfl, if_pos h']
      rw [e] at hR
      exact hR (by simp)
    · have e : errGo n (done.map nrm) done.length (x :: rest) = errGo n ((done ++ [x]).map nrm) (done ++ [x]).length rest := by
        rw [errGo, h, if_pos rfl, if_neg (by rw [h']; decide), List.map_append, List.length_append]
        rfl
      rw [e] at hR hQ
      have := ne_loop (D := D) hn rest (done ++ [x]) (some (.f (.int (done.length : Nat)))) (some (.f x)) m (fun d hd' => by
        rcases List.mem_append.mp hd' with q | q
        · exact hd d q
        · rw [List.mem_singleton.mp q]; exact h) (by simp; simp at h8; omega) (fun d hd' => hg d (by simp [hd'])) hR hQ
      rw [List.length_append, List.append_assoc] at this
      exact this
theorem law_net_error (C : Ct) : ∀ ds m (Q : QD) (E : QX), p_err ds m Q E → rd_net_error C p_whole p_link (fun c xs _ m => E c xs m) { nx := fun _ m => Q .non m, rt := Q } (env0 5 ds) m := by
  rintro ds m Q E ⟨_, ⟨nd, ld, rfl, hn, hl⟩, hQ, _⟩
  have hQ' : Q (errD nd ld) m := hQ _ _ ⟨nd, ld, rfl, rfl, rfl⟩
  have s2 : 2 ≤ sizeLine := sz (by decide)
  have e0 : env0 5 [nd, ld] = [some (.f nd), some (.f ld), none, none, none] := rfl
  rw [e0]
  unfold rd_net_error
  have bad : ∀ {D : En} {env : Env'}, D.rt (.tup [.non, .str "nodes"]) m → sRet (dN oTup (dCons (dC .non) (dCons (dC (.str "nodes")) dNil))) D env m := fun h => by
    simp [sRet, dN, oTup, dCons, dC, dNil, DL.frs, s2]; exact h
  have bad2 : ∀ {D : En} {env : Env'}, D.rt (.tup [.non, .str "links"]) m → sRet (dN oTup (dCons (dC .non) (dCons (dC (.str "links")) dNil))) D env m := fun h => by
    simp [sRet, dN, oTup, dCons, dC, dNil, DL.frs, s2]; exact h
  unfold sSeq
  generalize hF : (sFor _ _ _) = F
  unfold sIf dOr dNot dTst
  refine call_whole nd hn (fun Q h => h) ?_
  cases nd with
  | int n =>
    by_cases h1 : 1 ≤ n
    · by_cases h7 : n ≤ 7
      · have hQ2 : Q (errL n ld) m := by
          have e : errD (.int n) ld = errL n ld := if_pos ⟨h1, h7⟩
          rw [e] at hQ'; exact hQ'
        simp [isInt, dChain, dVar, dC, oI0, oI, h1, h7, sNext]
        cases ld with
        | tup xs =>
          simp [dN, oIsi, dCons, dVar, dC, dNil, derI, der, isaD, isa1, tyN, isT, dBin, oLen, oI0, oI]
          by_cases h8 : xs.length ≤ 8
          · rw [if_neg (by omega)]
            rw [show errL n (.tup xs) = errGo n [] 0 xs from if_pos h8] at hQ2
            obtain ⟨j, hj, _, hx⟩ := good_tup hl
            have hj' : j = 4 := by omega
            subst hj'
            subst hF
            have := ne_loop (D := { nx := fun env m => sRet (dC .non) { nx := fun x m => Q .non m, rt := Q } env m, rt := Q }) h7 xs [] none none m (by simp) (by simpa using h8) hx (fun _ => hQ2) (fun e env => by
              have hQ3 : Q (errGo n [] 0 xs) m := hQ2
              rw [show errGo n [] 0 xs = .non from e] at hQ3
              exact hQ3)
            exact this
          · rw [if_pos (by omega)]
            rw [show errL n (.tup xs) = .tup [.non, .str "links"] from if_neg h8] at hQ2
            exact bad2 hQ2
        | _ => first
          | (cases hl; done)
          | (simp [dN, oIsi, dCons, dVar, dC, dNil, derI, der, isaD, isa1, tyN, isT]; exact bad2 hQ2)
      · have e : errD (.int n) ld = .tup [.non, .str "nodes"] := if_neg (by omega)
        rw [e] at hQ'
        simp [isInt, dChain, dVar, dC, oI0, oI, h1, h7]
        exact bad hQ'
    · have e : errD (.int n) ld = .tup [.non, .str "nodes"] := if_neg (by omega)
      rw [e] at hQ'
      simp [isInt, dChain, dVar, dC, oI0, oI, h1]
      exact bad hQ'
  | _ =>
    simp [isInt]
    exact bad hQ'
end K02

set_option maxHeartbeats 1000000
namespace K02
open PySem PySem.Spec PyProof.Rows L2 DL DL.S

theorem minI2 (i j : Int) : minI [i, j] = min i j := rfl
theorem maxI2 (i j : Int) : maxI [i, j] = max i j := rfl
theorem due_step {D : En} {n : Int} {x : Dat} {xs seen : List Dat} {k : Nat} {x4 : Option Sl} {m : Mem} (hk : xs[k]? = some x) (h8 : xs.length ≤ 8) (h9 : seen.length ≤ 8) (gx : good 4 x = true) (hs : seen.all (okN 59) = true)
    (q1 : linkB n x = false → D.rt (.tup [.int (k : Nat), .str "link"]) m) (q2 : linkB n x = true → (seen.any fun s => eqd s (nrm x)) = true → D.rt (.tup [.int (k : Nat), .str "again"]) m)
    (q3 : linkB n x = true → (seen.any fun s => eqd s (nrm x)) = false → D.nx [some (.f (.int n)), some (.f (.tup xs)), some (.own (.lst (seen ++ [nrm x]))), some (.f (.int (k : Nat))), some (.f x), none] m) :
    (sSeq (sAsg (.nm 4) (dBin oIx (dVar 1) (dVar 3)))
  (sSeq (sIf (dOr (dNot (dTst (dN (oIsi C) (dCons (dVar 4) (dCons (dC (.ty "tuple")) dNil))))) (dOr (dTst (dBin (oEq not) (dN oLen (dCons (dVar 4) dNil)) (dC (.int 2)))) (dNot (dTst (dN (oBs fun bs => bs.all id) (dCons (dNew (nLc (.nm 5) dYes (dCall p_whole EX0 (dCons (dVar 5) dNil)) [5] (iVal (dVar 4)))) dNil))))))
  (sRet (dN oTup (dCons (dVar 3) (dCons (dC (.str "link")) dNil))))
  sNext)
  (sSeq (sIf (dOr (dTst (dBin oLt (dN (oIs minI fun ns => 0 < ns.length) (dCons (dVar 4) dNil)) (dC (.int 0)))) (dOr (dTst (dBin oGe (dN (oIs maxI fun ns => 0 < ns.length) (dCons (dVar 4) dNil)) (dVar 0))) (dTst (dBin (oEq id) (dBin oIx (dVar 4) (dC (.int 0))) (dBin oIx (dVar 4) (dC (.int 1)))))))
  (sRet (dN oTup (dCons (dVar 3) (dCons (dC (.str "link")) dNil))))
  sNext)
  (sSeq (sIf (dTst (dBin (oIn id) (dNew (nLst (dCons (dN (oIs minI fun ns => 0 < ns.length) (dCons (dVar 4) dNil)) (dCons (dN (oIs maxI fun ns => 0 < ns.length) (dCons (dVar 4) dNil)) dNil)))) (dVar 2)))
  (sRet (dN oTup (dCons (dVar 3) (dCons (dC (.str "again")) dNil))))
  sNext)
  (sApp (dVar 2) (dNew (nLst (dCons (dN (oIs minI fun ns => 0 < ns.length) (dCons (dVar 4) dNil)) (dCons (dN (oIs maxI fun ns => 0 < ns.length) (dCons (dVar 4) dNil)) dNil))))))))) D [some (.f (.int n)), some (.f (.tup xs)), some (.own (.lst seen)), some (.f (.int (k : Nat))), x4, none] m := by
  have s1 : 10000 ≤ sizeLine := sz (by decide)
  have s2 : 2 ≤ sizeLine := sz (by decide)
  have s3 : seen.length < sizeLine := by omega
  have e1 : atI xs (k : Int) = some x := DL.atI_nat hk
  unfold sSeq
  simp [sAsg, dBin, dVar, oIx, der, e1, DL.bind]
  cases x with
  | tup ys =>
    simp [sIf, dOr, dNot, dTst, dN, oIsi, dCons, dVar, dC, dNil, derI, der, isaD, isa1, tyN, isT, dBin, oLen, oEq, intOkN, eqd_int]
    match ys, q1, q2, q3, gx with
    | [], q1, _, _, _ => simp [sRet, dN, oTup, dCons, dVar, dC, dNil, DL.frs, s2]; exact q1 rfl
    | [a], q1, _, _, _ => simp [sRet, dN, oTup, dCons, dVar, dC, dNil, DL.frs, s2]; exact q1 (by cases a <;> rfl)
    | a :: b :: c :: r, q1, _, _, _ =>
      have e : ¬ ((r.length : Int) + 1 + 1 + 1 = 2) := by omega
      simp [sRet, dN, oTup, dCons, dVar, dC, dNil, DL.frs, s2, e]
      exact q1 (by cases a <;> first | rfl | (cases b <;> rfl))
    | [a, b], q1, q2, q3, gx =>
      simp [nLc, iVal, dVar, dNew, wipeE]
      refine ⟨by omega, lc_map (f := fun d => .bl (isInt d)) (fun y hy Q h => ?_) ?_⟩
      · obtain ⟨j, hj, _, hg⟩ := good_tup gx
        exact call_whole y (good_plain (hg y hy)) (fun Q h => h) h
      · simp [oBs, lstOf, der, bools]
        cases ha : isInt a && isInt b with
        | false =>
          rw [if_neg (by simpa using ha)]
          simp [sRet, dN, oTup, dCons, dVar, dC, dNil, DL.frs, s2]
          refine q1 ?_
          cases a <;> first | rfl | (cases b <;> first | rfl | (simp [isInt] at ha))
        | true =>
          rw [if_pos (by simpa using ha)]
          rw [Bool.and_eq_true] at ha
          cases a with
          | int i =>
            cases b with
            | int j =>
              simp only [sNext]
              by_cases c1 : min i j < 0
              · simp [oIs, seqOf, der, intsD, minI2, maxI2, oI0, oI, c1, sRet, dN, oTup, dCons, dVar, dC, dNil, DL.frs, s2]
                exact q1 (by
                  have : ¬ (0 ≤ i ∧ 0 ≤ j) := by omega
                  by_cases h0 : 0 ≤ i
                  · have h1 : ¬ 0 ≤ j := fun h => this ⟨h0, h⟩
                    simp [linkB, h1]
                  · simp [linkB, h0])
              · by_cases c2 : n ≤ max i j
                · simp [oIs, seqOf, der, intsD, minI2, maxI2, oI0, oI, c1, c2, sRet, dN, oTup, dCons, dVar, dC, dNil, DL.frs, s2]
                  exact q1 (by
                    have : ¬ (i < n ∧ j < n) := by omega
                    by_cases h0 : i < n
                    · have h1 : ¬ j < n := fun h => this ⟨h0, h⟩
                      simp [linkB, h1]
                    · simp [linkB, h0])
                · by_cases c3 : i = j
                  · subst c3
                    rw [Int.min_self] at c1
                    rw [Int.max_self] at c2
                    simp [oIs, seqOf, der, intsD, minI2, maxI2, oI0, oI, c1, c2, sRet, dN, oTup, dCons, dVar, dC, dNil, DL.frs, s2, atI0, atI1, oIx, oEq, intOkN, eqd_int]
                    exact q1 (by simp [linkB])
                  · have hl : linkB n (.tup [.int i, .int j]) = true := by
                      have a1 : 0 ≤ i := by omega
                      have a2 : i < n := by omega
                      have a3 : 0 ≤ j := by omega
                      have a4 : j < n := by omega
                      simp [linkB, a1, a2, a3, a4, c3]
                    simp [oIs, seqOf, der, intsD, minI2, maxI2, oI0, oI, c1, c2, c3, dN, dCons, dVar, dC, dNil, DL.frs, s2, atI0, atI1, oIx, oEq, intOkN, eqd_int, nLst]
                    refine oIn_o rfl rfl hs ?_
                    have en : nrm (.tup [.int i, .int j]) = .lst [.int (min i j), .int (max i j)] := rfl
                    rw [en] at q2 q3
                    cases hx : seen.any fun s => eqd s (.lst [.int (min i j), .int (max i j)]) with
                    | true =>
                      have q := q2 hl hx
                      simp only [id]
                      rw [if_pos trivial]
                      simp [sRet, dN, oTup, dCons, dVar, dC, dNil, DL.frs, s2]
                      exact q
                    | false =>
                      have q := q3 hl hx
                      simp only [id]
                      rw [if_neg (by decide)]
                      simp [sApp, dVar, moOf, setE, setM, dNew, nLst, dCons, dNil, dN, oIs, seqOf, der, intsD, minI2, maxI2, DL.frs, s2, s3]
                      exact q
            | _ => exact absurd ha.2 (by simp [isInt])
          | _ => exact absurd ha.1 (by simp [isInt])
  | _ => first
    | (cases gx; done)
    | (simp [sIf, dOr, dNot, dTst, dN, oIsi, dCons, dVar, dC, dNil, derI, der, isaD, isa1, tyN, isT, sRet, oTup, DL.frs, s2]; exact q1 rfl)
end K02

set_option maxHeartbeats 1000000
namespace K02
open PySem PySem.Spec PyProof.Rows L2 DL DL.S

theorem rangeD_succ (k : Int) (r : Nat) : rangeD k (r + 1) = .int k :: rangeD (k + 1) r := by
  unfold rangeD
  rw [List.range_succ_eq_map, List.map_cons, List.map_map]
  congr 1
  · simp
  · refine List.map_congr_left fun a _ => ?_
    simp; omega
theorem rangeD_zero (k : Int) : rangeD k 0 = [] := rfl
def bodyDue (C : Ct) : TSd := (sSeq (sAsg (.nm 4) (dBin oIx (dVar 1) (dVar 3)))
  (sSeq (sIf (dOr (dNot (dTst (dN (oIsi C) (dCons (dVar 4) (dCons (dC (.ty "tuple")) dNil))))) (dOr (dTst (dBin (oEq not) (dN oLen (dCons (dVar 4) dNil)) (dC (.int 2)))) (dNot (dTst (dN (oBs fun bs => bs.all id) (dCons (dNew (nLc (.nm 5) dYes (dCall p_whole EX0 (dCons (dVar 5) dNil)) [5] (iVal (dVar 4)))) dNil))))))
  (sRet (dN oTup (dCons (dVar 3) (dCons (dC (.str "link")) dNil))))
  sNext)
  (sSeq (sIf (dOr (dTst (dBin oLt (dN (oIs minI fun ns => 0 < ns.length) (dCons (dVar 4) dNil)) (dC (.int 0)))) (dOr (dTst (dBin oGe (dN (oIs maxI fun ns => 0 < ns.length) (dCons (dVar 4) dNil)) (dVar 0))) (dTst (dBin (oEq id) (dBin oIx (dVar 4) (dC (.int 0))) (dBin oIx (dVar 4) (dC (.int 1)))))))
  (sRet (dN oTup (dCons (dVar 3) (dCons (dC (.str "link")) dNil))))
  sNext)
  (sSeq (sIf (dTst (dBin (oIn id) (dNew (nLst (dCons (dN (oIs minI fun ns => 0 < ns.length) (dCons (dVar 4) dNil)) (dCons (dN (oIs maxI fun ns => 0 < ns.length) (dCons (dVar 4) dNil)) dNil)))) (dVar 2)))
  (sRet (dN oTup (dCons (dVar 3) (dCons (dC (.str "again")) dNil))))
  sNext)
  (sApp (dVar 2) (dNew (nLst (dCons (dN (oIs minI fun ns => 0 < ns.length) (dCons (dVar 4) dNil)) (dCons (dN (oIs maxI fun ns => 0 < ns.length) (dCons (dVar 4) dNil)) dNil)))))))))
theorem nrm_ok {n : Int} {d : Dat} (h : linkB n d = true) : okN 59 (nrm d) = true := by
  obtain ⟨a, b, e, _⟩ := link_is h
  rw [e]; rfl
theorem due_loop (C : Ct) {D : En} {n : Int} {xs : List Dat} (h8 : xs.length ≤ 8) (hg : ∀ d ∈ xs, good 4 d = true) : ∀ (rest done : List Dat) (x3 x4 : Option Sl) (m : Mem), done ++ rest = xs → (∀ d ∈ done, linkB n d = true) →
    (errGo n (done.map nrm) done.length rest ≠ .non → D.rt (errGo n (done.map nrm) done.length rest) m) →
    (errGo n (done.map nrm) done.length rest = .non → ∀ env, D.nx env m) →
    forGo (.nm 3) (bodyDue C) D (rangeD (done.length : Nat) rest.length) [some (.f (.int n)), some (.f (.tup xs)), some (.own (.lst (done.map nrm))), x3, x4, none] m
  | [], done, x3, x4, m, _, _, _, hQ => hQ rfl _
  | x :: rest, done, x3, x4, m, e, hd, hR, hQ => by
    have hx : x ∈ xs := by rw [← e]; simp
    have gx := hg x hx
    have hl : done.length + (rest.length + 1) = xs.length := by rw [← e]; simp
    rw [List.length_cons, rangeD_succ]
    unfold forGo
    have hb : DL.bind (.nm 3) (.f (.int (done.length : Nat))) [some (.f (.int n)), some (.f (.tup xs)), some (.own (.lst (done.map nrm))), x3, x4, none] = some [some (.f (.int n)), some (.f (.tup xs)), some (.own (.lst (done.map nrm))), some (.f (.int (done.length : Nat))), x4, none] := by simp [DL.bind]
    rw [hb]
    refine due_step (C := C) (seen := done.map nrm) (k := done.length) (x := x) (by rw [← e]; simp) h8 (by rw [List.length_map]; omega) gx (by
      rw [List.all_eq_true]
      intro y hy
      obtain ⟨z, hz, rfl⟩ := List.mem_map.mp hy
      exact nrm_ok (hd z hz)) (fun h => ?_) (fun h h' => ?_) fun h h' => ?_
    · have e : errGo n (done.map nrm) done.length (x :: rest) = .tup [.int (done.length : Nat), .str "link"] := by
        rw [errGo, h, if_neg (by decide)]
      rw [e] at hR
      exact hR (by simp)
    · have e : errGo n (done.map nrm) done.length (x :: rest) = .tup [.int (done.length : Nat), .str "again"] := by
        rw [errGo, h, if_pos rfl, if_pos h']
      rw [e] at hR
      exact hR (by simp)
    · have e2 : errGo n (done.map nrm) done.length (x :: rest) = errGo n ((done ++ [x]).map nrm) (done ++ [x]).length rest := by
        rw [errGo, h, if_pos rfl, if_neg (by rw [h']; decide), List.map_append, List.length_append]
        rfl
      rw [e2] at hR hQ
      have := due_loop C h8 hg rest (done ++ [x]) (some (.f (.int (done.length : Nat)))) (some (.f x)) m (by rw [List.append_assoc]; exact e) (fun d hd' => by
        rcases List.mem_append.mp hd' with q | q
        · exact hd d q
        · rw [List.mem_singleton.mp q]; exact h) hR hQ
      rw [List.length_append, List.map_append] at this
      exact this
theorem law_law_due (C : Ct) : ∀ ds m (Q : QD) (E : QX), p_err ds m Q E → rd_law_due C p_whole (fun c xs _ m => E c xs m) { nx := fun _ m => Q .non m, rt := Q } (env0 6 ds) m := by
  rintro ds m Q E ⟨_, ⟨nd, ld, rfl, hn, hl⟩, hQ, _⟩
  have hQ' : Q (errD nd ld) m := hQ _ _ ⟨nd, ld, rfl, rfl, rfl⟩
  have s2 : 2 ≤ sizeLine := sz (by decide)
  have e0 : env0 6 [nd, ld] = [some (.f nd), some (.f ld), none, none, none, none] := rfl
  rw [e0]
  unfold rd_law_due
  have bad : ∀ {D : En} {env : Env'}, D.rt (.tup [.non, .str "nodes"]) m → sRet (dN oTup (dCons (dC .non) (dCons (dC (.str "nodes")) dNil))) D env m := fun h => by
    simp [sRet, dN, oTup, dCons, dC, dNil, DL.frs, s2]; exact h
  have bad2 : ∀ {D : En} {env : Env'}, D.rt (.tup [.non, .str "links"]) m → sRet (dN oTup (dCons (dC .non) (dCons (dC (.str "links")) dNil))) D env m := fun h => by
    simp [sRet, dN, oTup, dCons, dC, dNil, DL.frs, s2]; exact h
  show sSeq _ (sSeq _ (sSeq _ (sSeq (sFor (.nm 3) (iRg1 (dN oLen (dCons (dVar 1) dNil))) (bodyDue C)) _))) _ _ _
  generalize hF : (sSeq (sFor (.nm 3) (iRg1 (dN oLen (dCons (dVar 1) dNil))) (bodyDue C)) _) = F
  unfold sSeq sIf dOr dNot dTst
  refine call_whole nd hn (fun Q h => h) ?_
  cases nd with
  | int n =>
    by_cases h1 : 1 ≤ n
    · by_cases h7 : n ≤ 7
      · have hQ2 : Q (errL n ld) m := by
          have e : errD (.int n) ld = errL n ld := if_pos ⟨h1, h7⟩
          rw [e] at hQ'; exact hQ'
        have h1' : ¬ n < 1 := by omega
        have h7' : ¬ 7 < n := by omega
        simp [isInt, dBin, dVar, dC, oI0, oI, h1', h7', sNext]
        cases ld with
        | tup xs =>
          simp [dN, oIsi, dCons, dVar, dC, dNil, derI, der, isaD, isa1, tyN, isT, dBin, oLen, oI0, oI]
          by_cases h8 : xs.length ≤ 8
          · rw [if_neg (by omega)]
            rw [show errL n (.tup xs) = errGo n [] 0 xs from if_pos h8] at hQ2
            obtain ⟨j, hj, _, hx⟩ := good_tup hl
            have hj' : j = 4 := by omega
            subst hj'
            subst hF
            have := due_loop C (D := { nx := fun env m => sRet (dC .non) { nx := fun x m => Q .non m, rt := Q } env m, rt := Q }) (n := n) h8 hx xs [] none none m rfl (by simp) (fun _ => hQ2) (fun e env => by
              have hQ3 : Q (errGo n [] 0 xs) m := hQ2
              rw [show errGo n [] 0 xs = .non from e] at hQ3
              exact hQ3)
            unfold sSetN nLst dNil
            simp [DL.frs]
            unfold sFor iRg1
            simp [dN, oLen, dCons, dVar, dNil, der]
            first | exact this | exact ⟨by omega, by omega, this⟩ | exact ⟨by omega, this⟩
          · rw [if_pos (by omega)]
            rw [show errL n (.tup xs) = .tup [.non, .str "links"] from if_neg h8] at hQ2
            exact bad2 hQ2
        | _ => first
          | (cases hl; done)
          | (simp [dN, oIsi, dCons, dVar, dC, dNil, derI, der, isaD, isa1, tyN, isT]; exact bad2 hQ2)
      · have e : errD (.int n) ld = .tup [.non, .str "nodes"] := if_neg (by omega)
        rw [e] at hQ'
        have h1' : ¬ n < 1 := by omega
        have h7' : 7 < n := by omega
        simp [isInt, dBin, dVar, dC, oI0, oI, h1', h7']
        exact bad hQ'
    · have e : errD (.int n) ld = .tup [.non, .str "nodes"] := if_neg (by omega)
      rw [e] at hQ'
      have h1' : n < 1 := by omega
      simp [isInt, dBin, dVar, dC, oI0, oI, h1']
      exact bad hQ'
  | _ =>
    simp [isInt]
    exact bad hQ'
end K02

set_option maxHeartbeats 1000000
namespace K02
open PySem PySem.Spec PyProof.Rows L2 DL DL.S

/-- a link with its ends in order, both below n -/
def isOrd (n : Nat) (d : Dat) : Prop := ∃ a b : Nat, d = .tup [.int a, .int b] ∧ a < b ∧ b < n
theorem isOrd.mono {n k : Nat} {d : Dat} (h : isOrd n d) (e : n ≤ k) : isOrd k d := by
  obtain ⟨a, b, h1, h2, h3⟩ := h
  exact ⟨a, b, h1, h2, by omega⟩
def pairsF : Nat → List Dat
  | 0 => []
  | k + 1 => pairsF k ++ (rangeD 0 k).map fun d => .tup [d, .int k]
theorem pairs_ord : ∀ k d, d ∈ pairsF k → isOrd k d
  | 0, d, h => by cases h
  | k + 1, d, h => by
    rcases List.mem_append.mp h with h | h
    · exact (pairs_ord k d h).mono (by omega)
    · obtain ⟨x, hx, rfl⟩ := List.mem_map.mp h
      obtain ⟨i, hi, rfl⟩ := List.mem_map.mp hx
      exact ⟨i, k, by simp, List.mem_range.mp hi, by omega⟩
theorem rangeD_len (k : Int) (r : Nat) : (rangeD k r).length = r := by simp [rangeD]
theorem pairs_len : ∀ k, (pairsF k).length ≤ k * k
  | 0 => Nat.le_refl _
  | k + 1 => by
    have := pairs_len k
    have e : (k + 1) * (k + 1) = k * k + k + k + 1 := by rw [Nat.mul_add, Nat.add_mul]; omega
    rw [pairsF, List.length_append, List.length_map, rangeD_len, e]
    omega
theorem pairs_ne {k : Nat} (h : 1 < k) : 0 < (pairsF k).length := by
  obtain ⟨j, rfl⟩ : ∃ j, k = j + 2 := ⟨k - 2, by omega⟩
  rw [pairsF, List.length_append, List.length_map, rangeD_len]
  omega
def p_pairs : DSp := pRel 1 (fun ds m => ∃ n : Nat, ds = [.int n] ∧ n ≤ 7) (fun ds m r m' => ∃ n : Nat, ds = [.int n] ∧ r = .lst (pairsF n) ∧ m' = m) noE
theorem pairs_step (C : Ct) {D : En} {n : Int} {k : Nat} {m : Mem} {x3 : Option Sl} (hk : k ≤ 7) (h : D.nx [some (.f (.int n)), some (.f (.lst (pairsF (k + 1)))), some (.f (.int k)), none] m) :
    (sAsg (.nm 1) (dNew (nCat (dVar 1) (dNew (nLc (.nm 3) dYes (dN oTup (dCons (dVar 3) (dCons (dVar 2) dNil))) [3] (iRg1 (dVar 2))))))) D [some (.f (.int n)), some (.f (.lst (pairsF k))), some (.f (.int k)), none] m := by
  have s2 : 100 ≤ sizeLine := sz (by decide)
  have hp := pairs_len k
  have hkk : k * k ≤ 49 := Nat.mul_le_mul hk hk
  simp [sAsg, dNew, nCat, dVar, lstOf, der, nLc, iRg1, DL.bind, wipeE]
  refine ⟨by omega, by have := rangeD_len 0 k; omega, lc_map (f := fun d => .tup [d, .int k]) (fun x hx Q h => ?_) ?_⟩
  · obtain ⟨i, hi, rfl⟩ := List.mem_map.mp hx
    simp [dN, oTup, dCons, dVar, dNil, DL.frs]
    have s2' : 2 ≤ sizeLine := by omega
    simp at h
    exact ⟨s2', h⟩
  · have hr := rangeD_len 0 k
    simp [hr]
    first
      | exact h
      | exact ⟨by omega, h⟩
theorem law_law_pairs (C : Ct) : ∀ ds m (Q : QD) (E : QX), p_pairs ds m Q E → rd_law_pairs C (fun c xs _ m => E c xs m) { nx := fun _ m => Q .non m, rt := Q } (env0 4 ds) m := by
  rintro ds m Q E ⟨_, ⟨n, rfl, hn⟩, hQ, _⟩
  have hQ' : Q (.lst (pairsF n)) m := hQ _ _ ⟨n, rfl, rfl, rfl⟩
  have e0 : env0 4 [.int n] = [some (.f (.int n)), none, none, none] := rfl
  rw [e0]
  unfold rd_law_pairs
  have loop : ∀ (r k : Nat) (x2 : Option Sl), k + r = n → ∀ D : En, (∀ x2, D.nx [some (.f (.int n)), some (.f (.lst (pairsF n))), x2, none] m) →
      forGo (.nm 2) (sAsg (.nm 1) (dNew (nCat (dVar 1) (dNew (nLc (.nm 3) dYes (dN oTup (dCons (dVar 3) (dCons (dVar 2) dNil))) [3] (iRg1 (dVar 2))))))) D (rangeD k r) [some (.f (.int n)), some (.f (.lst (pairsF k))), x2, none] m := by
    intro r
    induction r with
    | zero =>
      intro k x2 e D hD
      rw [Nat.add_zero] at e
      subst e
      exact hD _
    | succ r ih =>
      intro k x2 e D hD
      rw [rangeD_succ]
      unfold forGo
      have hb : DL.bind (.nm 2) (.f (.int k)) [some (.f (.int n)), some (.f (.lst (pairsF k))), x2, none] = some [some (.f (.int n)), some (.f (.lst (pairsF k))), some (.f (.int k)), none] := by simp [DL.bind]
      rw [hb]
      refine pairs_step (x3 := none) C (by omega) ?_
      exact ih (k + 1) _ (by omega) D hD
  have := loop n 0 none (by omega)
  unfold sSeq sAsg dNew nLst dNil sFor iRg1
  simp [DL.bind, DL.frs, dVar]
  first
    | exact ⟨by omega, by omega, this _ fun x2 => hQ'⟩
    | exact ⟨by omega, this _ fun x2 => hQ'⟩
end K02

set_option maxHeartbeats 1000000
namespace K02
open PySem PySem.Spec PyProof.Rows L2 DL DL.S

theorem call_next {da : TAd} {env : Env'} {m : Mem} {Q : QL} {tl : Mem} {c : Nat} (many : Int) (h0 : 0 < many) (h1 : many < 2 ^ 40) (hd : Dk c tl m) (hc : c < lim) (ha : ∀ Q : List Lv → Mem → Prop, Q [.f (.obj 1), .f (.int many)] m → da env m Q)
    (h : ∀ i m', 0 ≤ i → i < many → Dk (c + 1) tl m' → Q (.f (.int i)) m') : dCall p_next EX0 da env m Q :=
  call_is [.f (.obj 1), .f (.int many)] [.obj 1, .int many] ha rfl ⟨rfl, ⟨many, c, tl, rfl, h0, h1, hd, hc⟩, fun r m' ⟨many', i, e1, e2, e3, e4, e5⟩ => by
    cases e1; subst e2; exact h i m' e3 e4 (e5 c tl hd), fun _ _ _ q => q.elim⟩
theorem v_f {i : Nat} {env : Env'} {m : Mem} {Q : QL} {d : Dat} (e : env[i]? = some (some (.f d))) (h : Q (.f d) m) : dVar i env m Q := by
  unfold dVar; rw [e]; exact h
theorem v_o {i : Nat} {env : Env'} {m : Mem} {Q : QL} {o : Mo} (e : env[i]? = some (some (.own o))) (h : Q (.o i) m) : dVar i env m Q := by
  unfold dVar; rw [e]; exact h
def pr (p : Int × Int) : Dat := .tup [.int p.1, .int p.2]
theorem sortOk_pairs {ps : List (Int × Int)} (h : ∀ p ∈ ps, p.1.natAbs.log2 < 1920 ∧ p.2.natAbs.log2 < 1920) : sortOk (ps.map pr) := by
  refine ⟨?_, ?_, ?_⟩
  · rw [List.map_map]
    exact PySem.W.AllAlike.of fun _ _ => by simp [pr, py, DL.pys, PySem.W.alike, PySem.W.alikeAll]
  · rw [List.map_map]
    exact PySem.W.Sortable.tuples fun p => ⟨.int p.1, [.int p.2], by simp [pr, py, DL.pys]⟩
  · rw [List.all_eq_true]
    intro d hd
    obtain ⟨p, hp, rfl⟩ := List.mem_map.mp hd
    simp [pr, okR, (h p hp).1, (h p hp).2, sizeLine_eq]
theorem ord_pairs {n : Nat} : ∀ {xs : List Dat}, (∀ x ∈ xs, isOrd n x) → ∃ ps : List (Int × Int), xs = ps.map pr ∧ ∀ p ∈ ps, 0 ≤ p.1 ∧ p.1 < p.2 ∧ p.2 < n
  | [], _ => ⟨[], rfl, by simp⟩
  | x :: xs, h => by
    obtain ⟨ps, rfl, hp⟩ := ord_pairs (n := n) (xs := xs) fun y hy => h y (by simp [hy])
    obtain ⟨a, b, rfl, h1, h2⟩ := h x (by simp)
    refine ⟨((a : Int), (b : Int)) :: ps, rfl, fun p hp' => ?_⟩
    rcases List.mem_cons.mp hp' with rfl | q
    · exact ⟨by simp, by simpa using h1, by simpa using h2⟩
    · exact hp p q
theorem sortOk_ord {n : Nat} (hn : n ≤ 7) {xs : List Dat} (h : ∀ x ∈ xs, isOrd n x) : sortOk xs := by
  obtain ⟨ps, rfl, hp⟩ := ord_pairs h
  refine sortOk_pairs fun p hp' => ?_
  obtain ⟨h1, h2, h3⟩ := hp p hp'
  exact ⟨small h1 (by omega), small (by omega) (by omega)⟩
theorem sortD_mem {xs : List Dat} {x : Dat} (h : x ∈ sortD xs) : x ∈ xs := by
  unfold sortD at h
  exact (List.mergeSort_perm xs _).mem_iff.mp h
theorem sortD_len (xs : List Dat) : (sortD xs).length = xs.length := by
  unfold sortD
  exact List.length_mergeSort xs
theorem cutD_mem {xs : List Dat} {lo hi : Option Int} {x : Dat} (h : x ∈ DL.cutD xs lo hi) : x ∈ xs := List.mem_of_mem_drop (List.mem_of_mem_take h)
theorem cutD_len (xs : List Dat) (lo hi : Option Int) : (DL.cutD xs lo hi).length ≤ xs.length := by
  unfold DL.cutD
  rw [List.length_take, List.length_drop]
  omega
theorem cut_le (xs : List Dat) (k : Nat) : (DL.cutD xs none (some (k : Int))).length ≤ k := by
  unfold DL.cutD
  rw [HT.sIx_none, HT.sIx_nat, List.length_take, Nat.sub_zero]
  omega
/-- a promise with a ghost -/
def pGh {γ : Type} (n : Nat) (pre : γ → List Dat → Mem → Prop) (post : γ → List Dat → Mem → Dat → Mem → Prop) : DSp := fun ds m Q E => ds.length = n ∧ ∃ g, pre g ds m ∧ ∀ r m', post g ds m r m' → Q r m'
theorem pGh.mono {γ : Type} {n pre post} : MonoP (pGh (γ := γ) n pre post) := fun ds m Q Q' E E' i j ⟨h1, g, h2, h3⟩ => ⟨h1, g, h2, fun r m' q => i _ _ (h3 r m' q)⟩
theorem pGh.len {γ : Type} {n pre post} : ∀ ds m Q E, pGh (γ := γ) n pre post ds m Q E → ds.length = n := fun _ _ _ _ h => h.1
def p_net : DSp := pGh (γ := Nat × Mem) 2 (fun g ds m => ds = [.obj 1, .int 8] ∧ Dk g.1 g.2 m ∧ g.1 + 30 < lim)
  (fun g ds m r m' => ∃ (n : Nat) (xs : List Dat), r = .tup [.int n, .lst xs] ∧ 1 ≤ n ∧ n ≤ 7 ∧ xs.length ≤ 8 ∧ (∀ x ∈ xs, isOrd n x) ∧ Dk (g.1 + 30) g.2 m')
theorem call_pairs {da : TAd} {env : Env'} {m : Mem} {Q : QL} (n : Nat) (hn : n ≤ 7) (ha : ∀ Q : List Lv → Mem → Prop, Q [.f (.int n)] m → da env m Q) (h : Q (.f (.lst (pairsF n))) m) : dCall p_pairs EX0 da env m Q :=
  call_is [.f (.int n)] [.int n] ha rfl ⟨rfl, ⟨n, rfl, hn⟩, fun r m' ⟨n', e1, e2, e3⟩ => by
    have : n' = n := by simp at e1; omega
    subst this e2 e3; exact h, fun _ _ _ q => q.elim⟩
theorem ord_ok {n k : Nat} {d : Dat} (h : isOrd n d) : okN (k + 1) d = true := by
  obtain ⟨a, b, rfl, _⟩ := h
  rw [okN]; simp [okR1]
/-- one turn of the loop of links -/
theorem net_step {D : En} {n : Nat} {x4 x6 x7 : Option Sl} {found : List Dat} {m tl : Mem} {c : Nat} (hn : n ≤ 7) (h1 : 1 < n) (hd : Dk c tl m) (hc : c < lim) (hf : ∀ x ∈ found, isOrd n x) (hL : found.length ≤ 100)
    (h : ∀ m' found' x7, Dk (c + 1) tl m' → (∀ x ∈ found', isOrd n x) → found'.length ≤ found.length + 1 → D.nx [some (.f (.obj 1)), some (.f (.int 8)), some (.f (.int n)), some (.f (.lst (pairsF n))), x4, some (.own (.lst found')), x6, x7] m') :
    (sSeq (sAsg (.nm 7) (dBin oIx (dVar 3) (dCall p_next EX0 (dCons (dVar 0) (dCons (dN oLen (dCons (dVar 3) dNil)) dNil)))))
  (sIf (dTst (dBin (oIn not) (dVar 7) (dVar 5)))
  (sApp (dVar 5) (dVar 7))
  sNext)) D [some (.f (.obj 1)), some (.f (.int 8)), some (.f (.int n)), some (.f (.lst (pairsF n))), x4, some (.own (.lst found)), x6, x7] m := by
  have s2 : 1000 ≤ sizeLine := sz (by decide)
  have p1 := pairs_len n
  have p2 := pairs_ne h1
  have p3 : n * n ≤ 49 := Nat.mul_le_mul hn hn
  unfold sSeq sAsg
  simp only [dBin]
  refine v_f rfl ?_
  refine call_next (tl := tl) (c := c) ((pairsF n).length : Int) (by omega) (by omega) hd hc (fun Q h => by
    simp [dCons, dVar, dN, oLen, dNil, DL.frs, der]
    exact h) fun i m' i0 i1 hd' => ?_
  obtain ⟨d, e1, e2⟩ := atI_int i0 i1
  have ho : isOrd n d := pairs_ord n d (List.mem_of_getElem? e2)
  simp only [oIx, der, e1, DL.bind]
  unfold sIf dTst
  simp only [dBin]
  refine v_f rfl (v_o rfl ?_)
  refine oIn_o (bs := found) rfl (ord_ok ho) (by rw [List.all_eq_true]; exact fun x hx => ord_ok (hf x hx)) ?_
  cases hx : found.any fun b => eqd b d with
  | true => exact h m' found _ hd' hf (by omega)
  | false =>
    show sApp (dVar 5) (dVar 7) D _ _
    simp [sApp, dVar, moOf, setE, setM]
    refine ⟨by omega, h m' _ _ hd' (fun x hx => ?_) (by simp)⟩
    rcases List.mem_append.mp hx with q | q
    · exact hf x q
    · rw [List.mem_singleton.mp q]; exact ho
theorem net_loop {D : En} {n : Nat} {x4 : Option Sl} (hn : n ≤ 7) (h1 : 1 < n) : ∀ (r : Nat) (k : Int) (x6 x7 : Option Sl) (found : List Dat) (m tl : Mem) (c : Nat), Dk c tl m → c + r < lim → (∀ x ∈ found, isOrd n x) → found.length + r ≤ 100 →
    (∀ m' found' x6 x7, Dk (c + r) tl m' → (∀ x ∈ found', isOrd n x) → found'.length ≤ found.length + r → D.nx [some (.f (.obj 1)), some (.f (.int 8)), some (.f (.int n)), some (.f (.lst (pairsF n))), x4, some (.own (.lst found')), x6, x7] m') →
    forGo (.nm 6) (sSeq (sAsg (.nm 7) (dBin oIx (dVar 3) (dCall p_next EX0 (dCons (dVar 0) (dCons (dN oLen (dCons (dVar 3) dNil)) dNil)))))
  (sIf (dTst (dBin (oIn not) (dVar 7) (dVar 5)))
  (sApp (dVar 5) (dVar 7))
  sNext)) D (rangeD k r) [some (.f (.obj 1)), some (.f (.int 8)), some (.f (.int n)), some (.f (.lst (pairsF n))), x4, some (.own (.lst found)), x6, x7] m
  | 0, k, x6, x7, found, m, tl, c, hd, hc, hf, hL, h => h m found x6 x7 hd hf (by omega)
  | r + 1, k, x6, x7, found, m, tl, c, hd, hc, hf, hL, h => by
    rw [rangeD_succ]
    unfold forGo
    have hb : DL.bind (.nm 6) (.f (.int k)) [some (.f (.obj 1)), some (.f (.int 8)), some (.f (.int n)), some (.f (.lst (pairsF n))), x4, some (.own (.lst found)), x6, x7] = some [some (.f (.obj 1)), some (.f (.int 8)), some (.f (.int n)), some (.f (.lst (pairsF n))), x4, some (.own (.lst found)), some (.f (.int k)), x7] := by simp [DL.bind]
    rw [hb]
    refine net_step hn h1 hd (by omega) hf (by omega) fun m' found' x7' hd' hf' hL' => ?_
    exact net_loop hn h1 r (k + 1) _ _ found' m' tl (c + 1) hd' (by omega) hf' (by omega) fun m2 f2 y6 y7 a b e => h m2 f2 y6 y7 (by rw [show c + (r + 1) = c + 1 + r by omega]; exact a) b (by omega)
end K02

set_option maxHeartbeats 1000000
namespace K02
open PySem PySem.Spec PyProof.Rows L2 DL DL.S

theorem seq_i {a b : TSd} {D : En} {env : Env'} {m : Mem} (h : a { D with nx := fun env m => b D env m } env m) : sSeq a b D env m := h
theorem c_i {d : Dat} {env : Env'} {m : Mem} {Q : QL} (h : Q (.f d) m) : dC d env m Q := h
theorem lc_next {tl : Mem} {n : Nat} {x1 x3 x4 x5 x7 : Option Sl} {Q : List Dat → Mem → Prop} : ∀ (r k : Nat) (x6 : Option Sl) (m : Mem) (c : Nat), Dk c tl m → c + r < lim → 1 ≤ k → k + r ≤ n → n ≤ 7 →
    (∀ ds m', Dk (c + r) tl m' → (∀ x ∈ ds, isOrd n x) → ds.length ≤ r → Q ds m') →
    lcGo (.nm 6) dYes (dN oTup (dCons (dCall p_next EX0 (dCons (dVar 0) (dCons (dVar 6) dNil))) (dCons (dVar 6) dNil))) [some (.f (.obj 1)), x1, some (.f (.int n)), x3, x4, x5, x6, x7] (rangeD k r) m Q := by
  intro r
  induction r generalizing Q with
  | zero => intro k x6 m c hd _ _ _ _ h; exact h [] m hd (by simp) (by simp)
  | succ r ih =>
    intro k x6 m c hd hc h1 hk hn h
    have s2 : 1000 ≤ sizeLine := sz (by decide)
    have hlim : lim = 2 ^ 40 := rfl
    rw [rangeD_succ]
    unfold lcGo
    have hb : DL.bind (.nm 6) (.f (.int k)) [some (.f (.obj 1)), x1, some (.f (.int n)), x3, x4, x5, x6, x7] = some [some (.f (.obj 1)), x1, some (.f (.int n)), x3, x4, x5, some (.f (.int k)), x7] := by simp [DL.bind]
    rw [hb]
    simp only [dYes, if_true, dN, dCons]
    refine call_next (tl := tl) (c := c) k (by omega) (by omega) hd (by omega) (fun Q h => h) fun i m1 i0 i1 hd1 => ?_
    refine v_f rfl ?_
    simp only [dNil, DL.frs, oTup]
    refine ⟨by simp only [List.length_cons, List.length_nil]; omega, ?_⟩
    refine ih (k + 1) x6 m1 (c + 1) hd1 (by omega) (by omega) (by omega) hn fun ds m' hd' hds hl => ?_
    refine h _ m' (by rw [show c + (r + 1) = c + 1 + r by omega]; exact hd') (fun x hx => ?_) (by simp; omega)
    rcases List.mem_cons.mp hx with rfl | q
    · exact ⟨i.toNat, k, by rw [show ((i.toNat : Nat) : Int) = i by omega], by omega, by omega⟩
    · exact hds x q
theorem law_law_net (C : Ct) : ∀ ds m (Q : QD) (E : QX), p_net ds m Q E → rd_law_net C p_next p_pairs (fun c xs _ m => E c xs m) { nx := fun _ m => Q .non m, rt := Q } (env0 8 ds) m := by
  rintro ds m Q E ⟨_, ⟨c, tl⟩, ⟨rfl, hd, hc⟩, hQ⟩
  have s2 : 1000 ≤ sizeLine := sz (by decide)
  have hlim : lim = 2 ^ 40 := rfl
  have e0 : env0 8 [.obj 1, .int 8] = [some (.f (.obj 1)), some (.f (.int 8)), none, none, none, none, none, none] := rfl
  rw [e0]
  unfold rd_law_net
  have fin : ∀ (n : Nat) (found : List Dat) (m' : Mem) x4 x6 x7, 1 ≤ n → n ≤ 7 → Dk (c + 30) tl m' → (∀ x ∈ found, isOrd n x) → (sKeep 5 (sRet (dN oTup (dCons (dVar 2) (dCons (dNew (nSort (dSl (dVar 5) dNo (dPart (dVar 1))))) dNil))))) { nx := fun _ m => Q .non m, rt := Q } [some (.f (.obj 1)), some (.f (.int 8)), some (.f (.int n)), some (.f (.lst (pairsF n))), x4, some (.own (.lst found)), x6, x7] m' := by
    intro n found m' x4 x6 x7 h1 h7 hd' hf
    simp [sKeep, sRet, dN, oTup, dCons, dVar, dNew, nSort, dSl, dNo, dPart, der, seqOf, dNil, DL.frs]
    refine ⟨sortOk_ord h7 fun x hx => hf x (cutD_mem hx), by omega, hQ _ _ ⟨n, _, rfl, h1, h7, ?_, fun x hx => hf x (cutD_mem (sortD_mem hx)), hd'⟩⟩
    rw [sortD_len]
    exact cut_le found 8
  have turn : ∀ (n : Nat) (found : List Dat) (m' : Mem) x4 x6 x7 (d : Nat), 1 ≤ n → n ≤ 7 → d ≤ 12 → Dk (c + d) tl m' → (∀ x ∈ found, isOrd n x) → found.length ≤ 10 →
      (sSeq (sFor (.nm 6) (iRg1 (dBin oMul (dBin oIx (dNew (nLst (dCons (dVar 1) (dCons (dCall p_next EX0 (dCons (dVar 0) (dCons (dBin oAdd (dVar 1) (dC (.int 1))) dNil))) dNil)))) (dCall p_next EX0 (dCons (dVar 0) (dCons (dC (.int 2)) dNil)))) (dN (oN1 fInt) (dCons (dBin oGt (dVar 2) (dC (.int 1))) dNil))))
  (sSeq (sAsg (.nm 7) (dBin oIx (dVar 3) (dCall p_next EX0 (dCons (dVar 0) (dCons (dN oLen (dCons (dVar 3) dNil)) dNil)))))
  (sIf (dTst (dBin (oIn not) (dVar 7) (dVar 5)))
  (sApp (dVar 5) (dVar 7))
  sNext)))
  (sKeep 5 (sRet (dN oTup (dCons (dVar 2) (dCons (dNew (nSort (dSl (dVar 5) dNo (dPart (dVar 1))))) dNil)))))) { nx := fun _ m => Q .non m, rt := Q } [some (.f (.obj 1)), some (.f (.int 8)), some (.f (.int n)), some (.f (.lst (pairsF n))), x4, some (.own (.lst found)), x6, x7] m' := by
    intro n found m' x4 x6 x7 d h1 h7 hd12 hd' hf hL
    refine seq_i ?_
    unfold sFor iRg1
    simp only [dBin, dNew, nLst, dCons]
    refine v_f rfl ?_
    refine call_next (tl := tl) (c := c + d) 9 (by omega) (by omega) hd' (by omega) (fun Q h => by
      simp [dCons, dVar, dNil, oAdd, dC, DL.frs]
      exact h) fun i m2 i0 i1 hd2 => ?_
    simp only [dNil, DL.frs]
    refine ⟨by simp only [List.length_cons, List.length_nil]; omega, ?_⟩
    refine call_next (tl := tl) (c := c + d + 1) 2 (by omega) (by omega) hd2 (by omega) (fun Q h => h) fun j m3 j0 j1 hd3 => ?_
    have hi : ∃ q : Nat, q ≤ 8 ∧ atI [Dat.int 8, .int i] j = some (.int q) := by
      rcases (show j = 0 ∨ j = 1 by omega) with rfl | rfl
      · exact ⟨8, by omega, atI0 _ _⟩
      · exact ⟨i.toNat, by omega, by rw [show ((i.toNat : Nat) : Int) = i by omega]; exact atI1 _ _ _⟩
    obtain ⟨q, q8, eq⟩ := hi
    simp only [oIx, der, eq]
    by_cases hn : 1 < n
    · have hn' : (1 : Int) < n := by omega
      simp [dN, oN1, fInt, dCons, dBin, dVar, oGt, oI0, oI, dC, dNil, DL.frs, hn', hn, oMul]
      refine ⟨.inl ⟨by omega, by omega⟩, by omega, ?_⟩
      refine net_loop h7 hn q 0 x6 x7 found m3 tl (c + d + 1 + 1) hd3 (by omega) hf (by omega) fun m4 f4 y6 y7 hd4 hf4 hL4 => ?_
      exact fin n f4 m4 x4 y6 y7 h1 h7 (hd4.mono (by omega)) hf4
    · have hn' : ¬ (1 : Int) < n := by omega
      simp [dN, oN1, fInt, dCons, dBin, dVar, oGt, oI0, oI, dC, dNil, DL.frs, hn', hn, oMul]
      try refine ⟨.inl ⟨by omega, by omega⟩, ?_⟩
      exact fin n found m3 x4 x6 x7 h1 h7 (hd3.mono (by omega)) hf
  refine seq_i ?_
  unfold sAsg
  simp only [dBin, dNew, nLst, dCons]
  refine c_i ?_
  refine call_next (tl := tl) (c := c) 7 (by omega) (by omega) hd (by omega) (fun Q h => h) fun i m1 i0 i1 hd1 => ?_
  simp only [oAdd, dC, dNil, DL.frs]
  refine ⟨by simp only [List.length_cons, List.length_nil]; omega, ?_⟩
  refine call_next (tl := tl) (c := c + 1) 4 (by omega) (by omega) hd1 (by omega) (fun Q h => h) fun j m2 j0 j1 hd2 => ?_
  have hi : ∃ n : Nat, 1 ≤ n ∧ n ≤ 7 ∧ atI [Dat.int (1 + i), .int 4, .int 5, .int 7] j = some (.int n) := by
    rcases (show j = 0 ∨ j = 1 ∨ j = 2 ∨ j = 3 by omega) with rfl | rfl | rfl | rfl
    · exact ⟨(1 + i).toNat, by omega, by omega, by rw [show (((1 + i).toNat : Nat) : Int) = 1 + i by omega]; exact atI0 _ _⟩
    · exact ⟨4, by omega, by omega, atI1 _ _ _⟩
    · exact ⟨5, by omega, by omega, atI2 _ _ _ _⟩
    · exact ⟨7, by omega, by omega, DL.atI_nat (i := 3) rfl⟩
  obtain ⟨n, n1, n7, en⟩ := hi
  simp only [oIx, der, en, DL.bind]
  refine seq_i ?_
  unfold sPar3N
  refine call_pairs n n7 (fun Q h => h) ?_
  refine call_next (tl := tl) (c := c + 1 + 1) 4 (by omega) (by omega) hd2 (by omega) (fun Q h => h) fun kind m3 k0 k1 hd3 => ?_
  simp only [nLst, dNil, DL.frs]
  refine ⟨by simp, ?_⟩
  refine seq_i ?_
  have cont : ∀ (found : List Dat) x6, found.length ≤ 10 → (∀ x ∈ found, isOrd n x) → (kind = 1 → found = []) → (sSeq (sIf (dTst (dBin (oEq id) (dVar 4) (dC (Dat.int 1))))
        (sSetN 5
          (nLc (Tg.nm 6) dYes
            (dN oTup (dCons (dCall p_next EX0 (dCons (dVar 0) (dCons (dVar 6) dNil))) (dCons (dVar 6) dNil))) [6]
            (iRg2 (dC (Dat.int 1)) (dVar 2))))
        sNext) (sSeq (sFor (.nm 6) (iRg1 (dBin oMul (dBin oIx (dNew (nLst (dCons (dVar 1) (dCons (dCall p_next EX0 (dCons (dVar 0) (dCons (dBin oAdd (dVar 1) (dC (.int 1))) dNil))) dNil)))) (dCall p_next EX0 (dCons (dVar 0) (dCons (dC (.int 2)) dNil)))) (dN (oN1 fInt) (dCons (dBin oGt (dVar 2) (dC (.int 1))) dNil))))
  (sSeq (sAsg (.nm 7) (dBin oIx (dVar 3) (dCall p_next EX0 (dCons (dVar 0) (dCons (dN oLen (dCons (dVar 3) dNil)) dNil)))))
  (sIf (dTst (dBin (oIn not) (dVar 7) (dVar 5)))
  (sApp (dVar 5) (dVar 7))
  sNext)))
  (sKeep 5 (sRet (dN oTup (dCons (dVar 2) (dCons (dNew (nSort (dSl (dVar 5) dNo (dPart (dVar 1))))) dNil))))))) { nx := fun _ m => Q .non m, rt := Q } [some (.f (.obj 1)), some (.f (.int 8)), some (.f (.int n)), some (.f (.lst (pairsF n))), some (.f (.int kind)), some (.own (.lst found)), x6, none] m3 := by
    intro found x6 hL hf hk
    refine seq_i ?_
    unfold sIf dTst
    simp only [dBin]
    refine v_f rfl (c_i ?_)
    refine oEq_l (okR1 _ _) (okR1 _ _) ?_
    rw [eqd_int]
    by_cases hk1 : kind = 1
    · subst hk1
      rw [show id ((1 : Int) == 1) = true from rfl]
      simp only [if_true]
      unfold sSetN nLc iRg2
      refine c_i (v_f rfl ⟨⟨by omega, by omega, by omega, by omega⟩, by rw [rangeD_len]; omega, ?_⟩)
      rw [show ((n : Int) - 1).toNat = n - 1 by omega]
      refine lc_next (tl := tl) (n := n) (n - 1) 1 none m3 (c + 1 + 1 + 1) hd3 (by omega) (by omega) (by omega) n7 fun ds m4 hd4 hds hl => ?_
      exact turn n ds m4 _ _ _ (n + 2) n1 n7 (by omega) (by rw [show c + (n + 2) = c + 1 + 1 + 1 + (n - 1) by omega]; exact hd4) hds (by omega)
    · have e : decide (kind = 1) = false := decide_eq_false hk1
      rw [show (id (kind == 1)) = false by simp [hk1]]
      exact turn n found m3 _ _ _ 3 n1 n7 (by omega) (by exact hd3) hf hL
  unfold sIf dAnd dTst
  simp only [dBin]
  refine v_f rfl (c_i ?_)
  refine oEq_l (okR1 _ _) (okR1 _ _) ?_
  rw [eqd_int]
  by_cases hk0 : kind = 0
  · subst hk0
    by_cases h2 : 2 < n
    · have h2' : (2 : Int) < n := by omega
      simp [oGt, oI0, oI, dVar, dC, h2', h2]
      show sSetN 5 _ _ _ _
      unfold sSetN
      simp only [nCat, dNew, nLc, iRg1, dBin]
      simp [dVar, dC, oSub, oI0, oI]
      refine ⟨by omega, by omega, by rw [rangeD_len]; omega, lc_map (f := fun d => match d with | .int i => .tup [.int i, .int (i + 1)] | d => d) (fun x hx Q h => ?_) ?_⟩
      · obtain ⟨i, hi, rfl⟩ := List.mem_map.mp hx
        simp [dN, oTup, dCons, dVar, dBin, oAdd, dC, dNil, DL.frs, wipeE]
        simp at h
        exact ⟨by omega, h⟩
      · have hL := rangeD_len 0 (n - 1)
        simp [nLst, dN, oTup, dCons, dBin, dVar, oI, dC, dNil, DL.frs, lstOf, der]
        refine ⟨by omega, by omega, by omega, ?_⟩
        refine cont _ none (by simp; omega) (fun x hx => ?_) (fun h => absurd h (by decide))
        rcases List.mem_append.mp hx with q | q
        · obtain ⟨y, hy, rfl⟩ := List.mem_map.mp q
          obtain ⟨i, hi, rfl⟩ := List.mem_map.mp hy
          have := List.mem_range.mp hi
          exact ⟨i, i + 1, by simp, by omega, by omega⟩
        · rw [List.mem_singleton.mp q]
          exact ⟨0, n - 1, by simp; omega, by omega, by omega⟩
    · have h2' : ¬ (2 : Int) < n := by omega
      simp [oGt, oI0, oI, dVar, dC, h2', h2]
      exact cont [] none (by simp) (by simp) (fun _ => rfl)
  · have e : (id (kind == 0)) = false := by simp [hk0]
    rw [e]
    exact cont [] none (by simp) (by simp) (fun _ => rfl)
end K02

set_option maxHeartbeats 1000000
namespace K02
open PySem PySem.Spec PyProof.Rows L2 DL DL.S

theorem strOk_app (a b : Str) : PyData.strOk (a ++ b) = (PyData.strOk a && PyData.strOk b) := by
  show (a.cps ++ b.cps).all _ = _
  rw [Array.all_append]; rfl
theorem so1 : PyData.strOk (Str.ofString ", ") = true := by decide +kernel
theorem so2 : PyData.strOk (Str.ofString "") = true := by decide +kernel
theorem so3 : PyData.strOk (Str.ofString "[") = true := by decide +kernel
theorem so4 : PyData.strOk (Str.ofString "]") = true := by decide +kernel
theorem so5 : PyData.strOk (Str.ofString "(") = true := by decide +kernel
theorem so6 : PyData.strOk (Str.ofString ")") = true := by decide +kernel
theorem so7 : PyData.strOk (Str.ofString ",)") = true := by decide +kernel
theorem so8 : PyData.strOk ((Str.ofString ", ").join []) = true := by decide +kernel
theorem strOk_text : ∀ (ts : List Str) (k : Nat) (acc : Str), PyData.strOk acc = true → (∀ t ∈ ts, PyData.strOk t = true) → PyData.strOk (textFrom k acc ts) = true
  | [], k, acc, h, _ => h
  | t :: r, k, acc, h, ht => by
    have h1 : PyData.strOk (acc ++ ((if k > 0 then ", " else "" : String) : Str) ++ t) = true := by
      rw [strOk_app, strOk_app, h, ht t (by simp)]
      split <;> simp [so1, so2]
    exact strOk_text r (k + 1) _ h1 fun x hx => ht x (by simp [hx])
theorem strOk_list {ts : List Str} (h : ∀ t ∈ ts, PyData.strOk t = true) : PyData.strOk (listText ts) = true := by
  unfold listText
  rw [strOk_app, strOk_text ts 0 _ so3 h, so4]; rfl
theorem strOk_join : ∀ {ts : List Str}, (∀ t ∈ ts, PyData.strOk t = true) → PyData.strOk (Str.join ", " ts) = true
  | [], _ => so8
  | [x], h => h x (by simp)
  | x :: y :: r, h => by
    show PyData.strOk (x ++ ", " ++ Str.join ", " (y :: r)) = true
    rw [strOk_app, strOk_app, h x (by simp), strOk_join (ts := y :: r) fun t ht => h t (by simp at ht ⊢; exact .inr ht), so1]; rfl
theorem strOk_tuple {ts : List Str} (h : ∀ t ∈ ts, PyData.strOk t = true) : PyData.strOk (tupleText ts) = true := by
  unfold tupleText
  rw [strOk_app, strOk_app, strOk_join h, so5]
  split <;> simp [so6, so7]
theorem shownAll_mem : ∀ {xs : List Dat} {t : Str}, t ∈ PyData.shownAll (pys xs) → ∃ x ∈ xs, t = (py x).shown
  | [], t, h => by cases h
  | x :: xs, t, h => by
    rw [pys, PyData.shownAll] at h
    rcases List.mem_cons.mp h with rfl | h
    · exact ⟨x, by simp, rfl⟩
    · obtain ⟨y, hy, e⟩ := shownAll_mem h
      exact ⟨y, by simp [hy], e⟩
def shOk : Nat → Dat → Bool
  | k + 1, .tup xs => xs.all (shOk k)
  | k + 1, .lst xs => xs.all (shOk k)
  | _, d => PyData.strOk (py d).shown
theorem sh_of : ∀ {k : Nat} {d : Dat}, shOk k d = true → PyData.strOk (py d).shown = true := by
  intro k
  induction k with
  | zero => intro d h; cases d <;> exact h
  | succ k ih =>
    intro d h
    cases d with
    | tup xs =>
      rw [shOk, List.all_eq_true] at h
      exact strOk_tuple fun t ht => by
        obtain ⟨x, hx, rfl⟩ := shownAll_mem ht
        exact ih (h x hx)
    | lst xs =>
      rw [shOk, List.all_eq_true] at h
      exact strOk_list fun t ht => by
        obtain ⟨x, hx, rfl⟩ := shownAll_mem ht
        exact ih (h x hx)
    | _ => exact h
end K02

set_option maxHeartbeats 1000000
namespace K02
open PySem PySem.Spec PyProof.Rows L2 DL DL.S

/-- what may stand in the rows: good data, shown in few signs -/
def el (d : Dat) : Bool := (good 4 d && okR 30 d) && ((py d).leavesShort 40 && (decide ((py d).bulk ≤ 100) && shOk 10 d))
theorem el_iff {d : Dat} : el d = true ↔ good 4 d = true ∧ okR 30 d = true ∧ (py d).leavesShort 40 = true ∧ (py d).bulk ≤ 100 ∧ shOk 10 d = true := by
  unfold el
  rw [Bool.and_eq_true, Bool.and_eq_true, Bool.and_eq_true, Bool.and_eq_true, decide_eq_true_iff, and_assoc]
theorem leaves_all {B : Nat} : ∀ {xs : List Dat}, PyData.leavesShortAll B (pys xs) = true ↔ ∀ x ∈ xs, (py x).leavesShort B = true
  | [] => by simp [pys, PyData.leavesShortAll]
  | x :: xs => by
    rw [pys, PyData.leavesShortAll, Bool.and_eq_true, leaves_all (xs := xs)]
    simp
theorem bulk_sum : ∀ xs : List Dat, PyData.bulkAll (pys xs) = (xs.map fun x => (py x).bulk + 1).sum
  | [] => rfl
  | x :: xs => by
    rw [pys, PyData.bulkAll, bulk_sum xs]
    simp
theorem bulk_rev (xs : List Dat) : PyData.bulkAll (pys xs.reverse) = PyData.bulkAll (pys xs) := by
  rw [bulk_sum, bulk_sum, List.map_reverse, List.sum_reverse]
theorem el_rev {xs : List Dat} (h : el (.tup xs) = true) : el (.tup xs.reverse) = true := by
  rw [el_iff] at h ⊢
  obtain ⟨h1, h2, h3, h4, h5⟩ := h
  refine ⟨?_, ?_, ?_, ?_, ?_⟩
  · rw [good, Bool.and_eq_true] at h1 ⊢
    rw [List.length_reverse, List.all_reverse]
    exact h1
  · rw [okR] at h2 ⊢
    rw [List.all_reverse]
    exact h2
  · show PyData.leavesShortAll 40 (pys xs.reverse) = true
    rw [leaves_all]
    have h3' : PyData.leavesShortAll 40 (pys xs) = true := h3
    rw [leaves_all] at h3'
    exact fun x hx => h3' x (List.mem_reverse.mp hx)
  · show PyData.bulkAll (pys xs.reverse) ≤ 100
    rw [bulk_rev]
    exact h4
  · rw [shOk] at h5 ⊢
    rw [List.all_reverse]
    exact h5
/-- small pairs -/
def elp : Bool := (List.range 20).all fun a => (List.range 20).all fun b => el (.tup [.int a, .int b])
theorem elp_ok : elp = true := by decide +kernel
theorem el_pair {a b : Nat} (ha : a < 20) (hb : b < 20) : el (.tup [.int a, .int b]) = true := by
  have h := elp_ok
  unfold elp at h
  rw [List.all_eq_true] at h
  have h2 := h a (List.mem_range.mpr ha)
  rw [List.all_eq_true] at h2
  exact h2 b (List.mem_range.mpr hb)
theorem el_ord {n : Nat} (hn : n ≤ 7) {d : Dat} (h : isOrd n d) : el d = true := by
  obtain ⟨a, b, rfl, h1, h2⟩ := h
  exact el_pair (by omega) (by omega)
theorem bulk_le {xs : List Dat} (h : ∀ x ∈ xs, el x = true) : PyData.bulkAll (pys xs) ≤ 101 * xs.length := by
  induction xs with
  | nil => exact Nat.zero_le _
  | cons x xs ih =>
    have h1 := (el_iff.mp (h x (by simp))).2.2.2.1
    have h2 := ih fun y hy => h y (by simp [hy])
    rw [pys, PyData.bulkAll, List.length_cons]
    omega
end K02

set_option maxHeartbeats 1000000
namespace K02
open PySem PySem.Spec PyProof.Rows L2 DL DL.S

def l01 : Dat := .tup [.int 0, .int 1]
def p_odd : DSp := pGh (γ := Nat × Mem) 2 (fun g ds m => ds = [.obj 1, l01] ∧ Dk g.1 g.2 m ∧ g.1 + 1 < lim)
  (fun g ds m r m' => el r = true ∧ Dk (g.1 + 1) g.2 m')
theorem law_law_odd (C : Ct) : ∀ ds m (Q : QD) (E : QX), p_odd ds m Q E → rd_law_odd C p_next (fun c xs _ m => E c xs m) { nx := fun _ m => Q .non m, rt := Q } (env0 3 ds) m := by
  rintro ds m Q E ⟨_, ⟨c, tl⟩, ⟨rfl, hd, hc⟩, hQ⟩
  have s2 : 1000 ≤ sizeLine := sz (by decide)
  have e0 : env0 3 [.obj 1, l01] = [some (.f (.obj 1)), some (.f l01), none] := rfl
  rw [e0]
  unfold rd_law_odd
  refine seq_i ?_
  simp [sAsg, dNew, nLst, dCons, dC, dUn, oU, dBin, oPow, dN, oTup, dNil, DL.frs, DL.bind]
  refine ⟨⟨by decide, by decide, by decide⟩, by omega, by omega, by omega, ?_⟩
  refine seq_i ?_
  simp [sAsg, dNew, nLst, dCons, dC, dUn, oU, dBin, dN, oTup, dNil, DL.frs, DL.bind, nCat, dVar, lstOf, der]
  repeat (with_reducible refine And.intro (by omega) ?_)
  refine seq_i ?_
  simp [sAsg, dNew, nLst, dCons, dC, dUn, oU, dBin, dN, oTup, dNil, DL.frs, DL.bind, nCat, dVar, lstOf, der, l01, nList, seqOf, dBack, oAdd, dDct1, oIx, atI0, atI1]
  repeat (with_reducible refine And.intro (by omega) ?_)
  generalize hX : [Dat.non, Dat.bl true, _, _, _, _, _, _, _, _, _, _, _, _, _, _, _, _, _, _, _, _, _, _, _, _, _, _, _, _, _, _, _, _, _, _, _] = xs
  have hl : xs.length = 37 := by rw [← hX]; rfl
  have hg : ∀ x ∈ xs, el x = true := by
    have : xs.all (el) = true := by
      rw [← hX]
      decide +kernel
    exact List.all_eq_true.mp this
  unfold sRet
  simp only [dBin]
  refine v_f rfl ?_
  refine call_next (tl := tl) (c := c) (37 : Int) (by omega) (by omega) hd (by have : c + 1 < lim := hc; omega) (fun Q h => by
      simp [dCons, dVar, dN, oLen, dNil, DL.frs, der, hl]
      exact h) fun i m' i0 i1 hd' => ?_
  obtain ⟨d, e1, e2⟩ := atI_int (l := xs) i0 (by rw [hl]; exact i1)
  simp only [oIx, der, e1]
  exact hQ _ _ ⟨hg d (List.mem_of_getElem? e2), hd'⟩
end K02

set_option maxHeartbeats 1000000
namespace K02
open PySem PySem.Spec PyProof.Rows L2 DL DL.S

theorem call_odd {da : TAd} {env : Env'} {m : Mem} {Q : QL} {tl : Mem} {c : Nat} (hd : Dk c tl m) (hc : c + 1 < lim) (ha : ∀ Q : List Lv → Mem → Prop, Q [.f (.obj 1), .f l01] m → da env m Q)
    (h : ∀ r m', el r = true → Dk (c + 1) tl m' → Q (.f r) m') : dCall p_odd EX0 da env m Q :=
  call_is [.f (.obj 1), .f l01] [.obj 1, l01] ha rfl ⟨rfl, (c, tl), ⟨rfl, hd, hc⟩, fun r m' ⟨e1, e2⟩ => h r m' e1 e2⟩
def p_bent : DSp := pGh (γ := Nat × Mem) 2 (fun g ds m => ∃ xs, ds = [.obj 1, .lst xs] ∧ xs.length ≤ 100 ∧ (∀ x ∈ xs, el x = true) ∧ Dk g.1 g.2 m ∧ g.1 + 10 < lim)
  (fun g ds m r m' => ∃ xs ys, ds = [.obj 1, .lst xs] ∧ r = .lst ys ∧ ys.length ≤ xs.length + 9 ∧ (∀ x ∈ ys, el x = true) ∧ Dk (g.1 + 10) g.2 m')
theorem law_law_bent (C : Ct) : ∀ ds m (Q : QD) (E : QX), p_bent ds m Q E → rd_law_bent C p_next p_odd (fun c xs _ m => E c xs m) { nx := fun _ m => Q .non m, rt := Q } (env0 8 ds) m := by
  rintro ds m Q E ⟨_, ⟨c, tl⟩, ⟨xs, rfl, hl, hg, hd, hc⟩, hQ⟩
  have s2 : 1000 ≤ sizeLine := sz (by decide)
  have hlim : lim = 2 ^ 40 := rfl
  have hc' : c + 10 < lim := hc
  have e0 : env0 8 [.obj 1, .lst xs] = [some (.f (.obj 1)), some (.f (.lst xs)), none, none, none, none, none, none] := rfl
  rw [e0]
  unfold rd_law_bent
  have fin : ∀ ys m', ys.length ≤ xs.length + 9 → (∀ x ∈ ys, el x = true) → Dk (c + 10) tl m' → Q (.lst ys) m' := fun ys m' h1 h2 h3 => hQ _ _ ⟨xs, ys, rfl, rfl, h1, h2, h3⟩
  refine seq_i ?_
  unfold sPar
  refine call_next (tl := tl) (c := c) ((xs.length : Int) + 1) (by omega) (by omega) hd (by omega) (fun Q h => by
      simp [dCons, dVar, dN, oLen, dNil, DL.frs, der, dBin, oAdd, dC]
      exact h) fun at_ m1 a0 a1 hd1 => ?_
  refine call_next (tl := tl) (c := c + 1) 7 (by omega) (by omega) hd1 (by omega) (fun Q h => h) fun kind m2 k0 k1 hd2 => ?_
  obtain ⟨at', rfl⟩ : ∃ n : Nat, at_ = n := ⟨at_.toNat, by omega⟩
  simp only [List.set]
  refine seq_i ?_
  have gl : ∀ x ∈ xs ++ [l01], el x = true := fun x hx => by
    rcases List.mem_append.mp hx with q | q
    · exact hg x q
    · rw [List.mem_singleton.mp q]; exact el_pair (a := 0) (b := 1) (by omega) (by omega)
  have g10 : ∀ x ∈ xs ++ [.tup [.int 1, .int 0]], el x = true := fun x hx => by
    rcases List.mem_append.mp hx with q | q
    · exact hg x q
    · rw [List.mem_singleton.mp q]; exact el_pair (a := 1) (b := 0) (by omega) (by omega)
  obtain ⟨link, e1, e2⟩ := atI_int (l := xs ++ [l01]) (i := (at' : Int)) (by omega) (by simp; omega)
  have glink := gl link (List.mem_of_getElem? e2)
  simp [sAsg, dNew, nLst, dCons, dC, dBin, dN, oTup, dNil, DL.frs, DL.bind, nCat, dVar, lstOf, der, oIx]
  have e1' : atI (xs ++ [Dat.tup [Dat.int 0, Dat.int 1]]) (at' : Int) = some link := e1
  repeat (with_reducible refine And.intro (by omega) ?_)
  simp only [e1']
  refine seq_i ?_
  simp [sAsg, DL.bind, dSl, dVar, dPart, dNo, der, dBin, oAdd, dC]
  refine seq_i ?_
  unfold sAsg
  simp only [dNew, nLst, dCons]
  refine call_odd (tl := tl) (c := c + 1 + 1) hd2 (by omega) (fun Q h => by
    simp [dCons, dVar, dN, oTup, dNil, DL.frs, dC]
    exact ⟨by omega, h⟩) fun odd m3 godd hd3 => ?_
  simp only [dBin, nCat]
  simp only [dNew, nCat, nLst, dCons]
  refine v_f rfl ?_
  simp only [dN, dCons, dC, dNil, DL.frs, oTup, lstOf, der]
  repeat (with_reducible refine And.intro (by simp; omega) ?_)
  refine call_next (tl := tl) (c := c + 1 + 1 + 1) ((xs.length : Int) + 1) (by omega) (by omega) hd3 (by omega) (fun Q h => by
      simp [dCons, dVar, dN, oLen, dNil, DL.frs, der, dBin, oAdd, dC]
      exact h) fun j m4 j0 j1 hd4 => ?_
  obtain ⟨other, f1, f2⟩ := atI_int (l := xs ++ [.tup [.int 1, .int 0]]) (i := j) j0 (by simp; omega)
  have gother := g10 other (List.mem_of_getElem? f2)
  simp only [oIx, der, f1]
  repeat (with_reducible refine And.intro (by simp; omega) ?_)
  simp only [DL.bind, List.set]
  have cA := cut_le xs at'
  have cA' : (DL.cutD xs none (some (at' : Int))).length + (DL.cutD xs (some (at' : Int)) none).length ≤ xs.length := by
    unfold DL.cutD
    simp only [HT.sIx_none, HT.sIx_nat, List.length_take, List.length_drop]
    omega
  have cB : (DL.cutD xs none (some (at' : Int))).length + (DL.cutD xs (some ((at' : Int) + 1)) none).length ≤ xs.length := by
    unfold DL.cutD
    rw [show (at' : Int) + 1 = ((at' + 1 : Nat) : Int) by omega]
    simp only [HT.sIx_none, HT.sIx_nat, List.length_take, List.length_drop]
    omega
  have gA : ∀ {lo hi x}, x ∈ DL.cutD xs lo hi → el x = true := fun h => hg _ (cutD_mem h)
  have g3 : ∀ {x : Dat} {lo hi lo' hi'}, el x = true → ∀ y ∈ DL.cutD xs lo hi ++ [x] ++ DL.cutD xs lo' hi', el y = true := fun hx y hy => by
    rcases List.mem_append.mp hy with q | q
    · rcases List.mem_append.mp q with q | q
      · exact gA q
      · rw [List.mem_singleton.mp q]; exact hx
    · exact gA q
  have hd9 : Dk (c + 10) tl m4 := hd4.mono (by omega)
  have last : sRet (dNew (nCat (dVar 1) (dNew (nLc (.nm 7) dYes (dN oTup (dCons (dVar 7) (dCons (dBin oAdd (dVar 7) (dC (.int 1))) dNil))) [7] (iRg1 (dCall p_next EX0 (dCons (dVar 0) (dCons (dC (.int 9)) dNil)))))))) { nx := fun _ m => Q .non m, rt := Q } [some (.f (.obj 1)), some (.f (.lst xs)), some (.f (.int at')), some (.f (.int kind)), some (.f link), some (.f (.lst (DL.cutD xs (some ((at' : Int) + 1)) none))), some (.f (.lst [odd, other])), none] m4 := by
    unfold sRet dNew nCat
    refine v_f rfl ?_
    simp only [nLc, iRg1]
    refine call_next (tl := tl) (c := c + 1 + 1 + 1 + 1) 9 (by omega) (by omega) hd4 (by omega) (fun Q h => h) fun k m5 k0 k1 hd5 => ?_
    have hr := rangeD_len 0 k.toNat
    refine ⟨by omega, by omega, by omega, lc_map (f := fun d => match d with | .int i => .tup [.int i, .int (i + 1)] | d => d) (fun x hx Q h => ?_) ?_⟩
    · obtain ⟨i, hi, rfl⟩ := List.mem_map.mp hx
      simp [dN, oTup, dCons, dVar, dBin, oAdd, dC, dNil, DL.frs, wipeE, der]
      simp at h
      exact ⟨by omega, h⟩
    · simp only [lstOf, der]
      refine ⟨by rw [List.length_map]; omega, fin _ _ (by rw [List.length_append, List.length_map]; omega) (fun x hx => ?_) (hd5.mono (by omega))⟩
      rcases List.mem_append.mp hx with q | q
      · exact hg x q
      · obtain ⟨y, hy, rfl⟩ := List.mem_map.mp q
        obtain ⟨i, hi, rfl⟩ := List.mem_map.mp hy
        have hi' := List.mem_range.mp hi
        show el (.tup [.int (0 + (i : Int)), .int (0 + (i : Int) + 1)]) = true
        rw [show (0 + (i : Int)) = ((i : Nat) : Int) by omega]
        exact el_pair (a := i) (b := i + 1) (by omega) (by omega)
  revert last
  generalize hL : sRet (dNew (nCat (dVar 1) (dNew (nLc (.nm 7) dYes _ [7] _)))) = L
  intro last
  rcases (show kind = 0 ∨ kind = 1 ∨ kind = 2 ∨ kind = 3 ∨ kind = 4 ∨ kind = 5 ∨ kind = 6 by omega) with rfl | rfl | rfl | rfl | rfl | rfl | rfl
  · simp [sSeq, sIf, dAnd, dTst, dBin, oLt, oSub, oI0, oI, dVar, dC, sRet, sNext, dNew, nCat, dSl, dNo, dPart, nLst, dCons, dNil, oIx, atI0, atI1, DL.frs, lstOf, der, oEq, okR1, eqd_int, dN, oIsi, derI, isaD, isa1, tyN, isT]
    repeat (with_reducible refine And.intro (by omega) ?_)
    have r := fin (DL.cutD xs none (some (at' : Int)) ++ [odd] ++ DL.cutD xs (some ((at' : Int) + 1)) none) m4 (by simp only [List.length_append, List.length_singleton]; omega) (g3 godd) hd9
    simpa using r
  · simp [sSeq, sIf, dAnd, dTst, dBin, oLt, oSub, oI0, oI, dVar, dC, sRet, sNext, dNew, nCat, dSl, dNo, dPart, nLst, dCons, dNil, oIx, atI0, atI1, DL.frs, lstOf, der, oEq, okR1, eqd_int, dN, oIsi, derI, isaD, isa1, tyN, isT]
    repeat (with_reducible refine And.intro (by omega) ?_)
    have r := fin (DL.cutD xs none (some (at' : Int)) ++ [other] ++ DL.cutD xs (some ((at' : Int) + 1)) none) m4 (by simp only [List.length_append, List.length_singleton]; omega) (g3 gother) hd9
    simpa using r
  · simp [sSeq, sIf, dAnd, dTst, dBin, oLt, oSub, oI0, oI, dVar, dC, sRet, sNext, dNew, nCat, dSl, dNo, dPart, nLst, dCons, dNil, oIx, atI0, atI1, DL.frs, lstOf, der, oEq, okR1, eqd_int, dN, oIsi, derI, isaD, isa1, tyN, isT]
    repeat (with_reducible refine And.intro (by omega) ?_)
    have r := fin (DL.cutD xs none (some (at' : Int)) ++ [odd] ++ DL.cutD xs (some (at' : Int)) none) m4 (by simp only [List.length_append, List.length_singleton]; omega) (g3 godd) hd9
    simpa using r
  · simp [sSeq, sIf, dAnd, dTst, dBin, oLt, oSub, oI0, oI, dVar, dC, sRet, sNext, dNew, nCat, dSl, dNo, dPart, nLst, dCons, dNil, oIx, atI0, atI1, DL.frs, lstOf, der, oEq, okR1, eqd_int, dN, oIsi, derI, isaD, isa1, tyN, isT]
    repeat (with_reducible refine And.intro (by omega) ?_)
    have r := fin (DL.cutD xs none (some (at' : Int)) ++ [other] ++ DL.cutD xs (some (at' : Int)) none) m4 (by simp only [List.length_append, List.length_singleton]; omega) (g3 gother) hd9
    simpa using r
  · cases link with
    | tup ls =>
      have gr : el (.tup ls.reverse) = true := el_rev glink
      simp [sSeq, sIf, dAnd, dTst, dBin, oLt, oSub, oI0, oI, dVar, dC, sRet, sNext, dNew, nCat, dSl, dNo, dPart, nLst, dCons, dNil, oIx, atI0, atI1, DL.frs, lstOf, der, oEq, okR1, eqd_int, dN, oIsi, derI, isaD, isa1, tyN, isT, dBack]
      repeat (with_reducible refine And.intro (by omega) ?_)
      have r := fin (DL.cutD xs none (some (at' : Int)) ++ [.tup ls.reverse] ++ DL.cutD xs (some ((at' : Int) + 1)) none) m4 (by simp only [List.length_append, List.length_singleton]; omega) (g3 gr) hd9
      simpa using r
    | _ => first
      | (exfalso; simp [el, good, okR] at glink; done)
      | (simp [sSeq, sIf, dAnd, dTst, dBin, oLt, oSub, oI0, oI, dVar, dC, sRet, sNext, dNew, nCat, dSl, dNo, dPart, nLst, dCons, dNil, oIx, atI0, atI1, DL.frs, lstOf, der, oEq, okR1, eqd_int, dN, oIsi, derI, isaD, isa1, tyN, isT]; exact last)
  · simp [sSeq, sIf, dAnd, dTst, dBin, oLt, oSub, oI0, oI, dVar, dC, sRet, sNext, dNew, nCat, dSl, dNo, dPart, nLst, dCons, dNil, oIx, atI0, atI1, DL.frs, lstOf, der, oEq, okR1, eqd_int, dN, oIsi, derI, isaD, isa1, tyN, isT, oAdd]
    repeat (with_reducible refine And.intro (by omega) ?_)
    exact fin _ m4 (by rw [List.length_append]; omega) (fun y hy => by
      rcases List.mem_append.mp hy with q | q <;> exact gA q) hd9
  · simp [sSeq, sIf, dAnd, dTst, dBin, oLt, oSub, oI0, oI, dVar, dC, sRet, sNext, dNew, nCat, dSl, dNo, dPart, nLst, dCons, dNil, oIx, atI0, atI1, DL.frs, lstOf, der, oEq, okR1, eqd_int, dN, oIsi, derI, isaD, isa1, tyN, isT]
    exact last
end K02

set_option maxHeartbeats 1000000
namespace K02
open PySem PySem.Spec PyProof.Rows L2 DL DL.S

theorem errGo_non {n : Int} : ∀ {xs : List Dat} {seen : List Dat} {k : Nat}, errGo n seen k xs = .non → ∀ x ∈ xs, linkB n x = true
  | [], _, _, _, x, hx => by cases hx
  | y :: ys, seen, k, h, x, hx => by
    rw [errGo] at h
    by_cases hl : linkB n y = true
    · rw [if_pos hl] at h
      split at h
      · cases h
      · rcases List.mem_cons.mp hx with rfl | q
        · exact hl
        · exact errGo_non h x q
    · rw [if_neg hl] at h; cases h
theorem errD_non {nd ld : Dat} (h : errD nd ld = .non) : ∃ n xs, nd = .int n ∧ ld = .tup xs ∧ 1 ≤ n ∧ n ≤ 7 ∧ xs.length ≤ 8 ∧ ∀ x ∈ xs, linkB n x = true := by
  cases nd with
  | int n =>
    by_cases hn : 1 ≤ n ∧ n ≤ 7
    · rw [errD, if_pos hn] at h
      cases ld with
      | tup xs =>
        by_cases h8 : xs.length ≤ 8
        · rw [errL, if_pos h8] at h
          exact ⟨n, xs, rfl, rfl, hn.1, hn.2, h8, errGo_non h⟩
        · rw [errL, if_neg h8] at h; cases h
      | _ => simp [errL] at h
    · rw [errD, if_neg hn] at h; cases h
  | _ => simp [errD] at h
def ends : Dat → Dat
  | .tup [.int a, .int b] => .tup [.int (min a b), .int (max a b)]
  | d => d
theorem link_ord {n : Int} {d : Dat} (hn : n ≤ 7) (h : linkB n d = true) : isOrd 7 (ends d) := by
  obtain ⟨a, b, rfl, h1, h2, h3, h4, h5⟩ := link_is h
  refine ⟨(min a b).toNat, (max a b).toNat, ?_, by omega, by omega⟩
  rw [ends, show (((min a b).toNat : Nat) : Int) = min a b by omega, show (((max a b).toNat : Nat) : Int) = max a b by omega]
def p_init : DSp := pRel 3 (fun ds m => ∃ m0 nd ld, ds = [.obj m0.length, nd, ld] ∧ m = m0 ++ [.ins 3 []] ∧ plain nd = true ∧ good 5 ld = true)
  (fun ds m r m' => ∃ (m0 : Mem) (nd ld : Dat) (n : Int) (ys : List Dat), ds = [.obj m0.length, nd, ld] ∧ m = m0 ++ [.ins 3 []] ∧ errD nd ld = .non ∧ r = .non ∧ m' = m0 ++ [.ins 3 [.int n, .tup ys]] ∧ ∀ y ∈ ys, isOrd 7 y)
  (fun ds m c xs m' => ∃ m0 nd ld, ds = [.obj m0.length, nd, ld] ∧ m = m0 ++ [.ins 3 []] ∧ errD nd ld ≠ .non ∧ c = 2 ∧ xs = [errD nd ld] ∧ m' = m)
theorem call_err {da : TAd} {env : Env'} {m : Mem} {Q : QL} {nd ld : Dat} (hn : plain nd = true) (hl : good 5 ld = true) (ha : ∀ Q : List Lv → Mem → Prop, Q [.f nd, .f ld] m → da env m Q) (h : Q (.f (errD nd ld)) m) : dCall p_err EX0 da env m Q :=
  call_is [.f nd, .f ld] [nd, ld] ha rfl ⟨rfl, ⟨nd, ld, rfl, hn, hl⟩, fun r m' ⟨a, b, e1, e2, e3⟩ => by cases e1; subst e2 e3; exact h, fun _ _ _ q => q.elim⟩
theorem law_Net_init (C : Ct) : ∀ ds m (Q : QD) (E : QX), p_init ds m Q E → rd_Net_init C p_err (fun c xs _ m => E c xs m) { nx := fun _ m => Q .non m, rt := Q } (env0 5 ds) m := by
  rintro ds m Q E ⟨_, ⟨m0, nd, ld, rfl, rfl, hn, hl⟩, hQ, hE⟩
  have s2 : 1000 ≤ sizeLine := sz (by decide)
  have e0 : env0 5 [.obj m0.length, nd, ld] = [some (.f (.obj m0.length)), some (.f nd), some (.f ld), none, none] := rfl
  rw [e0]
  unfold rd_Net_init
  refine seq_i ?_
  unfold sAsg
  refine call_err hn hl (fun Q h => h) ?_
  simp only [DL.bind, List.set]
  have hge : (m0 ++ [Mo.ins 3 []])[m0.length]? = some (.ins 3 []) := by simp
  refine seq_i ?_
  by_cases he : errD nd ld = .non
  · have q := hQ .non
    obtain ⟨n, xs, rfl, rfl, n1, n7, h8, hx'⟩ := errD_non he
    rw [he]
    simp [sIf, dTst, dBin, oIsN, dVar, dC, sNext]
    rw [if_pos (show isN (.f .non) = true from rfl)]
    refine seq_i ?_
    have f0 : fi_size 3 = some 0 := rfl
    have f1 : fi_pairs 3 = some 1 := rfl
    have set_last : ∀ o : Mo, (m0 ++ [Mo.ins 3 []]).set m0.length o = m0 ++ [o] := fun o => by simp
    have hge2 : ∀ o : Mo, (m0 ++ [o])[m0.length]? = some o := fun o => by simp
    have set_last2 : ∀ o o' : Mo, (m0 ++ [o]).set m0.length o' = m0 ++ [o'] := fun o o' => by simp
    simp only [sFldD]
    refine v_f rfl (v_f rfl ?_)
    simp only [moOf, hge2, f0, setM, setE, set_last2]
    rw [if_neg (by simp)]
    refine ⟨rfl, ?_⟩
    simp only [sFldD, dN, dCons, dNew, nSort, nLc, iVal]
    refine v_f rfl ?_
    refine ⟨by omega, lc_map (f := ends) (fun x hx Q h => ?_) ?_⟩
    · obtain ⟨a, b, rfl, _⟩ := link_is (hx' x hx)
      simp [wipeE, dN, dCons, oIs, seqOf, der, intsD, minI2, maxI2, dVar, dNil, DL.frs, oTup]
      simp [ends] at h
      exact ⟨by omega, h⟩
    · have ho : ∀ y ∈ xs.map ends, isOrd 7 y := fun y hy => by
        obtain ⟨x, hx, rfl⟩ := List.mem_map.mp hy
        exact link_ord n7 (hx' x hx)
      simp only [seqOf, der]
      refine ⟨sortOk_ord (Nat.le_refl _) ho, ?_⟩
      simp only [dNil, oTuple, seqOf, der]
      refine v_f rfl ?_
      simp only [moOf, hge2, f1, setM, setE, set_last2]
      rw [if_neg (by simp)]
      exact ⟨rfl, hQ _ _ ⟨m0, .int n, .tup xs, n, _, rfl, rfl, he, rfl, rfl, fun y hy => ho y (sortD_mem hy)⟩⟩
  · have q := hE 2 [errD nd ld] _ ⟨m0, nd, ld, rfl, rfl, he, rfl, rfl, rfl⟩
    have hb : isN (.f (errD nd ld)) = false := by
      cases hd : errD nd ld <;> first | rfl | exact absurd hd he
    unfold sIf dTst
    simp only [dBin]
    refine v_f rfl (c_i ?_)
    simp only [oIsN, hb]
    rw [if_pos (by decide)]
    simp only [sRaise, mOwn, dCons]
    refine v_f rfl ?_
    simp only [dNil, DL.frs]
    exact ⟨rfl, q⟩
end K02

set_option maxHeartbeats 1000000
namespace K02
open PySem PySem.Spec PyProof.Rows L2 DL DL.S

theorem bels_int (k : Nat) : ∀ ns : List Int, bels k (ns.map Dat.int) = true
  | [] => rfl
  | n :: ns => by rw [List.map_cons, bels, bels_int k ns]; rfl
theorem Dk.bel {c : Nat} {m : Mem} (h : Dk c [] m) : belM m.length m = true := by
  obtain ⟨rest, cells, t, rfl, _⟩ := h
  simp [belM, bels_int, bels, DL.bel]
theorem bels_ord {k n : Nat} : ∀ {ys : List Dat}, (∀ y ∈ ys, isOrd n y) → bels k ys = true
  | [], _ => rfl
  | y :: ys, h => by
    obtain ⟨a, b, rfl, _⟩ := h y (by simp)
    rw [bels, bels_ord (n := n) fun z hz => h z (by simp [hz])]
    rfl
theorem errGo_bel {n : Int} {k : Nat} : ∀ {xs : List Dat} {seen : List Dat} {j : Nat}, DL.bel k (errGo n seen j xs) = true
  | [], _, _ => rfl
  | y :: ys, seen, j => by
    rw [errGo]
    split
    · split
      · rfl
      · exact errGo_bel
    · rfl
theorem errD_bel {k : Nat} {nd ld : Dat} : DL.bel k (errD nd ld) = true := by
  unfold errD
  split
  · split
    · unfold errL
      split
      · split
        · exact errGo_bel
        · rfl
      · rfl
    · rfl
  · rfl
def p_told : DSp := pRel 2 (fun ds m => ∃ nd ld, ds = [nd, ld] ∧ plain nd = true ∧ good 5 ld = true ∧ belM m.length m = true) (fun ds m r m' => ∃ nd ld, ds = [nd, ld] ∧ r = errD nd ld ∧ m' = m) noE
theorem law_law_told (C : Ct) : ∀ ds m (Q : QD) (E : QX), p_told ds m Q E → rd_law_told C p_init (fun c xs _ m => E c xs m) { nx := fun _ m => Q .non m, rt := Q } (env0 4 ds) m := by
  rintro ds m Q E ⟨_, ⟨nd, ld, rfl, hn, hl, hb⟩, hQ, _⟩
  have hQ' : Q (errD nd ld) m := hQ _ _ ⟨nd, ld, rfl, rfl, rfl⟩
  have e0 : env0 4 [nd, ld] = [some (.f nd), some (.f ld), none, none] := rfl
  rw [e0]
  unfold rd_law_told
  refine seq_i ?_
  unfold sAsg
  refine c_i ?_
  simp only [DL.bind, List.set]
  refine seq_i ?_
  intro EX' hE
  unfold sDrop dMakeF
  simp only [dCons]
  refine v_f rfl (v_f rfl ?_)
  simp only [dNil, DL.frs]
  refine ⟨rfl, ⟨m, nd, ld, rfl, rfl, hn, hl⟩, ?_, ?_⟩
  · rintro r m' ⟨m0, nd', ld', n, ys, e1, e2, he, rfl, rfl, hy⟩
    have em : m0 = m := (List.append_inj_left' e2 rfl).symm
    subst em
    simp at e1
    obtain ⟨rfl, rfl⟩ := e1
    refine ⟨rfl, m0, _, rfl, rfl, rfl, hb, ?_, ?_⟩
    · have hb' := bels_ord (k := m0.length) hy
      show ((true && ((bels m0.length ys) && true)) = true)
      rw [hb']; rfl
    · rw [he] at hQ'
      exact hQ'
  · rintro c xs m' ⟨m0, nd', ld', e1, e2, he, rfl, rfl, rfl⟩
    have em : m0 = m := (List.append_inj_left' e2 rfl).symm
    subst em
    simp at e1
    obtain ⟨rfl, rfl⟩ := e1
    refine ⟨m0, _, rfl, rfl, hb, ?_, hE _ _ _ _ ?_⟩
    · rw [bels, errD_bel]; rfl
    · unfold hGo
      show ∀ a, _
      intro a
      simp only [sAsg, dIf, dTst, dN, dCons]
      refine v_f rfl (c_i ?_)
      have i1 : isE 2 2 = some true := rfl
      have i2 : fi_error 2 = some 0 := rfl
      simp only [dNil, oIsE, i1]
      refine ⟨trivial, ?_⟩
      rw [if_pos trivial]
      unfold dXf
      refine v_f rfl ⟨rfl, ?_⟩
      simp only [i2]
      exact hQ'
end K02

set_option maxHeartbeats 1000000
namespace K02
open PySem PySem.Spec PyProof.Rows L2 DL DL.S

theorem errGo_good {n : Int} : ∀ {xs : List Dat} {seen : List Dat} {j : Nat}, j + xs.length ≤ 100 → good 2 (errGo n seen j xs) = true
  | [], _, _, _ => rfl
  | y :: ys, seen, j, h => by
    have hs : (j : Int).natAbs.log2 < 1920 := small (by omega) (by simp at h; omega)
    have a : good 1 (.int (j : Int)) = true := by simpa [good] using hs
    have b1 : good 1 (.str "again") = true := by decide +kernel
    have b2 : good 1 (.str "link") = true := by decide +kernel
    rw [errGo]
    split
    · split
      · rw [good]; simp [a, b1]
      · exact errGo_good (by simp at h; omega)
    · rw [good]; simp [a, b2]
theorem errD_good {nd ld : Dat} : good 2 (errD nd ld) = true := by
  unfold errD
  split
  · split
    · unfold errL
      split
      · split
        · exact errGo_good (by omega)
        · decide +kernel
      · decide +kernel
    · decide +kernel
  · decide +kernel
def sizesL (n : Nat) : List Dat := [.int n, .int n, .int n, .int n, .int 7, .int 8, .int 0, .int (-1), .int ((n : Int) - 1), .bl true, .non, .str (toString (n : Int)), .tup [.int n], .int 1000000000000000000000000000000]
theorem sizes_el {n : Nat} (h1 : 1 ≤ n) (h7 : n ≤ 7) : ∀ x ∈ sizesL n, el x = true := by
  rw [← List.all_eq_true]
  rcases (show n = 1 ∨ n = 2 ∨ n = 3 ∨ n = 4 ∨ n = 5 ∨ n = 6 ∨ n = 7 by omega) with rfl | rfl | rfl | rfl | rfl | rfl | rfl <;> decide +kernel
/-- rows: a list or a tuple of small data, or an odd one -/
def rowsOk (d : Dat) : Prop := el d = true ∨ ∃ xs, (d = .lst xs ∨ d = .tup xs) ∧ xs.length ≤ 100 ∧ ∀ x ∈ xs, el x = true
theorem good_up {d : Dat} {k : Nat} (h : good k d = true) : good (k + 1) d = true := by
  induction k generalizing d with
  | zero =>
    cases d <;> first | exact h | (simp [good] at h)
  | succ k ih =>
    cases d with
    | tup xs =>
      rw [good, Bool.and_eq_true, List.all_eq_true] at h ⊢
      exact ⟨h.1, fun x hx => ih (h.2 x hx)⟩
    | lst xs =>
      rw [good, Bool.and_eq_true, List.all_eq_true] at h ⊢
      exact ⟨h.1, fun x hx => ih (h.2 x hx)⟩
    | _ => exact h
theorem rows_good {d : Dat} (h : rowsOk d) : good 5 d = true := by
  rcases h with h | ⟨xs, h, hl, hx⟩
  · exact good_up (el_iff.mp h).1
  · rcases h with rfl | rfl
    · rw [good, Bool.and_eq_true, List.all_eq_true]
      exact ⟨decide_eq_true (by omega), fun x q => (el_iff.mp (hx x q)).1⟩
    · rw [good, Bool.and_eq_true, List.all_eq_true]
      exact ⟨decide_eq_true (by omega), fun x q => (el_iff.mp (hx x q)).1⟩
end K02

set_option maxHeartbeats 1000000
namespace K02
open PySem PySem.Spec PyProof.Rows L2 DL DL.S

theorem okR_up : ∀ {k : Nat} {d : Dat}, okR k d = true → okR (k + 1) d = true := by
  intro k
  induction k with
  | zero => intro d h; cases d <;> first | exact h | (simp [okR] at h)
  | succ k ih =>
    intro d h
    cases d with
    | tup xs =>
      rw [okR, List.all_eq_true] at h ⊢
      exact fun x hx => ih (h x hx)
    | lst xs =>
      rw [okR, List.all_eq_true] at h ⊢
      exact fun x hx => ih (h x hx)
    | dct kvs =>
      rw [okR, List.all_eq_true] at h ⊢
      intro x hx
      have := h x hx
      rw [Bool.and_eq_true] at this ⊢
      exact ⟨ih this.1, ih this.2⟩
    | _ => exact h
theorem okR_le {j k : Nat} {d : Dat} (e : j ≤ k) (h : okR j d = true) : okR k d = true := by
  obtain ⟨i, rfl⟩ : ∃ i, k = j + i := ⟨k - j, by omega⟩
  induction i with
  | zero => exact h
  | succ i ih => exact okR_up (ih (by omega))
theorem rows_okR {d : Dat} (h : rowsOk d) : okR 59 d = true := by
  rcases h with h | ⟨xs, h, hl, hx⟩
  · exact okR_le (by omega) (el_iff.mp h).2.1
  · rcases h with rfl | rfl <;>
    · rw [okR, List.all_eq_true]
      exact fun x q => okR_le (by omega) (el_iff.mp (hx x q)).2.1
theorem rows_leaves {d : Dat} (h : rowsOk d) : (py d).leavesShort 40 = true := by
  rcases h with h | ⟨xs, h, hl, hx⟩
  · exact (el_iff.mp h).2.2.1
  · rcases h with rfl | rfl <;> exact leaves_all.mpr fun x q => (el_iff.mp (hx x q)).2.2.1
theorem rows_bulk {d : Dat} (h : rowsOk d) : (py d).bulk ≤ 10100 := by
  rcases h with h | ⟨xs, h, hl, hx⟩
  · have := (el_iff.mp h).2.2.2.1
    omega
  · rcases h with rfl | rfl <;>
    · have := bulk_le hx
      show PyData.bulkAll (pys xs) ≤ _
      omega
theorem shown_ok {s r : Dat} (hs : el s = true) (hr : rowsOk r) : okR 60 (.tup [s, r]) = true ∧ (py (.tup [s, r])).shown.length ≤ sizeLine := by
  constructor
  · rw [okR]
    simp [okR_le (show 30 ≤ 59 by omega) (el_iff.mp hs).2.1, rows_okR hr]
  · have hl : (py (.tup [s, r])).leavesShort 40 = true := leaves_all.mpr fun x hx => by
      rcases List.mem_cons.mp hx with rfl | hx
      · exact (el_iff.mp hs).2.2.1
      · rw [List.mem_singleton.mp hx]; exact rows_leaves hr
    have hb := PyData.shown_le_bulk 40 (by omega) _ hl
    have hb2 : (py (.tup [s, r])).bulk = (py s).bulk + 1 + ((py r).bulk + 1 + 0) := rfl
    have h1 := (el_iff.mp hs).2.2.2.1
    have h2 := rows_bulk hr
    refine Nat.le_trans (m := 500000) (by omega) (sz (by decide))
theorem rows_sh {d : Dat} (h : rowsOk d) : shOk 11 d = true ∨ shOk 10 d = true := by
  rcases h with h | ⟨xs, h, hl, hx⟩
  · exact .inr (el_iff.mp h).2.2.2.2
  · rcases h with rfl | rfl <;>
    · refine .inl ?_
      rw [shOk, List.all_eq_true]
      exact fun x q => (el_iff.mp (hx x q)).2.2.2.2
theorem shown_str {s r : Dat} (hs : el s = true) (hr : rowsOk r) : PyData.strOk (py (.tup [s, r])).shown = true := by
  refine strOk_tuple fun t ht => ?_
  obtain ⟨x, hx, rfl⟩ := shownAll_mem (xs := [s, r]) ht
  rcases List.mem_cons.mp hx with rfl | hx
  · exact sh_of (el_iff.mp hs).2.2.2.2
  · rw [List.mem_singleton.mp hx]
    rcases rows_sh hr with h | h <;> exact sh_of h
theorem okN_str {k : Nat} {x : Str} (h : PyData.strOk x = true) : okN k (.str x) = true := strOkN k h
theorem call_same {da : TAd} {env : Env'} {m : Mem} {Q : QL} {d : Dat} (hd : good 4 d = true) (ha : ∀ Q : List Lv → Mem → Prop, Q [.f d, .f d] m → da env m Q) (h : Q (.f (.bl true)) m) : dCall (p_same 4) EX0 da env m Q :=
  call_is [.f d, .f d] [d, d] ha rfl ⟨rfl, ⟨d, rfl, hd⟩, fun r m' ⟨e2, e3⟩ => by subst e2 e3; exact h, fun _ _ _ q => q.elim⟩
theorem call_told {da : TAd} {env : Env'} {m : Mem} {Q : QL} {nd ld : Dat} (hn : plain nd = true) (hl : good 5 ld = true) (hb : belM m.length m = true) (ha : ∀ Q : List Lv → Mem → Prop, Q [.f nd, .f ld] m → da env m Q) (h : Q (.f (errD nd ld)) m) : dCall p_told EX0 da env m Q :=
  call_is [.f nd, .f ld] [nd, ld] ha rfl ⟨rfl, ⟨nd, ld, rfl, hn, hl, hb⟩, fun r m' ⟨a, b, e1, e2, e3⟩ => by cases e1; subst e2 e3; exact h, fun _ _ _ q => q.elim⟩
theorem call_net {da : TAd} {env : Env'} {m tl : Mem} {Q : QL} {c : Nat} (hd : Dk c tl m) (hc : c + 30 < lim) (ha : ∀ Q : List Lv → Mem → Prop, Q [.f (.obj 1), .f (.int 8)] m → da env m Q)
    (h : ∀ (n : Nat) (xs : List Dat) m', 1 ≤ n → n ≤ 7 → xs.length ≤ 8 → (∀ x ∈ xs, isOrd n x) → Dk (c + 30) tl m' → Q (.f (.tup [.int n, .lst xs])) m') : dCall p_net EX0 da env m Q :=
  call_is [.f (.obj 1), .f (.int 8)] [.obj 1, .int 8] ha rfl ⟨rfl, (c, tl), ⟨rfl, hd, hc⟩, fun r m' ⟨n, xs, e, h1, h2, h3, h4, h5⟩ => by subst e; exact h n xs m' h1 h2 h3 h4 h5⟩
theorem call_bent {da : TAd} {env : Env'} {m tl : Mem} {Q : QL} {c : Nat} {xs : List Dat} (hd : Dk c tl m) (hc : c + 10 < lim) (hl : xs.length ≤ 100) (hx : ∀ x ∈ xs, el x = true) (ha : ∀ Q : List Lv → Mem → Prop, Q [.f (.obj 1), .f (.lst xs)] m → da env m Q)
    (h : ∀ (ys : List Dat) m', ys.length ≤ xs.length + 9 → (∀ x ∈ ys, el x = true) → Dk (c + 10) tl m' → Q (.f (.lst ys)) m') : dCall p_bent EX0 da env m Q :=
  call_is [.f (.obj 1), .f (.lst xs)] [.obj 1, .lst xs] ha rfl ⟨rfl, (c, tl), ⟨xs, rfl, hl, hx, hd, hc⟩, fun r m' ⟨xs', ys, e0, e, h1, h2, h3⟩ => by
    cases e0; subst e; exact h ys m' h1 h2 h3⟩
end K02

set_option maxHeartbeats 1000000
namespace K02
open PySem PySem.Spec PyProof.Rows L2 DL DL.S

theorem bent_loop {D : En} {x0 x2 x3 x6 x7 x8 x9 x10 : Option Sl} {tl : Mem} : ∀ (r : Nat) (k : Int) (x5 : Option Sl) (xs : List Dat) (m : Mem) (c : Nat), Dk c tl m → c + 10 * r < lim → xs.length + 9 * r ≤ 100 → (∀ x ∈ xs, el x = true) →
    (∀ ys m' x5, ys.length ≤ xs.length + 9 * r → (∀ x ∈ ys, el x = true) → Dk (c + 10 * r) tl m' → D.nx [x0, some (.f (.obj 1)), x2, x3, some (.f (.lst ys)), x5, x6, x7, x8, x9, x10] m') →
    forGo (.nm 5) (sAsg (.nm 4) (dCall p_bent EX0 (dCons (dVar 1) (dCons (dVar 4) dNil)))) D (rangeD k r) [x0, some (.f (.obj 1)), x2, x3, some (.f (.lst xs)), x5, x6, x7, x8, x9, x10] m
  | 0, k, x5, xs, m, c, hd, hc, hl, hx, h => h xs m x5 (by omega) hx hd
  | r + 1, k, x5, xs, m, c, hd, hc, hl, hx, h => by
    rw [rangeD_succ]
    unfold forGo
    have hb : DL.bind (.nm 5) (.f (.int k)) [x0, some (.f (.obj 1)), x2, x3, some (.f (.lst xs)), x5, x6, x7, x8, x9, x10] = some [x0, some (.f (.obj 1)), x2, x3, some (.f (.lst xs)), some (.f (.int k)), x6, x7, x8, x9, x10] := by simp [DL.bind]
    rw [hb]
    unfold sAsg
    refine call_bent hd (by omega) (by omega) hx (fun Q h => h) fun ys m' hl' hx' hd' => ?_
    simp only [DL.bind, List.set]
    exact bent_loop r (k + 1) _ ys m' (c + 10) hd' (by omega) (by omega) hx' fun zs m2 y5 a b e => h zs m2 y5 (by omega) b (by rw [show c + 10 * (r + 1) = c + 10 + 10 * r by omega]; exact e)
/-- the end of a turn: repr, due, the two checks -/
theorem check {C : Ct} {D : En} {x0 x1 x2 x3 x4 x5 x6 x9 x10 : Option Sl} {s r : Dat} {m : Mem} (hs : el s = true) (hr : rowsOk r) (hb : belM m.length m = true)
    (h : ∀ x9 x10, D.nx [x0, x1, x2, x3, x4, x5, x6, some (.f s), some (.f r), x9, x10] m) :
    (sSeq (sPar 9 10 (dN oRepr (dCons (dN oTup (dCons (dVar 7) (dCons (dVar 8) dNil))) dNil)) (dCall p_err EX0 (dCons (dVar 7) (dCons (dVar 8) dNil))))
  (sSeq (sIf (dOr (dNot (dTst (dCall (p_same 4) EX0 (dCons (dCall p_err EX0 (dCons (dVar 7) (dCons (dVar 8) dNil))) (dCons (dVar 10) dNil))))) (dNot (dTst (dCall (p_same 4) EX0 (dCons (dCall p_told EX0 (dCons (dVar 7) (dCons (dVar 8) dNil))) (dCons (dVar 10) dNil))))))
  (sRet (dC (.bl false)))
  sNext)
  (sIf (dTst (dBin (oEq not) (dN oRepr (dCons (dN oTup (dCons (dVar 7) (dCons (dVar 8) dNil))) dNil)) (dVar 9)))
  (sRet (dC (.bl false)))
  sNext))) D [x0, x1, x2, x3, x4, x5, x6, some (.f s), some (.f r), x9, x10] m := by
  have hp : plain s = true := good_plain (el_iff.mp hs).1
  have hg := rows_good hr
  have hsh := shown_ok hs hr
  have hst := shown_str hs hr
  have h2 : 2 ≤ sizeLine := sz (by decide)
  have hE : good 4 (errD s r) = true := good_up (good_up errD_good)
  have rep : ∀ {x9 x10 : Option Sl} {Q : QL}, Q (.f (.str (py (.tup [s, r])).shown)) m → dN oRepr (dCons (dN oTup (dCons (dVar 7) (dCons (dVar 8) dNil))) dNil) [x0, x1, x2, x3, x4, x5, x6, some (.f s), some (.f r), x9, x10] m Q := fun h => by
    simp only [dN, dCons]
    refine v_f rfl (v_f rfl ?_)
    simp only [dNil, oTup, DL.frs]
    exact ⟨h2, hsh.1, hsh.2, h⟩
  refine seq_i ?_
  unfold sPar
  refine rep ?_
  refine call_err hp hg (fun Q h => h) ?_
  simp only [List.set]
  refine seq_i ?_
  unfold sIf dOr dNot dTst
  refine call_same hE (fun Q h => call_err hp hg (fun Q h => h) (v_f rfl h)) ?_
  simp only [Bool.not_true, Bool.false_eq_true, if_false]
  refine call_same hE (fun Q h => call_told hp hg hb (fun Q h => h) (v_f rfl h)) ?_
  simp only [Bool.not_true, Bool.false_eq_true, if_false, sNext]
  simp only [dBin]
  refine rep (v_f rfl ?_)
  refine oEq_l (okN_str hst) (okN_str hst) ?_
  rw [eqd_str]
  simp
  exact h _ _
end K02

set_option maxHeartbeats 1000000
namespace K02
open PySem PySem.Spec PyProof.Rows L2 DL DL.S
local macro_rules | `(tactic| walk_at "ev") => `(tactic| repeat' (first
  | exact ev_c | exact ev_v rfl | exact ev_o rfl | exact eva_nil | exact e2_i0 | exact e2_add | exact e1_u | exact e2_isn | exact evo_no | exact sz (Nat.le_of_ble_eq_true rfl)
  | ((with_reducible show DL.frs _ = some _); exact rfl)
  | apply ev_bin | apply ev_un | apply ev_n | apply eva_cons | apply ev_new | apply evn_lst | apply em_tup | apply evo_p))

theorem str_ok {n : Nat} (h1 : 1 ≤ n) (h7 : n ≤ 7) : okR 60 (.int n) = true ∧ (py (.int n)).shown.length ≤ sizeLine := by
  have hm : Dat.int n ∈ sizesL n := List.mem_cons_self
  have e := el_iff.mp (sizes_el h1 h7 (.int n) hm)
  have h := PyData.shown_le_bulk 40 (by omega) _ e.2.2.1
  have h2 : 5000 ≤ sizeLine := sz (by decide)
  have h3 := e.2.2.2.1
  refine ⟨okR_le (by omega) e.2.1, ?_⟩
  generalize (py (.int n)).shown.length = a at *
  generalize (py (.int n)).bulk = b at *
  omega
theorem asg_i {tg : Tg} {de : TD} {D : En} {env : Env'} {m : Mem} (h : de env m fun x m1 => match DL.bind tg x env with | some env2 => D.nx env2 m1 | none => False) : sAsg tg de D env m := h
theorem em_str {env : Env'} {m : Mem} {i : Int} (h : okR 60 (.int i) = true ∧ (py (.int i)).shown.length ≤ sizeLine) : EvM oStr env m [.f (.int i)] (.str (toString i)) := fun Q q => ⟨h.1, h.2, q⟩
theorem cpow30 : CPow 10 30 := by unfold CPow; decide
theorem sizes_i {D : En} {n : Nat} {x0 x1 x2 x4 x5 x6 x7 x8 x9 x10 : Option Sl} {m : Mem} (h1 : 1 ≤ n) (h7 : n ≤ 7) (h : D.nx [x0, x1, x2, some (.f (.int n)), x4, x5, some (.f (.lst (sizesL n))), x7, x8, x9, x10] m) :
    sAsg (.nm 6) (dNew (nLst (dCons (dVar 3) (dCons (dVar 3) (dCons (dVar 3) (dCons (dVar 3) (dCons (dC (.int 7)) (dCons (dC (.int 8)) (dCons (dC (.int 0)) (dCons (dUn (oU fun i => -i) (dC (.int 1))) (dCons (dBin oSub (dVar 3) (dC (.int 1))) (dCons (dC (.bl true)) (dCons (dC .non) (dCons (dN oStr (dCons (dVar 3) dNil)) (dCons (dN oTup (dCons (dVar 3) dNil)) (dCons (dBin oPow (dC (.int 10)) (dC (.int 30))) dNil)))))))))))))))) D
      [x0, x1, x2, some (.f (.int n)), x4, x5, x6, x7, x8, x9, x10] m := by
  have hstr := str_ok h1 h7
  refine st_set (a := .lst (sizesL n)) ?_ h
  walk_at "ev"
  · exact em_str hstr
  · exact e2_i cpow30

/-- the size, the rows -/
theorem pick_i {D : En} {n : Nat} {xs : List Dat} {x0 x2 x3 x5 x7 x8 x9 x10 : Option Sl} {m : Mem} {c : Nat} (hn1 : 1 ≤ n) (hn7 : n ≤ 7) (hl : xs.length ≤ 100) (hx : ∀ x ∈ xs, el x = true) (hd : Dk c [] m) (hc : c + 2 < lim)
    (h : ∀ s r m', el s = true → rowsOk r → Dk (c + 2) [] m' → D.nx [x0, some (.f (.obj 1)), x2, x3, some (.f (.lst xs)), x5, some (.f (.lst (sizesL n))), some (.f s), some (.f r), x9, x10] m') :
    sPar 7 8 (dBin oIx (dVar 6) (dCall p_next EX0 (dCons (dVar 1) (dCons (dC (.int 14)) dNil)))) (dBin oIx (dNew (nLst (dCons (dN oTuple (dCons (dVar 4) dNil)) (dCons (dN oTuple (dCons (dVar 4) dNil)) (dCons (dN oTuple (dCons (dVar 4) dNil)) (dCons (dVar 4) dNil)))))) (dCall p_next EX0 (dCons (dVar 1) (dCons (dC (.int 4)) dNil)))) D
      [x0, some (.f (.obj 1)), x2, x3, some (.f (.lst xs)), x5, some (.f (.lst (sizesL n))), x7, x8, x9, x10] m := by
  unfold sPar
  simp only [dBin]
  refine v_f rfl ?_
  refine call_next 14 (by omega) (by omega) hd (by omega) (eva_cons (ev_v rfl) (eva_cons ev_c eva_nil)) fun i m1 i0 i1 hd1 => ?_
  have hsl : (sizesL n).length = 14 := rfl
  obtain ⟨s, es, es2⟩ := atI_int (l := sizesL n) i0 (by omega)
  refine e2_ix (x := .f (.lst (sizesL n))) rfl es _ ?_
  have ht : ∀ {Q : QD}, Q (.tup xs) m1 → oTuple [x0, some (.f (.obj 1)), x2, x3, some (.f (.lst xs)), x5, some (.f (.lst (sizesL n))), x7, x8, x9, x10] m1 [.f (.lst xs)] Q := fun q => by
    simp [oTuple, der]; exact q
  have el4 : EvN (nLst (dCons (dN oTuple (dCons (dVar 4) dNil)) (dCons (dN oTuple (dCons (dVar 4) dNil)) (dCons (dN oTuple (dCons (dVar 4) dNil)) (dCons (dVar 4) dNil))))) [x0, some (.f (.obj 1)), x2, x3, some (.f (.lst xs)), x5, some (.f (.lst (sizesL n))), x7, x8, x9, x10] m1 [.tup xs, .tup xs, .tup xs, .lst xs] := by
    have e1 : Ev (dN oTuple (dCons (dVar 4) dNil)) [x0, some (.f (.obj 1)), x2, x3, some (.f (.lst xs)), x5, some (.f (.lst (sizesL n))), x7, x8, x9, x10] m1 (.f (.tup xs)) := ev_n (eva_cons (ev_v rfl) eva_nil) fun Q q => ht q
    exact evn_lst (eva_cons e1 (eva_cons e1 (eva_cons e1 (eva_cons (ev_v rfl) eva_nil)))) rfl (sz (Nat.le_of_ble_eq_true rfl))
  refine (ev_new el4) _ ?_
  refine call_next 4 (by omega) (by omega) hd1 (by omega) (eva_cons (ev_v rfl) (eva_cons ev_c eva_nil)) fun j m2 j0 j1 hd2 => ?_
  obtain ⟨r, er, er2⟩ := atI_int (l := [Dat.tup xs, .tup xs, .tup xs, .lst xs]) j0 (by simpa using j1)
  refine e2_ix (x := .f (.lst [.tup xs, .tup xs, .tup xs, .lst xs])) rfl er _ ?_
  refine h s r m2 (sizes_el hn1 hn7 s (List.mem_of_getElem? es2)) ?_ hd2
  have hm := List.mem_of_getElem? er2
  simp at hm
  rcases hm with rfl | rfl
  · exact .inr ⟨xs, .inr rfl, hl, hx⟩
  · exact .inr ⟨xs, .inl rfl, hl, hx⟩
/-- at times other rows -/
theorem odd_i {D : En} {x0 x2 x3 x4 x5 x6 x7 x9 x10 : Option Sl} {r : Dat} {m : Mem} {c : Nat} (hr : rowsOk r) (hd : Dk c [] m) (hc : c + 3 < lim)
    (h : ∀ r m', rowsOk r → Dk (c + 3) [] m' → D.nx [x0, some (.f (.obj 1)), x2, x3, x4, x5, x6, x7, some (.f r), x9, x10] m') :
    sIf (dTst (dBin (oEq id) (dCall p_next EX0 (dCons (dVar 1) (dCons (dC (.int 12)) dNil))) (dC (.int 0))))
  (sAsg (.nm 8) (dCall p_odd EX0 (dCons (dVar 1) (dCons (dN oTup (dCons (dC (.int 0)) (dCons (dC (.int 1)) dNil))) dNil))))
  sNext D [x0, some (.f (.obj 1)), x2, x3, x4, x5, x6, x7, some (.f r), x9, x10] m := by
  unfold sIf dTst
  simp only [dBin]
  refine call_next 12 (by omega) (by omega) hd (by omega) (eva_cons (ev_v rfl) (eva_cons ev_c eva_nil)) fun i m1 i0 i1 hd1 => ?_
  refine ev_c _ ?_
  refine oEq_l (okR1 _ _) rfl ?_
  show (if id (eqd (.int i) (.int 0)) = true then _ else _)
  split
  · unfold sAsg
    refine call_odd hd1 (by omega) (eva_cons (ev_v rfl) (eva_cons (ev_n (eva_cons ev_c (eva_cons ev_c eva_nil)) (em_tup rfl (sz (Nat.le_of_ble_eq_true rfl)))) eva_nil)) fun q m2 hq hd2 => ?_
    exact h q m2 (.inl hq) (hd2.mono (by omega))
  · exact h r m1 hr (hd1.mono (by omega))
theorem turn {C : Ct} {D : En} {x0 x2 x3 x4 x5 x6 x7 x8 x9 x10 : Option Sl} {m : Mem} {c : Nat} (hd : Dk c [] m) (hc : c + 100 < lim)
    (h : ∀ x3 x4 x5 x6 x7 x8 x9 x10 m', Dk (c + 100) [] m' → D.nx [x0, some (.f (.obj 1)), x2, x3, x4, x5, x6, x7, x8, x9, x10] m') :
    (sSeq (sAsg (.tp [3, 4]) (dCall p_net EX0 (dCons (dVar 1) (dCons (dC (.int 8)) dNil))))
  (sSeq (sFor (.nm 5) (iRg1 (dCall p_next EX0 (dCons (dVar 1) (dCons (dC (.int 4)) dNil))))
  (sAsg (.nm 4) (dCall p_bent EX0 (dCons (dVar 1) (dCons (dVar 4) dNil)))))
  (sSeq (sAsg (.nm 6) (dNew (nLst (dCons (dVar 3) (dCons (dVar 3) (dCons (dVar 3) (dCons (dVar 3) (dCons (dC (.int 7)) (dCons (dC (.int 8)) (dCons (dC (.int 0)) (dCons (dUn (oU fun i => -i) (dC (.int 1))) (dCons (dBin oSub (dVar 3) (dC (.int 1))) (dCons (dC (.bl true)) (dCons (dC .non) (dCons (dN oStr (dCons (dVar 3) dNil)) (dCons (dN oTup (dCons (dVar 3) dNil)) (dCons (dBin oPow (dC (.int 10)) (dC (.int 30))) dNil)))))))))))))))))
  (sSeq (sPar 7 8 (dBin oIx (dVar 6) (dCall p_next EX0 (dCons (dVar 1) (dCons (dC (.int 14)) dNil)))) (dBin oIx (dNew (nLst (dCons (dN oTuple (dCons (dVar 4) dNil)) (dCons (dN oTuple (dCons (dVar 4) dNil)) (dCons (dN oTuple (dCons (dVar 4) dNil)) (dCons (dVar 4) dNil)))))) (dCall p_next EX0 (dCons (dVar 1) (dCons (dC (.int 4)) dNil)))))
  (sSeq (sIf (dTst (dBin (oEq id) (dCall p_next EX0 (dCons (dVar 1) (dCons (dC (.int 12)) dNil))) (dC (.int 0))))
  (sAsg (.nm 8) (dCall p_odd EX0 (dCons (dVar 1) (dCons (dN oTup (dCons (dC (.int 0)) (dCons (dC (.int 1)) dNil))) dNil))))
  sNext)
  (sSeq (sPar 9 10 (dN oRepr (dCons (dN oTup (dCons (dVar 7) (dCons (dVar 8) dNil))) dNil)) (dCall p_err EX0 (dCons (dVar 7) (dCons (dVar 8) dNil))))
  (sSeq (sIf (dOr (dNot (dTst (dCall (p_same 4) EX0 (dCons (dCall p_err EX0 (dCons (dVar 7) (dCons (dVar 8) dNil))) (dCons (dVar 10) dNil))))) (dNot (dTst (dCall (p_same 4) EX0 (dCons (dCall p_told EX0 (dCons (dVar 7) (dCons (dVar 8) dNil))) (dCons (dVar 10) dNil))))))
  (sRet (dC (.bl false)))
  sNext)
  (sIf (dTst (dBin (oEq not) (dN oRepr (dCons (dN oTup (dCons (dVar 7) (dCons (dVar 8) dNil))) dNil)) (dVar 9)))
  (sRet (dC (.bl false)))
  sNext)))))))) D [x0, some (.f (.obj 1)), x2, x3, x4, x5, x6, x7, x8, x9, x10] m := by
  have hlim : lim = 2 ^ 40 := rfl
  refine seq_i ?_
  refine asg_i ?_
  refine call_net hd (by omega) (fun Q h => h) fun n xs m1 n1 n7 h8 ho hd1 => ?_
  have hb : DL.bind (.tp [3, 4]) (.f (.tup [.int n, .lst xs])) [x0, some (.f (.obj 1)), x2, x3, x4, x5, x6, x7, x8, x9, x10] = some [x0, some (.f (.obj 1)), x2, some (.f (.int n)), some (.f (.lst xs)), x5, x6, x7, x8, x9, x10] := by simp [DL.bind, setAll]
  simp only [hb]
  refine seq_i ?_
  unfold sFor iRg1
  refine call_next 4 (by omega) (by omega) hd1 (by omega) (fun Q h => h) fun j m2 j0 j1 hd2 => ?_
  refine ⟨by omega, by omega, ?_⟩
  refine bent_loop j.toNat 0 x5 xs m2 (c + 30 + 1) hd2 (by omega) (by omega) (fun x hx => el_ord n7 (ho x hx)) fun ys m3 y5 hl hx hd3 => ?_
  dsimp only
  refine seq_i ?_
  refine sizes_i n1 n7 ?_
  dsimp only
  refine seq_i ?_
  refine pick_i n1 n7 (by omega) hx (hd3.mono (d := c + 70) (by omega)) (by omega) fun s r m4 hs hr hd4 => ?_
  dsimp only
  refine seq_i ?_
  refine odd_i hr hd4 (by omega) fun r m5 hr hd5 => ?_
  refine check (C := C) hs hr (K02.Dk.bel hd5) fun y9 y10 => ?_
  exact h _ _ _ _ _ _ _ _ _ (hd5.mono (by omega))
end K02

set_option maxHeartbeats 1000000
namespace K02
open PySem PySem.Spec PyProof.Rows L2 DL DL.S
theorem turn_loop {D : En} {body : TSd} (ht : ∀ {D : En} {x0 x2 x3 x4 x5 x6 x7 x8 x9 x10 : Option Sl} {m : Mem} {c : Nat}, Dk c [] m → c + 100 < lim →
    (∀ x3 x4 x5 x6 x7 x8 x9 x10 m', Dk (c + 100) [] m' → D.nx [x0, some (.f (.obj 1)), x2, x3, x4, x5, x6, x7, x8, x9, x10] m') → body D [x0, some (.f (.obj 1)), x2, x3, x4, x5, x6, x7, x8, x9, x10] m) :
    ∀ (r : Nat) (k : Int) (x0 x2 x3 x4 x5 x6 x7 x8 x9 x10 : Option Sl) (m : Mem) (c : Nat), Dk c [] m → c + 100 * r < lim → (∀ env m, D.nx env m) → forGo (.nm 2) body D (rangeD k r) [x0, some (.f (.obj 1)), x2, x3, x4, x5, x6, x7, x8, x9, x10] m
  | 0, k, x0, x2, x3, x4, x5, x6, x7, x8, x9, x10, m, c, hd, hc, h => h _ _
  | r + 1, k, x0, x2, x3, x4, x5, x6, x7, x8, x9, x10, m, c, hd, hc, h => by
    rw [rangeD_succ]
    unfold forGo
    have hb : DL.bind (.nm 2) (.f (.int k)) [x0, some (.f (.obj 1)), x2, x3, x4, x5, x6, x7, x8, x9, x10] = some [x0, some (.f (.obj 1)), some (.f (.int k)), x3, x4, x5, x6, x7, x8, x9, x10] := by simp [DL.bind]
    rw [hb]
    refine ht hd (by omega) fun y3 y4 y5 y6 y7 y8 y9 y10 m' hd' => ?_
    exact turn_loop ht r (k + 1) _ _ _ _ _ _ _ _ _ _ m' (c + 100) hd' (by omega) h
theorem law_law (C : Ct) : ∀ ds m (Q : QD) (E : QX), pLaw 63 ds m Q E → rd_law C p_deck p_net p_next p_bent p_odd p_err (p_same 4) p_err p_told (fun c xs _ m => E c xs m) { nx := fun _ m => Q .non m, rt := Q } (env0 11 ds) m := by
  rintro ds m Q E ⟨is, hl, rfl, rfl, hq⟩
  show rd_law C p_deck p_net p_next p_bent p_odd p_err (p_same 4) p_err p_told _ _ [some (.f (.lst (is.map Dat.int))), none, none, none, none, none, none, none, none, none, none] []
  unfold rd_law
  refine seq_i (asg_i ?_)
  refine call_is [.f (.lst (is.map Dat.int))] [.lst (is.map Dat.int)] (eva_cons (ev_v rfl) eva_nil) rfl ⟨rfl, ⟨is, rfl, hl, rfl⟩, ?_, fun _ _ _ q => q.elim⟩
  rintro r m1 ⟨rfl, hd⟩
  refine seq_i (st_for (evi_rg1n (j := 6) ev_c (by omega)) ?_)
  rw [show (List.range 6).map (fun i => Dat.int (i : Nat)) = rangeD 0 6 from rfl]
  refine turn_loop (fun {D x0 x2 x3 x4 x5 x6 x7 x8 x9 x10 m c} h1 h2 h3 => turn (C := C) h1 h2 h3) 6 0 _ _ _ _ _ _ _ _ _ _ m1 0 hd (by decide) ?_
  intro env m
  exact hq _
end K02

set_option maxHeartbeats 1000000
namespace DL.S
open PySem PySem.Spec PyProof.Rows L2 DL
theorem law_same0 (C : Ct) (pp : DSp) : ∀ ds m (Q : QD) (E : QX), p_same 0 ds m Q E → rd_law_same C pp (fun c xs _ m => E c xs m) { nx := fun _ m => Q .non m, rt := Q } (env0 4 ds) m := by
  rintro ds m Q E ⟨_, ⟨d, rfl, hd⟩, hQ, _⟩
  have hQ' : Q (.bl true) m := hQ _ _ ⟨rfl, rfl⟩
  have e0 : env0 4 [d, d] = [some (.f d), some (.f d), none, none] := rfl
  rw [e0]
  unfold rd_law_same
  have s2 : 2 ≤ sizeLine := sz (by decide)
  cases d with
  | non => simp [sSeq, sIf, dTst, dN, oIsi, dCons, dVar, dC, dNil, oTup, frs, s2, derI, der, isaD, isaL, isa1, tyN, isT, sNext, dBin, oIsN, isN, sRet, hQ']
  | bl b => simp [sSeq, sIf, dTst, dN, oIsi, dCons, dVar, dC, dNil, oTup, frs, s2, derI, der, isaD, isaL, isa1, tyN, isT, sNext, dBin, oIsN, isN, sRet, dOr, dAndV, oEq, eqd_bl, blOkN, hQ']
  | int i => simp [sSeq, sIf, dTst, dN, oIsi, dCons, dVar, dC, dNil, oTup, frs, s2, derI, der, isaD, isaL, isa1, tyN, isT, sNext, dBin, oIsN, isN, sRet, dOr, dAndV, oEq, eqd_int, intOkN, hQ']
  | str x => simp [sSeq, sIf, dTst, dN, oIsi, dCons, dVar, dC, dNil, oTup, frs, s2, derI, der, isaD, isaL, isa1, tyN, isT, sNext, dBin, oIsN, isN, sRet, dOr, dAndV, oEq, eqd_str, strOkN _ hd, hQ']
  | tup xs => obtain ⟨j, h, _⟩ := good_tup hd; omega
  | lst xs => obtain ⟨j, h, _⟩ := good_lst hd; omega
  | dct kvs =>
    have hx : okR 60 (.dct kvs) = true ∧ (py (.dct kvs)).shown.length ≤ 10000 ∧ PyData.strOk (py (.dct kvs)).shown = true := by
      have h' : (okR 60 (.dct kvs) && (decide ((py (.dct kvs)).shown.length ≤ 10000) && PyData.strOk (py (.dct kvs)).shown)) = true := hd
      rw [Bool.and_eq_true, Bool.and_eq_true] at h'
      exact ⟨h'.1, of_decide_eq_true h'.2.1, h'.2.2⟩
    have s1 : 10000 ≤ sizeLine := sz (by decide)
    simp [sSeq, sIf, dTst, dN, oIsi, dCons, dVar, dC, dNil, oTup, frs, s2, derI, der, isaD, isaL, isa1, tyN, isT, sNext, dBin, oIsN, isN, sRet, dOr, dAndV, oEq, eqd_str, oRepr]
    exact ⟨hx.1, by omega, hx.1, by omega, strOkN _ hx.2.2, hQ'⟩
  | _ => cases hd
end DL.S

set_option maxHeartbeats 0
namespace K02
open PySem PySem.Spec PyProof.Rows L2 DL DL.S
abbrev st_BadNet_xi : Stmt := (inCls (top 6) 0)
theorem sc_BadNet_xi : FnScope ["self", "error"] ["self", "error"] (defScope st_BadNet_xi) := ⟨rfl, rfl, rfl, by decide +kernel, rfl, by decide +kernel, by decide +kernel⟩
def fn : List He.DefD := [⟨("is_whole", none), "is_whole", "is_whole", defArgs st_is_whole, defBody st_is_whole, defScope st_is_whole, [], []⟩,
  ⟨("is_below", none), "is_below", "is_below", defArgs st_is_below, defBody st_is_below, defScope st_is_below, [], []⟩,
  ⟨("is_pair", none), "is_pair", "is_pair", defArgs st_is_pair, defBody st_is_pair, defScope st_is_pair, [], []⟩,
  ⟨("is_link", none), "is_link", "is_link", defArgs st_is_link, defBody st_is_link, defScope st_is_link, [], []⟩,
  ⟨("net_error", none), "net_error", "net_error", defArgs st_net_error, defBody st_net_error, defScope st_net_error, [], []⟩,
  ⟨("Net", some "__init__"), "__init__", "Net.__init__", defArgs st_Net_init, defBody st_Net_init, defScope st_Net_init, [], []⟩,
  ⟨("_law_deck", none), "_law_deck", "_law_deck", defArgs st_law_deck, defBody st_law_deck, defScope st_law_deck, [], []⟩,
  ⟨("_law_next", none), "_law_next", "_law_next", defArgs st_law_next, defBody st_law_next, defScope st_law_next, [], []⟩,
  ⟨("_law_pairs", none), "_law_pairs", "_law_pairs", defArgs st_law_pairs, defBody st_law_pairs, defScope st_law_pairs, [], []⟩,
  ⟨("_law_net", none), "_law_net", "_law_net", defArgs st_law_net, defBody st_law_net, defScope st_law_net, [], []⟩,
  ⟨("_law_same", none), "_law_same", "_law_same", defArgs st_law_same, defBody st_law_same, defScope st_law_same, [], []⟩,
  ⟨("_law_whole", none), "_law_whole", "_law_whole", defArgs st_law_whole, defBody st_law_whole, defScope st_law_whole, [], []⟩,
  ⟨("_law_odd", none), "_law_odd", "_law_odd", defArgs st_law_odd, defBody st_law_odd, defScope st_law_odd, [], []⟩,
  ⟨("_law_due", none), "_law_due", "_law_due", defArgs st_law_due, defBody st_law_due, defScope st_law_due, [], []⟩,
  ⟨("_law_bent", none), "_law_bent", "_law_bent", defArgs st_law_bent, defBody st_law_bent, defScope st_law_bent, [], []⟩,
  ⟨("_law_told", none), "_law_told", "_law_told", defArgs st_law_told, defBody st_law_told, defScope st_law_told, [], []⟩,
  ⟨("law", none), "law", "law", defArgs st_law, defBody st_law, defScope st_law, [], []⟩,
  ⟨("BadNet", some "__init__"), "__init__", "BadNet.__init__", defArgs st_BadNet_xi, defBody st_BadNet_xi, defScope st_BadNet_xi, [], []⟩]
def ex : List Fk := [noSysB,
  tab.chk,
  (fun K => (He.Fa.free "abs").ok K),
  (fun K => (He.Fa.free "all").ok K),
  (fun K => (He.Fa.free "bool").ok K),
  (fun K => (He.Fa.free "dict").ok K),
  (fun K => (He.Fa.free "enumerate").ok K),
  (fun K => (He.Fa.free "int").ok K),
  (fun K => (He.Fa.free "isinstance").ok K),
  (fun K => (He.Fa.free "len").ok K),
  (fun K => (He.Fa.free "list").ok K),
  (fun K => (He.Fa.free "max").ok K),
  (fun K => (He.Fa.free "min").ok K),
  (fun K => (He.Fa.free "range").ok K),
  (fun K => (He.Fa.free "repr").ok K),
  (fun K => (He.Fa.free "sorted").ok K),
  (fun K => (He.Fa.free "str").ok K),
  (fun K => (He.Fa.free "tuple").ok K),
  (fun K => (He.Fa.free "zip").ok K),
  (fun K => (He.Fa.int "MAX_LINKS" 8).ok K),
  (fun K => (He.Fa.int "MAX_NODES" 7).ok K),
  (fun K => (He.Fa.glo "BadNet").ok K),
  (tab.fiC "pairs" ft_pairs),
  (tab.fiC "size" ft_size),
  (tab.xfC "error" ft_error),
  (tab.ieC ise),
  (fun K => (He.Fa.glo "SpareError").ok K),
  (tab.exC 0 ts_SpareError),
  noLstB,
  (fun K => (He.Fa.glo "is_whole").ok K),
  (fun K => (He.Fa.glo "is_below").ok K),
  (fun K => (He.Fa.glo "is_pair").ok K),
  (fun K => (He.Fa.glo "is_link").ok K),
  (fun K => (He.Fa.glo "net_error").ok K),
  (fun K => (He.Fa.glo "_law_deck").ok K),
  (fun K => (He.Fa.glo "_law_next").ok K),
  (fun K => (He.Fa.glo "_law_pairs").ok K),
  (fun K => (He.Fa.glo "_law_net").ok K),
  (fun K => (He.Fa.glo "_law_same").ok K),
  (fun K => (He.Fa.glo "_law_whole").ok K),
  (fun K => (He.Fa.glo "_law_odd").ok K),
  (fun K => (He.Fa.glo "_law_due").ok K),
  (fun K => (He.Fa.glo "_law_bent").ok K),
  (fun K => (He.Fa.glo "_law_told").ok K),
  (fun K => (He.Fa.glo "law").ok K),
  (fun K => (He.Fa.glo "Net").ok K),
  (tab.mkC 3),
  (fun K => (He.Fa.glo "BadNet").ok K),
  (tab.xcC 2 ["error"])]
abbrev R : PySem.W.OpenRow := PySem.W.OpenLaw.row PySem.Challenge.rw_sparerows_k02_net_forms
abbrev hk : PySem.W.Hook := hookX 6 ex fn
def ob (s : PySem.W.SharedT) : He.AlD := obsXG 6 ex fn (HandSHeadRun.getT s)
theorem ob_eq (s : PySem.W.SharedT) : ob s = hk.obs s.abs := obsXG_eq (HandSHeadRun.getT_eq s)
def loose0 : List Str := ["_wall", "MAX_LINKS", "MAX_NODES", "SpareError", "BadLink", "BadNet", "is_whole", "is_below", "is_pair", "is_link", "net_error", "Net", "_law_deck", "_law_next", "_law_pairs", "_law_net", "_law_same", "_law_whole", "_law_odd", "_law_due", "_law_bent", "_law_told"]
def loose : List Str := loose0
theorem run (w : World) : HandSHeadRun.RunEq R (PySem.W.view R.prog [26]) hk ob 6000 loose w := by
  intro os
  kernel_rfl
section
variable {P : Program} {w : World} {K : PySem.W.Frag} {h : Heap} {mg : Str → Option Value} {f : Addr}
theorem txt (inK : K.In h) (G : h.Ns mainGlobals mg) (c : SaysX ex fn K) : Txt K mg (tab.ct K) :=
  ⟨noSysB_ok (c.fact 0),
   Tab.ok (c.fact 1),
   He.free_ok inK G (c.fact 2),
   He.free_ok inK G (c.fact 3),
   He.free_ok inK G (c.fact 4),
   He.free_ok inK G (c.fact 5),
   He.free_ok inK G (c.fact 6),
   He.free_ok inK G (c.fact 7),
   He.free_ok inK G (c.fact 8),
   He.free_ok inK G (c.fact 9),
   He.free_ok inK G (c.fact 10),
   He.free_ok inK G (c.fact 11),
   He.free_ok inK G (c.fact 12),
   He.free_ok inK G (c.fact 13),
   He.free_ok inK G (c.fact 14),
   He.free_ok inK G (c.fact 15),
   He.free_ok inK G (c.fact 16),
   He.free_ok inK G (c.fact 17),
   He.free_ok inK G (c.fact 18),
   He.int_ok inK G (c.fact 19),
   He.int_ok inK G (c.fact 20),
   He.glo_ok inK G (c.fact 21),
   Tab.fi_ok (c.fact 22),
   Tab.fi_ok (c.fact 23),
   Tab.xf_ok (c.fact 24),
   Tab.ie_ok (c.fact 25),
   He.glo_ok inK G (c.fact 26),
   Tab.ex_ok (c.fact 27)⟩
theorem facts (inK : K.In h) (G : h.Ns mainGlobals mg) (hfa : mg ("law" : Str) = some (.ref f)) (c : SaysX ex fn K) :
    ∃ fd : FuncData, (∀ (s : Shared) (v : Value), BindsTo s fd ⟨[v], []⟩ [("_law_script", v)]) ∧ ∀ base : Heap, FnG P w K mg base (L2.CX P w) 8 f fd ["_law_script"] (spD (tab.ct K) w K 1 (pLaw 63)) := by
  obtain ⟨fd0, F0⟩ := c.def_ 0 rfl
  have G0 := fdA_of F0
  obtain ⟨fd1, F1⟩ := c.def_ 1 rfl
  have G1 := fdA_of F1
  obtain ⟨fd2, F2⟩ := c.def_ 2 rfl
  have G2 := fdA_of F2
  obtain ⟨fd3, F3⟩ := c.def_ 3 rfl
  have G3 := fdA_of F3
  obtain ⟨fd4, F4⟩ := c.def_ 4 rfl
  have G4 := fdA_of F4
  obtain ⟨fd5, F5⟩ := c.def_ 5 rfl
  have G5 := fdA_of F5
  obtain ⟨fd6, F6⟩ := c.def_ 6 rfl
  have G6 := fdA_of F6
  obtain ⟨fd7, F7⟩ := c.def_ 7 rfl
  have G7 := fdA_of F7
  obtain ⟨fd8, F8⟩ := c.def_ 8 rfl
  have G8 := fdA_of F8
  obtain ⟨fd9, F9⟩ := c.def_ 9 rfl
  have G9 := fdA_of F9
  obtain ⟨fd10, F10⟩ := c.def_ 10 rfl
  have G10 := fdA_of F10
  obtain ⟨fd11, F11⟩ := c.def_ 11 rfl
  have G11 := fdA_of F11
  obtain ⟨fd12, F12⟩ := c.def_ 12 rfl
  have G12 := fdA_of F12
  obtain ⟨fd13, F13⟩ := c.def_ 13 rfl
  have G13 := fdA_of F13
  obtain ⟨fd14, F14⟩ := c.def_ 14 rfl
  have G14 := fdA_of F14
  obtain ⟨fd15, F15⟩ := c.def_ 15 rfl
  have G15 := fdA_of F15
  obtain ⟨fd16, F16⟩ := c.def_ 16 rfl
  have G16 := fdA_of F16
  obtain ⟨fd17, F17⟩ := c.def_ 17 rfl
  have G17 := fdA_of F17
  have T := txt inK G c
  have e := hfa.symm.trans (He.glo_ok inK G (c.fact 44))
  cases e
  have b := FunD.bindsA (ps := ["_law_script"]) G16 fun _ _ _ _ _ _ us hl => match us, hl with | [_], _ => rfl
  refine ⟨_, fun s v => b s [v] rfl, fun base => ?_⟩
  have x_BadNet : XcC P w K mg base (tab.ct K) "BadNet" 2 ["error"] := Tab.xc_ok (c.fact 48) rfl (He.glo_ok inK G (c.fact 47)) rfl (by decide) ⟨_, exc_init1 G17 sc_BadNet_xi (fun cdv A outer s H E => pss_one (ps_ost (pv 0) (pv 1))), (FunD.bindsN G17 (ps := ["self", "error"]) fun _ _ _ _ _ _ us hl => match us, hl with | [_, _], _ => rfl)⟩
  have c_is_whole : FnC P w K mg base (tab.ct K) "is_whole" 1 ["value"] (p_whole) := ⟨He.glo_ok inK G (c.fact 29), G0.kp, wk_is_whole T (K0 := 0) (by first | exact pRel.mono | exact pGh.mono | exact pLaw.mono | exact pNo.mono) (by first | exact pRel.len | exact pGh.len | exact pLaw.len | exact pNo.len) G0 (law_is_whole (tab.ct K)), (FunD.bindsN G0 (ps := ["value"]) fun _ _ _ _ _ _ us hl => match us, hl with | [_], _ => rfl), (by first | exact pRel.len | exact pGh.len | exact pLaw.len | exact pNo.len)⟩
  have c_is_below : FnC P w K mg base (tab.ct K) "is_below" 2 ["value", "bound"] (p_below) := ⟨He.glo_ok inK G (c.fact 30), G1.kp, wk_is_below T (K0 := 1) (by first | exact pRel.mono | exact pGh.mono | exact pLaw.mono | exact pNo.mono) (by first | exact pRel.len | exact pGh.len | exact pLaw.len | exact pNo.len) c_is_whole (by omega) G1 (law_is_below (tab.ct K)), (FunD.bindsN G1 (ps := ["value", "bound"]) fun _ _ _ _ _ _ us hl => match us, hl with | [_, _], _ => rfl), (by first | exact pRel.len | exact pGh.len | exact pLaw.len | exact pNo.len)⟩
  have c_is_pair : FnC P w K mg base (tab.ct K) "is_pair" 1 ["value"] (p_pair) := ⟨He.glo_ok inK G (c.fact 31), G2.kp, wk_is_pair T (K0 := 0) (by first | exact pRel.mono | exact pGh.mono | exact pLaw.mono | exact pNo.mono) (by first | exact pRel.len | exact pGh.len | exact pLaw.len | exact pNo.len) G2 (law_is_pair (tab.ct K)), (FunD.bindsN G2 (ps := ["value"]) fun _ _ _ _ _ _ us hl => match us, hl with | [_], _ => rfl), (by first | exact pRel.len | exact pGh.len | exact pLaw.len | exact pNo.len)⟩
  have c_is_link : FnC P w K mg base (tab.ct K) "is_link" 3 ["value", "nodes"] (p_link) := ⟨He.glo_ok inK G (c.fact 32), G3.kp, wk_is_link T (K0 := 2) (by first | exact pRel.mono | exact pGh.mono | exact pLaw.mono | exact pNo.mono) (by first | exact pRel.len | exact pGh.len | exact pLaw.len | exact pNo.len) c_is_pair (by omega) c_is_below (by omega) G3 (law_is_link (tab.ct K)), (FunD.bindsN G3 (ps := ["value", "nodes"]) fun _ _ _ _ _ _ us hl => match us, hl with | [_, _], _ => rfl), (by first | exact pRel.len | exact pGh.len | exact pLaw.len | exact pNo.len)⟩
  have c_net_error : FnC P w K mg base (tab.ct K) "net_error" 4 ["nodes", "links"] (p_err) := ⟨He.glo_ok inK G (c.fact 33), G4.kp, wk_net_error T (K0 := 3) (by first | exact pRel.mono | exact pGh.mono | exact pLaw.mono | exact pNo.mono) (by first | exact pRel.len | exact pGh.len | exact pLaw.len | exact pNo.len) c_is_whole (by omega) c_is_link (by omega) G4 (law_net_error (tab.ct K)), (FunD.bindsN G4 (ps := ["nodes", "links"]) fun _ _ _ _ _ _ us hl => match us, hl with | [_, _], _ => rfl), (by first | exact pRel.len | exact pGh.len | exact pLaw.len | exact pNo.len)⟩
  have m_Net : MkC P w K mg base (tab.ct K) "Net" 3 2 5 ["self", "nodes", "links"] (p_init) := ⟨He.glo_ok inK G (c.fact 45), Tab.mk_ok (c.fact 46) rfl, wk_Net_init T (K0 := 4) (by first | exact pRel.mono | exact pGh.mono | exact pLaw.mono | exact pNo.mono) (by first | exact pRel.len | exact pGh.len | exact pLaw.len | exact pNo.len) c_net_error (by omega) x_BadNet (by omega) G5 (law_Net_init (tab.ct K)), (FunD.bindsN G5 (ps := ["self", "nodes", "links"]) fun _ _ _ _ _ _ us hl => match us, hl with | [_, _, _], _ => rfl), (by first | exact pRel.len | exact pGh.len | exact pLaw.len | exact pNo.len), rfl⟩
  have c_law_deck : FnC P w K mg base (tab.ct K) "_law_deck" 1 ["_law_script"] (p_deck) := ⟨He.glo_ok inK G (c.fact 34), G6.kp, wk_law_deck T (K0 := 0) (by first | exact pRel.mono | exact pGh.mono | exact pLaw.mono | exact pNo.mono) (by first | exact pRel.len | exact pGh.len | exact pLaw.len | exact pNo.len) G6 (law_deck (tab.ct K)), (FunD.bindsN G6 (ps := ["_law_script"]) fun _ _ _ _ _ _ us hl => match us, hl with | [_], _ => rfl), (by first | exact pRel.len | exact pGh.len | exact pLaw.len | exact pNo.len)⟩
  have c_law_next : FnC P w K mg base (tab.ct K) "_law_next" 1 ["_law_deck_here", "_law_many"] (p_next) := ⟨He.glo_ok inK G (c.fact 35), G7.kp, wk_law_next T (K0 := 0) (by first | exact pRel.mono | exact pGh.mono | exact pLaw.mono | exact pNo.mono) (by first | exact pRel.len | exact pGh.len | exact pLaw.len | exact pNo.len) G7 (law_next (tab.ct K)), (FunD.bindsN G7 (ps := ["_law_deck_here", "_law_many"]) fun _ _ _ _ _ _ us hl => match us, hl with | [_, _], _ => rfl), (by first | exact pRel.len | exact pGh.len | exact pLaw.len | exact pNo.len)⟩
  have c_law_pairs : FnC P w K mg base (tab.ct K) "_law_pairs" 1 ["_law_nodes"] (p_pairs) := ⟨He.glo_ok inK G (c.fact 36), G8.kp, wk_law_pairs T (K0 := 0) (by first | exact pRel.mono | exact pGh.mono | exact pLaw.mono | exact pNo.mono) (by first | exact pRel.len | exact pGh.len | exact pLaw.len | exact pNo.len) G8 (law_law_pairs (tab.ct K)), (FunD.bindsN G8 (ps := ["_law_nodes"]) fun _ _ _ _ _ _ us hl => match us, hl with | [_], _ => rfl), (by first | exact pRel.len | exact pGh.len | exact pLaw.len | exact pNo.len)⟩
  have c_law_net : FnC P w K mg base (tab.ct K) "_law_net" 2 ["_law_deck_here", "_law_most"] (p_net) := ⟨He.glo_ok inK G (c.fact 37), G9.kp, wk_law_net T (K0 := 1) (by first | exact pRel.mono | exact pGh.mono | exact pLaw.mono | exact pNo.mono) (by first | exact pRel.len | exact pGh.len | exact pLaw.len | exact pNo.len) c_law_next (by omega) c_law_pairs (by omega) G9 (law_law_net (tab.ct K)), (FunD.bindsN G9 (ps := ["_law_deck_here", "_law_most"]) fun _ _ _ _ _ _ us hl => match us, hl with | [_, _], _ => rfl), (by first | exact pRel.len | exact pGh.len | exact pLaw.len | exact pNo.len)⟩
  have c_law_same_no : FnCG P w K mg base (tab.ct K) "_law_same" 0 ["_law_found", "_law_due_here"] pNo := ⟨He.glo_ok inK G (c.fact 38), G10.kp, noG, (FunD.bindsN G10 (ps := ["_law_found", "_law_due_here"]) fun _ _ _ _ _ _ us hl => match us, hl with | [_, _], _ => rfl), pNo.len⟩
  have c_law_same0 : FnCG P w K mg base (tab.ct K) "_law_same" 1 ["_law_found", "_law_due_here"] (p_same 0) := ⟨He.glo_ok inK G (c.fact 38), G10.kp, wk_law_same T (K0 := 0) (by first | exact pRel.mono | exact pGh.mono | exact pLaw.mono | exact pNo.mono) (by first | exact pRel.len | exact pGh.len | exact pLaw.len | exact pNo.len) c_law_same_no (by omega) G10 (law_same0 (tab.ct K) _), (FunD.bindsN G10 (ps := ["_law_found", "_law_due_here"]) fun _ _ _ _ _ _ us hl => match us, hl with | [_, _], _ => rfl), (by first | exact pRel.len | exact pGh.len | exact pLaw.len | exact pNo.len)⟩
  have c_law_same1 : FnCG P w K mg base (tab.ct K) "_law_same" 2 ["_law_found", "_law_due_here"] (p_same 1) := ⟨He.glo_ok inK G (c.fact 38), G10.kp, wk_law_same T (K0 := 1) (by first | exact pRel.mono | exact pGh.mono | exact pLaw.mono | exact pNo.mono) (by first | exact pRel.len | exact pGh.len | exact pLaw.len | exact pNo.len) c_law_same0 (by omega) G10 (law_same (tab.ct K) 1), (FunD.bindsN G10 (ps := ["_law_found", "_law_due_here"]) fun _ _ _ _ _ _ us hl => match us, hl with | [_, _], _ => rfl), (by first | exact pRel.len | exact pGh.len | exact pLaw.len | exact pNo.len)⟩
  have c_law_same2 : FnCG P w K mg base (tab.ct K) "_law_same" 3 ["_law_found", "_law_due_here"] (p_same 2) := ⟨He.glo_ok inK G (c.fact 38), G10.kp, wk_law_same T (K0 := 2) (by first | exact pRel.mono | exact pGh.mono | exact pLaw.mono | exact pNo.mono) (by first | exact pRel.len | exact pGh.len | exact pLaw.len | exact pNo.len) c_law_same1 (by omega) G10 (law_same (tab.ct K) 2), (FunD.bindsN G10 (ps := ["_law_found", "_law_due_here"]) fun _ _ _ _ _ _ us hl => match us, hl with | [_, _], _ => rfl), (by first | exact pRel.len | exact pGh.len | exact pLaw.len | exact pNo.len)⟩
  have c_law_same3 : FnCG P w K mg base (tab.ct K) "_law_same" 4 ["_law_found", "_law_due_here"] (p_same 3) := ⟨He.glo_ok inK G (c.fact 38), G10.kp, wk_law_same T (K0 := 3) (by first | exact pRel.mono | exact pGh.mono | exact pLaw.mono | exact pNo.mono) (by first | exact pRel.len | exact pGh.len | exact pLaw.len | exact pNo.len) c_law_same2 (by omega) G10 (law_same (tab.ct K) 3), (FunD.bindsN G10 (ps := ["_law_found", "_law_due_here"]) fun _ _ _ _ _ _ us hl => match us, hl with | [_, _], _ => rfl), (by first | exact pRel.len | exact pGh.len | exact pLaw.len | exact pNo.len)⟩
  have c_law_same : FnCG P w K mg base (tab.ct K) "_law_same" 5 ["_law_found", "_law_due_here"] (p_same 4) := ⟨He.glo_ok inK G (c.fact 38), G10.kp, wk_law_same T (K0 := 4) (by first | exact pRel.mono | exact pGh.mono | exact pLaw.mono | exact pNo.mono) (by first | exact pRel.len | exact pGh.len | exact pLaw.len | exact pNo.len) c_law_same3 (by omega) G10 (law_same (tab.ct K) 4), (FunD.bindsN G10 (ps := ["_law_found", "_law_due_here"]) fun _ _ _ _ _ _ us hl => match us, hl with | [_, _], _ => rfl), (by first | exact pRel.len | exact pGh.len | exact pLaw.len | exact pNo.len)⟩
  have c_law_whole : FnC P w K mg base (tab.ct K) "_law_whole" 1 ["_law_value"] (p_whole) := ⟨He.glo_ok inK G (c.fact 39), G11.kp, wk_law_whole T (K0 := 0) (by first | exact pRel.mono | exact pGh.mono | exact pLaw.mono | exact pNo.mono) (by first | exact pRel.len | exact pGh.len | exact pLaw.len | exact pNo.len) G11 (law_law_whole (tab.ct K)), (FunD.bindsN G11 (ps := ["_law_value"]) fun _ _ _ _ _ _ us hl => match us, hl with | [_], _ => rfl), (by first | exact pRel.len | exact pGh.len | exact pLaw.len | exact pNo.len)⟩
  have c_law_odd : FnC P w K mg base (tab.ct K) "_law_odd" 2 ["_law_deck_here", "_law_link"] (p_odd) := ⟨He.glo_ok inK G (c.fact 40), G12.kp, wk_law_odd T (K0 := 1) (by first | exact pRel.mono | exact pGh.mono | exact pLaw.mono | exact pNo.mono) (by first | exact pRel.len | exact pGh.len | exact pLaw.len | exact pNo.len) c_law_next (by omega) G12 (law_law_odd (tab.ct K)), (FunD.bindsN G12 (ps := ["_law_deck_here", "_law_link"]) fun _ _ _ _ _ _ us hl => match us, hl with | [_, _], _ => rfl), (by first | exact pRel.len | exact pGh.len | exact pLaw.len | exact pNo.len)⟩
  have c_law_due : FnC P w K mg base (tab.ct K) "_law_due" 2 ["_law_nodes", "_law_links"] (p_err) := ⟨He.glo_ok inK G (c.fact 41), G13.kp, wk_law_due T (K0 := 1) (by first | exact pRel.mono | exact pGh.mono | exact pLaw.mono | exact pNo.mono) (by first | exact pRel.len | exact pGh.len | exact pLaw.len | exact pNo.len) c_law_whole (by omega) G13 (law_law_due (tab.ct K)), (FunD.bindsN G13 (ps := ["_law_nodes", "_law_links"]) fun _ _ _ _ _ _ us hl => match us, hl with | [_, _], _ => rfl), (by first | exact pRel.len | exact pGh.len | exact pLaw.len | exact pNo.len)⟩
  have c_law_bent : FnC P w K mg base (tab.ct K) "_law_bent" 3 ["_law_deck_here", "_law_links"] (p_bent) := ⟨He.glo_ok inK G (c.fact 42), G14.kp, wk_law_bent T (K0 := 2) (by first | exact pRel.mono | exact pGh.mono | exact pLaw.mono | exact pNo.mono) (by first | exact pRel.len | exact pGh.len | exact pLaw.len | exact pNo.len) c_law_next (by omega) c_law_odd (by omega) G14 (law_law_bent (tab.ct K)), (FunD.bindsN G14 (ps := ["_law_deck_here", "_law_links"]) fun _ _ _ _ _ _ us hl => match us, hl with | [_, _], _ => rfl), (by first | exact pRel.len | exact pGh.len | exact pLaw.len | exact pNo.len)⟩
  have c_law_told : FnC P w K mg base (tab.ct K) "_law_told" 7 ["_law_nodes", "_law_links"] (p_told) := ⟨He.glo_ok inK G (c.fact 43), G15.kp, wk_law_told T (K0 := 6) (by first | exact pRel.mono | exact pGh.mono | exact pLaw.mono | exact pNo.mono) (by first | exact pRel.len | exact pGh.len | exact pLaw.len | exact pNo.len) m_Net (by omega) G15 (law_law_told (tab.ct K)), (FunD.bindsN G15 (ps := ["_law_nodes", "_law_links"]) fun _ _ _ _ _ _ us hl => match us, hl with | [_, _], _ => rfl), (by first | exact pRel.len | exact pGh.len | exact pLaw.len | exact pNo.len)⟩
  exact (wk_law T (K0 := 7) (by first | exact pRel.mono | exact pGh.mono | exact pLaw.mono | exact pNo.mono) (by first | exact pRel.len | exact pGh.len | exact pLaw.len | exact pNo.len) c_law_deck (by omega) c_law_net (by omega) c_law_next (by omega) c_law_bent (by omega) c_law_odd (by omega) c_law_due (by omega) c_law_same (by omega) c_net_error (by omega) c_law_told (by omega) G16 (law_law (tab.ct K))).ok
end
end K02
open PySem PySem.W PySem.Calls PyProof.Rows
theorem PySem.Challenge.cw_sparerows_k02_net_forms_holds : PySem.Challenge.rw_sparerows_k02_net_forms.Holds := by
  w_on; o_law
  refine HandSHeadRun.head_any (r := OpenLaw.row PySem.Challenge.rw_sparerows_k02_net_forms) (q := view (OpenLaw.row PySem.Challenge.rw_sparerows_k02_net_forms).prog [26]) (H := K02.hk) (ob := K02.ob) (M := 6000) (loose := K02.loose) (d := HandSHeadRun.topDef (OpenLaw.row PySem.Challenge.rw_sparerows_k02_net_forms).prog 26) (kwd := []) K02.ob_eq
    (by kernel_rfl) (fun s => by kernel_rfl) K02.run (by kernel_rfl) (by kernel_rfl) (by kernel_rfl) (by rfl) (by first | assumption | decide +kernel) (by decide +kernel) ⟨rfl, rfl, rfl, rfl, rfl, by decide +kernel⟩ ?hw ?hc
  case hw => w_witness2
  case hc =>
    refine DL.walk_ofG (l := PySem.Challenge.rw_sparerows_k02_net_forms) (n := 63) (k := 8) (x := "_law_script") rfl (by decide) (by kernel_rfl) ⟨⟨rfl, by decide, by decide⟩, rfl⟩ ?_
    intro w mg fa h Y G hmg0
    obtain ⟨K, inK, c⟩ := Y
    have hmg : mg ("law" : PySem.Str) = some (.ref fa) := by
      have e : (HandSHeadRun.topDef (OpenLaw.row PySem.Challenge.rw_sparerows_k02_net_forms).prog 26).name = ("law" : PySem.Str) := by kernel_rfl
      rw [← e]
      exact hmg0
    obtain ⟨fd, hb, hF⟩ := K02.facts (P := (PySem.Challenge.rw_sparerows_k02_net_forms).prog) (w := w) inK G hmg c
    exact ⟨K, fd, _, inK, DL.noLstB_ok (c.fact 28), hb, fun a o is hl => DL.law_prom hl, fun B _ _ => hF B⟩

