import PyProof.Rows.All
import Wide.All
import OpenK.AllK
import Wide.FinOn
import HandS.ForMost
import HandS.ForExc
import HandS.IsInst
import HandS.TupAny
import HandS.Wide
import KE.KDictCopyH
import KE.KDictKeyed
import HandS.Lambda
import HandS.Walk
import HandS.CallSlots
import HandS.Defaults
import HandS.WordsExc
import HandS.Deep
import KE.SortData
import HandS.SortOrd
import PyProof.TupleOfSeq
import HandS.Zip
import KE.GoesEnum
import HandS.Style
import HandS.ExcInit
import HandS.ExcField
import HandS.ExcIs
import HandS.Words
import HandS.HeadHook2
import HandS.Ends
import HandS.HeadEnd
import HandS.HeadHook1
import HandS.Head0
import HandS.Head1
import HandS.Head2
import HandS.Property
import HandS.OwnEq
import HandS.ClsMeth
import HandS.CallLocal
import KE.KCallOwn
import HandS.Strs
import HandS.Conv
import KE.KTupSum
import HandS.FStr
import HandS.Iter
import HandS.More
import HandS.Star
import HandS.Flt
import HandS.DictComp
import KE.KDictPairs
import HandS.EndTab
import HandS.SortKw
import KE.SortKeyHeap
import PyProof.InstNe
import KE.KEqDict
import HandS.Set
import HandS.TupSets
import KE.DataMinMax
import HandS.TupLe
import KE.DataCmp
import KE.DatumMoreOrd
import PySem.Challenge.RW_sparerows_k27_whole_turning_books_come_h
set_option Elab.async false
set_option linter.all false
set_option maxRecDepth 100000
set_option maxHeartbeats 1000000
namespace DL
open PySem PySem.Spec PyProof.Rows L2

inductive Dat where
  | non | bl (b : Bool) | int (i : Int) | str (x : Str)
  | tup (xs : List Dat) | lst (xs : List Dat) | dct (kvs : List (Dat × Dat))
  | ins (c : Nat) (xs : List Dat) | obj (k : Nat) | ref (a : Addr) | ty (n : String) | cls (c : Nat)
  deriving Inhabited

structure Ct where
  addr : Nat → Addr
  flds : Nat → List Str
  /-- plain classes of instances -/
  own : Nat → Bool := fun _ => false
  /-- of which kind: class and class, class and built-in type, built-in type and class -/
  isaI : Nat → Nat → Option Bool := fun _ _ => none
  isaB : Nat → String → Option Bool := fun _ _ => none
  isaT : String → Nat → Option Bool := fun _ _ => none
  /-- tables of code objects, each with the name of what is made there -/
  tabs : List (Addr × Str) := []

def dxo (a : Addr) (es : Array DictEntry) : HO := .ext fun h => ∃ o ep, h.get? a = some o ∧ o.ExactDict ∧ o.data = .dict es ep
def NTo (o : HO) : Prop := ∀ ps, o ≠ .tbl ps
def Calm (x : Option HO) : Prop := (∀ ps, x ≠ some (.tbl ps)) ∧ ∀ c q, x ≠ some (LamX.CodeO c q)
theorem codeO_ext (c : Addr) (q : Str) : ∃ f, LamX.CodeO c q = .ext f := ⟨_, rfl⟩
theorem Calm.none {x : Option HO} (h : x = .none) : Calm x := by subst h; exact ⟨fun _ z => (nomatch z), fun _ _ z => (nomatch z)⟩
theorem Calm.lst {x : Option HO} {vs : List V} (h : x = some (.lst vs)) : Calm x := by
  subst h
  exact ⟨fun _ z => (nomatch z), fun c q z => by obtain ⟨f, e⟩ := codeO_ext c q; rw [e] at z; cases z⟩
theorem Calm.tup {x : Option HO} {vs : List V} (h : x = some (.tup vs)) : Calm x := by
  subst h
  exact ⟨fun _ z => (nomatch z), fun c q z => by obtain ⟨f, e⟩ := codeO_ext c q; rw [e] at z; cases z⟩
theorem Calm.dK {x : Option HO} {ks : List (Key × V)} (h : x = some (.dK ks)) : Calm x := by
  subst h
  exact ⟨fun _ z => (nomatch z), fun c q z => by obtain ⟨f, e⟩ := codeO_ext c q; rw [e] at z; cases z⟩
theorem Calm.ins {x : Option HO} {a d : Addr} {fs : List (Str × V)} (h : x = some (.ins a d fs)) : Calm x := by
  subst h
  exact ⟨fun _ z => (nomatch z), fun c q z => by obtain ⟨f, e⟩ := codeO_ext c q; rw [e] at z; cases z⟩
theorem Calm.xd {x : Option HO} {fs : List (Str × V)} (h : x = some (.xd fs)) : Calm x := by
  subst h
  exact ⟨fun _ z => (nomatch z), fun c q z => by obtain ⟨f, e⟩ := codeO_ext c q; rw [e] at z; cases z⟩
theorem dxo_ne (a : Addr) (es : Array DictEntry) (c : Addr) (q : Str) : dxo a es ≠ LamX.CodeO c q := by
  intro z
  unfold dxo LamX.CodeO at z
  injection z with z
  have h := congrFun z ({ objs := Array.replicate (a + 1) { cls := .type "dict", data := .dict es } } : Heap)
  have h1 : ({ objs := Array.replicate (a + 1) { cls := .type "dict", data := .dict es } } : Heap).get? a = some { cls := .type "dict", data := .dict es } := by
    simp [Heap.get?]
  have h2 : ∃ (oc : Obj) (vs : Array Value) (t : Tok), ({ objs := Array.replicate (a + 1) { cls := .type "dict", data := .dict es } } : Heap).get? c = some oc ∧ oc.data = .fields vs ∧ vs[1]? = some (.str q t) := h.mp ⟨_, _, h1, ⟨rfl, rfl, rfl⟩, rfl⟩
  obtain ⟨oc, vs, t, e1, e2, _⟩ := h2
  have e3 : oc = { cls := .type "dict", data := .dict es } := by
    have : c < a + 1 := by
      have := Heap.lt_size e1
      simpa using this
    have e4 : ({ objs := Array.replicate (a + 1) { cls := .type "dict", data := .dict es } } : Heap).get? c = some { cls := .type "dict", data := .dict es } := by
      simp [Heap.get?, this]
    rw [e1] at e4
    exact Option.some.inj e4
  subst e3
  cases e2
theorem Calm.dx {x : Option HO} {a : Addr} {es : Array DictEntry} (h : x = some (dxo a es)) : Calm x := by
  subst h
  exact ⟨fun _ z => (by have z' := Option.some.inj z; unfold dxo at z'; cases z'), fun c q z => dxo_ne a es c q (Option.some.inj z)⟩
theorem Calm.nt {x : Option HO} {o : HO} (h : Calm x) (e : x = some o) : NTo o := fun ps z => h.1 ps (by rw [e, z])
theorem Tabs_upd {T : List (Addr × Str)} {H : Hp} {p : Addr} {o : HO} (t : LamX.Tabs T H) (h : Calm (H p)) : LamX.Tabs T (upd H p o) := fun q hq => by
  obtain ⟨ps, h1, h2, h3⟩ := t q hq
  refine ⟨ps, ?_, h2, fun pos cv hc => ?_⟩
  · rw [upd_ne (fun z => h.1 ps (by rw [← z]; exact h1))]
    exact h1
  · obtain ⟨c, e1, e2⟩ := h3 pos cv hc
    refine ⟨c, e1, ?_⟩
    rw [upd_ne (fun z => h.2 c q.2 (by rw [← z]; exact e2))]
    exact e2

mutual
def keyN : Dat → Option NestedKey
  | .non => some .none
  | .bl b => some (.num (if b = true then 1 else 0))
  | .int i => some (.num i)
  | .str x => some (.text x)
  | .tup xs => (keyNs xs).map .tup
  | _ => none
def keyNs : List Dat → Option (List NestedKey)
  | [] => some []
  | x :: xs => match keyN x, keyNs xs with
    | some k, some ks => some (k :: ks)
    | _, _ => none
end
def hashD (w : World) (k : Dat) : Int := match keyN k with
  | some n => n.hash w
  | none => 0

mutual
inductive Fz (C : Ct) (w : World) (K : PySem.W.Frag) (al : List Addr) (G : Hp) : V → Dat → Prop
  | non : Fz C w K al G .non .non
  | bl (b : Bool) : Fz C w K al G (.bl b) (.bl b)
  | int (i : Int) : Fz C w K al G (.int i) (.int i)
  | str (x : Str) : Fz C w K al G (.str x) (.str x)
  | ty (n : String) : Fz C w K al G (.ty n) (.ty n)
  | ref (a : Addr) : Fz C w K al G (.ref a) (.ref a)
  | cls (c : Nat) : Fz C w K al G (.ref (C.addr c)) (.cls c)
  | tup {a vs ds} : SqT K G a vs → FzAll C w K al G vs ds → Fz C w K al G (.ref a) (.tup ds)
  | lst {a vs ds} : Rd G a (.lst vs) → FzAll C w K al G vs ds → Fz C w K al G (.ref a) (.lst ds)
  | dct {a es kvs} : G a = some (dxo a es) → (a == sysModules) = false → FzEs C w K al G es.toList kvs → Fz C w K al G (.ref a) (.dct kvs)
  | ins {a dx c vs ds} : G a = some (.ins (C.addr c) dx ((C.flds c).zip vs)) → vs.length = (C.flds c).length → FzAll C w K al G vs ds → Fz C w K al G (.ref a) (.ins c ds)
  | obj {k a} : al[k]? = some a → Fz C w K al G (.ref a) (.obj k)
inductive FzAll (C : Ct) (w : World) (K : PySem.W.Frag) (al : List Addr) (G : Hp) : List V → List Dat → Prop
  | nil : FzAll C w K al G [] []
  | cons {v vs d ds} : Fz C w K al G v d → FzAll C w K al G vs ds → FzAll C w K al G (v :: vs) (d :: ds)
inductive FzEs (C : Ct) (w : World) (K : PySem.W.Frag) (al : List Addr) (G : Hp) : List DictEntry → List (Dat × Dat) → Prop
  | nil : FzEs C w K al G [] []
  | cons {e es kv vv k v r} : RelV kv e.key → Fz C w K al G kv k → RelV vv e.val → Fz C w K al G vv v → e.hash = hashD w k → FzEs C w K al G es r → FzEs C w K al G (e :: es) ((k, v) :: r)
end

section
variable {C : Ct} {w : World} {K : PySem.W.Frag} {al al' : List Addr} {G G' : Hp}
theorem Rd.keep {a : Addr} {u : HO} (h : ∀ a o, G a = some o → G' a = some o) (r : Rd G a u) : Rd G' a u := by
  rcases r with r | ⟨o, r⟩
  · exact .inl (h _ _ r)
  · exact .inr ⟨o, h _ _ r⟩
theorem SqL.keep {a : Addr} {xs : List V} (h : ∀ a o, G a = some o → G' a = some o) (r : SqL K G a xs) : SqL K G' a xs := by
  rcases r with r | r
  · exact .inl (Rd.keep h r)
  · exact .inr r
theorem SqT.keep {a : Addr} {xs : List V} (h : ∀ a o, G a = some o → G' a = some o) (r : SqT K G a xs) : SqT K G' a xs := by
  rcases r with r | r
  · exact .inl (Rd.keep h r)
  · exact .inr r
mutual
theorem Fz.keep (h : ∀ a o, G a = some o → G' a = some o) (ha : ∀ (k : Nat) a, al[k]? = some a → al'[k]? = some a) : ∀ {v d}, Fz C w K al G v d → Fz C w K al' G' v d
  | _, _, .non => .non
  | _, _, .bl b => .bl b
  | _, _, .int i => .int i
  | _, _, .str x => .str x
  | _, _, .ty n => .ty n
  | _, _, .ref a => .ref a
  | _, _, .cls c => .cls c
  | _, _, .tup s r => .tup (SqT.keep h s) (FzAll.keep h ha r)
  | _, _, .lst s r => .lst (Rd.keep h s) (FzAll.keep h ha r)
  | _, _, .dct e s r => .dct (h _ _ e) s (FzEs.keep h ha r)
  | _, _, .ins e l r => .ins (h _ _ e) l (FzAll.keep h ha r)
  | _, _, .obj e => .obj (ha _ _ e)
theorem FzAll.keep (h : ∀ a o, G a = some o → G' a = some o) (ha : ∀ (k : Nat) a, al[k]? = some a → al'[k]? = some a) : ∀ {v d}, FzAll C w K al G v d → FzAll C w K al' G' v d
  | _, _, .nil => .nil
  | _, _, .cons x r => .cons (Fz.keep h ha x) (FzAll.keep h ha r)
theorem FzEs.keep (h : ∀ a o, G a = some o → G' a = some o) (ha : ∀ (k : Nat) a, al[k]? = some a → al'[k]? = some a) : ∀ {v d}, FzEs C w K al G v d → FzEs C w K al' G' v d
  | _, _, .nil => .nil
  | _, _, .cons r1 x r2 y e r => .cons r1 (Fz.keep h ha x) r2 (Fz.keep h ha y) e (FzEs.keep h ha r)
end
theorem FzAll.length {vs ds} : FzAll C w K al G vs ds → vs.length = ds.length := by
  intro h
  induction ds generalizing vs with
  | nil => cases h; rfl
  | cons d ds ih =>
    cases h with
    | cons x r => simp [ih r]
theorem FzAll.get {vs ds} {i : Nat} {d : Dat} (h : FzAll C w K al G vs ds) (e : ds[i]? = some d) : ∃ v, vs[i]? = some v ∧ Fz C w K al G v d := by
  induction ds generalizing vs i with
  | nil => simp at e
  | cons x ds ih =>
    cases h with
    | cons y r =>
      cases i with
      | zero => simp at e; subst e; exact ⟨_, rfl, y⟩
      | succ i => simp at e; obtain ⟨v, h1, h2⟩ := ih r e; exact ⟨v, by simpa using h1, h2⟩
theorem FzAll.set {vs ds v d} (n : Nat) (h : FzAll C w K al G vs ds) (x : Fz C w K al G v d) : FzAll C w K al G (vs.set n v) (ds.set n d) := by
  induction ds generalizing vs n with
  | nil => cases h; exact .nil
  | cons e ds ih =>
    cases h with
    | cons y r =>
      cases n with
      | zero => exact .cons x r
      | succ n => exact .cons y (ih n r)
theorem FzAll.eraseIdx {vs ds} (n : Nat) (h : FzAll C w K al G vs ds) : FzAll C w K al G (vs.eraseIdx n) (ds.eraseIdx n) := by
  induction ds generalizing vs n with
  | nil => cases h; exact .nil
  | cons e ds ih =>
    cases h with
    | cons y r =>
      cases n with
      | zero => exact r
      | succ n => exact .cons y (ih n r)
end

inductive Mo where
  | lst (xs : List Dat)
  | ins (c : Nat) (xs : List Dat)
  | dct (kvs : List (Dat × Dat))
inductive Sl where
  | f (d : Dat)
  | own (x : Mo)
inductive Lv where
  | f (d : Dat)
  | o (i : Nat)
abbrev Mem := List Mo
abbrev Env' := List (Option Sl)

structure Nw where
  G : Hp
  al : List Addr
  H : Hp
structure Nw.le (a b : Nw) : Prop where
  g : ∀ p o, a.G p = some o → b.G p = some o
  keepN : ∀ p o, a.H p = some o → p ∉ a.al → NTo o → b.H p = some o
  there : ∀ p, a.H p ≠ none → b.H p ≠ none
  gnew : ∀ p, a.H p ≠ none → b.G p = a.G p
  ale : a.al <+: b.al
  anew : ∀ (k : Nat) p, a.al.length ≤ k → b.al[k]? = some p → a.H p = none
theorem Nw.le.keep {a b : Nw} (l : a.le b) (p : Addr) (o : HO) (h : a.H p = some o) (hn : p ∉ a.al) (nt : NTo o := by first | assumption | (intro ps z; cases z; done) | exact (Calm.dx rfl).nt rfl) : b.H p = some o := l.keepN p o h hn nt
theorem pre_get {α : Type} {a b : List α} (h : a <+: b) (k : Nat) (x : α) (e : a[k]? = some x) : b[k]? = some x := by
  obtain ⟨t, rfl⟩ := h
  rw [List.getElem?_append_left (List.getElem?_eq_some_iff.mp e).1]; exact e
theorem pre_back {α : Type} {a b : List α} (h : a <+: b) {k : Nat} {x : α} (e : b[k]? = some x) (hk : k < a.length) : a[k]? = some x := by
  obtain ⟨t, rfl⟩ := h
  rw [List.getElem?_append_left hk] at e; exact e
theorem Nw.le.nal {a b : Nw} (h : a.le b) {p : Addr} (e : a.H p ≠ none) (n : p ∉ a.al) : p ∉ b.al := fun z => by
  obtain ⟨k, hk⟩ := List.getElem?_of_mem z
  by_cases hl : k < a.al.length
  · exact n (List.mem_of_getElem? (pre_back h.ale hk hl))
  · exact e (h.anew k p (by omega) hk)
theorem Nw.le.trans {a b c : Nw} (h : a.le b) (h' : b.le c) : a.le c where
  g := fun p o e => h'.g p o (h.g p o e)
  keepN := fun p o e n nt => h'.keepN p o (h.keepN p o e n nt) (h.nal (by rw [e]; simp) n) nt
  there := fun p e => h'.there p (h.there p e)
  gnew := fun p e => (h'.gnew p (h.there p e)).trans (h.gnew p e)
  ale := h.ale.trans h'.ale
  anew := fun k p hk e => by
    by_cases hl : k < b.al.length
    · exact h.anew k p hk (pre_back h'.ale e hl)
    · have q := h'.anew k p (by omega) e
      cases z : a.H p with
      | none => rfl
      | some o => exact absurd q (h.there p (by rw [z]; simp))

section
variable (C : Ct) (w : World) (K : PySem.W.Frag)
abbrev FzN (n : Nw) : V → Dat → Prop := Fz C w K n.al n.G
abbrev FzAllN (n : Nw) : List V → List Dat → Prop := FzAll C w K n.al n.G
def MoOk (n : Nw) (a : Addr) : Mo → Prop
  | .lst xs => ∃ vs, n.H a = some (.lst vs) ∧ FzAllN C w K n vs xs
  | .ins c xs => ∃ dx vs, n.H a = some (.ins (C.addr c) dx ((C.flds c).zip vs)) ∧ vs.length ≤ (C.flds c).length ∧ FzAllN C w K n vs xs
  | .dct kvs => ∃ es, n.H a = some (dxo a es) ∧ (a == sysModules) = false ∧ FzEs C w K n.al n.G es.toList kvs
structure Good (n : Nw) (m : Mem) : Prop where
  sub : ∀ p o, n.G p = some o → n.H p = some o
  nd : n.al.Nodup
  len : m.length = n.al.length
  at_ : ∀ (k : Nat) x a, m[k]? = some x → n.al[k]? = some a → MoOk C w K n a x ∧ n.G a = none
  tab : LamX.Tabs C.tabs n.H
  tg : ∀ q ∈ C.tabs, n.G q.1 = none
structure OwnAt (B n : Nw) (a : Addr) (x : Mo) : Prop where
  ok : MoOk C w K n a x
  g : n.G a = none
  al : a ∉ n.al
  new : B.H a = none
structure EnvOk (B n : Nw) (env : Env') (σ : L2.St) : Prop where
  len : env.length = σ.length
  fz : ∀ (i : Nat) d, env[i]? = some (some (.f d)) → ∃ v, σ[i]? = some (some v) ∧ FzN C w K n v d
  own : ∀ (i : Nat) x, env[i]? = some (some (.own x)) → ∃ a, σ[i]? = some (some (.ref a)) ∧ OwnAt C w K B n a x
  apart : ∀ (i j : Nat) x y a, env[i]? = some (some (.own x)) → env[j]? = some (some (.own y)) → σ[i]? = some (some (.ref a)) → σ[j]? = some (some (.ref a)) → i = j
structure Ok (B n : Nw) (env : Env') (m : Mem) (σ : L2.St) : Prop where
  good : Good C w K n m
  base : B.le n
  env : EnvOk C w K B n env σ
def LvOk (n : Nw) (env : Env') (σ : L2.St) (v : V) : Lv → Prop
  | .f d => FzN C w K n v d
  | .o i => σ[i]? = some (some v) ∧ ∃ x, env[i]? = some (some (.own x))
end

section
variable {C : Ct} {w : World} {K : PySem.W.Frag} {B n n' : Nw} {m m' : Mem} {env : Env'} {σ : L2.St}
theorem FzN.le {v d} (h : FzN C w K n v d) (l : n.le n') : FzN C w K n' v d := Fz.keep l.g (pre_get l.ale) h
theorem FzAllN.le {v d} (h : FzAllN C w K n v d) (l : n.le n') : FzAllN C w K n' v d := FzAll.keep l.g (pre_get l.ale) h
theorem MoOk.there {a : Addr} {x : Mo} (h : MoOk C w K n a x) : n.H a ≠ none := by
  cases x with
  | lst xs => obtain ⟨vs, e, r⟩ := h; rw [e]; simp
  | ins c xs => obtain ⟨dx, vs, e, z, r⟩ := h; rw [e]; simp
  | dct kvs => obtain ⟨es, e, z, r⟩ := h; rw [e]; simp
theorem MoOk.imp {a : Addr} {x : Mo} (hg : ∀ p o, n.G p = some o → n'.G p = some o) (ha : ∀ (k : Nat) a, n.al[k]? = some a → n'.al[k]? = some a) (hH : ∀ u, n.H a = some u → n'.H a = some u) (h : MoOk C w K n a x) : MoOk C w K n' a x := by
  cases x with
  | lst xs => obtain ⟨vs, e, r⟩ := h; exact ⟨vs, hH _ e, FzAll.keep hg ha r⟩
  | ins c xs => obtain ⟨dx, vs, e, z, r⟩ := h; exact ⟨dx, vs, hH _ e, z, FzAll.keep hg ha r⟩
  | dct kvs => obtain ⟨es, e, z, r⟩ := h; exact ⟨es, hH _ e, z, FzEs.keep hg ha r⟩
theorem MoOk.calm {a : Addr} {x : Mo} (h : MoOk C w K n a x) : Calm (n.H a) := by
  cases x with
  | lst xs => obtain ⟨vs, e, r⟩ := h; exact Calm.lst e
  | ins c xs => obtain ⟨dx, vs, e, z, r⟩ := h; exact Calm.ins e
  | dct kvs => obtain ⟨es, e, z, r⟩ := h; exact Calm.dx e
theorem MoOk.impN {a : Addr} {x : Mo} (hg : ∀ p o, n.G p = some o → n'.G p = some o) (ha : ∀ (k : Nat) a, n.al[k]? = some a → n'.al[k]? = some a) (hH : ∀ u, n.H a = some u → NTo u → n'.H a = some u) (h : MoOk C w K n a x) : MoOk C w K n' a x :=
  h.imp hg ha fun u e => hH u e (h.calm.nt e)
theorem OwnAt.le {a : Addr} {x : Mo} (h : OwnAt C w K B n a x) (l : n.le n') : OwnAt C w K B n' a x :=
  ⟨h.ok.impN l.g (pre_get l.ale) fun u e nt => l.keepN a u e h.al nt, (l.gnew a h.ok.there).trans h.g, l.nal h.ok.there h.al, h.new⟩
theorem EnvOk.le (h : EnvOk C w K B n env σ) (l : n.le n') : EnvOk C w K B n' env σ :=
  ⟨h.len, fun i d e => let ⟨v, e1, h1⟩ := h.fz i d e; ⟨v, e1, FzN.le h1 l⟩, fun i x e => let ⟨a, e1, h1⟩ := h.own i x e; ⟨a, e1, h1.le l⟩, h.apart⟩
theorem LvOk.le {v x} (h : LvOk C w K n env σ v x) (l : n.le n') : LvOk C w K n' env σ v x := by
  cases x with
  | f d => exact FzN.le (n := n) h l
  | o k => exact h
theorem Good.free (o : Good C w K n m) {p : Addr} (h : n.H p = none) : n.G p = none ∧ p ∉ n.al := by
  refine ⟨?_, fun z => ?_⟩
  · cases e : n.G p with
    | none => rfl
    | some u => have := o.sub p u e; rw [h] at this; cases this
  · obtain ⟨k, hk⟩ := List.getElem?_of_mem z
    have hk2 : k < m.length := by rw [o.len]; exact (List.getElem?_eq_some_iff.mp hk).1
    exact (o.at_ k _ p (List.getElem?_eq_getElem hk2) hk).1.there h
theorem Good.at {p : Addr} {o : HO} (g : Good C w K n m) (hg : n.G p = none) (ha : p ∉ n.al) (hc : Calm (n.H p) := by first | assumption | exact Calm.none (by assumption) | exact Calm.lst (by assumption) | exact Calm.dx (by assumption) | exact Calm.ins (by assumption) | exact Calm.dK (by assumption) | exact Calm.xd (by assumption) | exact Calm.tup (by assumption) | exact Calm.lst upd_same | exact Calm.dx upd_same | exact Calm.dK upd_same | exact Calm.ins upd_same | exact Calm.xd upd_same) : Good C w K ⟨n.G, n.al, upd n.H p o⟩ m :=
  ⟨fun a u e => by
    show upd n.H p o a = some u
    rw [upd_ne (fun z => by subst z; have e' : n.G a = some u := e; rw [hg] at e'; cases e')]; exact g.sub a u e, g.nd, g.len, fun k x a e1 e2 => by
    obtain ⟨h1, h2⟩ := g.at_ k x a e1 e2
    have na : a ≠ p := fun z => ha (z ▸ List.mem_of_getElem? e2)
    exact ⟨h1.imp (n := n) (fun _ _ e => e) (fun _ _ e => e) (fun u e => by
      show upd n.H p o a = some u
      rw [upd_ne na]; exact e), h2⟩, Tabs_upd g.tab hc, g.tg⟩
theorem Nw.le.at {p : Addr} {o : HO} (l : B.le n) (hb : B.H p = none) : B.le ⟨n.G, n.al, upd n.H p o⟩ :=
  ⟨l.g, fun a u e k nt => by
    show upd n.H p o a = some u
    rw [upd_ne (fun z => by subst z; rw [hb] at e; cases e)]; exact l.keepN a u e k nt, fun a e => by
    show upd n.H p o a ≠ none
    rw [upd_ne (fun z => by subst z; exact e hb)]; exact l.there a e, l.gnew, l.ale, l.anew⟩
theorem OwnAt.at {p a : Addr} {o : HO} {x : Mo} (h : OwnAt C w K B n a x) (ne : a ≠ p) : OwnAt C w K B ⟨n.G, n.al, upd n.H p o⟩ a x :=
  ⟨h.ok.imp (n := n) (fun _ _ e => e) (fun _ _ e => e) fun u e => by
    show upd n.H p o a = some u
    rw [upd_ne ne]; exact e, h.g, h.al, h.new⟩
end
end DL

set_option maxHeartbeats 1000000
namespace DL
open PySem PySem.Spec PyProof.Rows L2

abbrev QD := Dat → Mem → Prop
structure En where
  nx : Env' → Mem → Prop
  rt : Dat → Mem → Prop
  bk : Env' → Mem → Prop := fun _ _ => False
  ct : Env' → Mem → Prop := fun _ _ => False
abbrev Op1 := Env' → Mem → Lv → QD → Prop
abbrev Op2 := Env' → Mem → Lv → Lv → QD → Prop
abbrev OpN := Env' → Mem → List Lv → QD → Prop

inductive LvsOk (C : Ct) (w : World) (K : PySem.W.Frag) (n : Nw) (env : Env') (σ : L2.St) : List V → List Lv → Prop
  | nil : LvsOk C w K n env σ [] []
  | cons {v vs x xs} : LvOk C w K n env σ v x → LvsOk C w K n env σ vs xs → LvsOk C w K n env σ (v :: vs) (x :: xs)
abbrev AftD (C : Ct) (w : World) (K : PySem.W.Frag) (n : Nw) (Q : VK) : QD := fun x m' => ∀ n' v, Good C w K n' m' → n.le n' → FzN C w K n' v x → Q v n'.H
structure Nw.sub (a b : Nw) : Prop where
  g : ∀ p o, a.G p = some o → b.G p = some o
  l : a.al <+: b.al
theorem Nw.sub.trans {a b c : Nw} (h : a.sub b) (h' : b.sub c) : a.sub c := ⟨fun p o e => h'.g p o (h.g p o e), h.l.trans h'.l⟩
theorem Nw.le.sub {a b : Nw} (h : a.le b) : a.sub b := ⟨h.g, h.ale⟩
def lD (C : Ct) (B : Nw) (w : World) (K : PySem.W.Frag) (n₀ : Nw) (D : Ends) : En :=
  ⟨fun env m => ∀ n σ, n₀.sub n → Ok C w K B n env m σ → D.nx σ n.H, fun x m => ∀ n v, B.le n → Good C w K n m → FzN C w K n v x → D.rt v n.H,
    fun env m => ∀ n σ, n₀.sub n → Ok C w K B n env m σ → D.bk σ n.H, fun env m => ∀ n σ, n₀.sub n → Ok C w K B n env m σ → D.ct σ n.H⟩
structure En.le (D D' : En) : Prop where
  nx : ∀ e m, D.nx e m → D'.nx e m
  rt : ∀ x m, D.rt x m → D'.rt x m
  bk : ∀ e m, D.bk e m → D'.bk e m
  ct : ∀ e m, D.ct e m → D'.ct e m
theorem lD.le {C : Ct} {B : Nw} {w : World} {K : PySem.W.Frag} {n n' : Nw} (l : n.sub n') (D : Ends) : En.le (lD C B w K n D) (lD C B w K n' D) :=
  ⟨fun _ _ h n1 σ1 l1 => h n1 σ1 (l.trans l1), fun _ _ h => h, fun _ _ h n1 σ1 l1 => h n1 σ1 (l.trans l1), fun _ _ h n1 σ1 l1 => h n1 σ1 (l.trans l1)⟩
section
variable {C : Ct} {w : World} {K : PySem.W.Frag} {B n n' : Nw} {m m' : Mem} {env : Env'} {σ : L2.St}
theorem LvsOk.le {vs xs} (h : LvsOk C w K n env σ vs xs) (l : n.le n') : LvsOk C w K n' env σ vs xs := by
  induction h with
  | nil => exact .nil
  | cons a _ ih => exact .cons (a.le l) ih
theorem LvsOk.length {vs xs} (h : LvsOk C w K n env σ vs xs) : vs.length = xs.length := by
  induction h with
  | nil => rfl
  | cons _ _ ih => simp [ih]
end

section
variable {X : Cx}
theorem imp {e : Expr} {t t' : TE} (h : PE X e t) (i : ∀ σ H Q, t' σ H Q → t σ H Q) : PE X e t' := ⟨fun pins s σ H Q I q => h.run pins s σ H Q I (i σ H Q q)⟩
end

def r1 (C : Ct) (w : World) (K : PySem.W.Frag) (f : Op1) : V → Hp → VK → Prop := fun v H Q => ∃ B n env m σ x, n.H = H ∧ Ok C w K B n env m σ ∧ LvOk C w K n env σ v x ∧ f env m x (AftD C w K n Q)
def r2 (C : Ct) (w : World) (K : PySem.W.Frag) (f : Op2) : R2 := fun v u H Q => ∃ B n env m σ x y, n.H = H ∧ Ok C w K B n env m σ ∧ LvOk C w K n env σ v x ∧ LvOk C w K n env σ u y ∧ f env m x y (AftD C w K n Q)
section
variable {X : Cx} {C : Ct} {B : Nw} {a b e : Expr} {da db d : TD} {pos : Pos}
variable {p q : TB} {rest : List Expr}
end
end DL

set_option maxHeartbeats 1000000
namespace DL
open PySem PySem.Spec PyProof.Rows L2

section
variable {C : Ct} {w : World} {K : PySem.W.Frag} {B n : Nw} {m : Mem}
end
section
variable {X : Cx} {pos : Pos}
end

section
variable {X : Cx} {C : Ct} {B : Nw} {st : Stmt} {rest : List Stmt} {d u : TSd} {e : Expr} {de : TD} {pos : Pos}
end
end DL

set_option maxHeartbeats 1000000
namespace DL
open PySem PySem.Spec PyProof.Rows L2

section
variable {C : Ct} {w : World} {K : PySem.W.Frag} {B n n' : Nw} {m m' : Mem}
end
section
variable {X : Cx} {C : Ct} {B : Nw}
variable {elt te iter : Expr} {ifs : List Expr} {scope : Scope} {own : List (Str × Nat)} {pos : Pos} {tg : Tg} {dt : TB} {de : TD} {di : TId}
end

abbrev QX := Nat → List Dat → Mem → Prop
abbrev DSp := List Dat → Mem → QD → QX → Prop
section
variable {X : Cx} {C : Ct} {B : Nw} {k : Nat} {f : Addr} {fd : FuncData} {ps : List Str} {p : DSp} {EX : QXe} {x : Str} {p1 pos : Pos} {e : Expr} {es : List Expr} {da : TAd}
end
section
variable {P : Program} {w : World} {K : PySem.W.Frag} {mg : Str → Option Value} {base : Heap} {C : Ct} {x qual : Str} {params : Arguments} {body : List Stmt} {scope : Scope} {f : Addr} {fd : FuncData} {N ps : List Str} {k : Nat} {p : DSp}
end
end DL

set_option maxHeartbeats 1000000
namespace DL
open PySem PySem.Spec PyProof.Rows L2

mutual
def py : Dat → PyData
  | .bl b => .bool b
  | .int i => .int i
  | .str x => .str x
  | .tup xs => .tuple (pys xs)
  | .lst xs => .list (pys xs)
  | .dct kvs => .dict (pyk kvs)
  | _ => .none
def pys : List Dat → List PyData
  | [] => []
  | x :: xs => py x :: pys xs
def pyk : List (Dat × Dat) → List (PyData × PyData)
  | [] => []
  | (k, x) :: r => (py k, py x) :: pyk r
end
def moD : Mo → Option Dat
  | .lst xs => some (.lst xs)
  | .dct kvs => some (.dct kvs)
  | .ins _ _ => none
def der (env : Env') (m : Mem) : Lv → Option Dat
  | .f (.obj k) => match m[k]? with
    | some x => moD x
    | none => none
  | .f d => some d
  | .o i => match env[i]? with
    | some (some (.own x)) => moD x
    | _ => none
section
variable {C : Ct} {w : World} {K : PySem.W.Frag} {B n : Nw} {m : Mem} {env : Env'} {σ : L2.St}
end
section
variable {X : Cx} {C : Ct}
end
section
variable {X : Cx} {C : Ct}
end
end DL

set_option maxHeartbeats 1000000
namespace DL
open PySem PySem.Spec PyProof.Rows L2

section
variable {X : Cx} {C : Ct} {B : Nw} {e : Expr} {es : List Expr} {da : TAd} {f : OpN} {x : Str} {p pos : Pos} {id T : String}
end
section
variable {C : Ct} {w : World} {K : PySem.W.Frag} {B n : Nw} {m : Mem} {env : Env'} {σ : L2.St}
end
section
variable {X : Cx} {C : Ct}
end
section
variable {prog : Program} {w : World} {A : Around} {E : Value → Shared → Prop} {s : Shared} {l : Addr} {its : List Value} {ns : List Int} {Q : Value → Shared → Prop}
end
section
variable {X : Cx} {C : Ct}
end
end DL

set_option maxHeartbeats 1000000
namespace DL
open PySem PySem.Spec PyProof.Rows L2

structure CtOk (C : Ct) (K : PySem.W.Frag) : Prop where
  ii : ∀ c d b, C.isaI c d = some b → PySem.W.kitOne K (.ref (C.addr c)) (.ref (C.addr d)) = some b
  ib : ∀ c T b, C.isaB c T = some b → PySem.W.kitOne K (.ref (C.addr c)) (.type T) = some b
  it : ∀ T d b, C.isaT T d = some b → PySem.W.kitOne K (.type T) (.ref (C.addr d)) = some b
  cls : ∀ c, C.own c = true → Cls K (C.addr c) ∧ PySem.W.findIn K (.ref (C.addr c)) "__class__" = some (some (.builtin "object.__class__")) ∧ PySem.W.specialIn K (.builtin "object.__class__") "__get__" = some (some (.builtin "getset_descriptor.__get__")) ∧
    PySem.W.takesIn K (.builtin "object.__class__") = some true ∧ PySem.W.mroIn K (C.addr c) (.type "object") = some true
def tyN : Dat → Option String
  | .non => some "NoneType"
  | .bl _ => some "bool"
  | .int _ => some "int"
  | .str _ => some "str"
  | .tup _ => some "tuple"
  | .lst _ => some "list"
  | .dct _ => some "dict"
  | _ => none
def isT (t T : String) : Option Bool := if T = "int" then some (t = "int" || t = "bool") else if T = "bool" ∨ T = "str" ∨ T = "tuple" ∨ T = "list" ∨ T = "dict" then some (t == T) else none
def isa1 (C : Ct) (x c : Dat) : Option Bool := match c with
  | .ty T => match tyN x with
    | some t => isT t T
    | none => match x with
      | .ins c _ => if C.own c = true then C.isaB c T else none
      | _ => none
  | .cls d => match tyN x with
    | some t => C.isaT t d
    | none => match x with
      | .ins c _ => if C.own c = true then C.isaI c d else none
      | _ => none
  | _ => none
def isaL (C : Ct) (x : Dat) : List Dat → Option Bool
  | [] => some false
  | c :: r => match isa1 C x c with
    | some true => some true
    | some false => isaL C x r
    | none => none
def isaD (C : Ct) (x c : Dat) : Option Bool := match c with
  | .tup cs => if cs.isEmpty = true then none else isaL C x cs
  | c => isa1 C x c
def derI (env : Env') (m : Mem) (x : Lv) : Option Dat := match x with
  | .f (.obj k) => match m[k]? with
    | some (.ins c xs) => some (.ins c xs)
    | _ => der env m x
  | .o i => match env[i]? with
    | some (some (.own (.ins c xs))) => some (.ins c xs)
    | _ => der env m x
  | _ => der env m x
def oIsi (C : Ct) : OpN := fun env m xs Q => match xs with
  | [x, .f c] => match derI env m x with
    | some d => match isaD C d c with
      | some b => Q (.bl b) m
      | none => False
    | none => False
  | _ => False
section
variable {X : Cx} {C : Ct}
end
end DL

set_option maxHeartbeats 1000000
namespace DL
open PySem PySem.Spec PyProof.Rows L2

section
variable {C : Ct} {w : World} {K : PySem.W.Frag} {B n : Nw} {m : Mem} {env : Env'} {σ : L2.St}
end
section
variable {X : Cx} {C : Ct} {B : Nw} {e o i : Expr} {d de di : TD} {pos apos cpos : Pos}
end
end DL

set_option maxHeartbeats 1000000
namespace DL
open PySem PySem.Spec PyProof.Rows L2

section
variable {X : Cx} {CX : CXT} {k : Nat} {f : Addr} {fd : FuncData} {ps : List Str} {sp : Sp} {E : L2.St → XK} {x : Str} {p pos : Pos} {e : Expr} {es : List Expr} {t : TA}
end
section
variable {X : Cx} {C : Ct} {B : Nw} {k : Nat} {f : Addr} {fd : FuncData} {ps : List Str} {p : DSp} {EX : QXe} {x : Str} {p1 pos : Pos} {e : Expr} {es : List Expr} {da : TAd}
variable {P : Program} {w : World} {K : PySem.W.Frag} {mg : Str → Option Value} {base : Heap} {qual : Str} {params : Arguments} {body : List Stmt} {scope : Scope} {N : List Str}
end

def okR : Nat → Dat → Bool
  | _, .non => true
  | _, .bl _ => true
  | _, .int i => decide (i.natAbs.log2 < 1920)
  | _, .str _ => true
  | k + 1, .tup xs => xs.all (okR k)
  | k + 1, .lst xs => xs.all (okR k)
  | k + 1, .dct kvs => kvs.all fun p => okR k p.1 && okR k p.2
  | _, _ => false
section
variable {X : Cx} {C : Ct} {pins : List (Addr × Obj)} {σ : L2.St} {s : Shared} {n : Nw} {m : Mem}
end
end DL

set_option maxHeartbeats 1000000
namespace DL
open PySem PySem.Spec PyProof.Rows L2

section
variable {prog : Program} {w : World} {A : Around} {E : Value → Shared → Prop} {s : Shared} {β : Type} {bs : List β} {enc : β → PyData} {R : Value → β → Prop}
open PySem.W PySem.Calls in
end
section
variable {X : Cx} {C : Ct}
end
end DL

set_option maxHeartbeats 1000000
namespace DL
open PySem PySem.Spec PyProof.Rows L2

section
variable {X : Cx} {C : Ct} {B : Nw} {w : World} {K : PySem.W.Frag} {n : Nw} {m : Mem} {e e2 : Expr} {d d2 : TD}
end
end DL

set_option maxHeartbeats 1000000
namespace DL
open PySem PySem.Spec PyProof.Rows L2

section
variable {prog : Program} {w : World} {A : Around} {E : Value → Shared → Prop} {s : Shared}
end
section
variable {X : Cx} {C : Ct} {B : Nw} {e : Expr} {d : TD}
end
end DL

set_option maxHeartbeats 1000000
namespace DL
open PySem PySem.Spec PyProof.Rows L2

section
variable {C : Ct} {w : World} {K : PySem.W.Frag} {n n1 : Nw} {m : Mem}
theorem FzN.up {p : Addr} {o : HO} {H' : Hp} {v : V} {d : Dat} (hG : n1.G p = none) (h : FzN C w K n1 v d) : FzN C w K ⟨upd n1.G p o, n1.al, H'⟩ v d := Fz.keep (fun a u e => by
  show upd n1.G p o a = some u
  rw [upd_ne (fun z => by subst z; have e' : n1.G a = some u := e; rw [hG] at e'; cases e')]; exact e) (fun _ _ e => e) h
theorem FzAllN.up {p : Addr} {o : HO} {H' : Hp} {v : List V} {d : List Dat} (hG : n1.G p = none) (h : FzAllN C w K n1 v d) : FzAllN C w K ⟨upd n1.G p o, n1.al, H'⟩ v d := FzAll.keep (fun a u e => by
  show upd n1.G p o a = some u
  rw [upd_ne (fun z => by subst z; have e' : n1.G a = some u := e; rw [hG] at e'; cases e')]; exact e) (fun _ _ e => e) h
end
section
variable {X : Cx} {C : Ct} {B : Nw} {e kx : Expr} {d : TD}
end
end DL

set_option maxHeartbeats 1000000
namespace DL
open PySem PySem.Spec PyProof.Rows L2

section
variable {X : Cx} {C : Ct} {B : Nw} {e o : Expr} {d de : TD} {f : Str} {fi : Nat → Option Nat} {pos pos' : Pos}
end

section
variable {C : Ct} {w : World} {K : PySem.W.Frag} {al : List Addr} {G : Hp} {n n' : Nw} {m : Mem}
end
section
variable {X : Cx} {CX : CXT} {k : Nat} {f C : Addr} {fd : FuncData} {ps : List Str} {sp : Sp} {E : L2.St → XK} {x : Str} {p pos : Pos} {e : Expr} {es : List Expr} {t : TA}
end
section
variable {X : Cx} {C : Ct} {B : Nw} {k c nf : Nat} {f : Addr} {fd : FuncData} {ps : List Str} {p : DSp} {EX : QXe} {x : Str} {p1 pos : Pos} {e : Expr} {es : List Expr} {da : TAd}
end
end DL

set_option maxHeartbeats 4000000
namespace PySem.W
open PySem PySem.Spec PySem.Calls PyProof.Rows
section
variable {prog : Program} {w : World} {A : Around} {E : Value → Shared → Prop} {s : Shared} {K : Frag} {x D : Addr} {ox : Obj} {od : Option Obj}
end
end PySem.W
namespace DL
open PySem PySem.Spec PyProof.Rows L2

section
variable {P : Program} {w : World} {K : PySem.W.Frag} {mg : Str → Option Value} {base : Heap} {y qual : Str} {params : Arguments} {body : List Stmt} {scope : Scope} {fI : Addr} {fd : FuncData} {f1 f2 x0 x1 x2 : Str}
end
section
variable {X : Cx} {C : Ct} {B : Nw} {e : Expr} {es : List Expr} {d : TMd} {EX : QXe} {p pos : Pos} {x : Str} {fI : Addr} {fd : FuncData} {ps fs : List Str} {c k : Nat} {da : TAd}
end
end DL

set_option maxHeartbeats 2000000
namespace DL
open PySem PySem.Spec PyProof.Rows L2

section
variable {C : Ct} {w : World} {K : PySem.W.Frag} {B n n0 : Nw} {m : Mem} {env : Env'} {σ : L2.St}
end
section
variable {X : Cx} {C : Ct} {B : Nw} {x nm : Str} {cv : Value} {i : Nat} {body suite : List Stmt} {b0 : Stmt} {np pos pos' : Pos} {tst : Nat → Option Bool} {dt : QXe → TSd} {ds : Addr → Nat → List Dat → TSd} {EXo : QXe}
end
end DL

set_option maxHeartbeats 1000000
namespace DL
open PySem PySem.Spec PyProof.Rows L2

def pRel (n : Nat) (pre : List Dat → Mem → Prop) (post : List Dat → Mem → Dat → Mem → Prop) (posE : List Dat → Mem → Nat → List Dat → Mem → Prop) : DSp := fun ds m Q E => ds.length = n ∧ pre ds m ∧ (∀ r m', post ds m r m' → Q r m') ∧ ∀ c xs m', posE ds m c xs m' → E c xs m'
theorem pRel.len {n pre post posE} : ∀ ds m Q E, pRel n pre post posE ds m Q E → ds.length = n := fun _ _ _ _ h => h.1
section
variable {X : Cx} {C : Ct} {B : Nw} {k j : Nat} {ps : List Str} {p : DSp} {EX : QXe} {x : Str} {p1 pos : Pos} {e : Expr} {es : List Expr} {da : TAd}
variable {elt te iter : Expr} {ifs : List Expr} {scope : Scope} {own : List (Str × Nat)} {tg : Tg} {dt : TB} {de : TD} {di : TId}
end
end DL

set_option maxHeartbeats 1000000
namespace DL
open PySem PySem.Spec PyProof.Rows L2
section
variable {X : Cx} {C : Ct} {B : Nw} {k j c nf : Nat} {ps : List Str} {p : DSp} {EX : QXe} {x : Str} {p1 pos : Pos} {e : Expr} {es : List Expr} {da : TAd}
end
end DL

set_option maxHeartbeats 2000000
namespace DL
open PySem PySem.Spec PyProof.Rows L2

section
variable {P : Program} {w : World} {K : PySem.W.Frag} {gl bn : Str → Option Value} {CX : CXT} {k : Nat} {f a : Addr} {fd : FuncData} {x : Str} {sp : Sp} {S : Shared} {us : List Value} {is : List Int}
end
def pLaw (n : Nat) : DSp := fun ds m Q _ => ∃ is : List Int, is.length ≤ n ∧ ds = [.lst (is.map Dat.int)] ∧ m = [] ∧ ∀ m', Q (.bl true) m'
theorem pLaw.len {n : Nat} : ∀ ds m Q E, pLaw n ds m Q E → ds.length = 1 := fun ds m Q E ⟨is, h1, h2, h3, h4⟩ => by rw [h2]; rfl
end DL

set_option maxHeartbeats 2000000
namespace DL
open PySem PySem.Spec PyProof.Rows L2

structure Tab where
  names : List Str
  flds : List (List Str) := []
  /-- plain classes of instances -/
  owns : List Nat := []
  ii : List (Nat × Nat × Bool) := []
  ib : List (Nat × String × Bool) := []
  it : List (String × Nat × Bool) := []
  /-- tables of code objects -/
  tbs : PySem.W.Frag → List (Addr × Str) := fun _ => []
def Tab.at (t : Tab) (K : PySem.W.Frag) (c : Nat) : Addr := He.ga K (t.names.getD c Str.empty)
def fi2 (tab : List (Nat × Nat × Bool)) (c d : Nat) : Option Bool := match tab with
  | [] => none
  | (a, b, r) :: l => if a = c ∧ b = d then some r else fi2 l c d
def fiB (tab : List (Nat × String × Bool)) (c : Nat) (T : String) : Option Bool := match tab with
  | [] => none
  | (a, b, r) :: l => if a = c ∧ b = T then some r else fiB l c T
def fiT (tab : List (String × Nat × Bool)) (T : String) (d : Nat) : Option Bool := match tab with
  | [] => none
  | (a, b, r) :: l => if a = T ∧ b = d then some r else fiT l T d
theorem fi2_mem : ∀ {tab : List (Nat × Nat × Bool)} {c d : Nat} {r : Bool}, fi2 tab c d = some r → (c, d, r) ∈ tab
  | [], _, _, _, h => by cases h
  | (a, b, q) :: l, c, d, r, h => by
    unfold fi2 at h
    split at h
    · rename_i e; obtain ⟨rfl, rfl⟩ := e; cases h; exact List.mem_cons_self
    · exact List.mem_cons_of_mem _ (fi2_mem h)
theorem fiB_mem : ∀ {tab : List (Nat × String × Bool)} {c : Nat} {d : String} {r : Bool}, fiB tab c d = some r → (c, d, r) ∈ tab
  | [], _, _, _, h => by cases h
  | (a, b, q) :: l, c, d, r, h => by
    unfold fiB at h
    split at h
    · rename_i e; obtain ⟨rfl, rfl⟩ := e; cases h; exact List.mem_cons_self
    · exact List.mem_cons_of_mem _ (fiB_mem h)
theorem fiT_mem : ∀ {tab : List (String × Nat × Bool)} {c : String} {d : Nat} {r : Bool}, fiT tab c d = some r → (c, d, r) ∈ tab
  | [], _, _, _, h => by cases h
  | (a, b, q) :: l, c, d, r, h => by
    unfold fiT at h
    split at h
    · rename_i e; obtain ⟨rfl, rfl⟩ := e; cases h; exact List.mem_cons_self
    · exact List.mem_cons_of_mem _ (fiT_mem h)
def Tab.ct (t : Tab) (K : PySem.W.Frag) : Ct where
  addr := t.at K
  flds := fun c => t.flds.getD c []
  own := fun c => decide (c ∈ t.owns)
  isaI := fi2 t.ii
  isaB := fiB t.ib
  isaT := fiT t.it
  tabs := t.tbs K
def clsB (K : PySem.W.Frag) (C : Addr) : Bool := PySem.W.plainGet K C Str.empty && (PySem.W.hasDictIn K C && (PySem.W.plainOver K C && decide (PySem.W.findIn K (.ref C) "__setattr__" = some (some (.builtin "object.__setattr__")))))
theorem and2 {a b : Bool} (h : (a && b) = true) : a = true ∧ b = true := Bool.and_eq_true_iff.mp h
theorem clsB_ok {K : PySem.W.Frag} {C : Addr} (h : clsB K C = true) : Cls K C := by
  obtain ⟨h1, h⟩ := and2 h
  obtain ⟨h2, h⟩ := and2 h
  obtain ⟨h3, h4⟩ := and2 h
  exact ⟨h1, h2, h3, of_decide_eq_true h4⟩
def ownB (K : PySem.W.Frag) (C : Addr) : Bool := clsB K C && (decide (PySem.W.findIn K (.ref C) "__class__" = some (some (.builtin "object.__class__"))) &&
  (decide (PySem.W.specialIn K (.builtin "object.__class__") "__get__" = some (some (.builtin "getset_descriptor.__get__"))) && (decide (PySem.W.takesIn K (.builtin "object.__class__") = some true) && decide (PySem.W.mroIn K C (.type "object") = some true))))
def Tab.chk (t : Tab) (K : PySem.W.Frag) : Bool := (t.ii.all fun p => decide (PySem.W.kitOne K (.ref (t.at K p.1)) (.ref (t.at K p.2.1)) = some p.2.2)) &&
  ((t.ib.all fun p => decide (PySem.W.kitOne K (.ref (t.at K p.1)) (.type p.2.1) = some p.2.2)) &&
  ((t.it.all fun p => decide (PySem.W.kitOne K (.type p.1) (.ref (t.at K p.2.1)) = some p.2.2)) && t.owns.all fun c => ownB K (t.at K c)))
theorem Tab.ok {t : Tab} {K : PySem.W.Frag} (h : t.chk K = true) : CtOk (t.ct K) K := by
  obtain ⟨h1, h⟩ := and2 h
  obtain ⟨h2, h⟩ := and2 h
  obtain ⟨h3, h4⟩ := and2 h
  refine ⟨fun c d b e => ?_, fun c T b e => ?_, fun T d b e => ?_, fun c e => ?_⟩
  · exact of_decide_eq_true (List.all_eq_true.mp h1 _ (fi2_mem e))
  · exact of_decide_eq_true (List.all_eq_true.mp h2 _ (fiB_mem e))
  · exact of_decide_eq_true (List.all_eq_true.mp h3 _ (fiT_mem e))
  · obtain ⟨q1, q⟩ := and2 (List.all_eq_true.mp h4 c (of_decide_eq_true e))
    obtain ⟨q2, q⟩ := and2 q
    obtain ⟨q3, q⟩ := and2 q
    obtain ⟨q4, q5⟩ := and2 q
    exact ⟨clsB_ok q1, of_decide_eq_true q2, of_decide_eq_true q3, of_decide_eq_true q4, of_decide_eq_true q5⟩
def Tab.fiC (t : Tab) (f : Str) (tab : List (Nat × Nat)) (K : PySem.W.Frag) : Bool := tab.all fun p => clsB K (t.at K p.1) && (decide (PySem.W.findIn K (.ref (t.at K p.1)) f = some none) &&
  (decide ((t.flds.getD p.1 []).Nodup) && (decide ((t.flds.getD p.1 []).length < 1000) && decide ((t.flds.getD p.1 [])[p.2]? = some f))))
def oexB (K : PySem.W.Frag) (C : Addr) : Bool := match K.lookup C with
  | some ⟨.type "type", _, .cls cd, sl⟩ => (match cd.mro, sl.toList with
    | .ref C2 :: bm, [_, _, _, _, some (.builtin n), _] => C2 == C && (n == "ValueError.__new__" && (!cd.hasDel && (cd.hasDict && PySem.HandSPX.refsVE bm)))
    | _, _ => false)
  | _ => false
def Tab.xcC (t : Tab) (c : Nat) (fs : List Str) (K : PySem.W.Frag) : Bool := oexB K (t.at K c) && (decide (PySem.W.findIn K (.ref (t.at K c)) "__setattr__" = some (some (.builtin "object.__setattr__"))) && (decide (PySem.W.subIn K (.ref (t.at K c)) (.type "BaseException") = some true) &&
  (decide (PySem.W.typeIn K (.ref (t.at K c)) = some (.type "type")) && (PySem.W.keepIn K (.ref (t.at K c)) && ((fs.all fun f => decide (PySem.W.findIn K (.ref (t.at K c)) f = some none)) &&
  (decide (PySem.W.findIn K (.ref (t.at K c)) "__init__" = some (some (.ref (He.fAd K (t.names.getD c Str.empty, some "__init__"))))) && decide (PySem.W.typeIn K (.ref (He.fAd K (t.names.getD c Str.empty, some "__init__"))) = some (.type "function"))))))))
def Tab.mkC (t : Tab) (c : Nat) (K : PySem.W.Frag) : Bool := PySem.W.makesIn K (t.at K c) && (decide (PySem.W.findIn K (.ref (t.at K c)) "__init__" = some (some (.ref (He.fAd K (t.names.getD c Str.empty, some "__init__"))))) &&
  (PySem.W.isFn K (.ref (He.fAd K (t.names.getD c Str.empty, some "__init__"))) && PySem.W.keepIn K (.ref (t.at K c))))
def noSysB (K : PySem.W.Frag) : Bool := match K.lookup sysModules with
  | some o => !(decide (o.cls = .type "list"))
  | none => false
def noLstB (K : PySem.W.Frag) : Bool := K.all fun p => !(decide (p.2.cls = .type "list"))
abbrev Fk : Type := PySem.W.Frag → Bool
section
variable {ex : List Fk} {fn : List He.DefD} {K : PySem.W.Frag}
end
end DL

set_option maxHeartbeats 2000000
namespace DL
open PySem PySem.Spec PyProof.Rows L2
def pNo : DSp := fun _ _ _ _ => False
theorem pNo.len {n : Nat} : ∀ ds m Q E, pNo ds m Q E → ds.length = n := fun _ _ _ _ h => h.elim
section
variable {P : Program} {w : World} {K : PySem.W.Frag} {mg : Str → Option Value} {base : Heap} {C : Ct} {k : Nat} {f : Addr} {fd : FuncData} {ps : List Str}
end
end DL

set_option maxHeartbeats 2000000
namespace DL
open PySem PySem.Spec PyProof.Rows L2

section
variable {C : Ct} {w : World} {K : PySem.W.Frag} {B n : Nw} {m : Mem} {env : Env'} {σ : L2.St} {c : Nat}
end
section
variable {X : Cx} {CX : CXT} {k : Nat} {f : Addr} {fd : FuncData} {ps : List Str} {sp : Sp} {E : XK}
end
section
variable {X : Cx} {C : Ct} {B : Nw} {k j c : Nat} {ps : List Str} {p : DSp} {EX : QXe} {x y : Str} {pos apos : Pos} {o e : Expr} {es : List Expr} {d : TD} {da : TAd}
end
end DL

set_option maxHeartbeats 3200000
namespace DL
open PySem PySem.Spec PyProof.Rows L2

section
variable {prog : Program} {w : World} {A : Around} {E : Value → Shared → Prop} {S : Shared}
open AutoSeq1 MeetsSeq MeetsSeq2 MeetsSeq3 SeqRoads2 in
end
section
variable {X : Cx} {C : Ct} {B : Nw} {a : Expr} {da : TD} {p p2 q pos : Pos}
end
end DL

set_option maxHeartbeats 2000000
namespace DL
open PySem PySem.Spec PyProof.Rows L2

inductive Wh where
  | g (x : Str)
  | m (y x : Str)
  | p (y x : Str)
  | c (y x : Str)
def recF (K : PySem.W.Frag) (T : String) (p : Addr) : Addr := match PySem.W.recIn K p T with
  | some (.ref g :: _) => g
  | _ => 0
def Wh.ad (K : PySem.W.Frag) : Wh → Addr
  | .g x => He.ga K x
  | .m y x => He.fAd K (y, some x)
  | .p y x => recF K "property" (He.fAd K (y, some x))
  | .c y x => recF K "classmethod" (He.fAd K (y, some x))
structure DefX where
  wh : Wh
  name : Str
  qual : Str
  params : Arguments
  body : List Stmt
  scope : Scope
abbrev FnY : Type := Option (Str × Str × Arguments × FuncBody × Scope × Addr × List (Str × Addr) × Addr)
def fnY (K : PySem.W.Frag) (a : Addr) : FnY := match K.lookup a with
  | some ⟨_, _, .func fd, _⟩ => some (fd.name, fd.qualname, fd.params, fd.body, fd.scope, fd.globals, fd.closure, fd.builtins)
  | _ => none
def fdY (K : PySem.W.Frag) (a : Addr) : FuncData := match K.lookup a with
  | some ⟨_, _, .func fd, _⟩ => fd
  | _ => default
def DefX.val (d : DefX) : FnY := some (d.name, d.qual, d.params, .stmts d.body, d.scope, mainGlobals, [], builtinsNs)
def isNone : Value → Bool
  | .none => true
  | _ => false
def DefX.ok (K : PySem.W.Frag) (d : DefX) : Bool := PySem.W.keepIn K (.ref (d.wh.ad K)) && (match K.lookup (d.wh.ad K) with
  | some ⟨_, _, .func fd, _⟩ => PySem.W.codeIn K fd.code d.qual && (He.dflB K fd.defaults [] && He.kwdB K fd.kwdefaults [])
  | _ => false)
abbrev AlY : Type := Bool × List FnY
def obsY (ex : List Fk) (fn : List DefX) (K : PySem.W.Frag) : AlY := ((ex.all fun g => g K) && fn.all fun d => d.ok K, fn.map fun d => fnY K (d.wh.ad K))
def valY (fn : List DefX) : AlY := (true, fn.map DefX.val)
def SaysY (ex : List Fk) (fn : List DefX) (K : PySem.W.Frag) : Prop := obsY ex fn K = valY fn
section
variable {ex : List Fk} {fn : List DefX} {K : PySem.W.Frag}
end
def Tab.meC (t : Tab) (c : Nat) (x : Str) (K : PySem.W.Frag) : Bool := clsB K (t.at K c) && (decide (PySem.W.findIn K (.ref (t.at K c)) x = some (some (.ref (He.fAd K (t.names.getD c Str.empty, some x))))) &&
  (PySem.W.isFn K (.ref (He.fAd K (t.names.getD c Str.empty, some x))) && PySem.W.keepIn K (.ref (He.fAd K (t.names.getD c Str.empty, some x)))))
section
variable {P : Program} {w : World} {K : PySem.W.Frag} {mg : Str → Option Value} {base : Heap} {t : Tab} {c k : Nat} {y x : Str} {ps : List Str} {p : DSp}
def Tab.duC (t : Tab) (c : Nat) (x : Str) (K : PySem.W.Frag) : Bool := decide (PySem.W.findIn K (.ref (t.at K c)) x = some (some (.ref (He.fAd K (t.names.getD c Str.empty, some x))))) && PySem.W.isFn K (.ref (He.fAd K (t.names.getD c Str.empty, some x)))
def Tab.prC (t : Tab) (c : Nat) (x : Str) (K : PySem.W.Frag) : Bool := clsB K (t.at K c) && (decide (PySem.W.findIn K (.ref (t.at K c)) x = some (some (.ref (He.fAd K (t.names.getD c Str.empty, some x))))) &&
  (decide (PySem.W.specialIn K (.ref (He.fAd K (t.names.getD c Str.empty, some x))) "__get__" = some (some (.builtin "property.__get__"))) && (decide (PySem.W.takesIn K (.ref (He.fAd K (t.names.getD c Str.empty, some x))) = some true) &&
  (match PySem.W.recIn K (He.fAd K (t.names.getD c Str.empty, some x)) "property" with
  | some (.ref _ :: _) => true
  | _ => false))))
end
end DL

set_option maxHeartbeats 2000000
namespace DL
open PySem PySem.Spec PyProof.Rows L2

section
variable {X : Cx} {C : Ct} {B : Nw} {a b e : Expr} {d de : TD} {r : TRd} {p pos : Pos}
end
end DL

set_option maxHeartbeats 1000000
namespace DL
open PySem PySem.Spec PyProof.Rows L2

section
variable {X : Cx} {C : Ct}
end
section
variable {X : Cx} {C : Ct} {B : Nw} {e o i : Expr} {d de di : TD} {pos apos cpos : Pos}
end
section
variable {X : Cx} {C : Ct} {B : Nw} {e : Expr} {d : TD} {pos : Pos}
end
end DL

set_option maxHeartbeats 1000000
namespace DL
open PySem PySem.Spec PyProof.Rows L2

section
variable {X : Cx} {C : Ct} {B : Nw} {pos : Pos}
end
section
variable {P : Program} {w : World} {K : PySem.W.Frag} {mg : Str → Option Value} {base : Heap} {C : Ct} {x : Str} {k : Nat} {ps : List Str} {p p' : DSp}
end
end DL

set_option maxHeartbeats 1000000
namespace DL
open PySem PySem.Spec PyProof.Rows L2

section
variable {C : Ct} {w : World} {P : Program} {K : PySem.W.Frag} {al : List Addr} {G : Hp} {n : Nw}
end
section
variable {X : Cx} {C : Ct}
end
end DL

set_option maxHeartbeats 1000000
namespace DL
open PySem PySem.Spec PyProof.Rows L2

section
variable {X : Cx} {C : Ct}
end
end DL

set_option maxHeartbeats 1000000
namespace DL
open PySem PySem.Spec PyProof.Rows L2

section
variable {X : Cx} {C : Ct} {B : Nw} {e o i : Expr} {d de di : TD} {pos : Pos}
end
end DL

set_option maxHeartbeats 1000000
namespace DL
open PySem PySem.Spec PyProof.Rows L2

section
variable {X : Cx} {C : Ct} {B : Nw} {d de dc : TD}
end
end DL

set_option maxHeartbeats 1000000
namespace DL
open PySem PySem.Spec PyProof.Rows L2

section
variable {X : Cx} {C : Ct}
end
end DL

set_option maxHeartbeats 1000000
namespace DL
open PySem PySem.Spec PyProof.Rows L2

section
variable {X : Cx} {C : Ct} {B : Nw}
variable {elt te iter : Expr} {ifs : List Expr} {scope : Scope} {own : List (Str × Nat)} {pos : Pos} {tg : Tg} {dt : TB} {de : TD} {di : TId}
end
end DL

set_option maxHeartbeats 2000000
namespace DL
open PySem PySem.Spec PyProof.Rows L2

section
variable {P : Program} {w : World} {K : PySem.W.Frag} {mg : Str → Option Value} {base : Heap} {C : Ct} {x qual : Str} {params : Arguments} {body : List Stmt} {scope : Scope} {f : Addr} {fd : FuncData} {N ps : List Str} {k : Nat} {p : DSp}
end
section
variable {X : Cx} {C : Ct} {B : Nw} {k j c : Nat} {p : DSp} {EX : QXe} {x y : Str} {pos apos np : Pos} {o e : Expr} {es : List Expr} {da : TAd}
end
end DL

set_option maxHeartbeats 2000000
namespace DL
open PySem PySem.Spec PyProof.Rows L2

def Tab.cmC (t : Tab) (c : Nat) (x : Str) (K : PySem.W.Frag) : Bool := PySem.W.readsIn K (t.at K c) (.type "type") && (decide (PySem.W.specialIn K (.ref (t.at K c)) "__getattribute__" = some (some (.builtin "type.__getattribute__"))) &&
  ((match PySem.W.findCls K (.ref (t.at K c)) (.type "type") x with
  | some (.get g a o d) => decide (g = .builtin "classmethod.__get__") && (decide (a = .ref (He.fAd K (t.names.getD c Str.empty, some x))) && (decide (o = .none) && decide (d = .ref (t.at K c))))
  | _ => false) && ((match PySem.W.recIn K (He.fAd K (t.names.getD c Str.empty, some x)) "classmethod" with
  | some (.ref _ :: _) => true
  | _ => false) && PySem.W.fnIn K (recF K "classmethod" (He.fAd K (t.names.getD c Str.empty, some x))))))
section
variable {P : Program} {w : World} {K : PySem.W.Frag} {mg : Str → Option Value} {base : Heap} {t : Tab} {c k : Nat} {y x : Str} {ps : List Str} {p : DSp}
end
section
variable {X : Cx} {C : Ct} {B : Nw} {k j c nf : Nat} {ps : List Str} {p : DSp} {EX : QXe} {x z : Str} {np pos : Pos} {e : Expr} {es : List Expr} {da : TAd}
end
section
variable {X : Cx} {C : Ct}
end
end DL

set_option maxHeartbeats 1000000
namespace DL
open PySem PySem.Spec PyProof.Rows L2

def isTupK : Dat → Bool
  | .tup _ => true
  | _ => false
def tKey (d : Dat) : Option NestedKey := if isTupK d = true then (match keyN d with
  | some k => if k.depth ≤ 8 then some k else none
  | none => none) else none
def getT (kvs : List (Dat × Dat)) (k : NestedKey) : Option Dat := (kvs.find? fun p => decide (tKey p.1 = some k)).map (·.2)
section
variable {C : Ct} {K : PySem.W.Frag} {al : List Addr} {G : Hp} {n : Nw} {P : Program} {w : World}
abbrev TK (C : Ct) (w : World) (K : PySem.W.Frag) (al : List Addr) (G : Hp) : List (NestedKey × Addr × Value) → List (Dat × Dat) → Prop :=
  Paired fun x p => tKey p.1 = some x.1 ∧ Fz C w K al G (.ref x.2.1) p.1 ∧ ∃ v, RelV v x.2.2 ∧ Fz C w K al G v p.2
end
section
variable {X : Cx} {C : Ct} {pins : List (Addr × Obj)} {σ : L2.St} {s : Shared} {n : Nw}
end
section
variable {X : Cx} {C : Ct} {B : Nw} {e o i : Expr} {d de di : TD} {pos : Pos}
end
end DL

set_option maxHeartbeats 1000000
namespace DL
open PySem PySem.Spec PyProof.Rows L2

section
variable {X : Cx} {C : Ct} {B : Nw}
end
end DL

set_option maxHeartbeats 1000000
namespace DL
open PySem PySem.Spec PyProof.Rows L2

section
variable {X : Cx}
end
end DL

set_option maxHeartbeats 1000000
namespace DL
open PySem PySem.Spec PyProof.Rows L2

section
variable {X : Cx} {C : Ct} {B : Nw}
end
end DL

set_option maxHeartbeats 1000000
namespace DL
open PySem PySem.Spec PyProof.Rows L2

section
variable {X : Cx} {C : Ct}
end
end DL

set_option maxHeartbeats 1000000
namespace DL
open PySem PySem.Spec PyProof.Rows L2

section
variable {X : Cx} {C : Ct} {B : Nw} {k : Nat} {o e : Expr} {es : List Expr} {d : TD} {da : TAd} {apos cpos : Pos}
end
end DL

set_option maxHeartbeats 1000000
namespace DL
open PySem PySem.Spec PyProof.Rows L2

section
variable {X : Cx} {C : Ct} {B : Nw}
end
end DL

set_option maxHeartbeats 1000000
namespace DL
open PySem PySem.Spec PyProof.Rows L2

section
variable {X : Cx} {C : Ct} {B : Nw} {e : Expr} {d : TD}
end
end DL

set_option maxHeartbeats 2000000
namespace DL
open PySem PySem.Spec PyProof.Rows L2 LamX

section
variable {X : Cx} {pins : List (Addr × Obj)} {σ : L2.St} {H : Hp} {s : Shared}
end
end DL

set_option maxHeartbeats 2000000
namespace DL
open PySem PySem.Spec PyProof.Rows L2 LamX

section
variable {X : Cx} {C : Ct}
end
end DL

set_option maxHeartbeats 2000000
namespace DL
open PySem PySem.Spec PyProof.Rows L2 LamX

def tabAd (K : PySem.W.Frag) (a : Addr) : Addr × Addr := match (fdY K a).code with
  | .ref c => match K.lookup c with
    | some ⟨_, _, .fields vs, _⟩ => match (vs[11]? : Option Value) with
      | some (.ref P) => (c, P)
      | _ => (c, c)
    | _ => (c, c)
  | _ => (0, 0)
def tblB : Option Obj → Bool
  | some ⟨.none, none, .fields vs, sl⟩ => vs.toList.isEmpty && sl.toList.isEmpty
  | _ => false
def tabB (K : PySem.W.Frag) (a : Addr) : Bool := PySem.W.codeHdIn K (tabAd K a).1 (tabAd K a).2 && ((K.lookup (tabAd K a).2).isNone && (match (fdY K a).code with
  | .ref c => c == (tabAd K a).1
  | _ => false))
def obsT (ts : List Wh) (ex : List Fk) (fn : List DefX) (g : Addr → Option Obj) (K : PySem.W.Frag) : AlY × Bool := (obsY ex fn K, ts.all fun t => tabB K (t.ad K) && tblB (g (tabAd K (t.ad K)).2))
section
variable {P : Program} {w : World} {K : PySem.W.Frag} {mg : Str → Option Value} {base : Heap} {C : Ct} {x qual : Str} {params : Arguments} {body : List Stmt} {scope : Scope} {f : Addr} {fd : FuncData} {N ps : List Str} {p : DSp} {k : Nat}
end

section
variable {P : Program} {w : World} {K : PySem.W.Frag} {gl bn : Str → Option Value} {CX : CXT} {k : Nat} {f a : Addr} {fd : FuncData} {x : Str} {sp : Sp} {S : Shared} {us : List Value} {is : List Int} {cs : List (Addr × Addr)}
end
end DL

set_option maxHeartbeats 1000000
namespace DL
open PySem PySem.Spec PyProof.Rows L2

section
variable {X : Cx} {C : Ct} {B : Nw} {de d di d2 di2 : TD} {e o i o2 i2 : Expr} {pos pt sp sp2 : Pos} {kt : Nat}
end
end DL

set_option maxHeartbeats 1000000
namespace DL
open PySem PySem.Spec PyProof.Rows L2

section
variable {X : Cx} {C : Ct} {B : Nw} {pos : Pos}
end
end DL

set_option maxHeartbeats 1000000
namespace DL
open PySem PySem.Spec PyProof.Rows L2

section
variable {X : Cx} {C : Ct} {B : Nw} {pos : Pos}
end
end DL

set_option maxHeartbeats 2000000
namespace DL
open PySem PySem.Spec PySem.W PyProof.Rows L2 LamX

def RunP (R : OpenRow) (M : Nat) (w : World) {β : Type} (f : SharedT → β) (v : β) : Prop :=
  ∀ os : OsState, (HandSHeadRun.endF (HandSHeadRun.stepQ (HandSHeadRun.denQ HandSHeadRun.tabQ) R.prog w) M R.prog w os).map f = some v
section
variable {R : OpenRow} {M : Nat} {w : World} {α β : Type}
theorem RunP.pair {f : SharedT → α} {g : SharedT → β} {a : α} {b : β} (h : RunP R M w f a) (h' : RunP R M w g b) : RunP R M w (fun s => (f s, g s)) (a, b) := fun os => by
  have e := h os
  have e' := h' os
  revert e e'
  generalize HandSHeadRun.endF _ _ _ _ _ = o
  cases o with
  | none => intro e; cases e
  | some s =>
    intro e e'
    have e : f s = a := Option.some.inj e
    have e' : g s = b := Option.some.inj e'
    show some (f s, g s) = _
    rw [e, e']
theorem RunP.imp {f : SharedT → α} {g : SharedT → β} {a : α} {b : β} (h : RunP R M w f a) (k : ∀ s, f s = a → g s = b) : RunP R M w g b := fun os => by
  have e := h os
  revert e
  generalize HandSHeadRun.endF _ _ _ _ _ = o
  cases o with
  | none => intro e; cases e
  | some s =>
    intro e
    exact congrArg some (k s (Option.some.inj e))
theorem RunP.tabs {ts : List Wh} {ex : List Fk} {fn : List DefX} {F : SharedT → Frag} {G : SharedT → Addr → Option Obj} (h : RunP R M w (fun s => obsY ex fn (F s)) (valY fn)) (h' : RunP R M w (fun s => ts.all fun t => tabB (F s) (t.ad (F s)) && tblB (G s (tabAd (F s) (t.ad (F s))).2)) true) :
    RunP R M w (fun s => obsT ts ex fn (G s) (F s)) (valY fn, true) := RunP.pair h h'
end
def asR (g : Addr → Option Obj) (n : Nat) : List Addr := (List.range n).filter fun a => match g a with
  | some o => !(decide (o.cls = .type "list"))
  | none => false
def obsRG (n : Nat) (ex : List Fk) (fn : List DefX) (g : Addr → Option Obj) : AlY := obsY ex fn (He.frG g (asR g n))
def hookR (n : Nat) (ex : List Fk) (fn : List DefX) : PySem.W.Hook where
  α := AlY
  obs := fun s => obsRG n ex fn s.heap.get?
  val := fun _ => valY fn
  says := fun _ h => ∃ K : PySem.W.Frag, K.In h ∧ SaysY ex fn K
  of := fun _ _ e => ⟨_, He.frG_in, e⟩
  keeps := fun _ _ _ ⟨K, inK, c⟩ k => ⟨K, PySem.W.Frag.In.keeps inK k, c⟩
end DL

set_option maxHeartbeats 2000000
namespace DL
open PySem PySem.Spec PyProof.Rows L2

section
variable {prog : Program} {w : World} {A : Around} {E : Value → Shared → Prop} {s : Shared}
end
section
variable {X : Cx} {C : Ct} {B : Nw} {e : Expr} {de : TD} {pos : Pos}
end
section
variable {env : Env'} {m : Mem} {D : En} {d : TD}
end
end DL

set_option maxHeartbeats 2000000
namespace DL
open PySem PySem.Spec PyProof.Rows L2

section
variable {X : Cx} {C : Ct} {B : Nw} {k : Nat} {o e : Expr} {es : List Expr} {d : TD} {da : TAd} {apos cpos pos : Pos}
end

section
variable {X : Cx} {C : Ct} {B : Nw} {k : Nat} {o e : Expr} {es : List Expr} {d : TD} {da : TAd} {apos cpos : Pos}
end
end DL

set_option maxHeartbeats 2000000
namespace DL
open PySem PySem.Spec PyProof.Rows L2

section
variable {prog : Program} {w : World} {A : Around} {E : Value → Shared → Prop} {s : Shared} {K : Type} [DecidableEq K]
end
section
variable {X : Cx} {C : Ct} {B : Nw} {e : Expr} {pos : Pos}
end
section
variable {env : Env'} {m : Mem} {D : En} {d : TD}
end
end DL

set_option maxHeartbeats 1000000
namespace DL
open PySem PySem.Spec PyProof.Rows L2
section
variable {X : Cx} {C : Ct} {c j k : Nat} {p : DSp}
end
end DL

set_option maxHeartbeats 1000000
namespace DL
open PySem PySem.Spec PyProof.Rows L2
section
variable {X : Cx} {C : Ct} {B : Nw} {e o i : Expr} {d de di : TD} {pos apos cpos : Pos}
end
end DL

set_option maxHeartbeats 1000000
namespace DL
open PySem PySem.Spec PyProof.Rows
section
variable {prog : Program} {w : World} {A : Around} {E : Value → Shared → Prop} {s : Shared} {K : PySem.W.Frag} {x c L f : Addr} {h₀ : Heap} {m : Str → Option Value} {ox : Obj} {od : Option Obj} {b tb : Value}
end
end DL
namespace DL
open PySem PySem.Spec PyProof.Rows L2
section
variable {X : Cx} {C : Ct} {c j k : Nat} {p : DSp}
end
end DL

set_option maxHeartbeats 1000000
namespace DL
open PySem PySem.Spec PyProof.Rows PySem.W
section
variable {prog : Program} {w : World} {K : Type} [DecidableEq K] {knd : HeapKind prog w K} {A : Around} {E : Value → Shared → Prop} {s : Shared}
end
end DL

set_option maxHeartbeats 1000000
namespace DL
open PySem PySem.Spec PyProof.Rows L2
section
variable {X : Cx} {C : Ct} {pins : List (Addr × Obj)} {s : Shared} {σ : L2.St} {n : Nw} {m : Mem}
theorem TK.len {K : PySem.W.Frag} {al : List Addr} {G : Hp} {w : World} : ∀ {xs : List (NestedKey × Addr × Value)} {kvs : List (Dat × Dat)}, TK C w K al G xs kvs → xs.length = kvs.length
  | _, _, .nil => rfl
  | _, _, .cons _ t => congrArg (· + 1) (TK.len t)
end
end DL

set_option maxHeartbeats 1000000
namespace DL
open PySem PySem.Spec PyProof.Rows L2
section
variable {X : Cx} {C : Ct} {B : Nw} {e o o2 i : Expr} {d d2 di : TD} {pos apos bpos cpos ppos : Pos}
end
end DL

set_option maxHeartbeats 1000000
namespace DL
open PySem PySem.Spec PyProof.Rows L2
section
variable {X : Cx} {C : Ct} {B : Nw}
end
end DL

set_option maxHeartbeats 1000000
namespace DL
open PySem PySem.Spec PyProof.Rows L2
section
variable {X : Cx} {C : Ct} {B : Nw}
end
end DL

set_option maxHeartbeats 1000000
namespace DL
open PySem PySem.Spec PyProof.Rows L2
section
variable {X : Cx} {C : Ct} {B : Nw} {e o i : Expr} {d de di : TD} {pos : Pos}
end
end DL

set_option maxHeartbeats 1000000
namespace PySem.W
open PySem PySem.Spec
end PySem.W
namespace DL
open PySem PySem.Spec PyProof.Rows L2
section
variable {X : Cx} {C : Ct} {c j k : Nat} {p : DSp}
end
end DL

set_option maxHeartbeats 1000000
namespace ZZ
open PySem PySem.Spec PyProof.Rows L2

end ZZ

set_option maxHeartbeats 1000000
namespace ZZ
open PySem PySem.Spec PyProof.Rows L2
variable {P : Program} {w : World} {A : Around} {E : Value → Shared → Prop} {s : Shared} {a b : Addr} {S T : Int → Bool} {n m : Nat} {es : Array (Int × Value)} {ep : Nat} {t : SetTable}
structure SetS (w : World) (h : Heap) (a : Addr) (es : Array (Int × Value)) (ep : Nat) (t : SetTable) : Prop where
  ob : ∃ o, h.get? a = some o ∧ o.ExactSet ∧ o.data = .set es ep t
  good : ∀ e ∈ es.toList, GoodE e
  nd : (es.toList.map keyOf).Nodup
  sz : es.size < scanBound
  fits : t.fits es.size = true
  ris : Ris t.place.toList
  led : w.params.followText "set-order" = true ∨ t.led = true
theorem SetS.at {h h' : Heap} (x : SetS w h a es ep t) (k : ∀ o, h.get? a = some o → h'.get? a = some o) : SetS w h' a es ep t :=
  ⟨let ⟨o, h1, h2⟩ := x.ob; ⟨o, k o h1, h2⟩, x.good, x.nd, x.sz, x.fits, x.ris, x.led⟩
end ZZ

set_option maxHeartbeats 1000000
namespace ZZ
open PySem PySem.Spec PyProof.Rows L2
variable {P : Program} {w : World} {A : Around} {E : Value → Shared → Prop} {s : Shared} {a b r : Addr} {S T : Int → Bool} {n m : Nat} {es : Array (Int × Value)} {ep : Nat} {t : SetTable}
end ZZ

set_option maxHeartbeats 1000000
namespace ZZ
open PySem PySem.Spec PyProof.Rows L2
variable {P : Program} {w : World} {A : Around} {E : Value → Shared → Prop} {s : Shared} {a b r : Addr} {S T : Int → Bool} {n m : Nat} {es : Array (Int × Value)} {ep : Nat} {t : SetTable}
theorem SetS.type (x : SetS w s.heap a es ep t) : s.TypeIs (.ref a) "set" := by
  obtain ⟨o, h1, h2, h3⟩ := x.ob
  exact ⟨o, h1, h2.1⟩
end ZZ

set_option maxHeartbeats 1000000
namespace ZZ
open PySem PySem.Spec PyProof.Rows L2
variable {P : Program} {w : World} {A : Around} {E : Value → Shared → Prop} {s : Shared} {a b r : Addr} {S T : Int → Bool} {n m : Nat} {es eb : Array (Int × Value)} {ep pb : Nat} {t tb : SetTable}
end ZZ

set_option maxHeartbeats 1000000
namespace ZZ
open PySem PySem.Spec PyProof.Rows L2
variable {P : Program} {w : World} {A : Around} {E : Value → Shared → Prop} {s : Shared} {a b r : Addr} {S T : Int → Bool} {n m : Nat} {es eb : Array (Int × Value)} {ep pb : Nat} {t tb : SetTable}
end ZZ

set_option maxHeartbeats 3200000
namespace ZZ
open PySem PySem.Spec PyProof.Rows L2
section
variable {P : Program} {w : World} {A : Around} {E : Value → Shared → Prop} {S : Shared}
open AutoSeq1 MeetsSeq MeetsSeq2 MeetsSeq3 SeqRoads2 in
open AutoSeq1 MeetsSeq MeetsSeq2 MeetsSeq3 SeqRoads2 in
end
end ZZ

set_option maxHeartbeats 1000000
namespace DL
open PySem PySem.Spec PyProof.Rows L2 ZZ
section
variable {X : Cx}
end
section
variable {X : Cx} {C : Ct} {B : Nw} {a b e : Expr} {d : TD} {da db : TZ} {p pos : Pos}
end
end DL

set_option maxHeartbeats 1000000
namespace DL
open PySem PySem.Spec PyProof.Rows L2
inductive Pk where
  | slot (i : Nat)
  | new (xs : List Dat)
section
variable (C : Ct) (w : World) (K : PySem.W.Frag)
def PkOk (n n' : Nw) (env : Env') (σ : L2.St) (v : V) : Pk → Prop
  | .slot i => ∃ xs, env[i]? = some (some (.own (.lst xs))) ∧ σ[i]? = some (some v)
  | .new xs => ∃ p, v = .ref p ∧ OwnAt C w K n n' p (.lst xs)
inductive PksOk (n n' : Nw) (env : Env') (σ : L2.St) : List V → List Pk → Prop
  | nil : PksOk n n' env σ [] []
  | cons {v vs x xs} : PkOk C w K n n' env σ v x → PksOk n n' env σ vs xs → PksOk n n' env σ (v :: vs) (x :: xs)
end
section
variable {C : Ct} {w : World} {K : PySem.W.Frag} {n n1 n' n'' : Nw} {env : Env'} {σ : L2.St}
theorem PkOk.le {v x} (h : PkOk C w K n n' env σ v x) (l : n'.le n'') : PkOk C w K n n'' env σ v x := by
  cases x with
  | slot i => exact h
  | new xs => obtain ⟨p, e, o⟩ := h; exact ⟨p, e, o.le l⟩
theorem PksOk.le {vs xs} (h : PksOk C w K n n' env σ vs xs) (l : n'.le n'') : PksOk C w K n n'' env σ vs xs := by
  induction h with
  | nil => exact .nil
  | cons a _ ih => exact .cons (a.le l) ih
theorem PksOk.get {vs xs} (h : PksOk C w K n n' env σ vs xs) {i : Nat} {x : Pk} (e : xs[i]? = some x) : ∃ v, vs[i]? = some v ∧ PkOk C w K n n' env σ v x := by
  induction h generalizing i with
  | nil => simp at e
  | cons a _ ih =>
    cases i with
    | zero => simp at e; subst e; exact ⟨_, rfl, a⟩
    | succ i => simp at e; obtain ⟨v, h1, h2⟩ := ih e; exact ⟨v, by simpa using h1, h2⟩
theorem PksOk.length {vs xs} (h : PksOk C w K n n' env σ vs xs) : vs.length = xs.length := by
  induction h with
  | nil => rfl
  | cons _ _ ih => simp [ih]
end
section
variable {X : Cx} {C : Ct} {B : Nw} {e o i : Expr} {es : List Expr} {d : TPk} {dn : TN} {di : TD} {pos : Pos}
end
end DL

set_option maxHeartbeats 1000000
namespace ZZ
open PySem PySem.W PySem.Calls PyProof.Rows PySem.SeqAt
section
variable {prog : Program} {w : World} {A : Around} {E : Value → Shared → Prop} {s : Shared}
end
end ZZ

set_option maxHeartbeats 1000000
namespace DL
open PySem PySem.Spec PyProof.Rows L2
open PySem.W in
section
variable {X : Cx} {C : Ct}
end
end DL

set_option maxHeartbeats 1000000
namespace DL
open PySem PySem.Spec PyProof.Rows L2
section
variable {X : Cx} {C : Ct}
end
end DL
namespace DL
open PySem PySem.Spec PyProof.Rows L2
section
variable {X : Cx} {C : Ct}
end
end DL
namespace DL
open PySem PySem.Spec PyProof.Rows L2
end DL

set_option maxHeartbeats 1000000
namespace ZZ
open PySem PySem.Spec PyProof.Rows L2
variable {P : Program} {w : World} {A : Around} {E : Value → Shared → Prop} {s : Shared} {a b r : Addr} {S T : Int → Bool} {n m : Nat} {es eb er : Array (Int × Value)} {ep pb pr : Nat} {t tb tr : SetTable}
end ZZ
namespace ZZ
open PySem PySem.Spec PyProof.Rows L2
variable {P : Program} {w : World} {A : Around} {E : Value → Shared → Prop} {s : Shared} {a b r : Addr} {S T : Int → Bool} {n m : Nat} {es eb er : Array (Int × Value)} {ep pb pr : Nat} {t tb tr : SetTable}
end ZZ
namespace ZZ
open PySem PySem.Spec PyProof.Rows L2
variable {P : Program} {w : World} {A : Around} {E : Value → Shared → Prop} {s : Shared} {a b r : Addr} {S T : Int → Bool} {n m : Nat} {es eb er : Array (Int × Value)} {ep pb pr : Nat} {t tb tr : SetTable}
end ZZ

set_option maxHeartbeats 1000000
namespace DL
open PySem PySem.Spec PyProof.Rows L2 ZZ
section
variable {X : Cx} {C : Ct} {B : Nw} {a b e : Expr} {d : TD} {da db : TZ} {p pos : Pos}
end
end DL

set_option maxHeartbeats 1000000
namespace DL
open PySem PySem.Spec PyProof.Rows L2
section
variable {X : Cx} {C : Ct} {B : Nw}
end
end DL

set_option maxHeartbeats 1000000
namespace DL
open PySem PySem.Spec PyProof.Rows L2
section
variable {X : Cx} {C : Ct}
end
end DL

set_option maxHeartbeats 1000000
namespace DL
open PySem PySem.Spec PyProof.Rows L2
section
variable {X : Cx} {C : Ct} {B : Nw} {k : Nat} {o e : Expr} {es : List Expr} {d : TD} {da : TAd} {apos cpos : Pos}
end
end DL

set_option maxHeartbeats 1000000
namespace DL
open PySem PySem.Spec PyProof.Rows L2
section
variable {X : Cx} {C : Ct} {B : Nw} {pos : Pos}
end
end DL

set_option maxHeartbeats 1000000
namespace DL
open PySem PySem.Spec PyProof.Rows L2

theorem sz {n : Nat} (h : n ≤ 16777216) : n ≤ sizeLine := by rw [sizeLine_eq]; exact h
end DL

set_option maxHeartbeats 1000000
namespace DL
open PySem PySem.Spec PyProof.Rows L2

def EvM (f : OpN) (env : Env') (m : Mem) (xs : List Lv) (z : Dat) : Prop := ∀ Q : QD, Q z m → f env m xs Q
section
variable {env : Env'} {m : Mem} {d da db : TD} {v x y : Lv} {z : Dat} {b : Bool}
end
section
variable {D : En} {env : Env'} {m : Mem} {d : TD} {v : Lv} {a : Dat}
end
end DL

set_option maxHeartbeats 1000000
namespace DL.S
open PySem PySem.Spec PyProof.Rows L2 DL
def ft_size : List (Nat × Nat) := [(3, 0)]
def ft_pairs : List (Nat × Nat) := [(3, 1)]
end DL.S

set_option maxHeartbeats 1000000
namespace DL.S
open PySem PySem.Spec PyProof.Rows L2 DL

end DL.S

set_option maxHeartbeats 1000000
namespace DL.S
open PySem PySem.Spec PyProof.Rows L2 DL

end DL.S

set_option maxHeartbeats 1000000
namespace DL.S
open PySem PySem.Spec PyProof.Rows L2 DL

def good : Nat → Dat → Bool
  | _, .non => true
  | _, .bl _ => true
  | _, .int i => decide (i.natAbs.log2 < 1920)
  | _, .str x => PyData.strOk x
  | k + 1, .tup xs => decide (xs.length ≤ 10000) && xs.all (good k)
  | k + 1, .lst xs => decide (xs.length ≤ 10000) && xs.all (good k)
  | _, .dct kvs => okR 60 (.dct kvs) && (decide ((py (.dct kvs)).shown.length ≤ 10000) && PyData.strOk (py (.dct kvs)).shown)
  | _, _ => false
end DL.S

set_option maxHeartbeats 1000000
namespace K02
open PySem PySem.Spec PyProof.Rows L2 DL DL.S

def plain (d : Dat) : Bool := (tyN d).isSome
end K02

set_option maxHeartbeats 1000000
namespace DL
open PySem PySem.Spec PyProof.Rows L2
end DL

set_option maxHeartbeats 1000000
namespace K02
open PySem PySem.Spec PyProof.Rows L2 DL DL.S

end K02

set_option maxHeartbeats 1000000
namespace DL
open PySem PySem.Spec PyProof.Rows L2
def pT {γ : Type} (n : Nat) (args : γ → List Dat) (pre : γ → Prop) (res : γ → Dat) : DSp := fun ds m Q _ => ds.length = n ∧ ∃ g, ds = args g ∧ pre g ∧ Q (res g) m
theorem pT.len {γ : Type} {n args pre res} : ∀ ds m Q E, pT (γ := γ) n args pre res ds m Q E → ds.length = n := fun _ _ _ _ h => h.1
section
variable {env : Env'} {m : Mem} {d : TD} {da : TAd} {x : Lv} {s : Dat} {ls : List Lv} {ds : List Dat} {EX : QXe} {γ : Type} {n c : Nat} {args : γ → List Dat} {pre : γ → Prop} {res : γ → Dat}
end
section
variable {D : En} {env : Env'} {m : Mem} {da : TAd} {ls : List Lv} {n : Nat}
end
end DL

set_option maxHeartbeats 1000000
namespace K02
open PySem PySem.Spec PyProof.Rows L2 DL DL.S

end K02

set_option maxHeartbeats 1000000
namespace K02
open PySem PySem.Spec PyProof.Rows L2 DL DL.S

def pGh {γ : Type} (n : Nat) (pre : γ → List Dat → Mem → Prop) (post : γ → List Dat → Mem → Dat → Mem → Prop) : DSp := fun ds m Q E => ds.length = n ∧ ∃ g, pre g ds m ∧ ∀ r m', post g ds m r m' → Q r m'
theorem pGh.len {γ : Type} {n pre post} : ∀ ds m Q E, pGh (γ := γ) n pre post ds m Q E → ds.length = n := fun _ _ _ _ h => h.1
end K02

set_option maxHeartbeats 1000000
namespace K02
open PySem PySem.Spec PyProof.Rows L2 DL DL.S

end K02

set_option maxHeartbeats 1000000
namespace K02
open PySem PySem.Spec PyProof.Rows L2 DL DL.S

theorem strOk_app (a b : Str) : PyData.strOk (a ++ b) = (PyData.strOk a && PyData.strOk b) := by
  show (a.cps ++ b.cps).all _ = _
  rw [Array.all_append]; rfl
theorem so1 : PyData.strOk (Str.ofString ", ") = true := by decide +kernel
theorem so2 : PyData.strOk (Str.ofString "") = true := by decide +kernel
theorem so3 : PyData.strOk (Str.ofString "[") = true := by decide +kernel
theorem so4 : PyData.strOk (Str.ofString "]") = true := by decide +kernel
theorem so5 : PyData.strOk (Str.ofString "(") = true := by decide +kernel
theorem so6 : PyData.strOk (Str.ofString ")") = true := by decide +kernel
theorem so7 : PyData.strOk (Str.ofString ",)") = true := by decide +kernel
theorem so8 : PyData.strOk ((Str.ofString ", ").join []) = true := by decide +kernel
theorem strOk_text : ∀ (ts : List Str) (k : Nat) (acc : Str), PyData.strOk acc = true → (∀ t ∈ ts, PyData.strOk t = true) → PyData.strOk (textFrom k acc ts) = true
  | [], k, acc, h, _ => h
  | t :: r, k, acc, h, ht => by
    have h1 : PyData.strOk (acc ++ ((if k > 0 then ", " else "" : String) : Str) ++ t) = true := by
      rw [strOk_app, strOk_app, h, ht t (by simp)]
      split <;> simp [so1, so2]
    exact strOk_text r (k + 1) _ h1 fun x hx => ht x (by simp [hx])
theorem strOk_list {ts : List Str} (h : ∀ t ∈ ts, PyData.strOk t = true) : PyData.strOk (listText ts) = true := by
  unfold listText
  rw [strOk_app, strOk_text ts 0 _ so3 h, so4]; rfl
theorem strOk_join : ∀ {ts : List Str}, (∀ t ∈ ts, PyData.strOk t = true) → PyData.strOk (Str.join ", " ts) = true
  | [], _ => so8
  | [x], h => h x (by simp)
  | x :: y :: r, h => by
    show PyData.strOk (x ++ ", " ++ Str.join ", " (y :: r)) = true
    rw [strOk_app, strOk_app, h x (by simp), strOk_join (ts := y :: r) fun t ht => h t (by simp at ht ⊢; exact .inr ht), so1]; rfl
theorem strOk_tuple {ts : List Str} (h : ∀ t ∈ ts, PyData.strOk t = true) : PyData.strOk (tupleText ts) = true := by
  unfold tupleText
  rw [strOk_app, strOk_app, strOk_join h, so5]
  split <;> simp [so6, so7]
theorem shownAll_mem : ∀ {xs : List Dat} {t : Str}, t ∈ PyData.shownAll (pys xs) → ∃ x ∈ xs, t = (py x).shown
  | [], t, h => by cases h
  | x :: xs, t, h => by
    rw [pys, PyData.shownAll] at h
    rcases List.mem_cons.mp h with rfl | h
    · exact ⟨x, by simp, rfl⟩
    · obtain ⟨y, hy, e⟩ := shownAll_mem h
      exact ⟨y, by simp [hy], e⟩
end K02

set_option maxHeartbeats 1000000
namespace K02
open PySem PySem.Spec PyProof.Rows L2 DL DL.S

theorem leaves_all {B : Nat} : ∀ {xs : List Dat}, PyData.leavesShortAll B (pys xs) = true ↔ ∀ x ∈ xs, (py x).leavesShort B = true
  | [] => by simp [pys, PyData.leavesShortAll]
  | x :: xs => by
    rw [pys, PyData.leavesShortAll, Bool.and_eq_true, leaves_all (xs := xs)]
    simp
end K02

set_option maxHeartbeats 1000000
namespace K02
open PySem PySem.Spec PyProof.Rows L2 DL DL.S

end K02

set_option maxHeartbeats 1000000
namespace K02
open PySem PySem.Spec PyProof.Rows L2 DL DL.S
end K02

set_option maxHeartbeats 1000000
namespace DL.S
open PySem PySem.Spec PyProof.Rows L2 DL
end DL.S

set_option maxHeartbeats 1000000
namespace K02
open PySem PySem.Spec PyProof.Rows L2 DL DL.S

abbrev Lk : Type := Nat × Nat
def Lk.lt (p q : Lk) : Prop := p.1 < q.1 ∨ (p.1 = q.1 ∧ p.2 < q.2)
def Lk.le (p q : Lk) : Bool := decide (p.1 < q.1 ∨ (p.1 = q.1 ∧ p.2 ≤ q.2))
structure NetOk (n : Nat) (ps : List Lk) : Prop where
  n1 : 1 ≤ n
  n7 : n ≤ 7
  l8 : ps.length ≤ 8
  ord : ∀ p ∈ ps, p.1 < p.2 ∧ p.2 < n
  asc : ps.Pairwise Lk.lt
theorem Lk.le_total (p q : Lk) : (Lk.le p q || Lk.le q p) = true := by
  unfold Lk.le
  simp only [Bool.or_eq_true, decide_eq_true_eq]
  omega
theorem Lk.le_trans (p q r : Lk) (h1 : Lk.le p q = true) (h2 : Lk.le q r = true) : Lk.le p r = true := by
  unfold Lk.le at *
  simp only [decide_eq_true_eq] at *
  omega
end K02

set_option maxHeartbeats 1000000
namespace K02
open PySem PySem.Spec PyProof.Rows L2 DL DL.S

section
variable {n : Nat} {ps : List Lk}
end
end K02

set_option maxHeartbeats 1000000
namespace DL.S
open PySem PySem.Spec PyProof.Rows L2 DL K02

def vd (k B : Nat) (d : Dat) : Bool := (good k d && okR k d) && ((py d).leavesShort 40 && (decide ((py d).bulk ≤ B) && PyData.strOk (py d).shown))
structure Vd (k B : Nat) (d : Dat) : Prop where
  good : DL.S.good k d = true
  okR : DL.okR k d = true
  short : (py d).leavesShort 40 = true
  bulk : (py d).bulk ≤ B
  str : PyData.strOk (py d).shown = true
theorem vd_iff {k B : Nat} {d : Dat} : vd k B d = true ↔ Vd k B d := by
  unfold vd
  rw [Bool.and_eq_true, Bool.and_eq_true, Bool.and_eq_true, Bool.and_eq_true, decide_eq_true_iff]
  exact ⟨fun h => ⟨h.1.1, h.1.2, h.2.1, h.2.2.1, h.2.2.2⟩, fun h => ⟨⟨h.1, h.2⟩, h.3, h.4, h.5⟩⟩
theorem good_up1 {d : Dat} {k : Nat} (h : good k d = true) : good (k + 1) d = true := by
  induction k generalizing d with
  | zero => cases d <;> first | exact h | (simp [good] at h)
  | succ k ih =>
    cases d with
    | tup xs =>
      rw [good, Bool.and_eq_true, List.all_eq_true] at h ⊢
      exact ⟨h.1, fun x hx => ih (h.2 x hx)⟩
    | lst xs =>
      rw [good, Bool.and_eq_true, List.all_eq_true] at h ⊢
      exact ⟨h.1, fun x hx => ih (h.2 x hx)⟩
    | _ => exact h
theorem okR_up1 : ∀ {k : Nat} {d : Dat}, okR k d = true → okR (k + 1) d = true := by
  intro k
  induction k with
  | zero => intro d h; cases d <;> first | exact h | (simp [okR] at h)
  | succ k ih =>
    intro d h
    cases d with
    | tup xs =>
      rw [okR, List.all_eq_true] at h ⊢
      exact fun x hx => ih (h x hx)
    | lst xs =>
      rw [okR, List.all_eq_true] at h ⊢
      exact fun x hx => ih (h x hx)
    | dct kvs =>
      rw [okR, List.all_eq_true] at h ⊢
      intro x hx
      have := h x hx
      rw [Bool.and_eq_true] at this ⊢
      exact ⟨ih this.1, ih this.2⟩
    | _ => exact h
theorem good_le {j k : Nat} {d : Dat} (e : j ≤ k) (h : good j d = true) : good k d = true := by
  obtain ⟨i, rfl⟩ : ∃ i, k = j + i := ⟨k - j, by omega⟩
  induction i with
  | zero => exact h
  | succ i ih => exact good_up1 (ih (by omega))
theorem okR_le1 {j k : Nat} {d : Dat} (e : j ≤ k) (h : okR j d = true) : okR k d = true := by
  obtain ⟨i, rfl⟩ : ∃ i, k = j + i := ⟨k - j, by omega⟩
  induction i with
  | zero => exact h
  | succ i ih => exact okR_up1 (ih (by omega))
theorem Vd.up {j k A B : Nat} {d : Dat} (h : Vd j A d) (e : j ≤ k) (e2 : A ≤ B) : Vd k B d := ⟨good_le e h.good, okR_le1 e h.okR, h.short, Nat.le_trans h.bulk e2, h.str⟩
theorem bulk_all {B : Nat} : ∀ {xs : List Dat}, (∀ x ∈ xs, (py x).bulk ≤ B) → PyData.bulkAll (pys xs) ≤ (B + 1) * xs.length
  | [], _ => Nat.zero_le _
  | x :: xs, h => by
    have h1 := h x (by simp)
    have h2 := bulk_all (xs := xs) fun y hy => h y (by simp [hy])
    rw [pys, PyData.bulkAll, List.length_cons, Nat.mul_add]
    omega
theorem Vd.tup {k B L A : Nat} {xs : List Dat} (h : ∀ x ∈ xs, Vd k B x) (hl : xs.length ≤ L) (hL : L ≤ 10000) (hA : (B + 1) * L ≤ A) : Vd (k + 1) A (.tup xs) := by
  refine ⟨?_, ?_, leaves_all.mpr fun x hx => (h x hx).short, ?_, strOk_tuple fun t ht => ?_⟩
  · rw [DL.S.good, Bool.and_eq_true, List.all_eq_true]
    exact ⟨decide_eq_true (by omega), fun x hx => (h x hx).good⟩
  · rw [DL.okR, List.all_eq_true]
    exact fun x hx => (h x hx).okR
  · have h1 := bulk_all (xs := xs) fun x hx => (h x hx).bulk
    exact Nat.le_trans (Nat.le_trans h1 (Nat.mul_le_mul_left _ hl)) hA
  · obtain ⟨x, hx, rfl⟩ := shownAll_mem ht
    exact (h x hx).str
theorem Vd.lst {k B L A : Nat} {xs : List Dat} (h : ∀ x ∈ xs, Vd k B x) (hl : xs.length ≤ L) (hL : L ≤ 10000) (hA : (B + 1) * L ≤ A) : Vd (k + 1) A (.lst xs) := by
  refine ⟨?_, ?_, leaves_all.mpr fun x hx => (h x hx).short, ?_, strOk_list fun t ht => ?_⟩
  · rw [DL.S.good, Bool.and_eq_true, List.all_eq_true]
    exact ⟨decide_eq_true (by omega), fun x hx => (h x hx).good⟩
  · rw [DL.okR, List.all_eq_true]
    exact fun x hx => (h x hx).okR
  · have h1 := bulk_all (xs := xs) fun x hx => (h x hx).bulk
    exact Nat.le_trans (Nat.le_trans h1 (Nat.mul_le_mul_left _ hl)) hA
  · obtain ⟨x, hx, rfl⟩ := shownAll_mem ht
    exact (h x hx).str
theorem Vd.int {k : Nat} {i : Int} (h : vd 0 0 (.int i) = true) : Vd k 0 (.int i) := (vd_iff.mp h).up (Nat.zero_le _) (Nat.le_refl _)
theorem Vd.bl {k B : Nat} (b : Bool) : Vd k B (.bl b) := by
  cases b
  · exact (vd_iff.mp (show vd 0 0 (.bl false) = true by decide +kernel)).up (Nat.zero_le _) (Nat.zero_le _)
  · exact (vd_iff.mp (show vd 0 0 (.bl true) = true by decide +kernel)).up (Nat.zero_le _) (Nat.zero_le _)
theorem Vd.non {k B : Nat} : Vd k B .non := (vd_iff.mp (show vd 0 0 .non = true by decide +kernel)).up (Nat.zero_le _) (Nat.zero_le _)
theorem Vd.shown {k B : Nat} {d : Dat} (h : Vd k B d) (hB : B ≤ 100000) : (py d).shown.length ≤ sizeLine := by
  have h1 := PyData.shown_le_bulk 40 (by omega) _ h.short
  have h2 := h.bulk
  refine Nat.le_trans (m := 10000000) (by omega) (sz (by decide))
end DL.S

set_option maxHeartbeats 1000000
namespace DL.S
open PySem PySem.Spec PyProof.Rows L2 DL
end DL.S

set_option maxHeartbeats 1000000
namespace DL.S
open PySem PySem.Spec PyProof.Rows L2 DL K02
local macro_rules | `(tactic| walk_at "ev") => `(tactic| repeat' (first
  | exact ev_c | exact ev_v rfl | exact ev_o rfl | exact eva_nil | exact e2_i0 | exact e2_add | exact e1_u | exact e2_isn | exact evo_no | exact sz (Nat.le_of_ble_eq_true rfl)
  | ((with_reducible show DL.frs _ = some _); exact rfl)
  | apply ev_bin | apply ev_un | apply ev_n | apply eva_cons | apply ev_new | apply evn_lst | apply em_tup | apply evo_p))

def isTup : Dat → Bool
  | .tup _ => true
  | _ => false
theorem isi_tup {C : Ct} {env : Env'} {m : Mem} {d : Dat} (h : plain d = true) : EvM (oIsi C) env m [.f d, .f (.ty "tuple")] (.bl (isTup d)) := fun Q q => by
  cases d <;> first | exact q | (cases h)
end DL.S

set_option maxHeartbeats 1000000
namespace DL
open PySem PySem.Spec PyProof.Rows L2
end DL
namespace DL.S
open PySem PySem.Spec PyProof.Rows L2 DL K02

structure OutOk (many : Nat) (o : List Nat) : Prop where
  asc : o.Pairwise (· < ·)
  lt : ∀ l ∈ o, l < many
def outD (o : List Nat) : Dat := .tup (o.map fun l : Nat => .int (l : Nat))
theorem asc_len {many : Nat} : ∀ {o : List Nat} {k : Nat}, o.Pairwise (· < ·) → (∀ l ∈ o, k ≤ l ∧ l < many) → o.length ≤ many - k
  | [], _, _, _ => Nat.zero_le _
  | l :: o, k, h, hl => by
    rw [List.pairwise_cons] at h
    have h0 := hl l (by simp)
    have := asc_len (many := many) (k := l + 1) h.2 fun x hx => ⟨h.1 x hx, (hl x (by simp [hx])).2⟩
    rw [List.length_cons]
    omega
theorem OutOk.len {many : Nat} {o : List Nat} (h : OutOk many o) : o.length ≤ many := by
  have := asc_len (k := 0) h.asc fun l hl => ⟨Nat.zero_le _, h.lt l hl⟩
  omega
end DL.S

set_option maxHeartbeats 1000000
namespace DL.S
open PySem PySem.Spec PyProof.Rows L2 DL K02

end DL.S

set_option maxHeartbeats 1000000
namespace DL.S
open PySem PySem.Spec PyProof.Rows L2 DL K02
def subs : List Nat → List (List Nat)
  | [] => [[]]
  | x :: xs => subs xs ++ (subs xs).map (x :: ·)
theorem mem_subs : ∀ {xs o : List Nat}, xs.Pairwise (· < ·) → o.Pairwise (· < ·) → (∀ l ∈ o, l ∈ xs) → o ∈ subs xs
  | [], o, _, _, h => by
    cases o with
    | nil => simp [subs]
    | cons l o => exact absurd (h l (by simp)) (by simp)
  | x :: xs, o, hx, ho, h => by
    rw [List.pairwise_cons] at hx
    rw [subs, List.mem_append]
    by_cases hm : x ∈ o
    · refine .inr ?_
      cases o with
      | nil => cases hm
      | cons l o =>
        rw [List.pairwise_cons] at ho
        have e : l = x := by
          rcases List.mem_cons.mp (h l (by simp)) with q | q
          · exact q
          · rcases List.mem_cons.mp hm with z | z
            · exact z.symm
            · have := ho.1 x z
              have := hx.1 l q
              omega
        subst e
        refine List.mem_map.mpr ⟨o, mem_subs hx.2 ho.2 fun y hy => ?_, rfl⟩
        rcases List.mem_cons.mp (h y (by simp [hy])) with q | q
        · have := ho.1 y hy; omega
        · exact q
    · refine .inl (mem_subs hx.2 ho fun y hy => ?_)
      rcases List.mem_cons.mp (h y hy) with q | q
      · rw [q] at hy; exact absurd hy hm
      · exact q
theorem OutOk.subs {many : Nat} {o : List Nat} (h : OutOk many o) (h8 : many ≤ 8) : o ∈ DL.S.subs (List.range 8) :=
  mem_subs (by decide) h.asc fun l hl => List.mem_range.mpr (Nat.lt_of_lt_of_le (h.lt l hl) h8)
theorem outs_shown : ((subs (List.range 8)).all fun o => vd 0 30 (.str (py (outD o)).shown)) = true := by decide +kernel
theorem OutOk.shown {many : Nat} {o : List Nat} (h : OutOk many o) (h8 : many ≤ 8) : Vd 0 30 (.str (py (outD o)).shown) := vd_iff.mp (List.all_eq_true.mp outs_shown o (h.subs h8))
end DL.S

set_option maxHeartbeats 1000000
namespace DL
open PySem PySem.Spec PyProof.Rows L2
end DL
namespace DL.S
open PySem PySem.Spec PyProof.Rows L2 DL K02
section
variable {da : TAd} {env : Env'} {m tl : Mem} {Q : QL} {c : Nat}
end
end DL.S
namespace DL
open PySem PySem.Spec PyProof.Rows L2 DL.S K02
end DL

set_option maxHeartbeats 1000000
namespace K02
open PySem PySem.Spec PyProof.Rows L2 DL DL.S

section
variable {n : Nat} {qs : List (Lk × Bool)}
end
end K02

set_option maxHeartbeats 1000000
namespace DL.S
open PySem PySem.Spec PyProof.Rows L2 DL
end DL.S

set_option maxHeartbeats 1000000
namespace DL
open PySem PySem.Spec PyProof.Rows L2
end DL
namespace DL.S
open PySem PySem.Spec PyProof.Rows L2 DL K02

def atL (ps : List Lk) (i : Int) : List Nat := (ps.zipIdx.filter fun p => decide ((p.1.1 : Int) = i ∨ (p.1.2 : Int) = i)).map (·.2)
def isPl (C : Ct) (d : Dat) : Prop := plain d = true ∨ ∃ c xs, d = .ins c xs ∧ C.own c = true ∧ C.isaB c "tuple" = some false
theorem isPl.tup {C : Ct} {env : Env'} {m : Mem} {d : Dat} (h : isPl C d) : EvM (oIsi C) env m [.f d, .f (.ty "tuple")] (.bl (isTup d)) := by
  rcases h with h | ⟨c, xs, rfl, ho, hb⟩
  · exact isi_tup h
  · intro Q q
    simp [oIsi, derI, der, isaD, isa1, tyN, ho, hb]
    exact q
end DL.S

set_option maxHeartbeats 1000000
namespace DL.S
open PySem PySem.Spec PyProof.Rows L2 DL
def ft_ground : List (Nat × Nat) := [(22, 0)]
def ft_goal : List (Nat × Nat) := [(22, 1)]
def ft_width : List (Nat × Nat) := [(22, 2)]
def ft_told : List (Nat × Nat) := [(22, 3)]
def ft_turns : List (Nat × Nat) := [(22, 4)]
end DL.S

set_option maxHeartbeats 1000000
namespace DL.S
open PySem PySem.Spec PyProof.Rows L2 DL
end DL.S

set_option maxHeartbeats 1000000
namespace DL.S
open PySem PySem.Spec PyProof.Rows L2 DL
end DL.S

set_option maxHeartbeats 1000000
namespace DL.S
open PySem PySem.Spec PyProof.Rows L2 DL
end DL.S

set_option maxHeartbeats 1000000
namespace DL.S
open PySem PySem.Spec PyProof.Rows L2 DL
end DL.S

set_option maxHeartbeats 1000000
namespace DL.S
open PySem PySem.Spec PyProof.Rows L2 DL
end DL.S

set_option maxHeartbeats 1000000
namespace DL.S
open PySem PySem.Spec PyProof.Rows L2 DL
end DL.S

set_option maxHeartbeats 1000000
namespace DL.S
open PySem PySem.Spec PyProof.Rows L2 DL
end DL.S

set_option maxHeartbeats 1000000
namespace DL.S
open PySem PySem.Spec PyProof.Rows L2 DL
end DL.S

set_option maxHeartbeats 1000000
namespace DL.S
open PySem PySem.Spec PyProof.Rows L2 DL
end DL.S

set_option maxHeartbeats 1000000
namespace DL.S
open PySem PySem.Spec PyProof.Rows L2 DL
end DL.S

set_option maxHeartbeats 1000000
namespace DL.S
open PySem PySem.Spec PyProof.Rows L2 DL
end DL.S

set_option maxHeartbeats 1000000
namespace DL.S
open PySem PySem.Spec PyProof.Rows L2 DL
end DL.S

set_option maxHeartbeats 1000000
namespace DL.S
open PySem PySem.Spec PyProof.Rows L2 DL
end DL.S

set_option maxHeartbeats 2000000
namespace K27
open PySem PySem.Spec PyProof.Rows L2 DL DL.S
def top (i : Nat) : Stmt := PySem.Challenge.pw_sparerows_k27_whole_turning_books_come_h.main.body.getD i (.Pass ⟨0, 0, 0, 0⟩)
def inCls (s : Stmt) (i : Nat) : Stmt := match s with
  | .ClassDef _ _ _ body _ _ _ _ _ _ _ => body.getD i (.Pass ⟨0, 0, 0, 0⟩)
  | _ => .Pass ⟨0, 0, 0, 0⟩
def tab : Tab := { names := ["SpareError", "BadLink", "BadNet", "Net", "", "BadBook", "", "", "", "", "", "", "", "", "", "", "", "", "", "", "", "", "Book"], flds := [[], ["index"], ["error"], ["size", "pairs"], [], ["error"], [], [], [], [], [], [], [], [], [], [], [], [], [], [], [], [], ["ground", "goal", "width", "told", "turns"]], owns := [3, 22], ii := [], ib := [], it := [] }
section
variable {P : Program} {w : World} {K : PySem.W.Frag} {mg : Str → Option Value} {base : Heap} {C : Ct}
abbrev st_Net_len : Stmt := (inCls (top 21) 7)
abbrev st_law_deck : Stmt := (top 27)
abbrev st_law_next : Stmt := (top 28)
abbrev st_law_pairs : Stmt := (top 29)
abbrev st_law_net : Stmt := (top 30)
abbrev st_law_outage : Stmt := (top 31)
abbrev st_law_labels : Stmt := (top 32)
abbrev st_law_thinned : Stmt := (top 33)
abbrev st_is_pair : Stmt := (top 9)
abbrev st_is_whole : Stmt := (top 7)
abbrev st_is_below : Stmt := (top 8)
abbrev st_Net_nodes : Stmt := (inCls (top 21) 1)
abbrev st_Net_at : Stmt := (inCls (top 21) 3)
abbrev st_is_key : Stmt := (top 11)
abbrev st_is_row : Stmt := (top 12)
abbrev st_book_error : Stmt := (top 13)
abbrev st_Book_init : Stmt := (inCls (top 15) 0)
abbrev st_keys_of : Stmt := (top 14)
abbrev st_Book_turning : Stmt := (inCls (top 15) 1)
abbrev st_is_link : Stmt := (top 19)
abbrev st_net_error : Stmt := (top 20)
abbrev st_Net_init : Stmt := (inCls (top 21) 0)
abbrev st_Book_target : Stmt := (inCls (top 15) 4)
abbrev st_Book_net : Stmt := (inCls (top 15) 3)
abbrev st_Book_row_at : Stmt := (inCls (top 15) 7)
abbrev st_Net_far : Stmt := (inCls (top 21) 4)
abbrev st_next_stop : Stmt := (top 23)
abbrev st_walked : Stmt := (top 24)
abbrev st_fate : Stmt := (top 25)
abbrev st_law_right : Stmt := (top 34)
abbrev st_law : Stmt := (top 35)
end
end K27

set_option maxHeartbeats 1000000
namespace DL
open PySem PySem.Spec PyProof.Rows L2
section
variable {env : Env'} {m : Mem} {d da db : TD} {x y : Lv}
end
end DL
namespace DL.S
open PySem PySem.Spec PyProof.Rows L2 DL K02

abbrev Bk : Type := Nat × Option Nat × Nat
abbrev Tn : Type := Nat × Nat
abbrev Rws : Type := List (Bk × List Tn)
end DL.S

set_option maxHeartbeats 1000000
namespace DL.S
open PySem PySem.Spec PyProof.Rows L2 DL K02

section
variable (n : Nat) (A : Nat → List Nat) (g : Nat)
def lev : Nat → Nat → Option Nat
  | 0, v => if v = g then some 0 else none
  | k + 1, v => match lev k v with
    | some d => some d
    | none => if ((List.range n).any fun u => decide (lev k u = some k) && decide (v ∈ A u)) = true then some (k + 1) else none
end
section
variable {n : Nat} {A : Nat → List Nat} {g : Nat}
def getN (kn : List (Nat × Nat)) (v : Nat) : Option Nat := (kn.find? fun p => decide (p.1 = v)).map (·.2)
theorem getN_none {kn : List (Nat × Nat)} {v : Nat} : getN kn v = none ↔ v ∉ kn.map (·.1) := by
  induction kn with
  | nil => simp [getN]
  | cons p kn ih =>
    by_cases e : p.1 = v
    · simp [getN, List.find?_cons, e]
    · have : getN (p :: kn) v = getN kn v := by simp [getN, List.find?_cons, e]
      rw [this, ih, List.map_cons, List.mem_cons, not_or]
      exact ⟨fun h => ⟨fun z => e z.symm, h⟩, fun h => h.2⟩
theorem getN_snoc {kn : List (Nat × Nat)} {w d v : Nat} (h : getN kn w = none) : getN (kn ++ [(w, d)]) v = if v = w then some d else getN kn v := by
  induction kn with
  | nil =>
    by_cases e : w = v
    · simp [getN, List.find?_cons, e]
    · have e' : ¬ v = w := fun z => e z.symm
      simp [getN, List.find?_cons, e, e']
  | cons p kn ih =>
    by_cases e : p.1 = v
    · have ne : ¬ v = w := fun z => by
        rw [getN_none, List.map_cons, List.mem_cons, not_or] at h
        exact h.1 (by rw [e]; exact z.symm)
      simp [getN, List.find?_cons, e, ne]
    · have h' : getN kn w = none := by
        rw [getN_none] at h ⊢
        exact fun z => h (List.mem_cons_of_mem _ z)
      have a : getN (p :: kn ++ [(w, d)]) v = getN (kn ++ [(w, d)]) v := by simp [getN, List.find?_cons, e]
      have b : getN (p :: kn) v = getN kn v := by simp [getN, List.find?_cons, e]
      rw [a, b, ih h']
structure Mid (n : Nat) (A : Nat → List Nat) (g k : Nat) (acc : List Nat) (kn : List (Nat × Nat)) (more : List Nat) : Prop where
  mem : ∀ v, v ∈ more ↔ v ∈ acc ∧ lev n A g k v = none
  get : ∀ v, getN kn v = match lev n A g k v with
    | some d => some d
    | none => if v ∈ more then some (k + 1) else none
  nd : (kn.map (·.1)).Nodup
  lt : ∀ p ∈ kn, p.1 < n ∧ p.2 ≤ n
  ml : more.length ≤ kn.length
theorem Mid.new {k w : Nat} {acc : List Nat} {kn : List (Nat × Nat)} {more : List Nat} (h : Mid n A g k acc kn more) (hw : getN kn w = none) (hn : w < n) (hk : k < n) : Mid n A g k (acc ++ [w]) (kn ++ [(w, k + 1)]) (more ++ [w]) := by
  have hl : lev n A g k w = none ∧ w ∉ more := by
    have := h.get w
    rw [hw] at this
    cases e : lev n A g k w with
    | some d => rw [e] at this; cases this
    | none =>
      rw [e] at this
      refine ⟨rfl, fun z => ?_⟩
      simp [z] at this
  refine ⟨fun v => ?_, fun v => ?_, ?_, fun p hp => ?_, by simp; exact h.ml⟩
  · rw [List.mem_append, List.mem_append, List.mem_singleton, h.mem]
    constructor
    · rintro (⟨a, b⟩ | rfl)
      · exact ⟨.inl a, b⟩
      · exact ⟨.inr rfl, hl.1⟩
    · rintro ⟨a | rfl, b⟩
      · exact .inl ⟨a, b⟩
      · exact .inr rfl
  · rw [getN_snoc hw, h.get v]
    by_cases e : v = w
    · subst e
      rw [if_pos rfl, hl.1]
      simp
    · rw [if_neg e]
      cases lev n A g k v with
      | some d => rfl
      | none => simp [e]
  · rw [List.map_append, List.nodup_append]
    refine ⟨h.nd, by simp, fun a ha b hb e => ?_⟩
    simp at hb
    subst hb e
    exact getN_none.mp hw ha
  · rcases List.mem_append.mp hp with q | q
    · exact h.lt p q
    · rw [List.mem_singleton.mp q]; exact ⟨hn, by show k + 1 ≤ n; omega⟩
end
end DL.S

set_option maxHeartbeats 1000000
namespace DL.S
open PySem PySem.Spec PyProof.Rows L2 DL K02

theorem nodup_len : ∀ {n : Nat} {l : List Nat}, l.Nodup → (∀ x ∈ l, x < n) → l.length ≤ n
  | 0, l, _, h => by
    cases l with
    | nil => simp
    | cons a l => exact absurd (h a (by simp)) (by omega)
  | n + 1, l, hn, h => by
    by_cases hm : n ∈ l
    · have e := List.length_erase_of_mem hm
      have := nodup_len (n := n) (l := l.erase n) (hn.erase n) fun x hx => by
        have h1 := h x (List.mem_of_mem_erase hx)
        have h2 : x ≠ n := fun z => by
          subst z
          exact (List.Nodup.not_mem_erase hn) hx
        omega
      omega
    · have := nodup_len (n := n) (l := l) hn fun x hx => by
        have h1 := h x hx
        have h2 : x ≠ n := fun z => hm (z ▸ hx)
        omega
      omega
section
variable {n g k : Nat} {A : Nat → List Nat} {ps : List Lk} {o : List Nat} {m : Mem} {x4 : Option Sl}
end
end DL.S

set_option maxHeartbeats 1000000
namespace DL
open PySem PySem.Spec PyProof.Rows L2
end DL
namespace DL.S
open PySem PySem.Spec PyProof.Rows L2 DL K02

theorem mem_atL {ps : List Lk} {v c : Nat} : c ∈ atL ps (v : Int) ↔ ∃ p, ps[c]? = some p ∧ (p.1 = v ∨ p.2 = v) := by
  unfold atL
  rw [List.mem_map]
  constructor
  · rintro ⟨⟨p, j⟩, hq, rfl⟩
    obtain ⟨h1, h2⟩ := List.mem_filter.mp hq
    have h3 := of_decide_eq_true h2
    exact ⟨p, List.mk_mem_zipIdx_iff_getElem?.mp h1, by dsimp only at h3; omega⟩
  · rintro ⟨p, h1, h2⟩
    exact ⟨(p, c), List.mem_filter.mpr ⟨List.mk_mem_zipIdx_iff_getElem?.mpr h1, decide_eq_true (by dsimp only; omega)⟩, rfl⟩
theorem atL_lt {ps : List Lk} {v c : Nat} (h : c ∈ atL ps (v : Int)) : c < ps.length := by
  obtain ⟨p, h1, _⟩ := mem_atL.mp h
  exact (List.getElem?_eq_some_iff.mp h1).1
structure KeyOk (n : Nat) (ps : List Lk) (t mk : Nat) (k : Bk) : Prop where
  lt : k.1 < n
  ne : k.1 ≠ t
  mkl : k.2.2 < mk
  came : ∀ c, k.2.1 = some c → c ∈ atL ps (k.1 : Int)
  zero : k.2.1 = none → k.2.2 = 0
structure RowOk (ps : List Lk) (v mk : Nat) (r : List Tn) : Prop where
  at_ : ∀ t ∈ r, t.1 ∈ atL ps (v : Int) ∧ t.2 < mk
  nd : (r.map (·.1)).Nodup
theorem RowOk.len {ps : List Lk} {v mk : Nat} {r : List Tn} (h : RowOk ps v mk r) : r.length ≤ ps.length := by
  have := nodup_len (n := ps.length) h.nd fun x hx => by
    obtain ⟨t, ht, rfl⟩ := List.mem_map.mp hx
    exact atL_lt (h.at_ t ht).1
  simpa using this
structure RowsOk (n : Nat) (ps : List Lk) (t mk : Nat) (rs : Rws) : Prop where
  key : ∀ p ∈ rs, KeyOk n ps t mk p.1
  row : ∀ p ∈ rs, RowOk ps p.1.1 mk p.2
  nd : (rs.map (·.1)).Nodup
  len : rs.length ≤ 300
section
variable {env : Env'} {m : Mem} {da : TAd} {d : TD} {n : Nat} {ps : List Lk}
end
abbrev BkG : Type := (Nat × List Lk) × (Nat × Nat)
end DL.S

set_option maxHeartbeats 1000000
namespace DL
open PySem PySem.Spec PyProof.Rows L2
end DL
namespace DL.S
open PySem PySem.Spec PyProof.Rows L2 DL K02

section
variable {env : Env'} {m : Mem} {da : TAd} {n : Nat} {ps : List Lk} {t mk : Nat}
end
def keysAt (ps : List Lk) (mk v : Nat) : List Bk := (v, none, 0) :: (atL ps (v : Int)).flatMap fun c => (List.range mk).map fun j => (v, some c, j)
def keysL (n : Nat) (ps : List Lk) (t mk : Nat) : List Bk := (List.range n).flatMap fun v => if v = t then [] else keysAt ps mk v
end DL.S

set_option maxHeartbeats 1000000
namespace DL
open PySem PySem.Spec PyProof.Rows L2
end DL
namespace DL.S
open PySem PySem.Spec PyProof.Rows L2 DL K02

abbrev BG : Type := BkG × Rws
end DL.S

set_option maxHeartbeats 1000000
namespace DL
open PySem PySem.Spec PyProof.Rows L2
end DL
namespace DL.S
open PySem PySem.Spec PyProof.Rows L2 DL K02

def code (ps : List Lk) (k : Bk) : Nat := match k.2.1 with
  | none => 0
  | some c => 1 + (c * 2 + (if k.1 = (ps.getD c (0, 0)).1 then 0 else 1)) * 3 + k.2.2
section
variable {n : Nat} {ps : List Lk} {t mk : Nat} {rs : Rws} {o : List Nat} {start : Nat}
end
end DL.S

set_option maxHeartbeats 1000000
namespace DL
open PySem PySem.Spec PyProof.Rows L2
end DL
namespace DL.S
open PySem PySem.Spec PyProof.Rows L2 DL K02

section
variable {D : En} {m : Mem} {ps : List Lk} {mk : Nat} {x0 x2 : Option Sl}
end
end DL.S

set_option maxHeartbeats 1000000
namespace DL
open PySem PySem.Spec PyProof.Rows L2
end DL
namespace DL.S
open PySem PySem.Spec PyProof.Rows L2 DL K02

end DL.S

set_option maxHeartbeats 1000000
namespace DL.S
open PySem PySem.Spec PyProof.Rows L2 DL K02

end DL.S

set_option maxHeartbeats 1000000
namespace DL
open PySem PySem.Spec PyProof.Rows L2
end DL
namespace DL.S
open PySem PySem.Spec PyProof.Rows L2 DL K02
section
variable {D : En} {n : Nat} {ps : List Lk} {t mk : Nat} {few kind : Int} {x10 : Option Sl}
end
end DL.S

set_option maxHeartbeats 1000000
namespace DL.S
open PySem PySem.Spec PyProof.Rows L2 DL K02

end DL.S

set_option maxHeartbeats 1000000
namespace DL.S
open PySem PySem.Spec PyProof.Rows L2 DL K02

def OutsOk (many : Nat) (os : List (List Nat)) : Prop := (∀ o ∈ os, OutOk many o) ∧ os.Nodup ∧ os.length ≤ 256
end DL.S

set_option maxHeartbeats 1000000
namespace DL.S
open PySem PySem.Spec PyProof.Rows L2 DL K02

end DL.S

set_option maxHeartbeats 1000000
namespace DL.S
open PySem PySem.Spec PyProof.Rows L2 DL K02

end DL.S

set_option maxHeartbeats 1000000
namespace DL.S
open PySem PySem.Spec PyProof.Rows L2 DL K02

def BkOk (g : BG) : Prop := NetOk g.1.1.1 g.1.1.2 ∧ RowsOk g.1.1.1 g.1.1.2 g.1.2.1 g.1.2.2 g.2 ∧ g.1.2.2 ≤ 3
end DL.S

set_option maxHeartbeats 1000000
namespace DL.S
open PySem PySem.Spec PyProof.Rows L2 DL K02

end DL.S

set_option maxHeartbeats 1000000
namespace DL.S
open PySem PySem.Spec PyProof.Rows L2 DL K02

def FarOk (n : Nat) (fs : List Nat) : Prop := fs.length = n ∧ ∀ x ∈ fs, x ≤ 7
theorem FarOk.set {n : Nat} {fs : List Nat} (h : FarOk n fs) {a v : Nat} (hv : v ≤ 7) : FarOk n (fs.set a v) := ⟨by rw [List.length_set]; exact h.1, fun x hx => by
  rcases List.mem_or_eq_of_mem_set hx with z | z
  · exact h.2 x z
  · rw [z]; exact hv⟩
theorem FarOk.at {n : Nat} {fs : List Nat} (h : FarOk n fs) {a : Nat} (ha : a < n) : fs.getD a 0 ≤ 7 := by
  have hl : a < fs.length := by rw [h.1]; exact ha
  have e : fs.getD a 0 = fs[a] := by simp [List.getD, hl]
  rw [e]
  exact h.2 _ (List.getElem_mem hl)
section
variable {D : En} {m : Mem} {n : Nat} {x0 x1 x2 x4 x7 : Option Sl}
end
end DL.S

set_option maxHeartbeats 1000000
namespace DL.S
open PySem PySem.Spec PyProof.Rows L2 DL K02

section
variable {m : Mem} {n t mk : Nat} {ps : List Lk} {fs : List Nat} {kind : Int}
end
end DL.S

set_option maxHeartbeats 1000000
namespace DL.S
open PySem PySem.Spec PyProof.Rows L2 DL K02
theorem RowsOk.set {n : Nat} {ps : List Lk} {t mk : Nat} {rs : Rws} (h : RowsOk n ps t mk rs) {i : Nat} (hi : i < rs.length) {r : List Tn} (hr : RowOk ps (rs[i]).1.1 mk r) : RowsOk n ps t mk (rs.set i ((rs[i]).1, r)) := by
  have ek : (rs.set i ((rs[i]).1, r)).map (·.1) = rs.map (·.1) := by
    rw [List.map_set]
    refine List.ext_getElem (by simp) fun j h1 h2 => ?_
    rw [List.getElem_set]
    split
    · rename_i e; subst e; simp
    · rfl
  have mem : ∀ p ∈ rs.set i ((rs[i]).1, r), p ∈ rs ∨ p = ((rs[i]).1, r) := fun p hp => List.mem_or_eq_of_mem_set hp
  refine ⟨fun p hp => ?_, fun p hp => ?_, by rw [ek]; exact h.nd, by rw [List.length_set]; exact h.len⟩
  · rcases mem p hp with z | z
    · exact h.key p z
    · rw [z]; exact (show KeyOk n ps t mk (rs[i]).1 from h.key _ (List.getElem_mem hi))
  · rcases mem p hp with z | z
    · exact h.row p z
    · rw [z]; exact hr
end DL.S

set_option maxHeartbeats 1000000
namespace K02
open PySem PySem.Spec PyProof.Rows L2 DL DL.S
end K02

set_option maxHeartbeats 1000000
namespace DL.S
open PySem PySem.Spec PyProof.Rows L2 DL K02

structure ScOk (g : BG) : Prop where
  net : NetOk g.1.1.1 g.1.1.2
  rows : RowsOk g.1.1.1 g.1.1.2 g.1.2.1 g.1.2.2 g.2
  mk0 : 0 < g.1.2.2
  mk3 : g.1.2.2 ≤ 3
  tg : g.1.2.1 < g.1.1.1
  keys : g.2.map (·.1) = keysL g.1.1.1 g.1.1.2 g.1.2.1 g.1.2.2
theorem ScOk.bk {g : BG} (h : ScOk g) : BkOk g := ⟨h.net, h.rows, h.mk3⟩
section
variable {env : Env'} {m : Mem} {d : TD} {b : BG}
end
end DL.S

set_option maxHeartbeats 1000000
namespace DL.S
open PySem PySem.Spec PyProof.Rows L2 DL K02

end DL.S

set_option maxHeartbeats 1000000
namespace DL.S
open PySem PySem.Spec PyProof.Rows L2 DL K02
section
variable {n g k : Nat} {ps : List Lk} {o : List Nat} {m : Mem}
end
end DL.S

set_option maxHeartbeats 1000000
namespace DL.S
open PySem PySem.Spec PyProof.Rows L2 DL K02

def labS (f : Nat → Nat) (p : Lk) (v : Nat) : Nat := if f v = f p.1 ∨ f v = f p.2 then min (f p.1) (f p.2) else f v
structure Rep (f : Nat → Nat) : Prop where
  le : ∀ v, f v ≤ v
  idem : ∀ v, f (f v) = f v
theorem Rep.step {f : Nat → Nat} (h : Rep f) (p : Lk) : Rep (labS f p) := by
  refine ⟨fun v => ?_, fun v => ?_⟩
  · unfold labS
    have h1 := h.le v
    split
    · rename_i z
      rcases z with z | z <;> omega
    · exact h1
  · have key : ∀ w, f w = f p.1 ∨ f w = f p.2 → labS f p w = min (f p.1) (f p.2) := fun w hw => by unfold labS; rw [if_pos hw]
    by_cases hv : f v = f p.1 ∨ f v = f p.2
    · rw [key v hv]
      rcases Nat.le_total (f p.1) (f p.2) with z | z
      · rw [Nat.min_eq_left z, key (f p.1) (.inl (h.idem p.1)), Nat.min_eq_left z]
      · rw [Nat.min_eq_right z, key (f p.2) (.inr (h.idem p.2)), Nat.min_eq_right z]
    · have e : labS f p v = f v := by unfold labS; rw [if_neg hv]
      rw [e]
      unfold labS
      rw [h.idem v, if_neg hv]
def cls (n : Nat) (f : Nat → Nat) : Nat := ((List.range n).filter fun v => decide (f v = v)).length
end DL.S

set_option maxHeartbeats 1000000
namespace DL.S
open PySem PySem.Spec PyProof.Rows L2 DL K02
section
variable {n g : Nat} {A : Nat → List Nat}
end
section
variable {n g : Nat} {ps : List Lk} {o : List Nat} {m : Mem}
end
end DL.S

set_option maxHeartbeats 1000000
namespace DL.S
open PySem PySem.Spec PyProof.Rows L2 DL K02
section
variable {n : Nat} {ps : List Lk} {o : List Nat}
end
end DL.S

set_option maxHeartbeats 1000000
namespace DL.S
open PySem PySem.Spec PyProof.Rows L2 DL K02

section
variable {D : En} {m : Mem} {b : BG} {rs : Rws} {x2 : Option Sl}
end
end DL.S
namespace DL.S
end DL.S

set_option maxHeartbeats 1000000
namespace DL.S
open PySem PySem.Spec PyProof.Rows L2 DL K02
end DL.S

set_option maxHeartbeats 1000000
namespace DL.S
open PySem PySem.Spec PyProof.Rows L2 DL K02
end DL.S

set_option maxHeartbeats 1000000
namespace DL.S
open PySem PySem.Spec PyProof.Rows L2 DL K02
end DL.S

set_option maxHeartbeats 1000000
namespace DL.S
open PySem PySem.Spec PyProof.Rows L2 DL K02

end DL.S

set_option maxHeartbeats 1000000
namespace DL.S
open PySem PySem.Spec PyProof.Rows L2 DL K02

end DL.S

set_option maxHeartbeats 1000000
namespace DL.S
open PySem PySem.Spec PyProof.Rows L2 DL K02

end DL.S

set_option maxHeartbeats 1000000
namespace DL.S
open PySem PySem.Spec PyProof.Rows L2 DL K02

def setRow (rs : Rws) (k : Bk) (r : List Tn) : Rws := rs.map fun p => if p.1 = k then (p.1, r) else p
theorem setRow_keys (rs : Rws) (k : Bk) (r : List Tn) : (setRow rs k r).map (·.1) = rs.map (·.1) := by
  unfold setRow
  rw [List.map_map]
  refine List.map_congr_left fun p _ => ?_
  show (if p.1 = k then (p.1, r) else p).1 = p.1
  split <;> rfl
theorem setRow_ok {n : Nat} {ps : List Lk} {t mk : Nat} {rs : Rws} (h : RowsOk n ps t mk rs) {k : Bk} {r : List Tn} (hr : RowOk ps k.1 mk r) : RowsOk n ps t mk (setRow rs k r) := by
  refine ⟨fun p hp => ?_, fun p hp => ?_, ?_, by unfold setRow; rw [List.length_map]; exact h.len⟩
  · obtain ⟨q, hq, rfl⟩ := List.mem_map.mp hp
    have := h.key q hq
    split <;> exact this
  · obtain ⟨q, hq, rfl⟩ := List.mem_map.mp hp
    split
    · rename_i e
      subst e
      exact hr
    · exact h.row q hq
  · show ((setRow rs k r).map (·.1)).Nodup
    rw [setRow_keys]
    exact h.nd
structure AllR (b : BkG) (rs : Rws) : Prop where
  rows : RowsOk b.1.1 b.1.2 b.2.1 b.2.2 rs
  keys : rs.map (·.1) = keysL b.1.1 b.1.2 b.2.1 b.2.2
theorem ScOk.all {b : BG} (h : ScOk b) : AllR b.1 b.2 := ⟨h.rows, h.keys⟩
end DL.S

set_option maxHeartbeats 1000000
namespace DL.S
open PySem PySem.Spec PyProof.Rows L2 DL K02
end DL.S

set_option maxHeartbeats 1000000
namespace DL.S
open PySem PySem.Spec PyProof.Rows L2 DL K02
theorem AllR.set {b : BkG} {rs : Rws} (h : AllR b rs) {k : Bk} {r : List Tn} (hr : RowOk b.1.2 k.1 b.2.2 r) : AllR b (setRow rs k r) := ⟨setRow_ok h.rows hr, by rw [setRow_keys]; exact h.keys⟩
end DL.S

set_option maxHeartbeats 1000000
namespace DL.S
open PySem PySem.Spec PyProof.Rows L2 DL K02
structure OffR (b : BkG) (os : Rws) : Prop where
  key : ∀ p ∈ os, p.1 ∈ keysL b.1.1 b.1.2 b.2.1 b.2.2
  row : ∀ p ∈ os, RowOk b.1.2 p.1.1 b.2.2 p.2
theorem OffR.erase {b : BkG} {os : Rws} (h : OffR b os) (k : Nat) : OffR b (os.eraseIdx k) := ⟨fun q hq => h.key q (List.mem_of_mem_eraseIdx hq), fun q hq => h.row q (List.mem_of_mem_eraseIdx hq)⟩
theorem RowOk.nil {ps : List Lk} {v mk : Nat} : RowOk ps v mk [] := ⟨fun t ht => by (cases ht), .nil⟩
section
variable {D : En} {b : BkG} {x1 : Option Sl} {ms : Rws}
end
end DL.S

set_option maxHeartbeats 1000000
namespace DL.S
open PySem PySem.Spec PyProof.Rows L2 DL K02
end DL.S

set_option maxHeartbeats 1000000
namespace DL.S
open PySem PySem.Spec PyProof.Rows L2 DL K02
section
variable {d : TD} {env : Env'} {m : Mem} {b : BG}
end
end DL.S

set_option maxHeartbeats 1000000
namespace DL.S
open PySem PySem.Spec PyProof.Rows L2 DL K02
end DL.S

set_option maxHeartbeats 1000000
namespace DL.S
open PySem PySem.Spec PyProof.Rows L2 DL K02
end DL.S

set_option maxHeartbeats 1000000
namespace DL.S
open PySem PySem.Spec PyProof.Rows L2 DL K02
end DL.S

set_option maxHeartbeats 1000000
namespace DL.S
open PySem PySem.Spec PyProof.Rows L2 DL K02
end DL.S

set_option maxHeartbeats 1000000
namespace DL.S
open PySem PySem.Spec PyProof.Rows L2 DL K02

end DL.S

set_option maxHeartbeats 1000000
namespace DL.S
open PySem PySem.Spec PyProof.Rows L2 DL K02
end DL.S

set_option maxHeartbeats 1000000
namespace DL.S
open PySem PySem.Spec PyProof.Rows L2 DL K02

theorem RowOk.sub {ps : List Lk} {v mk : Nat} {r q : List Tn} (h : RowOk ps v mk r) (s : q.Sublist r) : RowOk ps v mk q := ⟨fun t ht => h.at_ t (s.subset ht), h.nd.sublist (s.map _)⟩
end DL.S

set_option maxHeartbeats 1000000
namespace DL.S
open PySem PySem.Spec PyProof.Rows L2 DL K02
end DL.S

set_option maxHeartbeats 1000000
namespace DL.S
open PySem PySem.Spec PyProof.Rows L2 DL K02

end DL.S

set_option maxHeartbeats 1000000
namespace DL.S
open PySem PySem.Spec PyProof.Rows L2 DL K02
end DL.S

set_option maxHeartbeats 1000000
namespace DL.S
open PySem PySem.Spec PyProof.Rows L2 DL K02
section
variable {env : Env'} {m : Mem} {d1 d2 : TD} {l : Nat} {P R : OP}
end
end DL.S

set_option maxHeartbeats 1000000
namespace DL.S
open PySem PySem.Spec PyProof.Rows L2 DL K02
end DL.S

set_option maxHeartbeats 1000000
namespace DL.S
open PySem PySem.Spec PyProof.Rows L2 DL K02
end DL.S

set_option maxHeartbeats 1000000
namespace DL.S
open PySem PySem.Spec PyProof.Rows L2 DL K02
end DL.S

set_option maxHeartbeats 1000000
namespace DL.S
open PySem PySem.Spec PyProof.Rows L2 DL K02
section
variable {env : Env'} {m : Mem} {d1 d2 : TD} {l l' : Nat} {P R : OP}
end
end DL.S

set_option maxHeartbeats 1000000
namespace DL.S
open PySem PySem.Spec PyProof.Rows L2 DL K02
end DL.S

set_option maxHeartbeats 1000000
namespace DL.S
open PySem PySem.Spec PyProof.Rows L2 DL K02
end DL.S

set_option maxHeartbeats 1000000
namespace DL.S
open PySem PySem.Spec PyProof.Rows L2 DL K02
inductive Lost (nx : Bk → Option Bk) (t : Nat) : Bk → Prop
  | here {q} : q.1 ≠ t → nx q = none → Lost nx t q
  | step {q s} : q.1 ≠ t → nx q = some s → Lost nx t s → Lost nx t q
inductive HomeW (nx : Bk → Option Bk) (t : Nat) : Bk → Prop
  | here {q} : q.1 = t → HomeW nx t q
  | step {q s} : q.1 ≠ t → nx q = some s → HomeW nx t s → HomeW nx t q
section
variable {nx ny : Bk → Option Bk} {t : Nat}
theorem HomeW.imp {R : Bk → Bk → Prop} (h1 : ∀ a b, R a b → (a.1 = t ↔ b.1 = t)) (h2 : ∀ a b s, R a b → a.1 ≠ t → nx a = some s → ∃ u, ny b = some u ∧ R s u) {a : Bk} (h : HomeW nx t a) : ∀ {b : Bk}, R a b → HomeW ny t b := by
  induction h with
  | here e => intro b r; exact .here ((h1 _ _ r).mp e)
  | step a e _ ih =>
    intro b r
    obtain ⟨u, e2, r2⟩ := h2 _ _ _ r a e
    exact .step (fun z => a ((h1 _ _ r).mpr z)) e2 (ih r2)
theorem Lost.imp {R : Bk → Bk → Prop} (h1 : ∀ a b, R a b → (a.1 = t ↔ b.1 = t)) (h2 : ∀ a b s, R a b → a.1 ≠ t → nx a = some s → ∃ u, ny b = some u ∧ R s u) (h3 : ∀ a b, R a b → a.1 ≠ t → nx a = none → ny b = none) {a : Bk} (h : Lost nx t a) : ∀ {b : Bk}, R a b → Lost ny t b := by
  induction h with
  | here a e => intro b r; exact .here (fun z => a ((h1 _ _ r).mpr z)) (h3 _ _ r a e)
  | step a e _ ih =>
    intro b r
    obtain ⟨u, e2, r2⟩ := h2 _ _ _ r a e
    exact .step (fun z => a ((h1 _ _ r).mpr z)) e2 (ih r2)
end
end DL.S

set_option maxHeartbeats 1000000
namespace DL.S
open PySem PySem.Spec PyProof.Rows L2 DL K02
end DL.S

set_option maxHeartbeats 1000000
namespace DL.S
open PySem PySem.Spec L2 DL DL.S K02
open PyProof.Rows hiding isInt
section
variable {n g k : Nat} {ps : List Lk} {o : List Nat} {m : Mem} {x6 : Option Sl}
end
end DL.S

set_option maxHeartbeats 1000000
namespace DL.AU
open PySem PySem.Spec PyProof.Rows L2 DL DL.S K02
section
variable {env : Env'} {m : Mem} {d da db : TD} {x y : Lv} {z : Dat}
end
end DL.AU

set_option maxHeartbeats 1000000
namespace DL.S
open PySem PySem.Spec PyProof.Rows L2 DL K02
set_option hygiene false
local macro_rules | `(tactic| trivial) => `(tactic| with_reducible exact eva_nil)
local macro_rules | `(tactic| trivial) => `(tactic| ((with_reducible apply ev_bin) <;> trivial))
local macro_rules | `(tactic| trivial) => `(tactic| ((with_reducible apply ev_if) <;> trivial))
local macro_rules | `(tactic| trivial) => `(tactic| ((with_reducible apply AU.aTup) <;> first | rfl | trivial))
local macro_rules | `(tactic| trivial) => `(tactic| ((with_reducible apply AU.aLst) <;> first | rfl | trivial))
local macro_rules | `(tactic| trivial) => `(tactic| ((with_reducible apply AU.aLstN) <;> first | rfl | trivial))
local macro_rules | `(tactic| trivial) => `(tactic| ((with_reducible apply AU.aLen) <;> first | rfl | trivial))
local macro_rules | `(tactic| trivial) => `(tactic| ((with_reducible apply AU.aTupL) <;> first | rfl | trivial))
local macro_rules | `(tactic| trivial) => `(tactic| ((with_reducible apply eva_cons) <;> trivial))
local macro_rules | `(tactic| trivial) => `(tactic| with_reducible exact ev_c)
local macro_rules | `(tactic| trivial) => `(tactic| ((with_reducible apply AU.ao) <;> rfl))
local macro_rules | `(tactic| trivial) => `(tactic| ((with_reducible apply AU.av) <;> rfl))
local macro_rules | `(tactic| trivial) => `(tactic| with_reducible exact e2_add)
local macro_rules | `(tactic| trivial) => `(tactic| with_reducible exact e2_i0)
local macro_rules | `(tactic| trivial) => `(tactic| with_reducible exact e2_isn)
local macro_rules | `(tactic| trivial) => `(tactic| ((with_reducible apply e2_ix) <;> rfl))
local macro_rules | `(tactic| trivial) => `(tactic| ((with_reducible apply AU.aEq) <;> first | rfl | trivial))
local macro_rules | `(tactic| trivial) => `(tactic| ((with_reducible apply AU.aSame) <;> first | trivial | rfl))
local macro_rules | `(tactic| trivial) => `(tactic| ((with_reducible apply evb_tst) <;> trivial))
local macro_rules | `(tactic| trivial) => `(tactic| ((with_reducible apply evb_not) <;> trivial))
local macro_rules | `(tactic| trivial) => `(tactic| with_reducible exact AU.gNil)
local macro_rules | `(tactic| trivial) => `(tactic| ((with_reducible apply AU.gCons) <;> trivial))
local macro_rules | `(tactic| trivial) => `(tactic| ((with_reducible apply AU.gLst) <;> first | rfl | trivial))
local macro_rules | `(tactic| trivial) => `(tactic| ((with_reducible apply AU.gTup) <;> first | rfl | trivial))
local macro_rules | `(tactic| trivial) => `(tactic| with_reducible assumption)

section
variable {D : En} {m : Mem} {n t : Nat} {ps : List Lk} {kn : List (Nat × Nat)}
end
end DL.S

set_option maxHeartbeats 1000000
namespace DL.S
open PySem PySem.Spec PyProof.Rows L2 DL K02
section
variable {n t : Nat} {ps : List Lk} {o : List Nat}
end
end DL.S

set_option maxHeartbeats 1000000
namespace DL.S
open PySem PySem.Spec PyProof.Rows L2 DL K02
set_option hygiene false
local macro_rules | `(tactic| trivial) => `(tactic| with_reducible exact eva_nil)
local macro_rules | `(tactic| trivial) => `(tactic| ((with_reducible apply ev_bin) <;> trivial))
local macro_rules | `(tactic| trivial) => `(tactic| ((with_reducible apply ev_if) <;> trivial))
local macro_rules | `(tactic| trivial) => `(tactic| ((with_reducible apply AU.aTup) <;> first | rfl | trivial))
local macro_rules | `(tactic| trivial) => `(tactic| ((with_reducible apply AU.aLst) <;> first | rfl | trivial))
local macro_rules | `(tactic| trivial) => `(tactic| ((with_reducible apply AU.aLstN) <;> first | rfl | trivial))
local macro_rules | `(tactic| trivial) => `(tactic| ((with_reducible apply AU.aLen) <;> first | rfl | trivial))
local macro_rules | `(tactic| trivial) => `(tactic| ((with_reducible apply AU.aTupL) <;> first | rfl | trivial))
local macro_rules | `(tactic| trivial) => `(tactic| ((with_reducible apply eva_cons) <;> trivial))
local macro_rules | `(tactic| trivial) => `(tactic| with_reducible exact ev_c)
local macro_rules | `(tactic| trivial) => `(tactic| ((with_reducible apply AU.ao) <;> rfl))
local macro_rules | `(tactic| trivial) => `(tactic| ((with_reducible apply AU.av) <;> rfl))
local macro_rules | `(tactic| trivial) => `(tactic| with_reducible exact e2_add)
local macro_rules | `(tactic| trivial) => `(tactic| with_reducible exact e2_i0)
local macro_rules | `(tactic| trivial) => `(tactic| with_reducible exact e2_isn)
local macro_rules | `(tactic| trivial) => `(tactic| ((with_reducible apply e2_ix) <;> rfl))
local macro_rules | `(tactic| trivial) => `(tactic| ((with_reducible apply AU.aEq) <;> first | rfl | trivial))
local macro_rules | `(tactic| trivial) => `(tactic| ((with_reducible apply AU.aSame) <;> first | trivial | rfl))
local macro_rules | `(tactic| trivial) => `(tactic| ((with_reducible apply evb_tst) <;> trivial))
local macro_rules | `(tactic| trivial) => `(tactic| ((with_reducible apply evb_not) <;> trivial))
local macro_rules | `(tactic| trivial) => `(tactic| with_reducible exact AU.gNil)
local macro_rules | `(tactic| trivial) => `(tactic| ((with_reducible apply AU.gCons) <;> trivial))
local macro_rules | `(tactic| trivial) => `(tactic| ((with_reducible apply AU.gLst) <;> first | rfl | trivial))
local macro_rules | `(tactic| trivial) => `(tactic| ((with_reducible apply AU.gTup) <;> first | rfl | trivial))
local macro_rules | `(tactic| trivial) => `(tactic| with_reducible assumption)

section
variable {D : En} {m : Mem} {g : BG} {w : List Bk} {z : Str} {s : Bk} {i : Nat}
end
end DL.S

set_option maxHeartbeats 1000000
namespace DL.S
open PySem PySem.Spec PyProof.Rows L2 DL K02
section
variable {env : Env'} {m : Mem} {da : TAd} {l k : Nat} {nb : Int}
end
end DL.S

set_option maxHeartbeats 1000000
namespace DL.S
open PySem PySem.Spec PyProof.Rows L2 DL K02
section
variable {l : Nat} {os qs : List (List Nat)} {P : OP}
theorem OutsOk.sub (h : OutsOk l os) (s : List.Sublist qs os) : OutsOk l qs := ⟨fun o ho => h.1 o (s.mem ho), h.2.1.sublist s, Nat.le_trans s.length_le h.2.2⟩
end
end DL.S
namespace DL.S
open PySem PySem.Spec PyProof.Rows L2 DL K02
end DL.S
namespace DL.S
open PySem PySem.Spec PyProof.Rows L2 DL K02
end DL.S
namespace DL.S
open PySem PySem.Spec PyProof.Rows L2 DL K02
end DL.S
namespace DL.S
open PySem PySem.Spec PyProof.Rows L2 DL K02
end DL.S

set_option maxHeartbeats 1000000
namespace DL.S
open PySem PySem.Spec PyProof.Rows L2 DL K02
end DL.S
namespace DL.S
open PySem PySem.Spec PyProof.Rows L2 DL K02
end DL.S
namespace DL.S
open PySem PySem.Spec PyProof.Rows L2 DL K02
end DL.S

set_option maxHeartbeats 1000000
namespace DL.S
open PySem PySem.Spec PyProof.Rows L2 DL K02
end DL.S

set_option maxHeartbeats 1000000
namespace DL.S
open PySem PySem.Spec PyProof.Rows L2 DL K02
end DL.S

set_option maxHeartbeats 1000000
namespace DL.S
open PySem PySem.Spec PyProof.Rows L2 DL K02
end DL.S

set_option maxHeartbeats 1000000
namespace DL.S
open PySem PySem.Spec PyProof.Rows L2 DL K02
end DL.S

set_option maxHeartbeats 1000000
namespace DL.S
open PySem PySem.Spec PyProof.Rows L2 DL K02
end DL.S

set_option maxHeartbeats 1000000
namespace DL.S
open PySem PySem.Spec PyProof.Rows L2 DL K02
end DL.S
namespace DL.S
open PySem PySem.Spec PyProof.Rows L2 DL K02
end DL.S
namespace DL.S
open PySem PySem.Spec PyProof.Rows L2 DL K02
end DL.S

set_option maxHeartbeats 1000000
namespace DL.S
open PySem PySem.Spec PyProof.Rows L2 DL K02
section
variable {a b : Nat}
end
end DL.S

set_option maxHeartbeats 1000000
namespace DL.S
open PySem PySem.Spec PyProof.Rows L2 DL K02
end DL.S

set_option maxHeartbeats 1000000
namespace DL.S
open PySem PySem.Spec PyProof.Rows L2 DL K02
end DL.S

set_option maxHeartbeats 1000000
namespace DL.S
open PySem PySem.Spec PyProof.Rows L2 DL K02
section
variable {n t : Nat} {ps : List Lk} {o : List Nat}
end
end DL.S

set_option maxHeartbeats 1000000
namespace DL.S
open PySem PySem.Spec PyProof.Rows L2 DL K02
section
variable {n t : Nat} {ps : List Lk} {o : List Nat}
end
end DL.S

set_option maxHeartbeats 1000000
namespace DL.S
open PySem PySem.Spec PyProof.Rows L2 DL K02
end DL.S

set_option maxHeartbeats 1000000
namespace DL.S
open PySem PySem.Spec PyProof.Rows L2 DL K02
end DL.S

set_option maxHeartbeats 1000000
namespace DL.S
namespace GD
open PySem PySem.Spec PyProof.Rows L2 DL DL.S K02
end GD
open PySem PySem.Spec PyProof.Rows L2 DL DL.S K02
end DL.S

set_option maxHeartbeats 1000000
namespace K27
open PySem PySem.Spec PyProof.Rows L2 DL DL.S
open K02
set_option hygiene false
local macro_rules | `(tactic| trivial) => `(tactic| with_reducible exact eva_nil)
local macro_rules | `(tactic| trivial) => `(tactic| ((with_reducible apply ev_bin) <;> trivial))
local macro_rules | `(tactic| trivial) => `(tactic| ((with_reducible apply ev_if) <;> trivial))
local macro_rules | `(tactic| trivial) => `(tactic| ((with_reducible apply AU.aTup) <;> first | rfl | trivial))
local macro_rules | `(tactic| trivial) => `(tactic| ((with_reducible apply AU.aLst) <;> first | rfl | trivial))
local macro_rules | `(tactic| trivial) => `(tactic| ((with_reducible apply AU.aLstN) <;> first | rfl | trivial))
local macro_rules | `(tactic| trivial) => `(tactic| ((with_reducible apply AU.aLen) <;> first | rfl | trivial))
local macro_rules | `(tactic| trivial) => `(tactic| ((with_reducible apply AU.aTupL) <;> first | rfl | trivial))
local macro_rules | `(tactic| trivial) => `(tactic| ((with_reducible apply eva_cons) <;> trivial))
local macro_rules | `(tactic| trivial) => `(tactic| with_reducible exact ev_c)
local macro_rules | `(tactic| trivial) => `(tactic| ((with_reducible apply AU.ao) <;> rfl))
local macro_rules | `(tactic| trivial) => `(tactic| ((with_reducible apply AU.av) <;> rfl))
local macro_rules | `(tactic| trivial) => `(tactic| with_reducible exact e2_add)
local macro_rules | `(tactic| trivial) => `(tactic| with_reducible exact e2_i0)
local macro_rules | `(tactic| trivial) => `(tactic| with_reducible exact e2_isn)
local macro_rules | `(tactic| trivial) => `(tactic| ((with_reducible apply e2_ix) <;> rfl))
local macro_rules | `(tactic| trivial) => `(tactic| ((with_reducible apply AU.aEq) <;> first | rfl | trivial))
local macro_rules | `(tactic| trivial) => `(tactic| ((with_reducible apply AU.aSame) <;> first | trivial | rfl))
local macro_rules | `(tactic| trivial) => `(tactic| ((with_reducible apply evb_tst) <;> trivial))
local macro_rules | `(tactic| trivial) => `(tactic| ((with_reducible apply evb_not) <;> trivial))
local macro_rules | `(tactic| trivial) => `(tactic| with_reducible exact AU.gNil)
local macro_rules | `(tactic| trivial) => `(tactic| ((with_reducible apply AU.gCons) <;> trivial))
local macro_rules | `(tactic| trivial) => `(tactic| ((with_reducible apply AU.gLst) <;> first | rfl | trivial))
local macro_rules | `(tactic| trivial) => `(tactic| ((with_reducible apply AU.gTup) <;> first | rfl | trivial))
local macro_rules | `(tactic| trivial) => `(tactic| with_reducible assumption)

section
variable {D : En} {x0 x2 : Option Sl} {m : Mem} {c n t k : Nat} {ps : List Lk} {o : List Nat}
end
end K27

set_option maxHeartbeats 0
namespace K27
open PySem PySem.Spec PyProof.Rows L2 DL DL.S
open K02
abbrev st_BadBook_xi : Stmt := (inCls (top 3) 0)
abbrev st_BadNet_xi : Stmt := (inCls (top 5) 0)
def fn : List DefX := [⟨(.m "Net" "__len__"), "__len__", "Net.__len__", defArgs st_Net_len, defBody st_Net_len, defScope st_Net_len⟩,
  ⟨(.g "_law_deck"), "_law_deck", "_law_deck", defArgs st_law_deck, defBody st_law_deck, defScope st_law_deck⟩,
  ⟨(.g "_law_next"), "_law_next", "_law_next", defArgs st_law_next, defBody st_law_next, defScope st_law_next⟩,
  ⟨(.g "_law_pairs"), "_law_pairs", "_law_pairs", defArgs st_law_pairs, defBody st_law_pairs, defScope st_law_pairs⟩,
  ⟨(.g "_law_net"), "_law_net", "_law_net", defArgs st_law_net, defBody st_law_net, defScope st_law_net⟩,
  ⟨(.g "_law_outage"), "_law_outage", "_law_outage", defArgs st_law_outage, defBody st_law_outage, defScope st_law_outage⟩,
  ⟨(.g "_law_labels"), "_law_labels", "_law_labels", defArgs st_law_labels, defBody st_law_labels, defScope st_law_labels⟩,
  ⟨(.g "_law_thinned"), "_law_thinned", "_law_thinned", defArgs st_law_thinned, defBody st_law_thinned, defScope st_law_thinned⟩,
  ⟨(.g "is_pair"), "is_pair", "is_pair", defArgs st_is_pair, defBody st_is_pair, defScope st_is_pair⟩,
  ⟨(.g "is_whole"), "is_whole", "is_whole", defArgs st_is_whole, defBody st_is_whole, defScope st_is_whole⟩,
  ⟨(.g "is_below"), "is_below", "is_below", defArgs st_is_below, defBody st_is_below, defScope st_is_below⟩,
  ⟨(.p "Net" "nodes"), "nodes", "Net.nodes", defArgs st_Net_nodes, defBody st_Net_nodes, defScope st_Net_nodes⟩,
  ⟨(.m "Net" "at"), "at", "Net.at", defArgs st_Net_at, defBody st_Net_at, defScope st_Net_at⟩,
  ⟨(.g "is_key"), "is_key", "is_key", defArgs st_is_key, defBody st_is_key, defScope st_is_key⟩,
  ⟨(.g "is_row"), "is_row", "is_row", defArgs st_is_row, defBody st_is_row, defScope st_is_row⟩,
  ⟨(.g "book_error"), "book_error", "book_error", defArgs st_book_error, defBody st_book_error, defScope st_book_error⟩,
  ⟨(.m "Book" "__init__"), "__init__", "Book.__init__", defArgs st_Book_init, defBody st_Book_init, defScope st_Book_init⟩,
  ⟨(.g "keys_of"), "keys_of", "keys_of", defArgs st_keys_of, defBody st_keys_of, defScope st_keys_of⟩,
  ⟨(.c "Book" "turning"), "turning", "Book.turning", defArgs st_Book_turning, defBody st_Book_turning, defScope st_Book_turning⟩,
  ⟨(.g "is_link"), "is_link", "is_link", defArgs st_is_link, defBody st_is_link, defScope st_is_link⟩,
  ⟨(.g "net_error"), "net_error", "net_error", defArgs st_net_error, defBody st_net_error, defScope st_net_error⟩,
  ⟨(.m "Net" "__init__"), "__init__", "Net.__init__", defArgs st_Net_init, defBody st_Net_init, defScope st_Net_init⟩,
  ⟨(.p "Book" "target"), "target", "Book.target", defArgs st_Book_target, defBody st_Book_target, defScope st_Book_target⟩,
  ⟨(.p "Book" "net"), "net", "Book.net", defArgs st_Book_net, defBody st_Book_net, defScope st_Book_net⟩,
  ⟨(.m "Book" "row_at"), "row_at", "Book.row_at", defArgs st_Book_row_at, defBody st_Book_row_at, defScope st_Book_row_at⟩,
  ⟨(.m "Net" "far"), "far", "Net.far", defArgs st_Net_far, defBody st_Net_far, defScope st_Net_far⟩,
  ⟨(.g "next_stop"), "next_stop", "next_stop", defArgs st_next_stop, defBody st_next_stop, defScope st_next_stop⟩,
  ⟨(.g "walked"), "walked", "walked", defArgs st_walked, defBody st_walked, defScope st_walked⟩,
  ⟨(.g "fate"), "fate", "fate", defArgs st_fate, defBody st_fate, defScope st_fate⟩,
  ⟨(.g "_law_right"), "_law_right", "_law_right", defArgs st_law_right, defBody st_law_right, defScope st_law_right⟩,
  ⟨(.g "law"), "law", "law", defArgs st_law, defBody st_law, defScope st_law⟩,
  ⟨(.m "BadBook" "__init__"), "__init__", "BadBook.__init__", defArgs st_BadBook_xi, defBody st_BadBook_xi, defScope st_BadBook_xi⟩,
  ⟨(.m "BadNet" "__init__"), "__init__", "BadNet.__init__", defArgs st_BadNet_xi, defBody st_BadNet_xi, defScope st_BadNet_xi⟩]
def ex : List Fk := [noSysB,
  tab.chk,
  (fun K => (He.Fa.free "abs").ok K),
  (fun K => (He.Fa.free "all").ok K),
  (fun K => (He.Fa.free "bool").ok K),
  (fun K => (He.Fa.free "enumerate").ok K),
  (fun K => (He.Fa.free "int").ok K),
  (fun K => (He.Fa.free "isinstance").ok K),
  (fun K => (He.Fa.free "len").ok K),
  (fun K => (He.Fa.free "list").ok K),
  (fun K => (He.Fa.free "max").ok K),
  (fun K => (He.Fa.free "min").ok K),
  (fun K => (He.Fa.free "range").ok K),
  (fun K => (He.Fa.free "set").ok K),
  (fun K => (He.Fa.free "sorted").ok K),
  (fun K => (He.Fa.free "tuple").ok K),
  (fun K => (He.Fa.int "MAX_LINKS" 8).ok K),
  (fun K => (He.Fa.int "MAX_NODES" 7).ok K),
  (fun K => (He.Fa.glo "Book").ok K),
  (tab.fiC "goal" ft_goal),
  (tab.fiC "ground" ft_ground),
  (tab.fiC "pairs" ft_pairs),
  (tab.fiC "size" ft_size),
  (tab.fiC "told" ft_told),
  (tab.fiC "turns" ft_turns),
  (tab.fiC "width" ft_width),
  noLstB,
  (fun K => (He.Fa.glo "_law_deck").ok K),
  (fun K => (He.Fa.glo "_law_next").ok K),
  (fun K => (He.Fa.glo "_law_pairs").ok K),
  (fun K => (He.Fa.glo "_law_net").ok K),
  (fun K => (He.Fa.glo "_law_outage").ok K),
  (fun K => (He.Fa.glo "_law_labels").ok K),
  (fun K => (He.Fa.glo "_law_thinned").ok K),
  (fun K => (He.Fa.glo "is_pair").ok K),
  (fun K => (He.Fa.glo "is_whole").ok K),
  (fun K => (He.Fa.glo "is_below").ok K),
  (fun K => (He.Fa.glo "is_key").ok K),
  (fun K => (He.Fa.glo "is_row").ok K),
  (fun K => (He.Fa.glo "book_error").ok K),
  (fun K => (He.Fa.glo "keys_of").ok K),
  (fun K => (He.Fa.glo "is_link").ok K),
  (fun K => (He.Fa.glo "net_error").ok K),
  (fun K => (He.Fa.glo "next_stop").ok K),
  (fun K => (He.Fa.glo "walked").ok K),
  (fun K => (He.Fa.glo "fate").ok K),
  (fun K => (He.Fa.glo "_law_right").ok K),
  (fun K => (He.Fa.glo "law").ok K),
  (tab.prC 3 "nodes"),
  (tab.duC 3 "__len__"),
  (tab.meC 3 "at"),
  (tab.meC 22 "row_at"),
  (tab.meC 3 "far"),
  (tab.prC 22 "net"),
  (tab.prC 22 "target"),
  (tab.cmC 22 "turning"),
  (fun K => (He.Fa.glo "Net").ok K),
  (tab.mkC 3),
  (fun K => (He.Fa.glo "Book").ok K),
  (tab.mkC 22),
  (fun K => (He.Fa.glo "BadBook").ok K),
  (tab.xcC 5 ["error"]),
  (fun K => (He.Fa.glo "BadNet").ok K),
  (tab.xcC 2 ["error"])]
abbrev R : PySem.W.OpenRow := PySem.W.OpenLaw.row PySem.Challenge.rw_sparerows_k27_whole_turning_books_come_h
abbrev hk : PySem.W.Hook := hookR 2000 ex fn
def ob (s : PySem.W.SharedT) : AlY := obsRG 2000 ex fn (HandSHeadRun.getT s)
def loose0 : List Str := ["_wall", "SpareError", "BadBook", "BadLink", "BadNet", "is_whole", "is_below", "is_pair", "is_key", "is_row", "book_error", "keys_of", "Book", "MAX_LINKS", "MAX_NODES", "is_link", "net_error", "Net", "next_stop", "walked", "fate", "_law_deck", "_law_next", "_law_pairs", "_law_net", "_law_outage", "_law_labels", "_law_thinned", "_law_right"]
def loose : List Str := loose0
theorem run (w : World) : HandSHeadRun.RunEq R (PySem.W.view R.prog [35]) hk ob 20000 loose w := by
  intro os
  kernel_rfl
end K27
set_option Elab.async false
set_option linter.all false
set_option maxRecDepth 100000
set_option maxHeartbeats 1000000
namespace DL
open PySem PySem.Spec PyProof.Rows L2

theorem tg_upd {T : List (Addr × Str)} {H G : Hp} {p : Addr} {o : HO} (t : LamX.Tabs T H) (h : Calm (H p)) (g : ∀ q ∈ T, G q.1 = none) : ∀ q ∈ T, upd G p o q.1 = none := fun q hq => by
  obtain ⟨ps, h1, h2, h3⟩ := t q hq
  rw [upd_ne (fun z => h.1 ps (by rw [← z]; exact h1))]
  exact g q hq

section
variable {C : Ct} {w : World} {K : PySem.W.Frag} {al al' : List Addr} {G G' : Hp}
theorem FzAll.get' {vs ds} {i : Nat} {v : V} (h : FzAll C w K al G vs ds) (e : vs[i]? = some v) : ∃ d, ds[i]? = some d ∧ Fz C w K al G v d := by
  have hl := h.length
  have hi : i < vs.length := (List.getElem?_eq_some_iff.mp e).1
  have hd : ds[i]? = some ds[i] := List.getElem?_eq_getElem (by omega)
  obtain ⟨v', h1, h2⟩ := h.get hd
  rw [e] at h1; cases h1
  exact ⟨_, hd, h2⟩
theorem FzAll.append {vs ds us es} (h : FzAll C w K al G vs ds) (h' : FzAll C w K al G us es) : FzAll C w K al G (vs ++ us) (ds ++ es) := by
  induction ds generalizing vs with
  | nil => cases h; exact h'
  | cons d ds ih => cases h with | cons x r => exact .cons x (ih r)
theorem FzAll.take {vs ds} (n : Nat) (h : FzAll C w K al G vs ds) : FzAll C w K al G (vs.take n) (ds.take n) := by
  induction ds generalizing vs n with
  | nil => cases h; simp; exact .nil
  | cons d ds ih =>
    cases h with
    | cons x r =>
      cases n with
      | zero => exact .nil
      | succ n => exact .cons x (ih n r)
theorem FzAll.drop {vs ds} (n : Nat) (h : FzAll C w K al G vs ds) : FzAll C w K al G (vs.drop n) (ds.drop n) := by
  induction ds generalizing vs n with
  | nil => cases h; simp; exact .nil
  | cons d ds ih =>
    cases h with
    | cons x r =>
      cases n with
      | zero => exact .cons x r
      | succ n => exact ih n r
theorem FzAll.reverse {vs ds} (h : FzAll C w K al G vs ds) : FzAll C w K al G vs.reverse ds.reverse := by
  induction ds generalizing vs with
  | nil => cases h; exact .nil
  | cons d ds ih =>
    cases h with
    | cons x r => rw [List.reverse_cons, List.reverse_cons]; exact (ih r).append (.cons x .nil)
end

theorem Nw.le.refl (a : Nw) : a.le a := ⟨fun _ _ h => h, fun _ _ h _ _ => h, fun _ h => h, fun _ _ => rfl, List.prefix_rfl, fun k p h e => by
  rw [List.getElem?_eq_none h] at e; cases e⟩
section
variable (C : Ct) (w : World) (K : PySem.W.Frag)
end

section
variable {C : Ct} {w : World} {K : PySem.W.Frag} {B n n' : Nw} {m m' : Mem} {env : Env'} {σ : L2.St}
theorem Ok.go (o : Ok C w K B n env m σ) (g : Good C w K n' m') (l : n.le n') : Ok C w K B n' env m' σ := ⟨g, o.base.trans l, o.env.le l⟩
theorem Nw.le.base {p : Addr} (l : B.le n) (h : n.H p = none) : B.H p = none := by
  cases e : B.H p with
  | none => rfl
  | some u => exact absurd h (l.there p (by rw [e]; simp))
theorem Good.freeze {p : Addr} {o : HO} (g : Good C w K n m) (hp : n.H p = none) : Good C w K ⟨upd n.G p o, n.al, upd n.H p o⟩ m ∧ n.le ⟨upd n.G p o, n.al, upd n.H p o⟩ := by
  obtain ⟨b2, b4⟩ := g.free hp
  have ne : ∀ a u, n.H a = some u → a ≠ p := fun a u e z => by subst z; rw [hp] at e; cases e
  have neg : ∀ a u, n.G a = some u → a ≠ p := fun a u e z => by subst z; rw [b2] at e; cases e
  have l : n.le ⟨upd n.G p o, n.al, upd n.H p o⟩ := ⟨fun a u e => by
    show upd n.G p o a = some u
    rw [upd_ne (neg a u e)]; exact e, fun a u e _ _ => by
    show upd n.H p o a = some u
    rw [upd_ne (ne a u e)]; exact e, fun a e => by
    show upd n.H p o a ≠ none
    rw [upd_ne (fun z => by subst z; exact e hp)]; exact e, fun a e => by
    show upd n.G p o a = _
    rw [upd_ne (fun z => by subst z; exact e hp)], List.prefix_rfl, fun k a hk e => by
    have e' : n.al[k]? = some a := e
    rw [List.getElem?_eq_none hk] at e'; cases e'⟩
  refine ⟨⟨fun a u e => ?_, g.nd, g.len, fun k x a e1 e2 => ?_, Tabs_upd g.tab (Calm.none hp), tg_upd g.tab (Calm.none hp) g.tg⟩, l⟩
  · have e' : upd n.G p o a = some u := e
    show upd n.H p o a = some u
    by_cases z : a = p
    · subst z; rw [upd_same] at e'; rw [upd_same]; exact e'
    · rw [upd_ne z] at e'; rw [upd_ne z]; exact g.sub a u e'
  · obtain ⟨h1, h2⟩ := g.at_ k x a e1 e2
    have na : a ≠ p := fun z => b4 (z ▸ List.mem_of_getElem? e2)
    refine ⟨h1.imp l.g (pre_get l.ale) fun u e => ?_, ?_⟩
    · show upd n.H p o a = some u
      rw [upd_ne na]; exact e
    · show upd n.G p o a = none
      rw [upd_ne na]; exact h2
theorem EnvOk.setF {i : Nat} {v : V} {d : Dat} (h : EnvOk C w K B n env σ) (hx : FzN C w K n v d) : EnvOk C w K B n (env.set i (some (.f d))) (σ.set i (some v)) := by
  refine ⟨by simp [h.len], fun j y e => ?_, fun j y e => ?_, fun j k x y a e1 e2 f1 f2 => ?_⟩
  · by_cases hj : i = j
    · subst hj
      have hlt : i < env.length := by
        have := (List.getElem?_eq_some_iff.mp e).1
        simpa using this
      rw [List.getElem?_set_self hlt] at e
      cases e
      exact ⟨v, List.getElem?_set_self (by rw [← h.len]; exact hlt), hx⟩
    · rw [List.getElem?_set_ne hj] at e
      rw [List.getElem?_set_ne hj]
      exact h.fz j y e
  · by_cases hj : i = j
    · subst hj
      have hlt : i < env.length := by
        have := (List.getElem?_eq_some_iff.mp e).1
        simpa using this
      rw [List.getElem?_set_self hlt] at e
      cases e
    · rw [List.getElem?_set_ne hj] at e
      rw [List.getElem?_set_ne hj]
      exact h.own j y e
  · by_cases hj : i = j
    · subst hj
      have hlt : i < env.length := by
        have := (List.getElem?_eq_some_iff.mp e1).1
        simpa using this
      rw [List.getElem?_set_self hlt] at e1
      cases e1
    · by_cases hk : i = k
      · subst hk
        have hlt : i < env.length := by
          have := (List.getElem?_eq_some_iff.mp e2).1
          simpa using this
        rw [List.getElem?_set_self hlt] at e2
        cases e2
      · rw [List.getElem?_set_ne hj] at e1 f1
        rw [List.getElem?_set_ne hk] at e2 f2
        exact h.apart j k x y a e1 e2 f1 f2
theorem EnvOk.setO {i : Nat} {a : Addr} {z : Mo} (h : EnvOk C w K B n env σ) (hx : OwnAt C w K B n a z) (ha : ∀ (j : Nat) y, j ≠ i → env[j]? = some (some (.own y)) → σ[j]? ≠ some (some (.ref a))) :
    EnvOk C w K B n (env.set i (some (.own z))) (σ.set i (some (.ref a))) := by
  refine ⟨by simp [h.len], fun j y e => ?_, fun j y e => ?_, fun j k x y b e1 e2 f1 f2 => ?_⟩
  · by_cases hj : i = j
    · subst hj
      have hlt : i < env.length := by
        have := (List.getElem?_eq_some_iff.mp e).1
        simpa using this
      rw [List.getElem?_set_self hlt] at e
      cases e
    · rw [List.getElem?_set_ne hj] at e
      rw [List.getElem?_set_ne hj]
      exact h.fz j y e
  · by_cases hj : i = j
    · subst hj
      have hlt : i < env.length := by
        have := (List.getElem?_eq_some_iff.mp e).1
        simpa using this
      rw [List.getElem?_set_self hlt] at e
      cases e
      exact ⟨a, List.getElem?_set_self (by rw [← h.len]; exact hlt), hx⟩
    · rw [List.getElem?_set_ne hj] at e
      rw [List.getElem?_set_ne hj]
      exact h.own j y e
  · have hi : ∀ {j : Nat} {y : Mo}, i = j → (env.set i (some (.own z)))[j]? = some (some (.own y)) → (σ.set i (some (V.ref a)))[j]? = some (some (.ref a)) := by
      intro j y q e
      subst q
      have hlt : i < env.length := by
        have := (List.getElem?_eq_some_iff.mp e).1
        simpa using this
      exact List.getElem?_set_self (by rw [← h.len]; exact hlt)
    by_cases hj : i = j
    · by_cases hk : i = k
      · exact hj.symm.trans hk
      · have q := hi hj e1
        rw [q] at f1
        cases f1
        rw [List.getElem?_set_ne hk] at e2 f2
        exact absurd f2 (ha k y (Ne.symm hk) e2)
    · by_cases hk : i = k
      · have q := hi hk e2
        rw [q] at f2
        cases f2
        rw [List.getElem?_set_ne hj] at e1 f1
        exact absurd f1 (ha j x (Ne.symm hj) e1)
      · rw [List.getElem?_set_ne hj] at e1 f1
        rw [List.getElem?_set_ne hk] at e2 f2
        exact h.apart j k x y b e1 e2 f1 f2
theorem Ok.setF {i : Nat} {v : V} {d : Dat} (h : Ok C w K B n env m σ) (hx : FzN C w K n v d) : Ok C w K B n (env.set i (some (.f d))) m (σ.set i (some v)) := ⟨h.good, h.base, h.env.setF hx⟩
theorem Ok.newO {i : Nat} {p : Addr} {o : HO} {z : Mo} (h : Ok C w K B n env m σ) (hp : n.H p = none) (hz : MoOk C w K ⟨n.G, n.al, upd n.H p o⟩ p z) :
    Ok C w K B ⟨n.G, n.al, upd n.H p o⟩ (env.set i (some (.own z))) m (σ.set i (some (.ref p))) := by
  obtain ⟨b2, b4⟩ := h.good.free hp
  have bn := h.base.base hp
  have ne : ∀ a u, n.H a = some u → a ≠ p := fun a u e z => by subst z; rw [hp] at e; cases e
  have e1 : EnvOk C w K B ⟨n.G, n.al, upd n.H p o⟩ env σ := ⟨h.env.len, h.env.fz, fun j y e => by
    obtain ⟨a, f, q⟩ := h.env.own j y e
    exact ⟨a, f, q.at (fun z => q.ok.there (z ▸ hp))⟩, h.env.apart⟩
  refine ⟨h.good.at b2 b4 (Calm.none hp), h.base.at bn, e1.setO ⟨hz, b2, b4, bn⟩ fun j y hj e f => ?_⟩
  obtain ⟨a, f', q⟩ := h.env.own j y e
  rw [f] at f'; cases f'
  exact q.ok.there hp
theorem Ok.chgO {i : Nat} {a : Addr} {o : HO} {x z : Mo} (h : Ok C w K B n env m σ) (hi : env[i]? = some (some (.own x))) (ha : σ[i]? = some (some (.ref a))) (hz : MoOk C w K ⟨n.G, n.al, upd n.H a o⟩ a z) :
    Ok C w K B ⟨n.G, n.al, upd n.H a o⟩ (env.set i (some (.own z))) m σ := by
  obtain ⟨a', f', q⟩ := h.env.own i x hi
  rw [ha] at f'; cases f'
  have e1 : EnvOk C w K B ⟨n.G, n.al, upd n.H a o⟩ (env.set i (some (.own z))) (σ.set i (some (.ref a))) := by
    have hlt : i < env.length := (List.getElem?_eq_some_iff.mp hi).1
    refine ⟨by simp [h.env.len], fun j y e => ?_, fun j y e => ?_, fun j k x' y b e1 e2 f1 f2 => ?_⟩
    · by_cases hj : i = j
      · subst hj; rw [List.getElem?_set_self hlt] at e; cases e
      · rw [List.getElem?_set_ne hj] at e; rw [List.getElem?_set_ne hj]; exact h.env.fz j y e
    · by_cases hj : i = j
      · subst hj
        rw [List.getElem?_set_self hlt] at e; cases e
        exact ⟨a, List.getElem?_set_self (by rw [← h.env.len]; exact hlt), hz, q.g, q.al, q.new⟩
      · rw [List.getElem?_set_ne hj] at e
        rw [List.getElem?_set_ne hj]
        obtain ⟨b, f, q'⟩ := h.env.own j y e
        exact ⟨b, f, q'.at fun z => hj (h.env.apart i j x y a hi e ha (z ▸ f))⟩
    · have tr : ∀ {j : Nat} {y : Mo}, (env.set i (some (.own z)))[j]? = some (some (.own y)) → ∃ y', env[j]? = some (some (.own y')) := by
        intro j y e
        by_cases hj : i = j
        · subst hj; exact ⟨x, hi⟩
        · rw [List.getElem?_set_ne hj] at e; exact ⟨y, e⟩
      have ts : ∀ {j : Nat}, (σ.set i (some (V.ref a)))[j]? = some (some (.ref b)) → σ[j]? = some (some (.ref b)) := by
        intro j e
        by_cases hj : i = j
        · subst hj
          rw [List.getElem?_set_self (by rw [← h.env.len]; exact hlt)] at e
          rw [ha]; exact e
        · rw [List.getElem?_set_ne hj] at e; exact e
      obtain ⟨y1, g1⟩ := tr e1
      obtain ⟨y2, g2⟩ := tr e2
      exact h.env.apart j k y1 y2 b g1 g2 (ts f1) (ts f2)
  have eσ : σ.set i (some (V.ref a)) = σ := by
    have hs : i < σ.length := (List.getElem?_eq_some_iff.mp ha).1
    have : σ[i] = some (V.ref a) := (List.getElem?_eq_some_iff.mp ha).2
    rw [← this]; exact List.set_getElem_self hs
  rw [eσ] at e1
  exact ⟨h.good.at q.g q.al q.ok.calm, h.base.at q.new, e1⟩
theorem Ok.kill {i : Nat} {a : Addr} {o : HO} {x : Mo} {d : Dat} (h : Ok C w K B n env m σ) (hi : env[i]? = some (some (.own x))) (ha : σ[i]? = some (some (.ref a))) (ho : n.H a = some o) (hd : FzN C w K ⟨upd n.G a o, n.al, n.H⟩ (.ref a) d) :
    Ok C w K B ⟨upd n.G a o, n.al, n.H⟩ (env.set i (some (.f d))) m σ := by
  obtain ⟨a', f', q⟩ := h.env.own i x hi
  rw [ha] at f'; cases f'
  have neg : ∀ b u, n.G b = some u → b ≠ a := fun b u e z => by subst z; rw [q.g] at e; cases e
  have hg : ∀ b u, n.G b = some u → (upd n.G a o) b = some u := fun b u e => by rw [upd_ne (neg b u e)]; exact e
  have hs : i < σ.length := (List.getElem?_eq_some_iff.mp ha).1
  have eσ : σ.set i (some (V.ref a)) = σ := by
    have : σ[i] = some (V.ref a) := (List.getElem?_eq_some_iff.mp ha).2
    rw [← this]; exact List.set_getElem_self hs
  have hlt : i < env.length := (List.getElem?_eq_some_iff.mp hi).1
  refine ⟨⟨fun b u e => ?_, h.good.nd, h.good.len, fun k y b e1 e2 => ?_, h.good.tab, tg_upd h.good.tab q.ok.calm h.good.tg⟩, ⟨fun b u e => hg b u (h.base.g b u e), h.base.keepN, h.base.there, fun b e => ?_, h.base.ale, h.base.anew⟩, ⟨by simp [h.env.len], fun j y e => ?_, fun j y e => ?_, fun j k x' y b e1 e2 f1 f2 => ?_⟩⟩
  · have e' : upd n.G a o b = some u := e
    show n.H b = some u
    by_cases z : b = a
    · subst z; rw [upd_same] at e'; cases e'; exact ho
    · rw [upd_ne z] at e'; exact h.good.sub b u e'
  · obtain ⟨h1, h2⟩ := h.good.at_ k y b e1 e2
    refine ⟨h1.imp hg (fun _ _ e => e) fun u e => e, ?_⟩
    show upd n.G a o b = none
    rw [upd_ne (fun z => by subst z; exact q.al (List.mem_of_getElem? e2))]; exact h2
  · show upd n.G a o b = _
    rw [upd_ne (fun z => by subst z; exact e q.new)]; exact h.base.gnew b e
  · by_cases hj : i = j
    · subst hj; rw [List.getElem?_set_self hlt] at e; cases e; exact ⟨_, ha, hd⟩
    · rw [List.getElem?_set_ne hj] at e
      obtain ⟨v, f, z⟩ := h.env.fz j y e
      exact ⟨v, f, Fz.keep hg (fun _ _ e => e) z⟩
  · by_cases hj : i = j
    · subst hj; rw [List.getElem?_set_self hlt] at e; cases e
    · rw [List.getElem?_set_ne hj] at e
      obtain ⟨b, f, z⟩ := h.env.own j y e
      refine ⟨b, f, z.ok.imp hg (fun _ _ e => e) fun u e => e, ?_, z.al, z.new⟩
      show upd n.G a o b = none
      rw [upd_ne (fun y' => hj (h.env.apart i j x y a hi e ha (by rw [← y']; exact f)))]; exact z.g
  · by_cases hj : i = j
    · subst hj; rw [List.getElem?_set_self hlt] at e1; cases e1
    · by_cases hk : i = k
      · subst hk; rw [List.getElem?_set_self hlt] at e2; cases e2
      · rw [List.getElem?_set_ne hj] at e1
        rw [List.getElem?_set_ne hk] at e2
        exact h.env.apart j k x' y b e1 e2 f1 f2
theorem Good.chgM {k : Nat} {a : Addr} {o : HO} {x y : Mo} (g : Good C w K n m) (hk : n.al[k]? = some a) (hx : m[k]? = some x) (hy : MoOk C w K ⟨n.G, n.al, upd n.H a o⟩ a y) :
    Good C w K ⟨n.G, n.al, upd n.H a o⟩ (m.set k y) ∧ n.le ⟨n.G, n.al, upd n.H a o⟩ := by
  have hg := (g.at_ k x a hx hk).2
  have hm : a ∈ n.al := List.mem_of_getElem? hk
  refine ⟨⟨fun b u e => ?_, g.nd, by simp [g.len], fun j z b e1 e2 => ?_, Tabs_upd g.tab (g.at_ k x a hx hk).1.calm, g.tg⟩, ⟨fun b u e => e, fun b u e hn _ => ?_, fun b e => ?_, fun _ _ => rfl, List.prefix_rfl, fun j b hj e => ?_⟩⟩
  · show upd n.H a o b = some u
    rw [upd_ne (fun z => by subst z; have e' : n.G b = some u := e; rw [hg] at e'; cases e')]; exact g.sub b u e
  · by_cases hj : k = j
    · subst hj
      have e2' : n.al[k]? = some b := e2
      rw [hk] at e2'; cases e2'
      rw [List.getElem?_set_self (List.getElem?_eq_some_iff.mp hx).1] at e1
      cases e1
      exact ⟨hy, hg⟩
    · rw [List.getElem?_set_ne hj] at e1
      obtain ⟨h1, h2⟩ := g.at_ j z b e1 e2
      have nb : b ≠ a := fun q => hj (by
        subst q
        exact (List.getElem?_inj (List.getElem?_eq_some_iff.mp hk).1 g.nd).mp (hk.trans (Eq.symm e2)))
      refine ⟨h1.imp (n := n) (fun _ _ e => e) (fun _ _ e => e) fun u e => ?_, h2⟩
      show upd n.H a o b = some u
      rw [upd_ne nb]; exact e
  · show upd n.H a o b = some u
    rw [upd_ne (fun z => by subst z; exact hn hm)]; exact e
  · show upd n.H a o b ≠ none
    by_cases z : b = a
    · subst z; rw [upd_same]; simp
    · rw [upd_ne z]; exact e
  · have e' : n.al[j]? = some b := e
    rw [List.getElem?_eq_none hj] at e'; cases e'
theorem Good.newM {p : Addr} {o : HO} {x : Mo} (g : Good C w K n m) (hp : n.H p = none) (hx : MoOk C w K ⟨n.G, n.al ++ [p], upd n.H p o⟩ p x) :
    Good C w K ⟨n.G, n.al ++ [p], upd n.H p o⟩ (m ++ [x]) ∧ n.le ⟨n.G, n.al ++ [p], upd n.H p o⟩ := by
  obtain ⟨b2, b4⟩ := g.free hp
  have pre : n.al <+: n.al ++ [p] := List.prefix_append _ _
  refine ⟨⟨fun b u e => ?_, ?_, by simp [g.len], fun j z b e1 e2 => ?_, Tabs_upd g.tab (Calm.none hp), g.tg⟩, ⟨fun b u e => e, fun b u e hn _ => ?_, fun b e => ?_, fun _ _ => rfl, pre, fun j b hj e => ?_⟩⟩
  · show upd n.H p o b = some u
    rw [upd_ne (fun z => by subst z; have e' : n.G b = some u := e; rw [b2] at e'; cases e')]; exact g.sub b u e
  · show (n.al ++ [p]).Nodup
    rw [List.nodup_append]
    refine ⟨g.nd, by simp, fun a ha b hb z => ?_⟩
    have : b = p := by simpa using hb
    subst this; subst z; exact b4 ha
  · have e2' : (n.al ++ [p])[j]? = some b := e2
    by_cases hj : j < m.length
    · rw [List.getElem?_append_left hj] at e1
      rw [List.getElem?_append_left (by rw [← g.len]; exact hj)] at e2'
      obtain ⟨h1, h2⟩ := g.at_ j z b e1 e2'
      have nb : b ≠ p := fun q => h1.there (q ▸ hp)
      refine ⟨h1.imp (n := n) (fun _ _ e => e) (pre_get (a := n.al) pre) fun u e => ?_, h2⟩
      show upd n.H p o b = some u
      rw [upd_ne nb]; exact e
    · have hk2 : j = m.length := by
        have := (List.getElem?_eq_some_iff.mp e1).1
        rw [List.length_append] at this
        simp at this; omega
      rw [hk2, List.getElem?_append_right (Nat.le_refl _)] at e1
      rw [hk2, g.len, List.getElem?_append_right (Nat.le_refl _)] at e2'
      simp at e1 e2'
      subst e1; subst e2'
      exact ⟨hx, b2⟩
  · show upd n.H p o b = some u
    rw [upd_ne (fun z => by subst z; rw [hp] at e; cases e)]; exact e
  · show upd n.H p o b ≠ none
    rw [upd_ne (fun z => by subst z; exact e hp)]; exact e
  · have e' : (n.al ++ [p])[j]? = some b := e
    rw [List.getElem?_append_right hj] at e'
    have : b = p := by
      cases q : j - n.al.length with
      | zero => rw [q] at e'; simpa using e'.symm
      | succ r => rw [q] at e'; simp at e'
    subst this; exact hp
end
end DL

set_option maxHeartbeats 1000000
namespace DL
open PySem PySem.Spec PyProof.Rows L2

abbrev QL := Lv → Mem → Prop
abbrev TD := Env' → Mem → QL → Prop
abbrev TB := Env' → Mem → (Bool → Mem → Prop) → Prop
abbrev TAd := Env' → Mem → (List Lv → Mem → Prop) → Prop
abbrev TSd := En → Env' → Mem → Prop
abbrev AftL (C : Ct) (w : World) (K : PySem.W.Frag) (n : Nw) (env : Env') (σ : L2.St) (Q : VK) : QL := fun x m' => ∀ n' v, Good C w K n' m' → n.le n' → LvOk C w K n' env σ v x → Q v n'.H
def lE (C : Ct) (B : Nw) (w : World) (K : PySem.W.Frag) (d : TD) : TE := fun σ H Q => ∃ n env m, n.H = H ∧ Ok C w K B n env m σ ∧ d env m (AftL C w K n env σ Q)
def lB (C : Ct) (B : Nw) (w : World) (K : PySem.W.Frag) (d : TB) : TT := fun σ H Q => ∃ n env m, n.H = H ∧ Ok C w K B n env m σ ∧ d env m fun b m' => ∀ n', Good C w K n' m' → n.le n' → Q b n'.H
def lA (C : Ct) (B : Nw) (w : World) (K : PySem.W.Frag) (d : TAd) : TA := fun σ H Q => ∃ n env m, n.H = H ∧ Ok C w K B n env m σ ∧ d env m fun xs m' => ∀ n' vs, Good C w K n' m' → n.le n' → LvsOk C w K n' env σ vs xs → Q vs n'.H
theorem Nw.sub.refl (a : Nw) : a.sub a := ⟨fun _ _ h => h, List.prefix_rfl⟩
def lS (C : Ct) (B : Nw) (w : World) (K : PySem.W.Frag) (d : TSd) : TS := fun D σ H => ∃ n env m, n.H = H ∧ Ok C w K B n env m σ ∧ d (lD C B w K n D) env m
theorem En.le.refl (D : En) : En.le D D := ⟨fun _ _ h => h, fun _ _ h => h, fun _ _ h => h, fun _ _ h => h⟩

section
variable {C : Ct} {w : World} {K : PySem.W.Frag} {B n n' : Nw} {m m' : Mem} {env : Env'} {σ : L2.St}
end

section
variable {X : Cx}
theorem impT {e : Expr} {t t' : TT} (h : PT X e t) (i : ∀ σ H Q, t' σ H Q → t σ H Q) : PT X e t' := ⟨fun pins s σ H Q I q => h.run pins s σ H Q I (i σ H Q q)⟩
theorem impW {e : Expr} {t t' : TT} (h : PW X e t) (i : ∀ σ H Q, t' σ H Q → t σ H Q) : PW X e t' := ⟨fun wh pins s σ H Q I q => h.run wh pins s σ H Q I (i σ H Q q)⟩
theorem impA {es : List Expr} {t t' : TA} (h : PA X es t) (i : ∀ σ H Q, t' σ H Q → t σ H Q) : PA X es t' := ⟨fun pos pins s σ H Q I q => h.run pos pins s σ H Q I (i σ H Q q)⟩
theorem impS {st : Stmt} {t t' : TS} (h : PS X st t) (i : ∀ D σ H, t' D σ H → t D σ H) : PS X st t' := ⟨fun pins s σ H D I q => h.run pins s σ H D I (i D σ H q)⟩
theorem impSs {st : List Stmt} {t t' : TS} (h : PSs X st t) (i : ∀ D σ H, t' D σ H → t D σ H) : PSs X st t' := ⟨fun pins s σ H D I q => h.run pins s σ H D I (i D σ H q)⟩
end

def MonoD (d : TD) : Prop := ∀ env m (Q Q' : QL), (∀ x m', Q x m' → Q' x m') → d env m Q → d env m Q'
def MonoB (d : TB) : Prop := ∀ env m (Q Q' : Bool → Mem → Prop), (∀ x m', Q x m' → Q' x m') → d env m Q → d env m Q'
def MonoA (d : TAd) : Prop := ∀ env m (Q Q' : List Lv → Mem → Prop), (∀ x m', Q x m' → Q' x m') → d env m Q → d env m Q'
def MonoS (d : TSd) : Prop := ∀ env m D D', En.le D D' → d D env m → d D' env m
def Mono1 (f : Op1) : Prop := ∀ env m x (Q Q' : QD), (∀ x m', Q x m' → Q' x m') → f env m x Q → f env m x Q'
def Mono2 (f : Op2) : Prop := ∀ env m x y (Q Q' : QD), (∀ x m', Q x m' → Q' x m') → f env m x y Q → f env m x y Q'
def MonoN (f : OpN) : Prop := ∀ env m xs (Q Q' : QD), (∀ x m', Q x m' → Q' x m') → f env m xs Q → f env m xs Q'

structure DE (X : Cx) (C : Ct) (B : Nw) (e : Expr) (d : TD) : Prop where
  mono : MonoD d
  run : PE X e (lE C B X.w X.K d)
structure DT (X : Cx) (C : Ct) (B : Nw) (e : Expr) (d : TB) : Prop where
  mono : MonoB d
  run : PT X e (lB C B X.w X.K d)
structure DW (X : Cx) (C : Ct) (B : Nw) (e : Expr) (d : TB) : Prop where
  mono : MonoB d
  run : PW X e (lB C B X.w X.K d)
structure DA (X : Cx) (C : Ct) (B : Nw) (es : List Expr) (d : TAd) : Prop where
  mono : MonoA d
  run : PA X es (lA C B X.w X.K d)
structure DS (X : Cx) (C : Ct) (B : Nw) (st : Stmt) (d : TSd) : Prop where
  mono : MonoS d
  run : PS X st (lS C B X.w X.K d)
structure DSs (X : Cx) (C : Ct) (B : Nw) (st : List Stmt) (d : TSd) : Prop where
  mono : MonoS d
  run : PSs X st (lS C B X.w X.K d)

def rN (C : Ct) (w : World) (K : PySem.W.Frag) (f : OpN) : List V → Hp → VK → Prop := fun vs H Q => ∃ B n env m σ xs, n.H = H ∧ Ok C w K B n env m σ ∧ LvsOk C w K n env σ vs xs ∧ f env m xs (AftD C w K n Q)
structure OpD (X : Cx) (C : Ct) (F : Value → Value → Sem Value) (f : Op2) : Prop where
  mono : Mono2 f
  run : OpR X F (r2 C X.w X.K f)
structure UnD (X : Cx) (C : Ct) (F : Value → Sem Value) (f : Op1) : Prop where
  mono : Mono1 f
  run : UnR X F (r1 C X.w X.K f)
structure CallD (X : Cx) (C : Ct) (F : Value) (f : OpN) : Prop where
  mono : MonoN f
  run : CallR X F (rN C X.w X.K f)
structure IxD (X : Cx) (C : Ct) (f : Op2) : Prop where
  mono : Mono2 f
  run : IxR X (r2 C X.w X.K f)

def dBin (f : Op2) (da db : TD) : TD := fun env m Q => da env m fun x m1 => db env m1 fun y m2 => f env m2 x y fun z m3 => Q (.f z) m3
def dUn (f : Op1) (da : TD) : TD := fun env m Q => da env m fun x m1 => f env m1 x fun z m3 => Q (.f z) m3
theorem dBin.mono {f : Op2} {da db : TD} (hf : Mono2 f) (ha : MonoD da) (hb : MonoD db) : MonoD (dBin f da db) := fun env m Q Q' i h =>
  ha env m _ _ (fun x m1 h1 => hb env m1 _ _ (fun y m2 h2 => hf env m2 x y _ _ (fun z m3 => i _ _) h2) h1) h
theorem dUn.mono {f : Op1} {da : TD} (hf : Mono1 f) (ha : MonoD da) : MonoD (dUn f da) := fun env m Q Q' i h => ha env m _ _ (fun x m1 h1 => hf env m1 x _ _ (fun z m3 => i _ _) h1) h

section
variable {X : Cx} {C : Ct} {B : Nw} {a b e : Expr} {da db d : TD} {pos : Pos}
theorem bin_imp {f : Op2} (hf : Mono2 f) (ha : MonoD da) (hb : MonoD db) : ∀ σ H Q, lE C B X.w X.K (dBin f da db) σ H Q → tOp (r2 C X.w X.K f) (lE C B X.w X.K da) (lE C B X.w X.K db) σ H Q := by
  rintro σ H Q ⟨n, env, m, rfl, ok, h⟩
  refine ⟨n, env, m, rfl, ok, ha _ _ _ _ (fun x m1 h1 n1 v ok1 l1 lx => ?_) h⟩
  refine ⟨n1, env, m1, rfl, ok.go ok1 l1, hb _ _ _ _ (fun y m2 h2 n2 u ok2 l2 ly => ?_) h1⟩
  exact ⟨B, n2, env, m2, σ, x, y, rfl, ok.go ok2 (l1.trans l2), lx.le l2, ly, hf _ _ _ _ _ _ (fun z m3 h3 n3 v3 ok3 l3 lz => h3 n3 v3 ok3 (l1.trans (l2.trans l3)) lz) h2⟩
theorem un_imp {f : Op1} (hf : Mono1 f) (ha : MonoD da) : ∀ σ H Q, lE C B X.w X.K (dUn f da) σ H Q → tUn (r1 C X.w X.K f) (lE C B X.w X.K da) σ H Q := by
  rintro σ H Q ⟨n, env, m, rfl, ok, h⟩
  refine ⟨n, env, m, rfl, ok, ha _ _ _ _ (fun x m1 h1 n1 v ok1 l1 lx => ?_) h⟩
  exact ⟨B, n1, env, m1, σ, x, rfl, ok.go ok1 l1, lx, hf _ _ _ _ _ (fun z m3 h3 n3 v3 ok3 l3 lz => h3 n3 v3 ok3 (l1.trans l3) lz) h1⟩
theorem de_bin {op : Operator} {f : Op2} (ho : OpD X C (binaryOp op) f) (ha : DE X C B a da) (hb : DE X C B b db) : DE X C B (.BinOp a op b pos) (dBin f da db) :=
  ⟨dBin.mono ho.mono ha.mono hb.mono, imp (pe_op ho.run ha.run hb.run) (bin_imp ho.mono ha.mono hb.mono)⟩
theorem de_un {op : UnaryOp} {f : Op1} (ho : UnD X C (unaryOp op) f) (ha : DE X C B a da) : DE X C B (.UnaryOp op a pos) (dUn f da) :=
  ⟨dUn.mono ho.mono ha.mono, imp (pe_un ho.run ha.run) (un_imp ho.mono ha.mono)⟩
theorem de_cmp {op : CmpOp} {f : Op2} (ho : OpD X C (compareOp op) f) (ha : DE X C B a da) (hb : DE X C B b db) (hm : behindInMarks op b = false := by first | exact nomark _ | rfl) : DE X C B (.Compare a [op] [b] pos) (dBin f da db) :=
  ⟨dBin.mono ho.mono ha.mono hb.mono, imp (pe_cmpR ho.run ha.run hb.run hm) (bin_imp ho.mono ha.mono hb.mono)⟩
theorem de_ix {f : Op2} (ho : IxD X C f) (ha : DE X C B a da) (hb : DE X C B b db) (hs : PlainIx b := by exact fun _ _ => rfl) : DE X C B (.Subscript a b pos) (dBin f da db) :=
  ⟨dBin.mono ho.mono ha.mono hb.mono, imp (pe_ix ho.run ha.run hb.run hs) (bin_imp ho.mono ha.mono hb.mono)⟩

def dVar (i : Nat) : TD := fun env m Q => match env[i]? with
  | some (some (.f d)) => Q (.f d) m
  | some (some (.own _)) => Q (.o i) m
  | _ => False
def dC (d : Dat) : TD := fun _ m Q => Q (.f d) m
theorem dVar.mono (i : Nat) : MonoD (dVar i) := fun env m Q Q' h => by
  unfold dVar
  split
  · exact h _ _
  · exact h _ _
  · exact id
theorem dC.mono (d : Dat) : MonoD (dC d) := fun env m Q Q' h => h _ _
theorem de_var (i : Nat) {x : Str} {pos : Pos} (hN : X.N[i]? = some x := by rfl) (hv : Vis X.env.scope x := by first | exact Or.inl rfl | exact Or.inr (Or.inl rfl) | exact Or.inr (Or.inr rfl)) (hd : (x == ("__debug__" : Str)) = false := by decide)
    (hcd : (x == ("__classdict__" : Str)) = false := by decide) : DE X C B (.Name x pos) (dVar i) := by
  refine ⟨dVar.mono i, imp (pe_var hN hv hd hcd) ?_⟩
  rintro σ H Q ⟨n, env, m, rfl, ok, h⟩
  unfold dVar at h
  split at h
  · rename_i d hx
    obtain ⟨v, e1, h1⟩ := ok.env.fz i d hx
    exact ⟨v, e1, h n v ok.good (.refl _) h1⟩
  · rename_i x hx
    obtain ⟨a, e1, h1⟩ := ok.env.own i x hx
    exact ⟨_, e1, h n _ ok.good (.refl _) ⟨e1, x, hx⟩⟩
  · exact h.elim
theorem const_imp {d : Dat} {v : V} (hz : ∀ C w K al G, Fz C w K al G v d) : ∀ σ H Q, lE C B X.w X.K (dC d) σ H Q → tC v σ H Q := by
  rintro σ H Q ⟨n, env, m, rfl, ok, h⟩
  exact h n v ok.good (.refl _) (hz ..)
theorem de_int {i j} {pos : Pos} : DE X C B (.Constant (.int i) j pos) (dC (.int i)) := ⟨dC.mono _, imp pe_int (const_imp fun _ _ _ _ _ => .int _)⟩
theorem de_bl {i j} {pos : Pos} : DE X C B (.Constant (.bool i) j pos) (dC (.bl i)) := ⟨dC.mono _, imp pe_bl (const_imp fun _ _ _ _ _ => .bl _)⟩
theorem de_non {j} {pos : Pos} : DE X C B (.Constant .none j pos) (dC .non) := ⟨dC.mono _, imp pe_non (const_imp fun _ _ _ _ _ => .non)⟩
theorem de_str {i j} {pos : Pos} : DE X C B (.Constant (.str i) j pos) (dC (.str i)) := ⟨dC.mono _, imp pe_str (const_imp fun _ _ _ _ _ => .str _)⟩
theorem de_glob {x : Str} {v : V} {d : Dat} {u : Value} {pos : Pos} (hg : Gl X x) (hm : X.mg x = some u) (r : RelV v u) (hz : ∀ C w K al G, Fz C w K al G v d) (hd : (x == ("__debug__" : Str)) = false := by decide) : DE X C B (.Name x pos) (dC d) :=
  ⟨dC.mono _, imp (pe_glob hg hm r hd) (const_imp hz)⟩
theorem de_bltn {x : Str} {v : V} {d : Dat} {u : Value} {pos : Pos} (hg : Gl X x) (hm : X.mg x = none) (hv : bootBuiltins x = some u) (r : RelV v u) (hz : ∀ C w K al G, Fz C w K al G v d) (hn : x ≠ "__name__" := by decide) (hd : (x == ("__debug__" : Str)) = false := by decide) :
    DE X C B (.Name x pos) (dC d) := ⟨dC.mono _, imp (pe_bltn hg hm hv r hn hd) (const_imp hz)⟩

def dTst (d : TD) : TB := fun env m Q => d env m fun x m1 => match x with
  | .f (.bl b) => Q b m1
  | _ => False
theorem dTst.mono (h : MonoD d) : MonoB (dTst d) := fun env m Q Q' i => h env m _ _ fun x m1 => by
  cases x with
  | o k => exact id
  | f y => cases y <;> first | exact id | exact i _ _
theorem tst_imp {f : Op2} (hf : Mono2 f) (ha : MonoD da) (hb : MonoD db) : ∀ σ H Q, lB C B X.w X.K (dTst (dBin f da db)) σ H Q → tTest (tOp (r2 C X.w X.K f) (lE C B X.w X.K da) (lE C B X.w X.K db)) σ H Q := by
  rintro σ H Q ⟨n, env, m, rfl, ok, h⟩
  refine bin_imp (B := B) hf ha hb σ _ _ ⟨n, env, m, rfl, ok, dBin.mono hf ha hb _ _ _ _ (fun x m1 h1 n1 v ok1 l1 lx => ?_) h⟩
  cases x with
  | o k => exact h1.elim
  | f y =>
    cases y with
    | bl c => cases lx; exact ⟨c, rfl, h1 n1 ok1 l1⟩
    | _ => exact h1.elim
theorem dt_cmp {op : CmpOp} {f : Op2} (ho : OpD X C (compareOp op) f) (ha : DE X C B a da) (hb : DE X C B b db) (hm : behindInMarks op b = false := by first | exact nomark _ | rfl) : DT X C B (.Compare a [op] [b] pos) (dTst (dBin f da db)) :=
  ⟨dTst.mono (dBin.mono ho.mono ha.mono hb.mono), impT (pt_cmpR ho.run ha.run hb.run hm) (tst_imp ho.mono ha.mono hb.mono)⟩
theorem dt_val (h : DE X C B e d) (he : ∀ whole, isTrue e X.env whole = (do let v ← whole; standAt e.pos; holding [v] (truthy v)) := by intro _; rfl) : DT X C B e (dTst d) := by
  refine ⟨dTst.mono h.mono, impT (pt_val h.run he) ?_⟩
  rintro σ H Q ⟨n, env, m, rfl, ok, q⟩
  refine ⟨n, env, m, rfl, ok, h.mono _ _ _ _ (fun x m1 h1 n1 v ok1 l1 lx => ?_) q⟩
  cases x with
  | o k => exact h1.elim
  | f y =>
    cases y with
    | bl c => cases lx; exact ⟨c, rfl, h1 n1 ok1 l1⟩
    | _ => exact h1.elim
def dAnd (p q : TB) : TB := fun env m Q => p env m fun b m1 => if b = true then q env m1 Q else Q false m1
def dOr (p q : TB) : TB := fun env m Q => p env m fun b m1 => if b = true then Q true m1 else q env m1 Q
def dNot (p : TB) : TB := fun env m Q => p env m fun b m1 => Q (!b) m1
theorem dAnd.mono {p q : TB} (hp : MonoB p) (hq : MonoB q) : MonoB (dAnd p q) := fun env m Q Q' i => hp env m _ _ fun b m1 => by
  cases b with
  | true => exact hq env m1 _ _ i
  | false => exact i _ _
theorem dOr.mono {p q : TB} (hp : MonoB p) (hq : MonoB q) : MonoB (dOr p q) := fun env m Q Q' i => hp env m _ _ fun b m1 => by
  cases b with
  | true => exact i _ _
  | false => exact hq env m1 _ _ i
theorem dNot.mono {p : TB} (hp : MonoB p) : MonoB (dNot p) := fun env m Q Q' i => hp env m _ _ fun b m1 => i _ _
variable {p q : TB} {rest : List Expr}
theorem DW.dt {e : Expr} (h : DW X C B e p) : DT X C B e p := ⟨h.mono, h.run.pt⟩
theorem dw_and1 (ha : DT X C B a p) : DW X C B (.BoolOp .And [a] pos) p := ⟨ha.mono, pw_and1 ha.run⟩
theorem dw_or1 (ha : DT X C B a p) : DW X C B (.BoolOp .Or [a] pos) p := ⟨ha.mono, pw_or1 ha.run⟩
theorem dw_and (ha : DT X C B a p) (hb : DW X C B (.BoolOp .And (b :: rest) pos) q) : DW X C B (.BoolOp .And (a :: b :: rest) pos) (dAnd p q) := by
  refine ⟨dAnd.mono ha.mono hb.mono, impW (pw_and ha.run hb.run) ?_⟩
  rintro σ H Q ⟨n, env, m, rfl, ok, h⟩
  refine ⟨n, env, m, rfl, ok, ha.mono _ _ _ _ (fun c m1 h1 n1 ok1 l1 => ?_) h⟩
  cases c with
  | true => exact ⟨n1, env, m1, rfl, ok.go ok1 l1, hb.mono _ _ _ _ (fun c m2 h2 n2 ok2 l2 => h2 n2 ok2 (l1.trans l2)) h1⟩
  | false => exact h1 n1 ok1 l1
theorem dw_or (ha : DT X C B a p) (hb : DW X C B (.BoolOp .Or (b :: rest) pos) q) : DW X C B (.BoolOp .Or (a :: b :: rest) pos) (dOr p q) := by
  refine ⟨dOr.mono ha.mono hb.mono, impW (pw_or ha.run hb.run) ?_⟩
  rintro σ H Q ⟨n, env, m, rfl, ok, h⟩
  refine ⟨n, env, m, rfl, ok, ha.mono _ _ _ _ (fun c m1 h1 n1 ok1 l1 => ?_) h⟩
  cases c with
  | true => exact h1 n1 ok1 l1
  | false => exact ⟨n1, env, m1, rfl, ok.go ok1 l1, hb.mono _ _ _ _ (fun c m2 h2 n2 ok2 l2 => h2 n2 ok2 (l1.trans l2)) h1⟩
theorem dt_not (ha : DT X C B a p) : DT X C B (.UnaryOp .Not a pos) (dNot p) := by
  refine ⟨dNot.mono ha.mono, impT (pt_not ha.run) ?_⟩
  rintro σ H Q ⟨n, env, m, rfl, ok, h⟩
  exact ⟨n, env, m, rfl, ok, ha.mono _ _ _ _ (fun c m1 h1 n1 ok1 l1 => h1 n1 ok1 l1) h⟩
def dAndV (da db : TD) : TD := fun env m Q => da env m fun x m1 => match x with
  | .f (.bl true) => db env m1 Q
  | .f (.bl false) => Q (.f (.bl false)) m1
  | _ => False
def dOrV (da db : TD) : TD := fun env m Q => da env m fun x m1 => match x with
  | .f (.bl true) => Q (.f (.bl true)) m1
  | .f (.bl false) => db env m1 Q
  | _ => False
def dNotV (da : TD) : TD := fun env m Q => da env m fun x m1 => match x with
  | .f (.bl b) => Q (.f (.bl (!b))) m1
  | _ => False
theorem dAndV.mono (ha : MonoD da) (hb : MonoD db) : MonoD (dAndV da db) := fun env m Q Q' i => ha env m _ _ fun x m1 => by
  cases x with
  | o k => exact id
  | f y =>
    cases y with
    | bl c => cases c with
      | true => exact hb env m1 _ _ i
      | false => exact i _ _
    | _ => exact id
theorem dOrV.mono (ha : MonoD da) (hb : MonoD db) : MonoD (dOrV da db) := fun env m Q Q' i => ha env m _ _ fun x m1 => by
  cases x with
  | o k => exact id
  | f y =>
    cases y with
    | bl c => cases c with
      | false => exact hb env m1 _ _ i
      | true => exact i _ _
    | _ => exact id
theorem dNotV.mono (ha : MonoD da) : MonoD (dNotV da) := fun env m Q Q' i => ha env m _ _ fun x m1 => by
  cases x with
  | o k => exact id
  | f y => cases y <;> first | exact id | exact i _ _
theorem de_one {op} (h : DE X C B a d) : DE X C B (.BoolOp op [a] pos) d := ⟨h.mono, pe_one h.run⟩
theorem de_and (ha : DE X C B a da) (hb : DE X C B (.BoolOp .And (b :: rest) pos) db) : DE X C B (.BoolOp .And (a :: b :: rest) pos) (dAndV da db) := by
  refine ⟨dAndV.mono ha.mono hb.mono, imp (pe_and ha.run hb.run) ?_⟩
  rintro σ H Q ⟨n, env, m, rfl, ok, h⟩
  refine ⟨n, env, m, rfl, ok, ha.mono _ _ _ _ (fun x m1 h1 n1 v ok1 l1 lx => ?_) h⟩
  cases x with
  | o k => exact h1.elim
  | f y =>
    cases y with
    | bl c =>
      cases lx
      refine ⟨c, rfl, ?_⟩
      cases c with
      | true => exact ⟨n1, env, m1, rfl, ok.go ok1 l1, hb.mono _ _ _ _ (fun z m2 h2 n2 v ok2 l2 lz => h2 n2 v ok2 (l1.trans l2) lz) h1⟩
      | false => exact h1 n1 (.bl false) ok1 l1 (.bl false)
    | _ => exact h1.elim
theorem de_not (ha : DE X C B a da) : DE X C B (.UnaryOp .Not a pos) (dNotV da) := by
  refine ⟨dNotV.mono ha.mono, imp (pe_not ha.run) ?_⟩
  rintro σ H Q ⟨n, env, m, rfl, ok, h⟩
  refine ⟨n, env, m, rfl, ok, ha.mono _ _ _ _ (fun x m1 h1 n1 v ok1 l1 lx => ?_) h⟩
  cases x with
  | o k => exact h1.elim
  | f y =>
    cases y with
    | bl c => cases lx; exact ⟨c, rfl, h1 n1 (.bl (!c)) ok1 l1 (.bl _)⟩
    | _ => exact h1.elim
def dIf (p : TB) (da db : TD) : TD := fun env m Q => p env m fun b m1 => if b = true then da env m1 Q else db env m1 Q
theorem dIf.mono (hp : MonoB p) (ha : MonoD da) (hb : MonoD db) : MonoD (dIf p da db) := fun env m Q Q' i => hp env m _ _ fun b m1 => by
  cases b with
  | true => exact ha env m1 _ _ i
  | false => exact hb env m1 _ _ i
theorem de_ifExp {c : Expr} (hc : DT X C B c p) (ha : DE X C B a da) (hb : DE X C B b db) : DE X C B (.IfExp c a b pos) (dIf p da db) := by
  refine ⟨dIf.mono hc.mono ha.mono hb.mono, imp (pe_ifExp hc.run ha.run hb.run) ?_⟩
  rintro σ H Q ⟨n, env, m, rfl, ok, h⟩
  refine ⟨n, env, m, rfl, ok, hc.mono _ _ _ _ (fun c m1 h1 n1 ok1 l1 => ?_) h⟩
  cases c with
  | true => exact ⟨n1, env, m1, rfl, ok.go ok1 l1, ha.mono _ _ _ _ (fun z m2 h2 n2 v ok2 l2 lz => h2 n2 v ok2 (l1.trans l2) lz) h1⟩
  | false => exact ⟨n1, env, m1, rfl, ok.go ok1 l1, hb.mono _ _ _ _ (fun z m2 h2 n2 v ok2 l2 lz => h2 n2 v ok2 (l1.trans l2) lz) h1⟩

def dNil : TAd := fun _ m Q => Q [] m
def dCons (d : TD) (r : TAd) : TAd := fun env m Q => d env m fun x m1 => r env m1 fun xs m2 => Q (x :: xs) m2
theorem dCons.mono {r : TAd} (h : MonoD d) (hr : MonoA r) : MonoA (dCons d r) := fun env m Q Q' i => h env m _ _ fun x m1 => hr env m1 _ _ fun xs m2 => i _ _
theorem da_nil : DA X C B [] dNil := ⟨fun _ _ _ _ i => i _ _, impA pa_nil (by
  rintro σ H Q ⟨n, env, m, rfl, ok, h⟩
  exact h n [] ok.good (.refl _) .nil)⟩
theorem da_cons {es : List Expr} {r : TAd} (he : DE X C B e d) (hr : DA X C B es r) (hs : starEach (e :: es) X.env = (false, eval e X.env) :: starEach es X.env := by rfl) : DA X C B (e :: es) (dCons d r) := by
  refine ⟨dCons.mono he.mono hr.mono, impA (pa_cons he.run hr.run hs) ?_⟩
  rintro σ H Q ⟨n, env, m, rfl, ok, h⟩
  refine ⟨n, env, m, rfl, ok, he.mono _ _ _ _ (fun x m1 h1 n1 v ok1 l1 lx => ?_) h⟩
  exact ⟨n1, env, m1, rfl, ok.go ok1 l1, hr.mono _ _ _ _ (fun xs m2 h2 n2 vs ok2 l2 lxs => h2 n2 (v :: vs) ok2 (l1.trans l2) (.cons (lx.le l2) lxs)) h1⟩
def frs : List Lv → Option (List Dat)
  | [] => some []
  | .f d :: r => match frs r with
    | some ds => some (d :: ds)
    | none => none
  | .o _ :: _ => none
theorem frs_ok {w : World} {K : PySem.W.Frag} {n : Nw} {env : Env'} {σ : L2.St} : ∀ {xs : List Lv} {vs : List V} {ds : List Dat}, LvsOk C w K n env σ vs xs → frs xs = some ds → FzAllN C w K n vs ds
  | [], _, ds, h, e => by cases h; cases e; exact .nil
  | .o k :: r, _, ds, h, e => by cases e
  | .f d :: r, _, ds, h, e => by
    cases h with
    | cons a b =>
      unfold frs at e
      split at e
      · rename_i ds' h1
        cases e
        exact .cons a (frs_ok b h1)
      · cases e
def oTup : OpN := fun _ m xs Q => match frs xs with
  | some ds => ds.length ≤ sizeLine ∧ Q (.tup ds) m
  | none => False
theorem oTup.mono : MonoN oTup := fun env m xs Q Q' i => by
  unfold oTup
  split
  · exact fun z => ⟨z.1, i _ _ z.2⟩
  · exact id
def dN (f : OpN) (d : TAd) : TD := fun env m Q => d env m fun xs m1 => f env m1 xs fun z m2 => Q (.f z) m2
theorem dN.mono {f : OpN} {d : TAd} (hf : MonoN f) (h : MonoA d) : MonoD (dN f d) := fun env m Q Q' i => h env m _ _ fun xs m1 => hf env m1 xs _ _ fun z m2 => i _ _
theorem de_tup {es : List Expr} {x1} {d : TAd} (h : DA X C B es d) : DE X C B (.Tuple es x1 pos) (dN oTup d) := by
  refine ⟨dN.mono oTup.mono h.mono, imp (pe_tup h.run) ?_⟩
  rintro σ H Q ⟨n, env, m, rfl, ok, q⟩
  refine ⟨n, env, m, rfl, ok, h.mono _ _ _ _ (fun xs m1 h1 n1 vs ok1 l1 lxs => ?_) q⟩
  unfold oTup at h1
  split at h1
  · rename_i ds hd
    have hz := frs_ok lxs hd
    refine ⟨by rw [hz.length]; exact h1.1, fun p hp => ?_⟩
    obtain ⟨ok3, l3⟩ := ok1.freeze (o := .tup vs) hp
    exact h1.2 _ _ ok3 (l1.trans l3) (.tup (SqT.of upd_same) (FzAllN.le hz l3))
  · exact h1.elim

abbrev TN := Env' → Mem → (List Dat → Mem → Prop) → Prop
def MonoN' (d : TN) : Prop := ∀ env m (Q Q' : List Dat → Mem → Prop), (∀ x m', Q x m' → Q' x m') → d env m Q → d env m Q'
def lN (C : Ct) (B : Nw) (w : World) (K : PySem.W.Frag) (d : TN) : TE := fun σ H Q => ∃ n env m, n.H = H ∧ Ok C w K B n env m σ ∧
  d env m fun ds m' => ∀ n' p vs, Good C w K n' m' → n.le n' → n'.H p = none → FzAllN C w K n' vs ds → Q (.ref p) (upd n'.H p (.lst vs))
structure DN (X : Cx) (C : Ct) (B : Nw) (e : Expr) (d : TN) : Prop where
  mono : MonoN' d
  run : PE X e (lN C B X.w X.K d)
def dNew (d : TN) : TD := fun env m Q => d env m fun ds m1 => Q (.f (.lst ds)) m1
theorem DN.de {d : TN} (h : DN X C B e d) : DE X C B e (dNew d) := by
  refine ⟨fun env m Q Q' i => h.mono env m _ _ fun ds m1 => i _ _, imp h.run ?_⟩
  rintro σ H Q ⟨n, env, m, rfl, ok, q⟩
  refine ⟨n, env, m, rfl, ok, h.mono _ _ _ _ (fun ds m1 h1 n1 p vs ok1 l1 hp hz => ?_) q⟩
  obtain ⟨ok3, l3⟩ := ok1.freeze (o := .lst vs) hp
  exact h1 _ _ ok3 (l1.trans l3) (.lst (Rd.of upd_same) (FzAllN.le hz l3))
def nLst (d : TAd) : TN := fun env m Q => d env m fun xs m1 => match frs xs with
  | some ds => ds.length ≤ sizeLine ∧ Q ds m1
  | none => False
theorem dn_lst {es : List Expr} {d : TAd} (h : DA X C B es d) : DN X C B (.List es pos) (nLst d) := by
  refine ⟨fun env m Q Q' i => h.mono env m _ _ fun xs m1 => ?_, imp (pe_lst h.run) ?_⟩
  · split
    · exact fun z => ⟨z.1, i _ _ z.2⟩
    · exact id
  rintro σ H Q ⟨n, env, m, rfl, ok, q⟩
  refine ⟨n, env, m, rfl, ok, h.mono _ _ _ _ (fun xs m1 h1 n1 vs ok1 l1 lxs => ?_) q⟩
  split at h1
  · rename_i ds hd
    have hz := frs_ok lxs hd
    exact ⟨by rw [hz.length]; exact h1.1, fun p hp => h1.2 n1 p vs ok1 l1 hp hz⟩
  · exact h1.elim
end
end DL

set_option maxHeartbeats 1000000
namespace DL
open PySem PySem.Spec PyProof.Rows L2

inductive Tg where
  | nm (i : Nat)
  | tp (is : List Nat)
def Tg.ids : Tg → List Nat
  | .nm i => [i]
  | .tp is => is
def setAll : List Nat → List Dat → Env' → Env'
  | i :: is, d :: ds, env => setAll is ds (env.set i (some (.f d)))
  | _, _, env => env
def bind (tg : Tg) (x : Lv) (env : Env') : Option Env' := match tg, x with
  | .nm i, .f d => some (env.set i (some (.f d)))
  | .tp is, .f (.tup ds) => if ds.length = is.length then some (setAll is ds env) else none
  | _, _ => none
def gsOf : List Nat → TGs
  | [] => gNil
  | i :: is => gCons (gName i) (gsOf is)
def gOf (K : PySem.W.Frag) : Tg → TG
  | .nm i => gName i
  | .tp is => gTup K is.length (gsOf is)
theorem wipe_set : ∀ (vs : List Nat) (σ : L2.St) (i : Nat) (v : Option V), i ∈ vs → wipe (σ.set i v) vs = wipe σ vs
  | vs, σ, i, v, h => by
    apply List.ext_getElem?
    intro j
    by_cases hj : j ∈ vs
    · have key : ∀ (τ : L2.St), j ∈ vs → (wipe τ vs)[j]? = if j < τ.length then some none else none := by
        intro τ hj
        have hl := wipe_length τ vs
        by_cases hlt : j < τ.length
        · rw [if_pos hlt]
          have : j < (wipe τ vs).length := by rw [hl]; exact hlt
          rw [List.getElem?_eq_getElem this]
          cases e : (wipe τ vs)[j] with
          | none => rfl
          | some x =>
            have e2 : (wipe τ vs)[j]? = some (some x) := by rw [List.getElem?_eq_getElem this, e]
            exact absurd hj (wipe_some e2).2
        · rw [if_neg hlt]
          exact List.getElem?_eq_none (by rw [hl]; omega)
      rw [key _ hj, key _ hj]
      simp
    · rw [wipe_out hj, wipe_out hj]
      exact List.getElem?_set_ne (fun e => hj (by rw [← e]; exact h))
section
variable {C : Ct} {w : World} {K : PySem.W.Frag} {B n : Nw} {m : Mem}
theorem sets_ok {Q : L2.St → Hp → Prop} : ∀ (is : List Nat) (ds : List Dat) (vs : List V) (env : Env') (σ : L2.St), ds.length = is.length → FzAllN C w K n vs ds → Ok C w K B n env m σ →
    (∀ σ2, Ok C w K B n (setAll is ds env) m σ2 → (∀ ws, (∀ i ∈ is, i ∈ ws) → wipe σ2 ws = wipe σ ws) → Q σ2 n.H) → gsOf is vs σ n.H Q
  | [], [], vs, env, σ, _, hv, ok, h => by
    cases hv
    exact ⟨rfl, h σ ok fun _ _ => rfl⟩
  | i :: is, d :: ds, vs, env, σ, hl, hv, ok, h => by
    cases hv with
    | cons a r =>
      refine ⟨_, _, rfl, ?_⟩
      refine sets_ok is ds _ _ _ (by simpa using hl) r (ok.setF (i := i) a) fun σ2 ok2 hw => ?_
      refine h σ2 ok2 fun ws hws => ?_
      rw [hw ws fun j hj => hws j (List.mem_cons_of_mem _ hj)]
      exact wipe_set ws σ i _ (hws i List.mem_cons_self)
  | [], _ :: _, _, _, _, hl, _, _, _ => by cases hl
  | _ :: _, [], _, _, _, hl, _, _, _ => by cases hl
theorem bind_ok {Q : L2.St → Hp → Prop} {tg : Tg} {x : Lv} {v : V} {env env2 : Env'} {σ : L2.St} (hv : LvOk C w K n env σ v x) (ok : Ok C w K B n env m σ) (e : bind tg x env = some env2)
    (h : ∀ σ2, Ok C w K B n env2 m σ2 → (∀ ws, (∀ i ∈ tg.ids, i ∈ ws) → wipe σ2 ws = wipe σ ws) → Q σ2 n.H) : gOf K tg v σ n.H Q := by
  unfold bind at e
  split at e
  · cases e
    rename_i i d
    exact h _ (ok.setF hv) fun ws hws => wipe_set ws σ i _ (hws i (by simp [Tg.ids]))
  · rename_i is ds
    split at e
    · rename_i hl
      cases e
      have hv : FzN C w K n v (.tup ds) := hv
      cases hv with
      | tup hs ha =>
        refine ⟨_, _, rfl, SqT.keep ok.good.sub hs, by rw [ha.length]; exact hl, ?_⟩
        exact sets_ok is ds _ env σ hl ha ok h
    · cases e
  · cases e
end
structure TgOk (X : Cx) (e : Expr) (tg : Tg) : Prop where
  run : PG X e (gOf X.K tg)
section
variable {X : Cx} {pos : Pos}
theorem tg_nm {i : Nat} {x : Str} (hN : X.N.Nodup) (hi : X.N[i]? = some x) (hx : Loc X.env.scope x) (hf : X.fn x = true ∨ X.env.scope.names.lookup x = some .local := by first | exact .inl rfl | exact .inr rfl | assumption) : TgOk X (.Name x pos) (.nm i) := ⟨pg_name hN hi hx hf⟩
structure TgsOk (X : Cx) (es : List Expr) (is : List Nat) : Prop where
  run : PGs X es (gsOf is)
theorem tgs_nil : TgsOk X [] [] := ⟨pgs_nil⟩
theorem tgs_cons {i : Nat} {x : Str} {es : List Expr} {is : List Nat} (hN : X.N.Nodup) (hi : X.N[i]? = some x) (hx : Loc X.env.scope x) (r : TgsOk X es is) (hf : X.fn x = true ∨ X.env.scope.names.lookup x = some .local := by first | exact .inl rfl | exact .inr rfl | assumption)
    (hs : (assignEach (.Name x pos :: es) X.env).map (·.2) = assign (.Name x pos) X.env :: (assignEach es X.env).map (·.2) := by rfl) : TgsOk X (.Name x pos :: es) (i :: is) := ⟨pgs_cons (pg_name hN hi hx hf) r.run hs⟩
theorem tg_tp {es : List Expr} {is : List Nat} {k : Nat} (hc : X.calm = true) (h : TgsOk X es is) (hn : (assignEach es X.env).length = is.length := by rfl) (hst : (assignEach es X.env).findIdx? (·.1) = none := by rfl) : TgOk X (.Tuple es k pos) (.tp is) := ⟨pg_tup hc h.run hn hst⟩
end

section
variable {X : Cx} {C : Ct} {B : Nw} {st : Stmt} {rest : List Stmt} {d u : TSd} {e : Expr} {de : TD} {pos : Pos}
def sNext : TSd := fun D env m => D.nx env m
def sSeq (d u : TSd) : TSd := fun D env m => d { D with nx := u D } env m
theorem sSeq.mono (hd : MonoS d) (hu : MonoS u) : MonoS (sSeq d u) := fun env m D D' l h => hd env m { D with nx := u D } { D' with nx := u D' } ⟨fun e m' h' => hu e m' D D' l h', l.rt, l.bk, l.ct⟩ h
theorem dss_nil : DSs X C B [] sNext := ⟨fun env m D D' l h => l.nx _ _ h, impSs pss_nil (by
  rintro D σ H ⟨n, env, m, rfl, ok, h⟩
  exact h n σ (.refl _) ok)⟩
theorem dss_one (h : DS X C B st d) : DSs X C B [st] d := ⟨h.mono, pss_one h.run⟩
theorem dss_cons (h1 : DS X C B st d) (h2 : DSs X C B rest u) : DSs X C B (st :: rest) (sSeq d u) := by
  refine ⟨sSeq.mono h1.mono h2.mono, impSs (pss_cons h1.run h2.run) ?_⟩
  rintro D σ H ⟨n, env, m, rfl, ok, h⟩
  refine ⟨n, env, m, rfl, ok, h1.mono _ _ { lD C B X.w X.K n D with nx := u (lD C B X.w X.K n D) } _ ⟨fun e1 m1 h' => ?_, fun _ _ h' => h', fun _ _ h' => h', fun _ _ h' => h'⟩ h⟩
  intro n1 σ1 s1 ok1
  exact ⟨n1, e1, m1, rfl, ok1, h2.mono _ _ _ _ (lD.le s1 D) h'⟩
def sDrop (de : TD) : TSd := fun D env m => de env m fun _ m1 => D.nx env m1
def sRet (de : TD) : TSd := fun D env m => de env m fun x m1 => match x with
  | .f d => D.rt d m1
  | .o _ => False
theorem sRet.mono (h : MonoD de) : MonoS (sRet de) := fun env m D D' l => h _ _ _ _ fun x m1 => by
  cases x with
  | f d => exact l.rt _ _
  | o k => exact id
theorem ds_ret (he : DE X C B e de) : DS X C B (.Return (some e) pos) (sRet de) := by
  refine ⟨sRet.mono he.mono, impS (ps_ret he.run) ?_⟩
  rintro D σ H ⟨n, env, m, rfl, ok, h⟩
  refine ⟨n, env, m, rfl, ok, he.mono _ _ _ _ (fun x m1 h1 n1 v g1 l1 lx => ?_) h⟩
  cases x with
  | f d => exact h1 n1 v (ok.base.trans l1) g1 lx
  | o k => exact h1.elim
def sIf (c : TB) (d u : TSd) : TSd := fun D env m => c env m fun b m1 => if b = true then d D env m1 else u D env m1
theorem sIf.mono {c : TB} (hc : MonoB c) (hd : MonoS d) (hu : MonoS u) : MonoS (sIf c d u) := fun env m D D' l => hc _ _ _ _ fun b m1 => by
  cases b with
  | true => exact hd _ _ _ _ l
  | false => exact hu _ _ _ _ l
theorem ds_if {c : Expr} {a b : List Stmt} {dc : TB} (hc : DT X C B c dc) (ha : DSs X C B a d) (hb : DSs X C B b u) : DS X C B (.If c a b pos) (sIf dc d u) := by
  refine ⟨sIf.mono hc.mono ha.mono hb.mono, impS (ps_if hc.run ha.run hb.run) ?_⟩
  rintro D σ H ⟨n, env, m, rfl, ok, h⟩
  refine ⟨n, env, m, rfl, ok, hc.mono _ _ _ _ (fun b m1 h1 n1 g1 l1 => ?_) h⟩
  cases b with
  | true => exact ⟨n1, env, m1, rfl, ok.go g1 l1, ha.mono _ _ _ _ (lD.le l1.sub D) h1⟩
  | false => exact ⟨n1, env, m1, rfl, ok.go g1 l1, hb.mono _ _ _ _ (lD.le l1.sub D) h1⟩
def sAsg (tg : Tg) (de : TD) : TSd := fun D env m => de env m fun x m1 => match bind tg x env with
  | some env2 => D.nx env2 m1
  | none => False
theorem sAsg.mono {tg : Tg} (h : MonoD de) : MonoS (sAsg tg de) := fun env m D D' l => h _ _ _ _ fun x m1 => by
  split
  · exact l.nx _ _
  · exact id
theorem asg_imp {tg : Tg} (he : MonoD de) : ∀ D σ H, lS C B X.w X.K (sAsg tg de) D σ H → tAsg (lE C B X.w X.K de) (gOf X.K tg) D σ H := by
  rintro D σ H ⟨n, env, m, rfl, ok, h⟩
  refine ⟨n, env, m, rfl, ok, he _ _ _ _ (fun x m1 h1 n1 v g1 l1 lx => ?_) h⟩
  split at h1
  · rename_i env2 hb
    exact bind_ok lx (ok.go g1 l1) hb fun σ2 ok2 _ => h1 n1 σ2 l1.sub ok2
  · exact h1.elim
theorem ds_asg {te : Expr} {tg : Tg} (he : DE X C B e de) (ht : TgOk X te tg) (hs : swapsWithSole [te] e pos.line X.env = pure false := by rfl) (hw : swappedStores [te] e X.env = pure none := by rfl)
    (h1 : (assignEach [te] X.env).map (·.2) = [assign te X.env] := by rfl) : DS X C B (.Assign [te] e pos) (sAsg tg de) :=
  ⟨sAsg.mono he.mono, impS (ps_asg he.run ht.run hs hw h1) (asg_imp he.mono)⟩
theorem ds_set {i : Nat} {x : Str} {pos' : Pos} (hN : X.N.Nodup) (hi : X.N[i]? = some x) (hx : Loc X.env.scope x) (he : DE X C B e de) (hs : swapsWith e (some (.Name x pos')) pos.line X.env = pure false := by rfl)
    (hf : X.fn x = true ∨ X.env.scope.names.lookup x = some .local := by first | exact .inl rfl | exact .inr rfl | assumption) : DS X C B (.Assign [.Name x pos'] e pos) (sAsg (.nm i) de) :=
  ⟨sAsg.mono he.mono, impS (ps_set hN hi hx he.run hs hf) (asg_imp (tg := .nm i) he.mono)⟩
def sSetN (i : Nat) (dn : TN) : TSd := fun D env m => dn env m fun ds m1 => D.nx (env.set i (some (.own (.lst ds)))) m1
theorem setN_imp {i : Nat} {dn : TN} (he : MonoN' dn) : ∀ D σ H, lS C B X.w X.K (sSetN i dn) D σ H → tAsg (lN C B X.w X.K dn) (gName i) D σ H := by
  rintro D σ H ⟨n, env, m, rfl, ok, h⟩
  refine ⟨n, env, m, rfl, ok, he _ _ _ _ (fun ds m1 h1 n1 p vs g1 l1 hp hz => ?_) h⟩
  have ok1 := ok.go g1 l1
  have ok2 := ok1.newO (i := i) (o := .lst vs) (z := .lst ds) hp ⟨vs, upd_same, hz⟩
  exact h1 ⟨n1.G, n1.al, upd n1.H p (.lst vs)⟩ _ ⟨l1.g, l1.ale⟩ ok2
theorem ds_setN {i : Nat} {x : Str} {dn : TN} {pos' : Pos} (hN : X.N.Nodup) (hi : X.N[i]? = some x) (hx : Loc X.env.scope x) (he : DN X C B e dn) (hs : swapsWith e (some (.Name x pos')) pos.line X.env = pure false := by rfl)
    (hf : X.fn x = true ∨ X.env.scope.names.lookup x = some .local := by first | exact .inl rfl | exact .inr rfl | assumption) : DS X C B (.Assign [.Name x pos'] e pos) (sSetN i dn) :=
  ⟨fun env m D D' l => he.mono _ _ _ _ fun ds m1 => l.nx _ _, impS (ps_set hN hi hx he.run hs hf) (setN_imp he.mono)⟩
def sKeep (i : Nat) (d : TSd) : TSd := fun D env m => match env[i]? with
  | some (some (.own (.lst xs))) => d D (env.set i (some (.f (.lst xs)))) m
  | some (some (.own (.dct xs))) => d D (env.set i (some (.f (.dct xs)))) m
  | _ => d D env m
theorem sKeep.mono {i : Nat} (h : MonoS d) : MonoS (sKeep i d) := fun env m D D' l => by
  unfold sKeep
  split <;> exact h _ _ _ _ l
theorem keep_ok {i : Nat} (h : MonoS d) {D : Ends} {σ : L2.St} {H : Hp} (q : lS C B X.w X.K (sKeep i d) D σ H) : lS C B X.w X.K d D σ H := by
  obtain ⟨n, env, m, rfl, ok, q⟩ := q
  unfold sKeep at q
  split at q
  · rename_i xs hx
    obtain ⟨a, ha, ho⟩ := ok.env.own i _ hx
    obtain ⟨vs, e1, hz⟩ := ho.ok
    have neg : ∀ b u, n.G b = some u → b ≠ a := fun b u e z => by subst z; rw [ho.g] at e; cases e
    have hg : ∀ b u, n.G b = some u → (upd n.G a (.lst vs)) b = some u := fun b u e => by rw [upd_ne (neg b u e)]; exact e
    have ok2 := ok.kill (d := .lst xs) hx ha e1 (.lst (Rd.of upd_same) (FzAll.keep hg (fun _ _ e => e) hz))
    exact ⟨⟨upd n.G a (.lst vs), n.al, n.H⟩, _, m, rfl, ok2, h _ _ _ _ (lD.le (n := n) (n' := ⟨upd n.G a (.lst vs), n.al, n.H⟩) ⟨hg, List.prefix_rfl⟩ D) q⟩
  · rename_i xs hx
    obtain ⟨a, ha, ho⟩ := ok.env.own i _ hx
    obtain ⟨es, e1, hs, hz⟩ := ho.ok
    have neg : ∀ b u, n.G b = some u → b ≠ a := fun b u e z => by subst z; rw [ho.g] at e; cases e
    have hg : ∀ b u, n.G b = some u → (upd n.G a (dxo a es)) b = some u := fun b u e => by rw [upd_ne (neg b u e)]; exact e
    have ok2 := ok.kill (d := .dct xs) hx ha e1 (.dct upd_same hs (FzEs.keep hg (fun _ _ e => e) hz))
    exact ⟨⟨upd n.G a (dxo a es), n.al, n.H⟩, _, m, rfl, ok2, h _ _ _ _ (lD.le (n := n) (n' := ⟨upd n.G a (dxo a es), n.al, n.H⟩) ⟨hg, List.prefix_rfl⟩ D) q⟩
  · exact ⟨n, env, m, rfl, ok, q⟩
theorem ds_keep (i : Nat) (h : DS X C B st d) : DS X C B st (sKeep i d) := ⟨sKeep.mono h.mono, impS h.run fun _ _ _ q => keep_ok h.mono q⟩
def whGo (c : TB) (tb : TSd) (D : En) : Nat → Env' → Mem → Prop
  | 0, _, _ => False
  | k + 1, env, m => c env m fun b m1 => if b = true then tb { D with nx := whGo c tb D k, ct := whGo c tb D k, bk := D.nx } env m1 else D.nx env m1
def sWhile (c : TB) (tb : TSd) : TSd := fun D env m => ∃ k, whGo c tb D k env m
theorem whGo.mono {c : TB} {tb : TSd} (hc : MonoB c) (hb : MonoS tb) {D D' : En} (l : En.le D D') : ∀ k env m, whGo c tb D k env m → whGo c tb D' k env m
  | 0, _, _, h => h
  | k + 1, env, m, h => by
    refine hc _ _ _ _ (fun b m1 h1 => ?_) h
    cases b with
    | true => exact hb env m1 { D with nx := whGo c tb D k, ct := whGo c tb D k, bk := D.nx } { D' with nx := whGo c tb D' k, ct := whGo c tb D' k, bk := D'.nx } ⟨fun e m h => whGo.mono hc hb l k e m h, l.rt, fun e m h => l.nx e m h, fun e m h => whGo.mono hc hb l k e m h⟩ h1
    | false => exact l.nx _ _ h1
theorem ds_while {c : Expr} {body : List Stmt} {dc : TB} {db : TSd} (hp : PassesOwn (model X.prog X.w) X.A X.env X.xe) (hc : DT X C B c dc) (hb : DSs X C B body db) : DS X C B (.While c body [] pos) (sWhile dc db) := by
  refine ⟨fun env m D D' l ⟨k, h⟩ => ⟨k, whGo.mono hc.mono hb.mono l k env m h⟩, impS (ps_while hp hc.run hb.run) ?_⟩
  rintro D σ H ⟨n, env, m, rfl, ok, k, h⟩
  refine ⟨fun k σ H => ∃ n1 env m, n1.H = H ∧ n.sub n1 ∧ Ok C X.w X.K B n1 env m σ ∧ whGo dc db (lD C B X.w X.K n D) k env m, ⟨k, n, env, m, rfl, .refl _, ok, h⟩, ?_⟩
  rintro k σ H ⟨n1, env, m, rfl, s1, ok1, h⟩
  cases k with
  | zero => exact h.elim
  | succ k =>
    refine ⟨n1, env, m, rfl, ok1, hc.mono _ _ _ _ (fun b m1 h1 n2 g2 l2 => ?_) h⟩
    cases b with
    | true =>
      refine ⟨fun σ' H' => ∃ n3 env m, n3.H = H' ∧ n.sub n3 ∧ Ok C X.w X.K B n3 env m σ' ∧ whGo dc db (lD C B X.w X.K n D) k env m, fun σ' H' q => ⟨k, Nat.lt_succ_self _, q⟩, ?_⟩
      refine ⟨n2, env, m1, rfl, ok1.go g2 l2, hb.mono _ _ { lD C B X.w X.K n D with nx := whGo dc db (lD C B X.w X.K n D) k, ct := whGo dc db (lD C B X.w X.K n D) k, bk := (lD C B X.w X.K n D).nx } _ ⟨fun e3 m3 h3 n3 σ3 s3 ok3 => ⟨n3, e3, m3, rfl, (s1.trans l2.sub).trans s3, ok3, h3⟩, fun _ _ h3 => h3, fun e3 m3 h3 n3 σ3 s3 ok3 => h3 n3 σ3 ((s1.trans l2.sub).trans s3) ok3,
        fun e3 m3 h3 n3 σ3 s3 ok3 => ⟨n3, e3, m3, rfl, (s1.trans l2.sub).trans s3, ok3, h3⟩⟩ h1⟩
    | false => exact h1 n2 _ (s1.trans l2.sub) (ok1.go g2 l2)

abbrev TId := Env' → Mem → (List Dat → Mem → Prop) → Prop
def MonoI (d : TId) : Prop := ∀ env m (Q Q' : List Dat → Mem → Prop), (∀ x m', Q x m' → Q' x m') → d env m Q → d env m Q'
def WalkD (C : Ct) (w : World) (K : PySem.W.Frag) (n : Nw) (J : It) (xs : List Dat) : Prop := ∃ Gp Y, Walk J xs.length Gp Y ∧ ∀ n' m', n.sub n' → Good C w K n' m' → Gp n'.H ∧
  ∀ i x H', i < xs.length → Y i n'.H x H' → ∃ n'' d, n''.H = H' ∧ Good C w K n'' m' ∧ n'.le n'' ∧ xs[i]? = some d ∧ FzN C w K n'' x d
def lI (C : Ct) (B : Nw) (w : World) (K : PySem.W.Frag) (d : TId) : TI := fun σ H R => ∃ n env m, n.H = H ∧ Ok C w K B n env m σ ∧ d env m fun xs m' => ∀ n' J, Good C w K n' m' → n.le n' → WalkD C w K n' J xs → R J n'.H
structure DI (X : Cx) (C : Ct) (B : Nw) (tg iter : Expr) (d : TId) : Prop where
  mono : MonoI d
  run : PI X tg iter (lI C B X.w X.K d)
def forGo (tg : Tg) (tb : TSd) (D : En) : List Dat → Env' → Mem → Prop
  | [], env, m => D.nx env m
  | x :: xs, env, m => match bind tg (.f x) env with
    | some env2 => tb { D with nx := forGo tg tb D xs, ct := forGo tg tb D xs, bk := D.nx } env2 m
    | none => False
def sFor (tg : Tg) (di : TId) (tb : TSd) : TSd := fun D env m => di env m fun xs m1 => forGo tg tb D xs env m1
theorem forGo.mono {tg : Tg} {tb : TSd} (hb : MonoS tb) {D D' : En} (l : En.le D D') : ∀ xs env m, forGo tg tb D xs env m → forGo tg tb D' xs env m
  | [], _, _, h => l.nx _ _ h
  | x :: xs, env, m, h => by
    unfold forGo at h ⊢
    split
    · rename_i e2 he
      rw [he] at h
      exact hb e2 m { D with nx := forGo tg tb D xs, ct := forGo tg tb D xs, bk := D.nx } { D' with nx := forGo tg tb D' xs, ct := forGo tg tb D' xs, bk := D'.nx } ⟨fun e m h => forGo.mono hb l xs e m h, l.rt, fun e m h => l.nx e m h, fun e m h => forGo.mono hb l xs e m h⟩ h
    · rename_i he
      rw [he] at h
      exact h
theorem ds_for {te iter : Expr} {body : List Stmt} {di : TId} {db : TSd} {tg : Tg} (hp : PassesOwn (model X.prog X.w) X.A X.env X.xe) (hc : X.calm = true) (hi : DI X C B te iter di) (hg : TgOk X te tg) (hb : DSs X C B body db)
    (hs : ∀ x, foldedSetIterable iter X.env x = pure x := by intro _; rfl) : DS X C B (.For te iter body [] pos) (sFor tg di db) := by
  refine ⟨fun env m D D' l h => hi.mono _ _ _ _ (fun xs m1 h1 => forGo.mono hb.mono l xs env m1 h1) h, impS (ps_for hp hc hi.run hg.run hb.run hs) ?_⟩
  rintro D σ H ⟨n, env, m, rfl, ok, h⟩
  refine ⟨n, env, m, rfl, ok, hi.mono _ _ _ _ (fun xs m1 h1 n1 J g1 l1 wk => ?_) h⟩
  obtain ⟨Gp, Y, wk, st⟩ := wk
  refine for_it wk (fun i σ H => ∃ n2 env m, n2.H = H ∧ n1.sub n2 ∧ Ok C X.w X.K B n2 env m σ ∧ forGo tg db (lD C B X.w X.K n D) (xs.drop i) env m) ⟨n1, env, m1, rfl, .refl _, ok.go g1 l1, h1⟩ ?_ ?_ ?_
  · rintro i σ H hi ⟨n2, env, m, rfl, s2, ok2, h2⟩
    exact (st n2 m s2 ok2.good).1
  · rintro i x σ H H' hi ⟨n2, env, m, rfl, s2, ok2, h2⟩ hy
    obtain ⟨n3, d, rfl, g3, l3, hd, hz⟩ := (st n2 m s2 ok2.good).2 i x _ hi hy
    have hdr : xs.drop i = d :: xs.drop (i + 1) := by
      rw [List.drop_eq_getElem_cons hi]
      rw [List.getElem?_eq_getElem hi] at hd
      rw [Option.some.inj hd]
    rw [hdr] at h2
    unfold forGo at h2
    split at h2
    · rename_i env2 hb2
      refine bind_ok (x := .f d) hz (ok2.go g3 l3) hb2 fun σ2 ok3 _ => ?_
      exact ⟨n3, env2, m, rfl, ok3, hb.mono _ _ { lD C B X.w X.K n D with nx := forGo tg db (lD C B X.w X.K n D) (xs.drop (i + 1)), ct := forGo tg db (lD C B X.w X.K n D) (xs.drop (i + 1)), bk := (lD C B X.w X.K n D).nx } _ ⟨fun e4 m4 h4 n4 σ4 s4 ok4 => ⟨n4, e4, m4, rfl, (s2.trans l3.sub).trans s4, ok4, h4⟩, fun _ _ h4 => h4,
        fun e4 m4 h4 n4 σ4 s4 ok4 => h4 n4 σ4 (((l1.sub.trans s2).trans l3.sub).trans s4) ok4, fun e4 m4 h4 n4 σ4 s4 ok4 => ⟨n4, e4, m4, rfl, (s2.trans l3.sub).trans s4, ok4, h4⟩⟩ h2⟩
    · exact h2.elim
  · rintro σ H ⟨n2, env, m, rfl, s2, ok2, h2⟩
    rw [List.drop_length] at h2
    exact h2 n2 σ (l1.sub.trans s2) ok2
end
end DL

set_option maxHeartbeats 1000000
namespace DL
open PySem PySem.Spec PyProof.Rows L2

def wipeE (env : Env') : List Nat → Env'
  | [] => env
  | v :: vs => (wipeE env vs).set v none
section
variable {C : Ct} {w : World} {K : PySem.W.Frag} {B n n' : Nw} {m m' : Mem}
theorem EnvOk.set0 {env : Env'} {σ : L2.St} {i : Nat} (h : EnvOk C w K B n env σ) : EnvOk C w K B n (env.set i none) (σ.set i none) := by
  have back : ∀ {j : Nat} {x : Sl}, (env.set i none)[j]? = some (some x) → i ≠ j ∧ env[j]? = some (some x) := by
    intro j x e
    by_cases hj : i = j
    · subst hj
      have hlt : i < env.length := by
        have := (List.getElem?_eq_some_iff.mp e).1
        simpa using this
      rw [List.getElem?_set_self hlt] at e
      cases e
    · rw [List.getElem?_set_ne hj] at e
      exact ⟨hj, e⟩
  refine ⟨by simp [h.len], fun j d e => ?_, fun j x e => ?_, fun j k x y a e1 e2 f1 f2 => ?_⟩
  · obtain ⟨hj, e⟩ := back e
    rw [List.getElem?_set_ne hj]; exact h.fz j d e
  · obtain ⟨hj, e⟩ := back e
    rw [List.getElem?_set_ne hj]; exact h.own j x e
  · obtain ⟨hj, e1⟩ := back e1
    obtain ⟨hk, e2⟩ := back e2
    rw [List.getElem?_set_ne hj] at f1
    rw [List.getElem?_set_ne hk] at f2
    exact h.apart j k x y a e1 e2 f1 f2
theorem EnvOk.wipe {env : Env'} {σ : L2.St} (h : EnvOk C w K B n env σ) : ∀ vs, EnvOk C w K B n (wipeE env vs) (wipe σ vs)
  | [] => h
  | v :: vs => (EnvOk.wipe h vs).set0
theorem Ok.wipe {env : Env'} {σ : L2.St} (h : Ok C w K B n env m σ) (vs : List Nat) : Ok C w K B n (wipeE env vs) m (L2.wipe σ vs) := ⟨h.good, h.base, h.env.wipe vs⟩
end
theorem wipe_idem (σ : L2.St) (vs : List Nat) : wipe (wipe σ vs) vs = wipe σ vs := by
  apply List.ext_getElem?
  intro j
  by_cases hj : j ∈ vs
  · have key : ∀ (τ : L2.St), (wipe τ vs)[j]? = if j < τ.length then some none else none := by
      intro τ
      have hl := wipe_length τ vs
      by_cases hlt : j < τ.length
      · rw [if_pos hlt]
        have : j < (wipe τ vs).length := by rw [hl]; exact hlt
        rw [List.getElem?_eq_getElem this]
        cases e : (wipe τ vs)[j] with
        | none => rfl
        | some x =>
          have e2 : (wipe τ vs)[j]? = some (some x) := by rw [List.getElem?_eq_getElem this, e]
          exact absurd hj (wipe_some e2).2
      · rw [if_neg hlt]
        exact List.getElem?_eq_none (by rw [hl]; omega)
    rw [key, key, wipe_length]
  · rw [wipe_out hj]
def del (H : Hp) (D : Addr) : Hp := fun a => if a = D then none else H a
theorem del_same {H : Hp} {D : Addr} : del H D D = none := by simp [del]
theorem del_ne {H : Hp} {a D : Addr} (h : a ≠ D) : del H D a = H a := by simp [del, h]
theorem Tabs_del {T : List (Addr × Str)} {H : Hp} {p : Addr} (t : LamX.Tabs T H) (h : Calm (H p)) : LamX.Tabs T (del H p) := fun q hq => by
  obtain ⟨ps, h1, h2, h3⟩ := t q hq
  refine ⟨ps, ?_, h2, fun pos cv hc => ?_⟩
  · rw [del_ne (fun z => h.1 ps (by rw [← z]; exact h1))]
    exact h1
  · obtain ⟨c, e1, e2⟩ := h3 pos cv hc
    refine ⟨c, e1, ?_⟩
    rw [del_ne (fun z => h.2 c q.2 (by rw [← z]; exact e2))]
    exact e2
theorem upd_del {H : Hp} {D : Addr} {o : HO} (h : H D = some o) : upd (del H D) D o = H := by
  funext a
  by_cases e : a = D
  · subst e; rw [upd_same, h]
  · rw [upd_ne e, del_ne e]

def lcGo (tg : Tg) (dt : TB) (de : TD) (env : Env') : List Dat → Mem → (List Dat → Mem → Prop) → Prop
  | [], m, Q => Q [] m
  | x :: xs, m, Q => match bind tg (.f x) env with
    | some env2 => dt env2 m fun b m1 => if b = true then de env2 m1 fun y m2 => match y with
        | .f d => lcGo tg dt de env xs m2 fun ds m3 => Q (d :: ds) m3
        | .o _ => False
      else lcGo tg dt de env xs m1 Q
    | none => False
theorem lcGo.mono {tg : Tg} {dt : TB} {de : TD} (ht : MonoB dt) (hd : MonoD de) (env : Env') : ∀ xs m (Q Q' : List Dat → Mem → Prop), (∀ x m', Q x m' → Q' x m') → lcGo tg dt de env xs m Q → lcGo tg dt de env xs m Q'
  | [], m, Q, Q', i, h => i _ _ h
  | x :: xs, m, Q, Q', i, h => by
    unfold lcGo at h ⊢
    split
    · rename_i e2 he
      rw [he] at h
      refine ht _ _ _ _ (fun b m1 h1 => ?_) h
      cases b with
      | true =>
        refine hd _ _ _ _ (fun y m2 h2 => ?_) h1
        cases y with
        | f d => exact lcGo.mono ht hd env xs m2 _ _ (fun ds m3 h3 => i _ _ h3) h2
        | o k => exact h2
      | false => exact lcGo.mono ht hd env xs m1 _ _ i h1
    · rename_i he
      rw [he] at h
      exact h
def nLc (tg : Tg) (dt : TB) (de : TD) (vs : List Nat) (di : TId) : TN := fun env m Q => di env m fun xs m1 => xs.length ≤ sizeLine ∧ lcGo tg dt de (wipeE env vs) xs m1 Q
theorem nLc.mono {tg : Tg} {dt : TB} {de : TD} {vs : List Nat} {di : TId} (hi : MonoI di) (ht : MonoB dt) (hd : MonoD de) : MonoN' (nLc tg dt de vs di) := fun env m Q Q' i h =>
  hi _ _ _ _ (fun xs m1 h1 => ⟨h1.1, lcGo.mono ht hd _ _ _ _ _ i h1.2⟩) h
section
variable {X : Cx} {C : Ct} {B : Nw}
theorem lc_imp {tg : Tg} {dt : TB} {de : TD} {vs : List Nat} {di : TId} (hi : MonoI di) (ht : MonoB dt) (hd : MonoD de) (htg : ∀ i ∈ tg.ids, i ∈ vs) :
    ∀ σ H Q, lN C B X.w X.K (nLc tg dt de vs di) σ H Q → tLc (lI C B X.w X.K di) (gOf X.K tg) (lB C B X.w X.K dt) (lE C B X.w X.K de) vs σ H Q := by
  rintro σ H Q ⟨n, env, m, rfl, ok, h⟩
  refine ⟨n, env, m, rfl, ok, hi _ _ _ _ (fun xs m1 h1 n1 J g1 l1 wk => ?_) h⟩
  obtain ⟨Gp, Y, wk, st⟩ := wk
  intro D hD
  have ok1 := (ok.go g1 l1).wipe vs
  obtain ⟨f1, f2⟩ := g1.free hD
  refine lc_it wk (fun i H => ∃ n2 m2 aV acc, n2.H = H ∧ n1.le n2 ∧ Good C X.w X.K n2 m2 ∧ n2.H D = some (.lst aV) ∧ n2.G D = none ∧ D ∉ n2.al ∧ FzAllN C X.w X.K n2 aV acc ∧ acc.length ≤ i ∧ i ≤ xs.length ∧
    lcGo tg dt de (wipeE env vs) (xs.drop i) m2 (fun ds m' => ∀ n' p us, Good C X.w X.K n' m' → n.le n' → n'.H p = none → FzAllN C X.w X.K n' us (acc ++ ds) → Q (.ref p) (upd n'.H p (.lst us)))) ?_ ?_ ?_ ?_
  · exact ⟨⟨n1.G, n1.al, upd n1.H D (.lst [])⟩, m1, [], [], rfl, (Nw.le.refl n1).at hD, g1.at f1 f2, upd_same, f1, f2, .nil, Nat.le_refl _, Nat.zero_le _, h1.2⟩
  · rintro i H hi ⟨n2, m2, aV, acc, rfl, l2, g2, _⟩
    exact (st n2 m2 l2.sub g2).1
  · rintro i x H H' hi ⟨n2, m2, aV, acc, rfl, l2, g2, hD2, hG2, ha2, hz2, hl2, hi2, h2⟩ hy
    obtain ⟨n3, d, rfl, g3, l3, hd3, hz3⟩ := (st n2 m2 l2.sub g2).2 i x _ hi hy
    have hdr : xs.drop i = d :: xs.drop (i + 1) := by
      rw [List.drop_eq_getElem_cons hi]
      rw [List.getElem?_eq_getElem hi] at hd3
      rw [Option.some.inj hd3]
    rw [hdr] at h2
    unfold lcGo at h2
    split at h2
    · rename_i env2 hb2
      have D2 : n2.H D ≠ none := by rw [hD2]; simp
      refine bind_ok (x := .f d) hz3 (ok1.go g3 (l2.trans l3)) hb2 fun σ2 ok3 hw => ⟨?_, ?_⟩
      · rw [hw vs htg, wipe_idem]
      · refine ⟨n3, env2, m2, rfl, ok3, ht _ _ _ _ (fun b m4 h4 n4 g4 l4 => ?_) h2⟩
        have l24 := l3.trans l4
        cases b with
        | false =>
          exact ⟨n4, m4, aV, acc, rfl, l2.trans l24, g4, l24.keep D _ hD2 ha2, (l24.gnew D D2).trans hG2, l24.nal D2 ha2, FzAllN.le hz2 l24, by omega, by omega, h4⟩
        | true =>
          refine ⟨n4, env2, m4, rfl, ok3.go g4 l4, hd _ _ _ _ (fun y m5 h5 n5 v g5 l5 ly => ?_) h4⟩
          have l25 := l24.trans l5
          have e5 := l25.keep D _ hD2 ha2
          have hG5 := (l25.gnew D D2).trans hG2
          have ha5 := l25.nal D2 ha2
          refine ⟨aV, e5, ?_, ?_⟩
          · rw [hz2.length]
            have := h1.1
            omega
          · cases y with
            | o k => exact h5.elim
            | f d5 =>
              have ly : FzN C X.w X.K n5 v d5 := ly
              refine ⟨⟨n5.G, n5.al, upd n5.H D (.lst (aV ++ [v]))⟩, m5, aV ++ [v], acc ++ [d5], rfl, (l2.trans l25).at hD, g5.at hG5 ha5, upd_same, hG5, ha5, ?_, by simp; omega, by omega, ?_⟩
              · exact FzAll.append (FzAllN.le (n' := n5) hz2 l25) (.cons ly .nil)
              · refine lcGo.mono ht hd _ _ _ _ _ (fun ds m6 h6 n' p us g' l' hp hu => ?_) h5
                refine h6 n' p us g' l' hp ?_
                rw [List.append_assoc] at hu
                exact hu
    · exact h2.elim
  · rintro H ⟨n2, m2, aV, acc, rfl, l2, g2, hD2, hG2, ha2, hz2, hl2, hi2, h2⟩
    rw [List.drop_length] at h2
    have ne : ∀ {a u}, n1.H a = some u → a ≠ D := fun e z => by subst z; rw [hD] at e; cases e
    have h3 := h2 ⟨n2.G, n2.al, del n2.H D⟩ D aV ⟨fun p o e => ?_, g2.nd, g2.len, fun k y a e1 e2 => ?_, Tabs_del g2.tab (Calm.lst hD2), g2.tg⟩ ⟨fun p o e => l2.g p o (l1.g p o e), fun p o e hn nt => ?_, fun p e => ?_, fun p e => ?_, l1.ale.trans l2.ale, fun k p hk e => ?_⟩ del_same (by rw [List.append_nil]; exact hz2)
    · have : upd (del n2.H D) D (.lst aV) = n2.H := upd_del hD2
      rw [← this]; exact h3
    · show del n2.H D p = some o
      rw [del_ne (fun z => by subst z; have e' : n2.G p = some o := e; rw [hG2] at e'; cases e')]; exact g2.sub p o e
    · obtain ⟨q1, q2⟩ := g2.at_ k y a e1 e2
      refine ⟨q1.imp (n := n2) (fun _ _ e => e) (fun _ _ e => e) fun u e => ?_, q2⟩
      show del n2.H D a = some u
      rw [del_ne (fun z => by subst z; exact ha2 (List.mem_of_getElem? e2))]; exact e
    · have e1 := l1.keepN p o e hn nt
      have e2 := l2.keepN p o e1 (l1.nal (by rw [e]; simp) hn) nt
      show del n2.H D p = some o
      rw [del_ne (ne e1)]; exact e2
    · have e1 := l1.there p e
      have e2 := l2.there p e1
      show del n2.H D p ≠ none
      rw [del_ne (fun z => by subst z; exact e1 hD)]; exact e2
    · exact (l2.gnew p (l1.there p e)).trans (l1.gnew p e)
    · exact (l1.trans l2).anew k p hk e
variable {elt te iter : Expr} {ifs : List Expr} {scope : Scope} {own : List (Str × Nat)} {pos : Pos} {tg : Tg} {dt : TB} {de : TD} {di : TId}
structure DTs (X : Cx) (C : Ct) (B : Nw) (ifs : List Expr) (d : TB) : Prop where
  mono : MonoB d
  run : PTs X ifs (lB C B X.w X.K d)
def dYes : TB := fun _ m Q => Q true m
theorem dts_nil : DTs X C B [] dYes := ⟨fun _ _ _ _ i => i _ _, ⟨fun pins s σ H Q I h => pts_nil.run pins s σ H Q I (by
  obtain ⟨n, env, m, rfl, ok, h⟩ := h
  exact h n ok.good (.refl _))⟩⟩
theorem dts_one {c : Expr} {d : TB} (h : DT X C B c d) : DTs X C B [c] d := ⟨h.mono, pts_one h.run⟩
abbrev Blk (X : Cx) (scope : Scope) (P : Cx → Prop) : Prop := ∀ (s : Shared) (H : Hp) (C : Addr) (cl : List (Str × Addr)) (fp : List Addr), P (X.blk s H scope (compEnvC scope cl C X.env) fp)
theorem dn_lc (hc : X.calm = true) (hN : X.N.Nodup) (hi : DI X C B te iter di) (ok : BlkOk X.N X.env.scope scope own) (mt : MonoB dt) (md : MonoD de) (hg : Blk X scope fun Y => TgOk Y te tg) (ht : Blk X scope fun Y => DTs Y C B ifs dt) (he : Blk X scope fun Y => DE Y C B elt de)
    (htg : ∀ i ∈ tg.ids, i ∈ own.map (·.2)) (hs : ∀ x, foldedSetIterable iter X.env x = pure x := by intro _; rfl) : DN X C B (.ListComp elt [⟨te, iter, ifs, 0⟩] scope pos) (nLc tg dt de (own.map (·.2)) di) :=
  ⟨nLc.mono hi.mono mt md, imp (pe_lc hc hN hi.run ok (fun s H C cl fp => (hg s H C cl fp).run) (fun s H C cl fp => (ht s H C cl fp).run) (fun s H C cl fp => (he s H C cl fp).run) hs) (lc_imp hi.mono mt md htg)⟩
theorem ds_setLc {i : Nat} {y : Str} {py spos : Pos} (hc : X.calm = true) (hN : X.N.Nodup) (hy : X.N[i]? = some y) (hyl : X.env.scope.names.lookup y = some .local) (hsw : swapsWith (.ListComp elt [⟨te, iter, ifs, 0⟩] scope pos) (some (.Name y py)) spos.line X.env = pure true)
    (hi : DI X C B te iter di) (ok : BlkOk X.N X.env.scope scope own) (mt : MonoB dt) (md : MonoD de) (hg : Blk X scope fun Y => TgOk Y te tg) (ht : Blk X scope fun Y => DTs Y C B ifs dt) (he : Blk X scope fun Y => DE Y C B elt de)
    (htg : ∀ i ∈ tg.ids, i ∈ own.map (·.2)) (hs : ∀ x, foldedSetIterable iter X.env x = pure x := by intro _; rfl) : DS X C B (.Assign [.Name y py] (.ListComp elt [⟨te, iter, ifs, 0⟩] scope pos) spos) (sAsg (.nm i) (dNew (nLc tg dt de (own.map (·.2)) di))) := by
  have mm := nLc.mono (tg := tg) (vs := own.map (·.2)) hi.mono mt md
  refine ⟨sAsg.mono (fun env m Q Q' i h => mm _ _ _ _ (fun ds m1 => i _ _) h), impS (ps_setLc (g := gOf X.K tg) (tt := lB C B X.w X.K dt) (te := lE C B X.w X.K de) hc hN hy hyl hsw hi.run ok (fun s H C cl fp => (hg s H C cl fp).run) (fun s H C cl fp => (ht s H C cl fp).run) (fun s H C cl fp => (he s H C cl fp).run) hs) ?_⟩
  rintro D σ H ⟨n, env, m, rfl, ok, h⟩
  refine lc_imp hi.mono mt md htg σ _ _ ⟨n, env, m, rfl, ok, mm _ _ _ _ (fun ds m1 h1 n1 p vs g1 l1 hp hz => ?_) h⟩
  obtain ⟨g2, l2⟩ := g1.freeze (o := .lst vs) hp
  exact h1 _ _ (l1.trans l2).sub ((ok.go g2 (l1.trans l2)).setF (.lst (Rd.of upd_same) (FzAllN.le hz l2)))
theorem ds_setLcN {i : Nat} {y : Str} {py spos : Pos} (hc : X.calm = true) (hN : X.N.Nodup) (hy : X.N[i]? = some y) (hyl : X.env.scope.names.lookup y = some .local) (hsw : swapsWith (.ListComp elt [⟨te, iter, ifs, 0⟩] scope pos) (some (.Name y py)) spos.line X.env = pure true)
    (hi : DI X C B te iter di) (ok : BlkOk X.N X.env.scope scope own) (mt : MonoB dt) (md : MonoD de) (hg : Blk X scope fun Y => TgOk Y te tg) (ht : Blk X scope fun Y => DTs Y C B ifs dt) (he : Blk X scope fun Y => DE Y C B elt de)
    (htg : ∀ i ∈ tg.ids, i ∈ own.map (·.2)) (hs : ∀ x, foldedSetIterable iter X.env x = pure x := by intro _; rfl) : DS X C B (.Assign [.Name y py] (.ListComp elt [⟨te, iter, ifs, 0⟩] scope pos) spos) (sSetN i (nLc tg dt de (own.map (·.2)) di)) := by
  have mm := nLc.mono (tg := tg) (vs := own.map (·.2)) hi.mono mt md
  refine ⟨fun env m D D' l => mm _ _ _ _ fun ds m1 => l.nx _ _, impS (ps_setLc (g := gOf X.K tg) (tt := lB C B X.w X.K dt) (te := lE C B X.w X.K de) hc hN hy hyl hsw hi.run ok (fun s H C cl fp => (hg s H C cl fp).run) (fun s H C cl fp => (ht s H C cl fp).run) (fun s H C cl fp => (he s H C cl fp).run) hs) ?_⟩
  rintro D σ H ⟨n, env, m, rfl, ok, h⟩
  refine lc_imp hi.mono mt md htg σ _ _ ⟨n, env, m, rfl, ok, mm _ _ _ _ (fun ds m1 h1 n1 p vs g1 l1 hp hz => ?_) h⟩
  have ok2 := (ok.go g1 l1).newO (i := i) (o := .lst vs) (z := .lst ds) hp ⟨vs, upd_same, hz⟩
  exact h1 ⟨n1.G, n1.al, upd n1.H p (.lst vs)⟩ _ ⟨l1.g, l1.ale⟩ ok2
end

abbrev QXe := Nat → List Dat → Env' → Mem → Prop
def MonoP (p : DSp) : Prop := ∀ ds m (Q Q' : QD) (E E' : QX), (∀ x m', Q x m' → Q' x m') → (∀ c xs m', E c xs m' → E' c xs m') → p ds m Q E → p ds m Q' E'
def XAt (C : Ct) (B n : Nw) (c : Nat) (dx : Option Addr) (vs : List V) : Prop := vs.length = (C.flds c).length ∧ ((dx = none ∧ vs = []) ∨ ∃ a, dx = some a ∧ B.H a = none ∧ n.H a = some (.xd ((C.flds c).zip vs)))
def AftX (C : Ct) (w : World) (K : PySem.W.Frag) (n : Nw) (E : XK) : QX := fun c xs m' => ∀ n' dx vs, Good C w K n' m' → n.le n' → XAt C n n' c dx vs → FzAllN C w K n' vs xs → E (.ref (C.addr c)) dx n'.H
def spD (C : Ct) (w : World) (K : PySem.W.Frag) (k : Nat) (p : DSp) : Sp := fun vs H Q E => vs.length = k ∧ ∃ n m ds, n.H = H ∧ Good C w K n m ∧ FzAllN C w K n vs ds ∧ p ds m (AftD C w K n Q) (AftX C w K n E)
structure DF (P : Program) (w : World) (K : PySem.W.Frag) (mg : Str → Option Value) (base : Heap) (C : Ct) (k : Nat) (f : Addr) (fd : FuncData) (ps : List Str) (p : DSp) : Prop where
  mono : MonoP p
  ok : FnOk P w K mg base (L2.CX P w) k f fd ps (spD C w K ps.length p)
theorem XAt.base {C : Ct} {B n n' : Nw} {c : Nat} {dx : Option Addr} {vs : List V} (l : B.le n) (h : XAt C n n' c dx vs) : XAt C B n' c dx vs := by
  obtain ⟨h1, h2⟩ := h
  refine ⟨h1, ?_⟩
  rcases h2 with h2 | ⟨a, h3, h4, h5⟩
  · exact .inl h2
  · exact .inr ⟨a, h3, l.base h4, h5⟩
def atX (C : Ct) (B : Nw) (w : World) (K : PySem.W.Frag) (EX : QXe) (σ : L2.St) : XK := fun cls dx H => ∃ n env m c xs vs, n.H = H ∧ Ok C w K B n env m σ ∧ cls = .ref (C.addr c) ∧ XAt C B n c dx vs ∧ FzAllN C w K n vs xs ∧ EX c xs env m
def TakesD (X : Cx) (C : Ct) (B : Nw) (EX : QXe) : Prop := Takes X (fun cls dx σ H => atX C B X.w X.K EX σ cls dx H)
def PassD (X : Cx) (C : Ct) (B : Nw) (EX : QXe) : Prop := ∀ σ, PassesAt (L2.CX X.prog X.w) X σ (atX C B X.w X.K EX σ)
def EX0 : QXe := fun _ _ _ _ => False
theorem passD0 {X : Cx} {C : Ct} {B : Nw} : PassD X C B EX0 := fun σ pins H s e s' I h => by
  obtain ⟨_, _, _, _, _, _, _, _, _, _, _, _, z⟩ := h
  obtain ⟨_, _, _, _, _, _, _, _, _, _, _, z⟩ := z
  exact z.elim
def dCall (p : DSp) (EX : QXe) (da : TAd) : TD := fun env m Q => da env m fun xs m1 => match frs xs with
  | some ds => p ds m1 (fun d m2 => Q (.f d) m2) (fun c ys m2 => EX c ys env m2)
  | none => False
theorem dCall.mono {p : DSp} {EX : QXe} {da : TAd} (hp : MonoP p) (ha : MonoA da) : MonoD (dCall p EX da) := fun env m Q Q' i => ha _ _ _ _ fun xs m1 => by
  split
  · exact hp _ _ _ _ _ _ (fun d m2 => i _ _) fun _ _ _ h => h
  · exact id
section
variable {X : Cx} {C : Ct} {B : Nw} {k : Nat} {f : Addr} {fd : FuncData} {ps : List Str} {p : DSp} {EX : QXe} {x : Str} {p1 pos : Pos} {e : Expr} {es : List Expr} {da : TAd}
theorem call_imp (hp : MonoP p) (ha : MonoA da) {n' : Nat} (hn : ∀ {vs ds n}, FzAllN C X.w X.K n vs ds → (∃ m Q E, p ds m Q E) → vs.length = n') : ∀ σ H Q, lE C B X.w X.K (dCall p EX da) σ H Q → tCallSD (spD C X.w X.K n' p) [] (atX C B X.w X.K EX) (lA C B X.w X.K da) σ H Q := by
  rintro σ H Q ⟨n, env, m, rfl, ok, h⟩
  refine ⟨n, env, m, rfl, ok, ha _ _ _ _ (fun xs m1 h1 n1 vs g1 l1 lx => ?_) h⟩
  split at h1
  · rename_i ds hd
    have hz := frs_ok lx hd
    refine ⟨by rw [List.append_nil]; exact hn hz ⟨_, _, _, h1⟩, n1, m1, ds, rfl, g1, by rw [List.append_nil]; exact hz, hp _ _ _ _ _ _ (fun d m2 h2 n2 v g2 l2 hv => h2 n2 v g2 (l1.trans l2) hv) (fun c ys m2 h2 n2 dx us g2 l2 hx hu => ?_) h1⟩
    exact ⟨n2, env, m2, c, ys, us, rfl, ok.go g2 (l1.trans l2), rfl, hx.base (ok.go g1 l1).base, hu, h2⟩
  · exact h1.elim
theorem de_call (F : DF X.prog X.w X.K X.mg X.base C k f fd ps p) (hl : ∀ ds m Q E, p ds m Q E → ds.length = ps.length) (hr : Room k X.A) (hg : Gl X x) (hm : X.mg x = some (.ref f)) (hk : PySem.W.keepIn X.K (.ref f) = true) (hb : Binds X.K fd ps []) (hx : PassD X C B EX) (ha : DA X C B (e :: es) da)
    (hdb : (x == ("__debug__" : Str)) = false := by decide) (he : starEach (e :: es) X.env = (false, eval e X.env) :: starEach es X.env := by rfl) (hpl : (backTo pos (starEach es X.env)).any (·.1) = false := by rfl) :
    DE X C B (.Call (.Name x p1) (e :: es) [] pos) (dCall p EX da) :=
  ⟨dCall.mono F.mono ha.mono, imp (pe_callSD F.ok hr hg hm hk hb .nil hx ha.run hdb he hpl) (call_imp F.mono ha.mono fun hz ⟨m, Q, E, h⟩ => hz.length.trans (hl _ _ _ _ h))⟩
end
def env0 (N : Nat) (ds : List Dat) : Env' := ds.map (fun d => some (.f d)) ++ List.replicate (N - ds.length) none
section
variable {P : Program} {w : World} {K : PySem.W.Frag} {mg : Str → Option Value} {base : Heap} {C : Ct} {x qual : Str} {params : Arguments} {body : List Stmt} {scope : Scope} {f : Addr} {fd : FuncData} {N ps : List Str} {k : Nat} {p : DSp}
theorem env_start {n : Nw} {vs : List V} {ds : List Dat} (h : FzAllN C w K n vs ds) : EnvOk C w K n n (env0 N.length ds) (L2.start N vs) := by
  have hl := h.length
  have key : ∀ {i : Nat} {y : Sl}, (env0 N.length ds)[i]? = some (some y) → ∃ d, ds[i]? = some d ∧ y = .f d := by
    intro i y e
    unfold env0 at e
    by_cases hi : i < ds.length
    · rw [List.getElem?_append_left (by simpa using hi), List.getElem?_map] at e
      rw [List.getElem?_eq_getElem hi] at e
      simp only [Option.map_some, Option.some.injEq] at e
      exact ⟨_, List.getElem?_eq_getElem hi, e.symm⟩
    · rw [List.getElem?_append_right (by simpa using hi), List.getElem?_replicate] at e
      split at e <;> cases e
  refine ⟨?_, fun i d e => ?_, fun i y e => ?_, fun i j y z a e => ?_⟩
  · unfold env0 L2.start
    simp [hl]
  · obtain ⟨d', h1, h2⟩ := key e
    cases h2
    obtain ⟨v, h3, h4⟩ := h.get h1
    refine ⟨v, ?_, h4⟩
    unfold L2.start
    have hi := (List.getElem?_eq_some_iff.mp h3).1
    rw [List.getElem?_append_left (by simpa using hi), List.getElem?_map, h3]
    rfl
  · obtain ⟨d', h1, h2⟩ := key e
    cases h2
  · obtain ⟨d', h1, h2⟩ := key e
    cases h2
theorem df_of {d : QXe → TSd} (F : FunD K x qual params body scope [] [] f fd) (S : FnScope N ps scope) (mono : MonoP p) (len : ∀ ds m Q E, p ds m Q E → ds.length = ps.length)
    (walk : ∀ (cdv : Value) (A : Around) (outer : List Env) (s : Shared) (H : Hp) (E : XK) (B : Nw) (EX : QXe), Room k (A.deeper (envOfC qual scope s.heap.objs.size f cdv)) → TakesD (cxOf (L2.CX P w) P w K mg base N qual scope f cdv A outer s H E) C B EX →
      DSs (cxOf (L2.CX P w) P w K mg base N qual scope f cdv A outer s H E) C B body (d EX))
    (law : ∀ ds m (Q : QD) (E : QX), p ds m Q E → d (fun c xs _ m => E c xs m) { nx := fun _ m => Q .non m, rt := Q } (env0 N.length ds) m) : DF P w K mg base C (k + 1) f fd ps p := by
  refine ⟨mono, F.ok S (fun vs H Q E h => h.1) fun cdv A outer s H vs Q E hr h => ?_⟩
  obtain ⟨hl, n, m, ds, rfl, g, hz, h⟩ := h
  let X := cxOf (L2.CX P w) P w K mg base N qual scope f cdv A outer s n.H E
  have ok : Ok C w K n n (env0 N.length ds) m (L2.start N vs) := ⟨g, .refl _, env_start hz⟩
  have tk : Takes X (fun cls dx _ H => E cls dx H) := takes_of rfl rfl rfl rfl
  have pd : TakesD X C n (fun c xs _ m' => AftX C w K n E c xs m') := tk.imp (fun cls dx σ' H' hq => by
    obtain ⟨n', env', m', c, xs, us, rfl, ok', rfl, hx, hu, hE⟩ := hq
    exact hE n' dx us ok'.good ok'.base hx hu)
  have W := walk cdv A outer s n.H E n (fun c xs _ m' => AftX C w K n E c xs m') hr pd
  refine ⟨_, W.run, n, _, m, rfl, ok, ?_⟩
  refine W.mono _ _ { nx := fun _ m => AftD C w K n Q .non m, rt := AftD C w K n Q } _ ⟨fun e1 m1 h1 n1 σ1 _ ok1 => ?_, fun d1 m1 h1 n1 v1 l1 g1 hv => ?_, fun _ _ h1 => h1.elim, fun _ _ h1 => h1.elim⟩ (law ds m (AftD C w K n Q) (AftX C w K n E) h)
  · exact h1 n1 .non ok1.good ok1.base .non
  · exact h1 n1 v1 g1 l1 hv
end
end DL

set_option maxHeartbeats 1000000
namespace DL
open PySem PySem.Spec PyProof.Rows L2

def okN : Nat → Dat → Bool
  | _, .non => true
  | _, .bl _ => true
  | _, .int _ => true
  | _, .str x => PyData.strOk x
  | k + 1, .tup xs => xs.all (okN k)
  | k + 1, .lst xs => xs.all (okN k)
  | _, _ => false
mutual
def eqd : Dat → Dat → Bool
  | .non, .non => true
  | .bl a, .bl b => a == b
  | .bl a, .int j => (if a = true then 1 else 0) == j
  | .int i, .bl b => i == (if b = true then 1 else 0)
  | .int i, .int j => i == j
  | .str x, .str y => x == y
  | .tup xs, .tup ys => eqds xs ys
  | .lst xs, .lst ys => eqds xs ys
  | _, _ => false
def eqds : List Dat → List Dat → Bool
  | [], [] => true
  | x :: xs, y :: ys => eqd x y && eqds xs ys
  | _, _ => false
end
theorem okN_lay : ∀ (k : Nat) (d : Dat), okN k d = true → (py d).canLay0 = true ∧ (py d).depth ≤ k
  | k, .non, _ => by cases k <;> exact ⟨rfl, Nat.zero_le _⟩
  | k, .bl b, _ => by cases k <;> exact ⟨rfl, Nat.zero_le _⟩
  | k, .int i, _ => by cases k <;> exact ⟨rfl, Nat.zero_le _⟩
  | k, .str x, h => by
    have h : PyData.strOk x = true := by cases k <;> exact h
    exact ⟨by rw [py, PyData.canLay0]; exact h, by rw [py, PyData.depth]; exact Nat.zero_le _⟩
  | 0, .tup xs, h => by cases h
  | 0, .lst xs, h => by cases h
  | k + 1, .tup xs, h => by
    have h : xs.all (okN k) = true := h
    have key : ∀ ys : List Dat, ys.all (okN k) = true → PyData.canLayAll0 (pys ys) = true ∧ PyData.depthAll (pys ys) ≤ k := by
      intro ys
      induction ys with
      | nil => intro _; rw [pys]; exact ⟨by rw [PyData.canLayAll0], by rw [PyData.depthAll]; exact Nat.zero_le _⟩
      | cons y ys ih =>
        intro hy
        rw [List.all_cons, Bool.and_eq_true] at hy
        obtain ⟨h1, h2⟩ := okN_lay k y hy.1
        obtain ⟨h3, h4⟩ := ih hy.2
        rw [pys, PyData.canLayAll0, PyData.depthAll, h1, h3]
        exact ⟨rfl, by omega⟩
    obtain ⟨h1, h2⟩ := key xs h
    rw [py, PyData.canLay0, PyData.depth]
    exact ⟨h1, by omega⟩
  | k + 1, .lst xs, h => by
    have h : xs.all (okN k) = true := h
    have key : ∀ ys : List Dat, ys.all (okN k) = true → PyData.canLayAll0 (pys ys) = true ∧ PyData.depthAll (pys ys) ≤ k := by
      intro ys
      induction ys with
      | nil => intro _; rw [pys]; exact ⟨by rw [PyData.canLayAll0], by rw [PyData.depthAll]; exact Nat.zero_le _⟩
      | cons y ys ih =>
        intro hy
        rw [List.all_cons, Bool.and_eq_true] at hy
        obtain ⟨h1, h2⟩ := okN_lay k y hy.1
        obtain ⟨h3, h4⟩ := ih hy.2
        rw [pys, PyData.canLayAll0, PyData.depthAll, h1, h3]
        exact ⟨rfl, by omega⟩
    obtain ⟨h1, h2⟩ := key xs h
    rw [py, PyData.canLay0, PyData.depth]
    exact ⟨h1, by omega⟩
  | k, .dct _, h => by cases k <;> cases h
  | k, .ins _ _, h => by cases k <;> cases h
  | k, .obj _, h => by cases k <;> cases h
  | k, .ref _, h => by cases k <;> cases h
  | k, .ty _, h => by cases k <;> cases h
  | k, .cls _, h => by cases k <;> cases h
theorem okN_shaped {k : Nat} {d : Dat} (hk : k ≤ 64) (h : okN k d = true) : SeqAt.shaped (py d) = true := by
  obtain ⟨h1, h2⟩ := okN_lay k d h
  unfold SeqAt.shaped
  rw [h1, decide_eq_true (Nat.le_trans h2 hk)]
  rfl
theorem eqv_eqd : ∀ (k j : Nat) (a b : Dat), okN k a = true → okN j b = true → PyData.eqv (py a) (py b) = eqd a b := by
  intro k
  induction k with
  | zero =>
    intro j a b ha hb
    cases a with
    | tup xs => cases ha
    | lst xs => cases ha
    | dct _ => cases ha
    | ins _ _ => cases ha
    | obj _ => cases ha
    | ref _ => cases ha
    | ty _ => cases ha
    | cls _ => cases ha
    | _ => cases b <;> first | (cases j <;> cases hb; done) | rfl | (simp only [py, PyData.eqv, eqd])
  | succ k ih =>
    intro j a b ha hb
    have key : ∀ (j : Nat) (xs ys : List Dat), xs.all (okN k) = true → ys.all (okN j) = true → PyData.eqvAll (pys xs) (pys ys) = eqds xs ys := by
      intro j xs
      induction xs with
      | nil => intro ys _ _; cases ys <;> simp [pys, PyData.eqvAll, eqds]
      | cons x xs ihx =>
        intro ys hx hy
        cases ys with
        | nil => simp [pys, PyData.eqvAll, eqds]
        | cons y ys =>
          rw [List.all_cons, Bool.and_eq_true] at hx hy
          simp only [pys, PyData.eqvAll, eqds]
          rw [ih j x y hx.1 hy.1, ihx ys hx.2 hy.2]
    cases a with
    | tup xs =>
      cases b with
      | tup ys =>
        cases j with
        | zero => cases hb
        | succ j => simp only [py, PyData.eqv, eqd]; exact key j xs ys ha hb
      | dct _ => cases j <;> cases hb
      | ins _ _ => cases j <;> cases hb
      | obj _ => cases j <;> cases hb
      | ref _ => cases j <;> cases hb
      | ty _ => cases j <;> cases hb
      | cls _ => cases j <;> cases hb
      | _ => simp only [py, PyData.eqv, eqd]
    | lst xs =>
      cases b with
      | lst ys =>
        cases j with
        | zero => cases hb
        | succ j => simp only [py, PyData.eqv, eqd]; exact key j xs ys ha hb
      | dct _ => cases j <;> cases hb
      | ins _ _ => cases j <;> cases hb
      | obj _ => cases j <;> cases hb
      | ref _ => cases j <;> cases hb
      | ty _ => cases j <;> cases hb
      | cls _ => cases j <;> cases hb
      | _ => simp only [py, PyData.eqv, eqd]
    | dct _ => cases ha
    | ins _ _ => cases ha
    | obj _ => cases ha
    | ref _ => cases ha
    | ty _ => cases ha
    | cls _ => cases ha
    | _ => cases b <;> first | (cases j <;> cases hb; done) | rfl | (simp only [py, PyData.eqv, eqd])

inductive Nowv (C : Ct) (w : World) (K : PySem.W.Frag) (n : Nw) : V → Dat → Prop
  | fz {v d} : FzN C w K n v d → Nowv C w K n v d
  | lst {a vs xs} : n.H a = some (.lst vs) → FzAllN C w K n vs xs → Nowv C w K n (.ref a) (.lst xs)
  | dct {a es kvs} : n.H a = some (dxo a es) → (a == sysModules) = false → FzEs C w K n.al n.G es.toList kvs → Nowv C w K n (.ref a) (.dct kvs)
section
variable {C : Ct} {w : World} {K : PySem.W.Frag} {B n : Nw} {m : Mem} {env : Env'} {σ : L2.St}
theorem mo_now {a : Addr} {x : Mo} {d : Dat} (h : MoOk C w K n a x) (e : moD x = some d) : Nowv C w K n (.ref a) d := by
  cases x with
  | lst xs => cases e; obtain ⟨vs, h1, h2⟩ := h; exact .lst h1 h2
  | dct kvs => cases e; obtain ⟨es, h1, h3, h2⟩ := h; exact .dct h1 h3 h2
  | ins c xs => cases e
theorem der_ok {v : V} {x : Lv} {d : Dat} (ok : Ok C w K B n env m σ) (h : LvOk C w K n env σ v x) (e : der env m x = some d) : Nowv C w K n v d := by
  cases x with
  | o i =>
    obtain ⟨h1, y, h2⟩ := h
    have e' : (match env[i]? with
      | some (some (.own x)) => moD x
      | _ => none) = some d := e
    rw [h2] at e'
    obtain ⟨a, h3, h4⟩ := ok.env.own i y h2
    rw [h1] at h3
    cases h3
    exact mo_now h4.ok e'
  | f y =>
    by_cases hy : ∃ k, y = .obj k
    · obtain ⟨k, rfl⟩ := hy
      have e' : (match m[k]? with
        | some x => moD x
        | none => none) = some d := e
      have h : FzN C w K n v (.obj k) := h
      cases h with
      | obj hk =>
        cases q : m[k]? with
        | none => rw [q] at e'; cases e'
        | some x => rw [q] at e'; exact mo_now (ok.good.at_ k x _ q hk).1 e'
    · have e' : some y = some d := by
        cases y with
        | obj k => exact absurd ⟨k, rfl⟩ hy
        | _ => exact e
      cases e'
      exact .fz h
def lstOf (env : Env') (m : Mem) (x : Lv) : Option (List Dat) := match der env m x with
  | some (.lst xs) => some xs
  | _ => none
def tupOf (env : Env') (m : Mem) (x : Lv) : Option (List Dat) := match der env m x with
  | some (.tup xs) => some xs
  | _ => none
theorem rdUp {a : Addr} {u : HO} (g : Good C w K n m) (h : Rd n.G a u) : Rd n.H a u := Rd.keep g.sub h
theorem lst_ok {v : V} {x : Lv} {xs : List Dat} (ok : Ok C w K B n env m σ) (h : LvOk C w K n env σ v x) (e : lstOf env m x = some xs) : ∃ a vs, v = .ref a ∧ Rd n.H a (.lst vs) ∧ FzAllN C w K n vs xs := by
  unfold lstOf at e
  split at e
  · rename_i ys hd
    cases e
    cases der_ok ok h hd with
    | fz z => cases z with | lst z1 z2 => exact ⟨_, _, rfl, rdUp ok.good z1, z2⟩
    | lst z1 z2 => exact ⟨_, _, rfl, .inl z1, z2⟩
  · cases e
theorem tup_ok {v : V} {x : Lv} {xs : List Dat} (ok : Ok C w K B n env m σ) (h : LvOk C w K n env σ v x) (e : tupOf env m x = some xs) : ∃ a vs, v = .ref a ∧ SqT K n.H a vs ∧ FzAllN C w K n vs xs := by
  unfold tupOf at e
  split at e
  · rename_i ys hd
    cases e
    cases der_ok ok h hd with
    | fz z => cases z with | tup z1 z2 => exact ⟨_, _, rfl, SqT.keep ok.good.sub z1, z2⟩
  · cases e
def seqOf (env : Env') (m : Mem) (x : Lv) : Option (List Dat) := match der env m x with
  | some (.lst xs) => some xs
  | some (.tup xs) => some xs
  | _ => none
theorem seq_ok {v : V} {x : Lv} {xs : List Dat} (ok : Ok C w K B n env m σ) (h : LvOk C w K n env σ v x) (e : seqOf env m x = some xs) : ∃ a vs, v = .ref a ∧ (SqL K n.H a vs ∨ SqT K n.H a vs) ∧ FzAllN C w K n vs xs := by
  unfold seqOf at e
  split at e
  · rename_i ys hd
    cases e
    obtain ⟨a, vs, h1, h2, h3⟩ := lst_ok ok h (xs := xs) (by unfold lstOf; rw [hd])
    exact ⟨a, vs, h1, .inl (.inl h2), h3⟩
  · rename_i ys hd
    cases e
    obtain ⟨a, vs, h1, h2, h3⟩ := tup_ok ok h (xs := xs) (by unfold tupOf; rw [hd])
    exact ⟨a, vs, h1, .inr h2, h3⟩
  · cases e
mutual
theorem fz_dp (g : Good C w K n m) : ∀ (k : Nat) {v : V} {d : Dat}, FzN C w K n v d → okN k d = true → Dp K n.H v (py d)
  | k, _, .non, h, _ => by cases h; exact .non
  | k, _, .bl b, h, _ => by cases h; exact .bl b
  | k, _, .int i, h, _ => by cases h; exact .int i
  | k, _, .str x, h, _ => by cases h; exact .str x
  | 0, _, .tup xs, h, e => by cases e
  | 0, _, .lst xs, h, e => by cases e
  | k + 1, _, .tup xs, h, e => by
    cases h with
    | tup h1 h2 => rw [py]; exact .tup (SqT.keep g.sub h1) (fzs_dp g k h2 e)
  | k + 1, _, .lst xs, h, e => by
    cases h with
    | lst h1 h2 => rw [py]; exact .lst (.inl (rdUp g h1)) (fzs_dp g k h2 e)
  | k, _, .dct _, h, e => by cases k <;> cases e
  | k, _, .ins _ _, h, e => by cases k <;> cases e
  | k, _, .obj _, h, e => by cases k <;> cases e
  | k, _, .ref _, h, e => by cases k <;> cases e
  | k, _, .ty _, h, e => by cases k <;> cases e
  | k, _, .cls _, h, e => by cases k <;> cases e
theorem fzs_dp (g : Good C w K n m) : ∀ (k : Nat) {vs : List V} {ds : List Dat}, FzAllN C w K n vs ds → ds.all (okN k) = true → DpAll K n.H vs (pys ds)
  | k, _, [], h, _ => by cases h; rw [pys]; exact .nil
  | k, _, d :: ds, h, e => by
    rw [List.all_cons, Bool.and_eq_true] at e
    cases h with
    | cons a b => rw [pys]; exact .cons (fz_dp g k a e.1) (fzs_dp g k b e.2)
end
theorem now_dp (g : Good C w K n m) {k : Nat} {v : V} {d : Dat} (h : Nowv C w K n v d) (e : okN k d = true) : Dp K n.H v (py d) := by
  cases h with
  | fz z => exact fz_dp g k z e
  | lst h1 h2 =>
    cases k with
    | zero => cases e
    | succ k => rw [py]; exact .lst (.inl (.inl h1)) (fzs_dp g k h2 e)
  | dct h1 h2 h3 => cases k <;> cases e
end
section
variable {X : Cx} {C : Ct}
def oEq (f : Bool → Bool) : Op2 := fun env m x y Q => match der env m x, der env m y with
  | some a, some b => okN 60 a = true ∧ okN 60 b = true ∧ Q (.bl (f (eqd a b))) m
  | _, _ => False
theorem oEq.mono {f : Bool → Bool} : Mono2 (oEq f) := fun env m x y Q Q' i => by
  unfold oEq
  split
  · exact fun h => ⟨h.1, h.2.1, i _ _ h.2.2⟩
  · exact id
theorem op_eqd (hu : X.A.units + 64 < cLine) : OpD X C (compareOp .Eq) (oEq id) := by
  refine ⟨oEq.mono, fun pins s σ H x y v u Q I rx ry h => ?_⟩
  obtain ⟨B, n, env, m, σ', a, b, rfl, ok, la, lb, h⟩ := h
  unfold oEq at h
  split at h
  · rename_i da db ha hb
    obtain ⟨h1, h2, h3⟩ := h
    exact op_eqD hu pins s σ n.H x y v u Q I rx ry ⟨_, _, now_dp ok.good (der_ok ok la ha) h1, now_dp ok.good (der_ok ok lb hb) h2, okN_shaped (by decide) h1, okN_shaped (by decide) h2, by rw [eqv_eqd _ _ _ _ h1 h2]; exact h3 n _ ok.good (.refl _) (.bl _)⟩
  · exact h.elim
theorem op_ned (hu : X.A.units + 64 < cLine) : OpD X C (compareOp .NotEq) (oEq not) := by
  refine ⟨oEq.mono, fun pins s σ H x y v u Q I rx ry h => ?_⟩
  obtain ⟨B, n, env, m, σ', a, b, rfl, ok, la, lb, h⟩ := h
  unfold oEq at h
  split at h
  · rename_i da db ha hb
    obtain ⟨h1, h2, h3⟩ := h
    exact op_neD hu pins s σ n.H x y v u Q I rx ry ⟨_, _, now_dp ok.good (der_ok ok la ha) h1, now_dp ok.good (der_ok ok lb hb) h2, okN_shaped (by decide) h1, okN_shaped (by decide) h2, by rw [eqv_eqd _ _ _ _ h1 h2]; exact h3 n _ ok.good (.refl _) (.bl _)⟩
  · exact h.elim
def oIn (f : Bool → Bool) : Op2 := fun env m x y Q => match der env m x, seqOf env m y with
  | some a, some bs => okN 60 a = true ∧ bs.all (okN 59) = true ∧ Q (.bl (f (bs.any fun b => eqd b a))) m
  | _, _ => False
theorem oIn.mono {f : Bool → Bool} : Mono2 (oIn f) := fun env m x y Q Q' i => by
  unfold oIn
  split
  · exact fun h => ⟨h.1, h.2.1, i _ _ h.2.2⟩
  · exact id
theorem any_eqv {a : Dat} (ha : okN 60 a = true) : ∀ bs : List Dat, bs.all (okN 59) = true → ((pys bs).any fun y => PyData.eqv y (py a)) = bs.any fun b => eqd b a
  | [], _ => rfl
  | b :: bs, h => by
    rw [List.all_cons, Bool.and_eq_true] at h
    rw [pys, List.any_cons, List.any_cons, eqv_eqd _ _ _ _ h.1 ha, any_eqv ha bs h.2]
theorem op_ind {op : CmpOp} {f : Bool → Bool} (hu : X.A.units + 65 < cLine)
    (hl : ∀ {s : Shared} {c x : Value} {xs : List PyData} {d : PyData} {as bs : List Addr} {Q : Value → Shared → Prop}, Reads s.heap c (.list xs) as → Reads s.heap x d bs → PyData.canLayAll0 xs = true → d.canLay0 = true → X.A.units + 1 + min (PyData.depthAll xs) d.depth < cLine →
      Q (.bool (f (xs.any fun y => PyData.eqv y d))) s → wpAny (model X.prog X.w) X.A (compareOp op x c) Q X.xe s)
    (ht : ∀ {s : Shared} {c x : Value} {xs : List PyData} {d : PyData} {as bs : List Addr} {Q : Value → Shared → Prop}, Reads s.heap c (.tuple xs) as → Reads s.heap x d bs → PyData.canLayAll0 xs = true → d.canLay0 = true → X.A.units + 1 + min (PyData.depthAll xs) d.depth < cLine →
      Q (.bool (f (xs.any fun y => PyData.eqv y d))) s → wpAny (model X.prog X.w) X.A (compareOp op x c) Q X.xe s) : OpD X C (compareOp op) (oIn f) := by
  refine ⟨oIn.mono, fun pins s σ H x y v u Q I rx ry h => ?_⟩
  obtain ⟨B, n, env, m, σ', a, b, rfl, ok, la, lb, h⟩ := h
  unfold oIn at h
  split at h
  · rename_i da bs ha hb
    obtain ⟨h1, h2, h3⟩ := h
    obtain ⟨as, r1⟩ := Dp.reads I _ x v (now_dp ok.good (der_ok ok la ha) h1) rx
    have fin := any_eqv h1 bs h2
    unfold seqOf at hb
    split at hb
    · rename_i ys hd
      cases hb
      have h2' : okN 60 (.lst bs) = true := h2
      obtain ⟨cs, r2⟩ := Dp.reads I _ y u (now_dp ok.good (der_ok ok lb hd) h2') ry
      rw [py] at r2
      have sh := okN_shaped (by decide) h2'
      rw [py] at sh
      have cl := SeqAt.canLay_of_shaped sh
      rw [PyData.canLay0] at cl
      exact hl r2 r1 cl (SeqAt.canLay_of_shaped (okN_shaped (by decide) h1)) (room_in_shaped (okN_shaped (by decide) h1) hu) ⟨.bl _, _, I, rfl, by rw [fin]; exact h3 n _ ok.good (.refl _) (.bl _)⟩
    · rename_i ys hd
      cases hb
      have h2' : okN 60 (.tup bs) = true := h2
      obtain ⟨cs, r2⟩ := Dp.reads I _ y u (now_dp ok.good (der_ok ok lb hd) h2') ry
      rw [py] at r2
      have sh := okN_shaped (by decide) h2'
      rw [py] at sh
      have cl := SeqAt.canLay_of_shaped sh
      rw [PyData.canLay0] at cl
      exact ht r2 r1 cl (SeqAt.canLay_of_shaped (okN_shaped (by decide) h1)) (room_in_shaped (okN_shaped (by decide) h1) hu) ⟨.bl _, _, I, rfl, by rw [fin]; exact h3 n _ ok.good (.refl _) (.bl _)⟩
    · cases hb
  · exact h.elim
theorem op_inS (hu : X.A.units + 65 < cLine) : OpD X C (compareOp .In) (oIn id) := op_ind hu (fun a b c d e f => SeqAt.in_list_reads a b c d e f) fun a b c d e f => SeqAt.in_tuple_reads a b c d e f
theorem op_notInS (hu : X.A.units + 65 < cLine) : OpD X C (compareOp .NotIn) (oIn not) := op_ind hu (fun a b c d e f => SeqAt.notIn_list_reads a b c d e f) fun a b c d e f => SeqAt.notIn_tuple_reads a b c d e f
def isN : Lv → Bool
  | .f .non => true
  | _ => false
def oIsN (f : Bool → Bool) : Op2 := fun env m x y Q => match y with
  | .f .non => Q (.bl (f (isN x))) m
  | _ => False
theorem oIsN.mono {f : Bool → Bool} : Mono2 (oIsN f) := fun env m x y Q Q' i => by
  unfold oIsN
  split
  · exact i _ _
  · exact id
theorem isN_ok {w : World} {K : PySem.W.Frag} {n : Nw} {env : Env'} {σ : L2.St} {B : Nw} {m : Mem} {v : V} {x : Lv} (ok : Ok C w K B n env m σ) (h : LvOk C w K n env σ v x) : decide (v = .non) = isN x := by
  cases x with
  | o i =>
    obtain ⟨h1, y, h2⟩ := h
    obtain ⟨a, h3, h4⟩ := ok.env.own i y h2
    rw [h1] at h3; cases h3
    rfl
  | f d =>
    have h : FzN C w K n v d := h
    cases h <;> rfl
theorem op_isNd : OpD X C (compareOp .Is) (oIsN id) := by
  refine ⟨oIsN.mono, fun pins s σ H x y v u Q I rx ry h => ?_⟩
  obtain ⟨B, n, env, m, σ', a, b, rfl, ok, la, lb, h⟩ := h
  unfold oIsN at h
  split at h
  · have lb : FzN C X.w X.K n y .non := lb
    cases lb
    exact op_isN pins s σ n.H x .non v u Q I rx ry ⟨rfl, by rw [isN_ok ok la]; exact h n _ ok.good (.refl _) (.bl _)⟩
  · exact h.elim
theorem op_notNd : OpD X C (compareOp .IsNot) (oIsN not) := by
  refine ⟨oIsN.mono, fun pins s σ H x y v u Q I rx ry h => ?_⟩
  obtain ⟨B, n, env, m, σ', a, b, rfl, ok, la, lb, h⟩ := h
  unfold oIsN at h
  split at h
  · have lb : FzN C X.w X.K n y .non := lb
    cases lb
    exact op_notN pins s σ n.H x .non v u Q I rx ry ⟨rfl, by rw [isN_ok ok la]; exact h n _ ok.good (.refl _) (.bl _)⟩
  · exact h.elim
def oI (c : Int → Int → Prop) (g : Int → Int → Dat) : Op2 := fun _ m x y Q => match x, y with
  | .f (.int i), .f (.int j) => c i j ∧ Q (g i j) m
  | _, _ => False
theorem oI.mono {c : Int → Int → Prop} {g : Int → Int → Dat} : Mono2 (oI c g) := fun env m x y Q Q' i => by
  unfold oI
  split
  · exact fun h => ⟨h.1, i _ _ h.2⟩
  · exact id
theorem op_I {F : Value → Value → Sem Value} {c : Int → Int → Prop} {g : Int → Int → V} {g' : Int → Int → Dat} (h : OpR X F (rI c g)) (hg : ∀ i j C w K al G, Fz C w K al G (g i j) (g' i j)) : OpD X C F (oI c g') := by
  refine ⟨oI.mono, fun pins s σ H x y v u Q I rx ry q => ?_⟩
  obtain ⟨B, n, env, m, σ', a, b, rfl, ok, la, lb, q⟩ := q
  unfold oI at q
  split at q
  · rename_i i j
    have la : FzN C X.w X.K n x (.int i) := la
    have lb : FzN C X.w X.K n y (.int j) := lb
    cases la
    cases lb
    exact h pins s σ n.H _ _ v u Q I rx ry ⟨i, j, rfl, rfl, q.1, q.2 n _ ok.good (.refl _) (hg ..)⟩
  · exact q.elim
def oI0 (g : Int → Int → Dat) : Op2 := oI (fun _ _ => True) g
theorem op_I0 {F : Value → Value → Sem Value} {g : Int → Int → V} {g' : Int → Int → Dat} (h : OpR X F (rI0 g)) (hg : ∀ i j C w K al G, Fz C w K al G (g i j) (g' i j)) : OpD X C F (oI0 g') :=
  op_I (c := fun _ _ => True) (g := g) (fun pins s σ H x y v u Q I rx ry ⟨i, j, e1, e2, _, q⟩ => h pins s σ H x y v u Q I rx ry ⟨i, j, e1, e2, q⟩) hg
theorem op_subD : OpD X C (binaryOp .Sub) (oI0 fun i j => .int (i - j)) := op_I0 op_sub fun _ _ _ _ _ _ _ => .int _
theorem op_mulD : OpD X C (binaryOp .Mult) (oI CMul fun i j => .int (i * j)) := op_I op_mul fun _ _ _ _ _ _ _ => .int _
theorem op_fdivWD : OpD X C (binaryOp .FloorDiv) (oI CDivW fun i j => .int (i / j)) := op_I op_fdivW fun _ _ _ _ _ _ _ => .int _
theorem op_modD : OpD X C (binaryOp .Mod) (oI (fun _ j => 0 < j) fun i j => .int (i % j)) := op_I op_mod fun _ _ _ _ _ _ _ => .int _
theorem op_powD : OpD X C (binaryOp .Pow) (oI CPow fun i j => .int (i ^ j.toNat)) := op_I op_pow fun _ _ _ _ _ _ _ => .int _
theorem op_ltD : OpD X C (compareOp .Lt) (oI0 fun i j => .bl (decide (i < j))) := op_I0 op_lt fun _ _ _ _ _ _ _ => .bl _
theorem op_leD : OpD X C (compareOp .LtE) (oI0 fun i j => .bl (decide (i ≤ j))) := op_I0 op_le fun _ _ _ _ _ _ _ => .bl _
theorem op_gtD : OpD X C (compareOp .Gt) (oI0 fun i j => .bl (decide (j < i))) := op_I0 op_gt fun _ _ _ _ _ _ _ => .bl _
theorem op_geD : OpD X C (compareOp .GtE) (oI0 fun i j => .bl (decide (j ≤ i))) := op_I0 op_ge fun _ _ _ _ _ _ _ => .bl _
def oU (g : Int → Int) : Op1 := fun _ m x Q => match x with
  | .f (.int i) => Q (.int (g i)) m
  | _ => False
theorem un_negD : UnD X C (unaryOp .USub) (oU fun i => -i) := by
  refine ⟨fun env m x Q Q' i => by unfold oU; split <;> first | exact i _ _ | exact id, fun pins s σ H x v Q I rx q => ?_⟩
  obtain ⟨B, n, env, m, σ', a, rfl, ok, la, q⟩ := q
  unfold oU at q
  split at q
  · rename_i i
    have la : FzN C X.w X.K n x (.int i) := la
    cases la
    exact un_neg pins s σ n.H _ v Q I rx ⟨i, rfl, q n _ ok.good (.refl _) (.int _)⟩
  · exact q.elim
def dChain (f g : Op2) (da db dc : TD) : TD := fun env m Q => da env m fun x m1 => db env m1 fun y m2 => f env m2 x y fun z m3 => match z with
  | .bl true => dc env m3 fun u m4 => g env m4 y u fun r m5 => Q (.f r) m5
  | .bl false => Q (.f (.bl false)) m3
  | _ => False
def oAdd : Op2 := fun env m x y Q => match der env m x, der env m y with
  | some (.int i), some (.int j) => Q (.int (i + j)) m
  | some (.str a), some (.str b) => a.length + b.length ≤ sizeLine ∧ Q (.str (a ++ b)) m
  | some (.tup xs), some (.tup ys) => xs.length + ys.length ≤ sizeLine ∧ Q (.tup (xs ++ ys)) m
  | some (.lst xs), some (.lst ys) => xs.length + ys.length ≤ sizeLine ∧ Q (.lst (xs ++ ys)) m
  | _, _ => False
theorem oAdd.mono : Mono2 oAdd := fun env m x y Q Q' i => by
  unfold oAdd
  split <;> first | exact i _ _ | exact fun h => ⟨h.1, i _ _ h.2⟩ | exact id
end
theorem Rd.lstM {X : Cx} {pins : List (Addr × Obj)} {σ : L2.St} {H : Hp} {s : Shared} {l : Addr} {xs : List V} (I : Inv X pins σ H s) (h : Rd H l (.lst xs)) : xs.length ≤ sizeLine ∧ ∃ (its : List Value) (n : Nat), Vals xs its ∧ xs.length = its.length ∧ s.heap.get? l = some { cls := .type "list", data := .seq its.toArray n } := by
  obtain ⟨z, its, n, r, e⟩ := h.ok I.hok
  exact ⟨z, its, n, r, r.length, e⟩
section
variable {X : Cx} {C : Ct}
def rCatL : R2 := fun x y H Q => ∃ l b xs zs, x = .ref l ∧ y = .ref b ∧ Rd H l (.lst xs) ∧ Rd H b (.lst zs) ∧ xs.length + zs.length ≤ sizeLine ∧ ∀ p, H p = none → Q (.ref p) (upd H p (.lst (xs ++ zs)))
theorem op_catL : OpR X (binaryOp .Add) rCatL := by
  intro pins s σ H x y v u Q I rx ry h
  obtain ⟨l, b, xs, zs, rfl, rfl, hH, hB, hz, q⟩ := h
  cases rx
  cases ry
  obtain ⟨z, its, n, r, hl, e⟩ := Rd.lstM I hH
  obtain ⟨z2, its2, n2, r2, hl2, e2⟩ := Rd.lstM I hB
  refine PySem.P.add_list e e2 ?_ (by rw [List.size_toArray, List.size_toArray]; omega)
  have ea : its.toArray ++ its2.toArray = (its ++ its2).toArray := by simp
  rw [ea]
  exact ⟨.ref _, _, I.lnew (t' := s.toks) (r.append r2) (by rw [List.length_append]; omega), rfl, q _ I.fresh⟩
theorem now_fz {w : World} {K : PySem.W.Frag} {n : Nw} {v : V} {d : Dat} (h : Nowv C w K n v d) (hl : ∀ xs, d ≠ .lst xs) (hd : ∀ xs, d ≠ .dct xs) : FzN C w K n v d := by
  cases h with
  | fz z => exact z
  | lst _ _ => exact absurd rfl (hl _)
  | dct _ _ _ => exact absurd rfl (hd _)
theorem op_addD : OpD X C (binaryOp .Add) oAdd := by
  refine ⟨oAdd.mono, fun pins s σ H x y v u Q I rx ry q => ?_⟩
  obtain ⟨B, n, env, m, σ', a, b, rfl, ok, la, lb, q⟩ := q
  unfold oAdd at q
  split at q
  · rename_i i j h1 h2
    have z1 := now_fz (der_ok ok la h1) (by simp) (by simp)
    have z2 := now_fz (der_ok ok lb h2) (by simp) (by simp)
    cases z1
    cases z2
    exact op_add pins s σ n.H _ _ v u Q I rx ry ⟨i, j, rfl, rfl, q n _ ok.good (.refl _) (.int _)⟩
  · rename_i i j h1 h2
    have z1 := now_fz (der_ok ok la h1) (by simp) (by simp)
    have z2 := now_fz (der_ok ok lb h2) (by simp) (by simp)
    cases z1
    cases z2
    exact op_add_str pins s σ n.H _ _ v u Q I rx ry ⟨i, j, rfl, rfl, q.1, q.2 n _ ok.good (.refl _) (.str _)⟩
  · rename_i xs ys h1 h2
    obtain ⟨p, vs, rfl, s1, z1⟩ := tup_ok ok la (xs := xs) (by unfold tupOf; rw [h1])
    obtain ⟨r, us, rfl, s2, z2⟩ := tup_ok ok lb (xs := ys) (by unfold tupOf; rw [h2])
    have f1 := now_fz (der_ok ok la h1) (by simp) (by simp)
    have f2 := now_fz (der_ok ok lb h2) (by simp) (by simp)
    refine op_catA pins s σ n.H _ _ v u Q I rx ry ⟨p, r, vs, us, rfl, rfl, s1, s2, by rw [z1.length, z2.length]; exact q.1, fun e => ?_, fun _ e => ?_, fun _ _ p' hp => ?_⟩
    · subst e
      cases xs with
      | nil => exact q.2 n _ ok.good (.refl _) f2
      | cons _ _ => cases z1
    · subst e
      cases ys with
      | nil => exact q.2 n _ ok.good (.refl _) (by rw [List.append_nil]; exact f1)
      | cons _ _ => cases z2
    · obtain ⟨g2, l2⟩ := ok.good.freeze (o := .tup (vs ++ us)) hp
      exact q.2 _ _ g2 l2 (.tup (SqT.of upd_same) (FzAllN.le (z1.append z2) l2))
  · rename_i xs ys h1 h2
    obtain ⟨p, vs, rfl, s1, z1⟩ := lst_ok ok la (xs := xs) (by unfold lstOf; rw [h1])
    obtain ⟨r, us, rfl, s2, z2⟩ := lst_ok ok lb (xs := ys) (by unfold lstOf; rw [h2])
    refine op_catL pins s σ n.H _ _ v u Q I rx ry ⟨p, r, vs, us, rfl, rfl, s1, s2, by rw [z1.length, z2.length]; exact q.1, fun p' hp => ?_⟩
    obtain ⟨g2, l2⟩ := ok.good.freeze (o := .lst (vs ++ us)) hp
    exact q.2 _ _ g2 l2 (.lst (Rd.of upd_same) (FzAllN.le (z1.append z2) l2))
  · exact q.elim
def nCat (da db : TD) : TN := fun env m Q => da env m fun x m1 => db env m1 fun y m2 => match lstOf env m2 x, lstOf env m2 y with
  | some xs, some ys => xs.length + ys.length ≤ sizeLine ∧ Q (xs ++ ys) m2
  | _, _ => False
theorem dn_cat {B : Nw} {a b : Expr} {da db : TD} {pos : Pos} (ha : DE X C B a da) (hb : DE X C B b db) : DN X C B (.BinOp a .Add b pos) (nCat da db) := by
  refine ⟨fun env m Q Q' i h => ha.mono _ _ _ _ (fun x m1 h1 => hb.mono _ _ _ _ (fun y m2 h2 => ?_) h1) h, imp (pe_op op_catL ha.run hb.run) ?_⟩
  · split at h2
    · exact ⟨h2.1, i _ _ h2.2⟩
    · exact h2.elim
  rintro σ H Q ⟨n, env, m, rfl, ok, h⟩
  refine ⟨n, env, m, rfl, ok, ha.mono _ _ _ _ (fun x m1 h1 n1 v g1 l1 lx => ?_) h⟩
  refine ⟨n1, env, m1, rfl, ok.go g1 l1, hb.mono _ _ _ _ (fun y m2 h2 n2 u g2 l2 ly => ?_) h1⟩
  have ok2 := ok.go g2 (l1.trans l2)
  split at h2
  · rename_i xs ys e1 e2
    obtain ⟨p, vs, rfl, s1, z1⟩ := lst_ok ok2 (lx.le l2) e1
    obtain ⟨r, us, rfl, s2, z2⟩ := lst_ok ok2 ly e2
    exact ⟨p, r, vs, us, rfl, rfl, s1, s2, by rw [z1.length, z2.length]; exact h2.1, fun p' hp => h2.2 n2 p' _ g2 (l1.trans l2) hp (z1.append z2)⟩
  · exact h2.elim
def oIx : Op2 := fun env m x y Q => match der env m x, y with
  | some (.lst xs), .f (.int i) => match atI xs i with
    | some d => Q d m
    | none => False
  | some (.tup xs), .f (.int i) => match atI xs i with
    | some d => Q d m
    | none => False
  | some (.str z), .f (.int i) => z.length ≤ sizeLine ∧ match atI z.cps.toList i with
    | some c => Q (.str ⟨#[c]⟩) m
    | none => False
  | _, _ => False
theorem oIx.mono : Mono2 oIx := fun env m x y Q Q' i => by
  unfold oIx
  split
  · split <;> first | exact i _ _ | exact id
  · split <;> first | exact i _ _ | exact id
  · split <;> first | exact fun h => ⟨h.1, i _ _ h.2⟩ | exact id
  · exact id
theorem atI_fz {w : World} {K : PySem.W.Frag} {n : Nw} {vs : List V} {xs : List Dat} {i : Int} {d : Dat} (z : FzAllN C w K n vs xs) (h : atI xs i = some d) : ∃ v, atI vs i = some v ∧ FzN C w K n v d := by
  unfold atI at h ⊢
  rw [z.length]
  cases e : ixN xs.length i with
  | none => rw [e] at h; cases h
  | some j =>
    rw [e] at h
    exact z.get h
theorem ix_D : IxD X C oIx := by
  refine ⟨oIx.mono, fun value slice pins s σ H x y v u Q I rx ry q hs => ?_⟩
  obtain ⟨B, n, env, m, σ', a, b, rfl, ok, la, lb, q⟩ := q
  unfold oIx at q
  split at q
  · rename_i xs i h1
    have lb : FzN C X.w X.K n y (.int i) := lb
    cases lb
    obtain ⟨p, vs, rfl, s1, z1⟩ := lst_ok ok la (xs := xs) (by unfold lstOf; rw [h1])
    split at q
    · rename_i d hd
      obtain ⟨z, hz, fz⟩ := atI_fz z1 hd
      exact ix_list value slice pins s σ n.H _ _ v u Q I rx ry ⟨p, vs, i, z, rfl, rfl, .inl s1, hz, q n _ ok.good (.refl _) fz⟩ hs
    · exact q.elim
  · rename_i xs i h1
    have lb : FzN C X.w X.K n y (.int i) := lb
    cases lb
    obtain ⟨p, vs, rfl, s1, z1⟩ := tup_ok ok la (xs := xs) (by unfold tupOf; rw [h1])
    split at q
    · rename_i d hd
      obtain ⟨z, hz, fz⟩ := atI_fz z1 hd
      exact ix_tup value slice pins s σ n.H _ _ v u Q I rx ry ⟨p, vs, i, z, rfl, rfl, s1, hz, q n _ ok.good (.refl _) fz⟩ hs
    · exact q.elim
  · rename_i z i h1
    have lb : FzN C X.w X.K n y (.int i) := lb
    cases lb
    have z1 := now_fz (der_ok ok la h1) (by simp) (by simp)
    cases z1
    obtain ⟨q1, q⟩ := q
    split at q
    · rename_i c hc
      exact ix_str value slice pins s σ n.H _ _ v u Q I rx ry ⟨z, i, c, rfl, rfl, q1, hc, q n _ ok.good (.refl _) (.str _)⟩ hs
    · exact q.elim
  · exact q.elim
def oLen : OpN := fun env m xs Q => match xs with
  | [x] => match der env m x with
    | some (.lst ys) => Q (.int ys.length) m
    | some (.tup ys) => Q (.int ys.length) m
    | some (.str z) => z.length ≤ sizeLine ∧ Q (.int z.length) m
    | _ => False
  | _ => False
theorem call_lenD : CallD X C (.builtin "len") oLen := by
  refine ⟨fun env m xs Q Q' i => ?_, fun pins s σ H xs us Q I r q => ?_⟩
  · unfold oLen
    split
    · split <;> first | exact i _ _ | exact fun h => ⟨h.1, i _ _ h.2⟩ | exact id
    · exact id
  obtain ⟨B, n, env, m, σ', ls, rfl, ok, la, q⟩ := q
  unfold oLen at q
  split at q
  · rename_i x
    cases la with
    | cons l1 l2 =>
      cases l2
      split at q
      · rename_i ys h1
        obtain ⟨p, vs, rfl, s1, z1⟩ := lst_ok ok l1 (xs := ys) (by unfold lstOf; rw [h1])
        exact call_len_seq pins s σ n.H _ us Q I r ⟨p, vs, rfl, .inl (.inl s1), by rw [z1.length]; exact q n _ ok.good (.refl _) (.int _)⟩
      · rename_i ys h1
        obtain ⟨p, vs, rfl, s1, z1⟩ := tup_ok ok l1 (xs := ys) (by unfold tupOf; rw [h1])
        exact call_len_seq pins s σ n.H _ us Q I r ⟨p, vs, rfl, .inr s1, by rw [z1.length]; exact q n _ ok.good (.refl _) (.int _)⟩
      · rename_i z h1
        have z1 := now_fz (der_ok ok l1 h1) (by simp) (by simp)
        cases z1
        exact call_len_str pins s σ n.H _ us Q I r ⟨z, rfl, q.1, q.2 n _ ok.good (.refl _) (.int _)⟩
      · exact q.elim
  · exact q.elim
end
end DL

set_option maxHeartbeats 1000000
namespace DL
open PySem PySem.Spec PyProof.Rows L2

section
variable {X : Cx} {C : Ct} {B : Nw} {e : Expr} {es : List Expr} {da : TAd} {f : OpN} {x : Str} {p pos : Pos} {id T : String}
theorem nar_imp (hf : MonoN f) (ha : MonoA da) : ∀ σ H Q, lE C B X.w X.K (dN f da) σ H Q → tCB (rN C X.w X.K f) (lA C B X.w X.K da) σ H Q := by
  rintro σ H Q ⟨n, env, m, rfl, ok, h⟩
  refine ⟨n, env, m, rfl, ok, ha _ _ _ _ (fun xs m1 h1 n1 vs g1 l1 lx => ?_) h⟩
  exact ⟨B, n1, env, m1, σ, xs, rfl, ok.go g1 l1, lx, hf _ _ _ _ _ (fun z m2 h2 n2 v g2 l2 hz => h2 n2 v g2 (l1.trans l2) hz) h1⟩
theorem de_callB (hc : CallD X C (.builtin id) f) (hg : Gl X x) (hm : X.mg x = none) (hv : bootBuiltins x = some (.builtin id)) (ha : DA X C B (e :: es) da) (hn : x ≠ "__name__" := by decide) (hdb : (x == ("__debug__" : Str)) = false := by decide)
    (he : starEach (e :: es) X.env = (false, eval e X.env) :: starEach es X.env := by rfl) (hpl : (backTo pos (starEach es X.env)).any (·.1) = false := by rfl) : DE X C B (.Call (.Name x p) (e :: es) [] pos) (dN f da) :=
  ⟨dN.mono hc.mono ha.mono, imp (pe_callB hc.run hg hm hv ha.run hn hdb he hpl) (nar_imp hc.mono ha.mono)⟩
theorem de_callTy (hc : CallD X C (.type T) f) (hg : Gl X x) (hm : X.mg x = none) (hv : bootBuiltins x = some (.type T)) (ha : DA X C B (e :: es) da) (hn : x ≠ "__name__" := by decide) (hdb : (x == ("__debug__" : Str)) = false := by decide)
    (he : starEach (e :: es) X.env = (false, eval e X.env) :: starEach es X.env := by rfl) (hpl : (backTo pos (starEach es X.env)).any (·.1) = false := by rfl) : DE X C B (.Call (.Name x p) (e :: es) [] pos) (dN f da) :=
  ⟨dN.mono hc.mono ha.mono, imp (pe_callTy hc.run hg hm hv ha.run hn hdb he hpl) (nar_imp hc.mono ha.mono)⟩
end
def bools : List Dat → Option (List Bool)
  | [] => some []
  | .bl b :: r => (bools r).map (b :: ·)
  | _ => none
def intsD : List Dat → Option (List Int)
  | [] => some []
  | .int b :: r => (intsD r).map (b :: ·)
  | _ => none
section
variable {C : Ct} {w : World} {K : PySem.W.Frag} {B n : Nw} {m : Mem} {env : Env'} {σ : L2.St}
theorem bools_eq : ∀ {xs : List Dat} {bs : List Bool} {vs : List V}, bools xs = some bs → FzAllN C w K n vs xs → vs = bs.map V.bl
  | [], bs, vs, h, z => by cases h; cases z; rfl
  | x :: r, bs, vs, h, z => by
    cases z with
    | cons a b =>
      cases x with
      | bl c =>
        have h : (bools r).map (c :: ·) = some bs := h
        cases e : bools r with
        | none => rw [e] at h; cases h
        | some cs =>
          rw [e] at h
          cases h
          cases a
          rw [bools_eq e b]
          rfl
      | _ => cases h
theorem ints_eq : ∀ {xs : List Dat} {bs : List Int} {vs : List V}, intsD xs = some bs → FzAllN C w K n vs xs → vs = bs.map V.int
  | [], bs, vs, h, z => by cases h; cases z; rfl
  | x :: r, bs, vs, h, z => by
    cases z with
    | cons a b =>
      cases x with
      | int c =>
        have h : (intsD r).map (c :: ·) = some bs := h
        cases e : intsD r with
        | none => rw [e] at h; cases h
        | some cs =>
          rw [e] at h
          cases h
          cases a
          rw [ints_eq e b]
          rfl
      | _ => cases h
theorem LvsOk.one {vs x} (h : LvsOk C w K n env σ vs [x]) : ∃ v, vs = [v] ∧ LvOk C w K n env σ v x := by
  cases h with
  | cons a b => cases b; exact ⟨_, rfl, a⟩
theorem LvsOk.two {vs x y} (h : LvsOk C w K n env σ vs [x, y]) : ∃ v u, vs = [v, u] ∧ LvOk C w K n env σ v x ∧ LvOk C w K n env σ u y := by
  cases h with
  | cons a b => cases b with | cons c d => cases d; exact ⟨_, _, rfl, a, c⟩
end
def oBs (f : List Bool → Bool) : OpN := fun env m xs Q => match xs with
  | [x] => match lstOf env m x with
    | some ys => match bools ys with
      | some bs => Q (.bl (f bs)) m
      | none => False
    | none => False
  | _ => False
theorem oBs.mono {f} : MonoN (oBs f) := fun env m xs Q Q' i => by
  unfold oBs
  split
  · split
    · split <;> first | exact i _ _ | exact id
    · exact id
  · exact id
def oIs (f : List Int → Int) (c : List Int → Prop) : OpN := fun env m xs Q => match xs with
  | [x] => match seqOf env m x with
    | some ys => match intsD ys with
      | some ns => c ns ∧ Q (.int (f ns)) m
      | none => False
    | none => False
  | _ => False
theorem oIs.mono {f c} : MonoN (oIs f c) := fun env m xs Q Q' i => by
  unfold oIs
  split
  · split
    · split <;> first | exact fun h => ⟨h.1, i _ _ h.2⟩ | exact id
    · exact id
  · exact id
section
variable {X : Cx} {C : Ct}
theorem call_bs {id : String} {f : List Bool → Bool} (h : CallR X (.builtin id) (fun vs H Q => ∃ (a : Addr) (bs : List Bool), vs = [V.ref a] ∧ SqL X.K H a (bs.map V.bl) ∧ Q (.bl (f bs)) H)) : CallD X C (.builtin id) (oBs f) := by
  refine ⟨oBs.mono, fun pins s σ H xs us Q I r q => ?_⟩
  obtain ⟨B, n, env, m, σ', ls, rfl, ok, la, q⟩ := q
  unfold oBs at q
  split at q
  · obtain ⟨v, rfl, l1⟩ := la.one
    split at q
    · rename_i ys hy
      obtain ⟨p, vs, rfl, s1, z1⟩ := lst_ok ok l1 hy
      split at q
      · rename_i bs hb
        have e := bools_eq hb z1
        subst e
        exact h pins s σ n.H _ us Q I r ⟨p, bs, rfl, .inl s1, q n _ ok.good (.refl _) (.bl _)⟩
      · exact q.elim
    · exact q.elim
  · exact q.elim
theorem call_allD (hc : X.calm = true) : CallD X C (.builtin "all") (oBs fun bs => bs.all id) := call_bs (cr_all hc)
end
theorem iter_intTup {prog : Program} {w : World} {A : Around} {E : Value → Shared → Prop} {s : Shared} {l : Addr} {xs : Array (Int × Tok)} {Q : Value → Shared → Prop} (hl : s.heap.IsTuple l (intItems xs))
    (h : ∀ s₂ : Shared, s₂ = { s with heap := s.heap.push { cls := .type "tuple_iterator", data := .fields #[.ref l, .int 0 0] } } → (s₂.heap.IsTupleIter s.heap.objs.size l 0 ∧ s₂.heap.IsTuple l (intItems xs)) →
      (∀ b ∈ [s.heap.objs.size, l], b < s₂.heap.objs.size) → l ≠ s.heap.objs.size → Q (.ref s.heap.objs.size) s₂) : wpAny (model prog w) A (pyIter (.ref l)) Q E s := by
  refine wpAny_pyIter_tuple hl (h _ rfl ⟨⟨_, Heap.get?_push_size _ rfl, rfl, rfl⟩, ?_⟩ (fun b hb => ?_) ?_)
  · obtain ⟨o, ho, r⟩ := hl
    exact ⟨o, Heap.get?_push_of_some _ ho, r⟩
  · obtain ⟨o, ho, _⟩ := hl
    have hlt := Heap.lt_size ho
    have hb : b = s.heap.objs.size ∨ b = l := by simpa using hb
    show b < (s.heap.push _).objs.size
    rw [size_push']
    rcases hb with rfl | rfl
    · exact Nat.lt_succ_self _
    · exact Nat.lt_succ_of_lt hlt
  · obtain ⟨o, ho, _⟩ := hl
    exact Nat.ne_of_lt (Heap.lt_size ho)
section
variable {prog : Program} {w : World} {A : Around} {E : Value → Shared → Prop} {s : Shared} {l : Addr} {its : List Value} {ns : List Int} {Q : Value → Shared → Prop}
theorem kept_push {o : Obj} {wr : Addr} {h' : Heap} (hw : wr = s.heap.objs.size) (hk : ∀ b ob, b ∉ [wr] → (s.heap.push o).get? b = some ob → h'.get? b = some ob) : ∀ b ob, s.heap.get? b = some ob → h'.get? b = some ob := fun b ob e => by
  refine hk b ob ?_ (Heap.get?_push_of_some _ e)
  have := Heap.lt_size e
  subst hw
  simpa using Nat.ne_of_lt this
theorem max_rawT (hh : A.handled = none) (hl : IsTup s.heap l its.toArray) (hi : IntsAre its ns) (hne : 0 < ns.length)
    (h : ∀ h' tk M t', (∀ b o, s.heap.get? b = some o → h'.get? b = some o) → M ∈ ns → (∀ a, a ∈ ns → a ≤ M) → Q (.int M t') { s with heap := h', toks := tk }) : wpAny (model prog w) A (call (.builtin "max") [.ref l]) Q E s := by
  obtain ⟨xs, e⟩ := hi.allInts.items
  have hn : numsOf (intItems xs).toList = ns := by rw [← e]; exact hi.numsOf
  rw [nums_intItems] at hn
  subst hn
  rw [e] at hl
  have hsz : 0 < xs.size := by simpa using hne
  refine call_max_walk (iter_intTup hl fun s₂ e st hfp hlI => ?_)
  subst e
  refine ⟨_, _, _, _, _, _, _, rfl, Walks.tuple (A := A.in1) hh _ l hlI (intItems xs), st, hfp, by simpa [intItems] using hsz, CmpOf.ints_gt (numAt xs) (fun _ _ => intItems_at), fun v h' tk hP hk => ?_⟩
  have hv : (intItems xs)[argBest (fun i j => decide (numAt xs i > numAt xs j)) (xs.size - 1)]? = some v := by simpa [intItems] using hP
  obtain ⟨t, rfl⟩ := intItems_at hv
  obtain ⟨h1, h2⟩ := argBest_gt (numAt xs) (xs.size - 1)
  refine h h' tk _ t (kept_push rfl hk) ?_ fun a ha => ?_
  · rw [numAt_eq]; exact PySem.getD_mem (by rw [List.length_map, Array.length_toList]; omega)
  · obtain ⟨j, hj, rfl⟩ := mem_getD ha
    rw [List.length_map, Array.length_toList] at hj
    rw [← numAt_eq]; exact h2 j (by omega)
theorem min_rawT (hh : A.handled = none) (hl : IsTup s.heap l its.toArray) (hi : IntsAre its ns) (hne : 0 < ns.length)
    (h : ∀ h' tk M t', (∀ b o, s.heap.get? b = some o → h'.get? b = some o) → M ∈ ns → (∀ a, a ∈ ns → M ≤ a) → Q (.int M t') { s with heap := h', toks := tk }) : wpAny (model prog w) A (call (.builtin "min") [.ref l]) Q E s := by
  obtain ⟨xs, e⟩ := hi.allInts.items
  have hn : numsOf (intItems xs).toList = ns := by rw [← e]; exact hi.numsOf
  rw [nums_intItems] at hn
  subst hn
  rw [e] at hl
  have hsz : 0 < xs.size := by simpa using hne
  refine call_min_walk (iter_intTup hl fun s₂ e st hfp hlI => ?_)
  subst e
  refine ⟨_, _, _, _, _, _, _, rfl, Walks.tuple (A := A.in1) hh _ l hlI (intItems xs), st, hfp, by simpa [intItems] using hsz, CmpOf.ints_lt (numAt xs) (fun _ _ => intItems_at), fun v h' tk hP hk => ?_⟩
  have hv : (intItems xs)[argBest (fun i j => decide (numAt xs i < numAt xs j)) (xs.size - 1)]? = some v := by simpa [intItems] using hP
  obtain ⟨t, rfl⟩ := intItems_at hv
  obtain ⟨h1, h2⟩ := argBest_lt (numAt xs) (xs.size - 1)
  refine h h' tk _ t (kept_push rfl hk) ?_ fun a ha => ?_
  · rw [numAt_eq]; exact PySem.getD_mem (by rw [List.length_map, Array.length_toList]; omega)
  · obtain ⟨j, hj, rfl⟩ := mem_getD ha
    rw [List.length_map, Array.length_toList] at hj
    rw [← numAt_eq]; exact h2 j (by omega)
end
def maxI : List Int → Int
  | [] => 0
  | [x] => x
  | x :: y :: r => max x (maxI (y :: r))
def minI : List Int → Int
  | [] => 0
  | [x] => x
  | x :: y :: r => min x (minI (y :: r))
theorem maxI_ge : ∀ {ns : List Int} {a : Int}, a ∈ ns → a ≤ maxI ns
  | [], a, h => by cases h
  | [x], a, h => by simp at h; subst h; exact Int.le_refl _
  | x :: y :: r, a, h => by
    rw [maxI]
    rcases List.mem_cons.mp h with rfl | h
    · omega
    · have := maxI_ge h; omega
theorem maxI_mem : ∀ {ns : List Int}, 0 < ns.length → maxI ns ∈ ns
  | [x], _ => by simp [maxI]
  | x :: y :: r, _ => by
    have := maxI_mem (ns := y :: r) (by simp)
    rw [maxI]
    by_cases h : maxI (y :: r) ≤ x
    · rw [Int.max_eq_left h]; simp
    · rw [Int.max_eq_right (by omega)]; exact List.mem_cons_of_mem _ this
theorem minI_le : ∀ {ns : List Int} {a : Int}, a ∈ ns → minI ns ≤ a
  | [], a, h => by cases h
  | [x], a, h => by simp at h; subst h; exact Int.le_refl _
  | x :: y :: r, a, h => by
    rw [minI]
    rcases List.mem_cons.mp h with rfl | h
    · omega
    · have := minI_le h; omega
theorem minI_mem : ∀ {ns : List Int}, 0 < ns.length → minI ns ∈ ns
  | [x], _ => by simp [minI]
  | x :: y :: r, _ => by
    have := minI_mem (ns := y :: r) (by simp)
    rw [minI]
    by_cases h : x ≤ minI (y :: r)
    · rw [Int.min_eq_left h]; simp
    · rw [Int.min_eq_right (by omega)]; exact List.mem_cons_of_mem _ this
section
variable {X : Cx} {C : Ct}
theorem call_isI {id : String} {f : List Int → Int} {c : List Int → Prop} (hl : CallR X (.builtin id) (fun vs H Q => ∃ (a : Addr) (ns : List Int), vs = [V.ref a] ∧ SqL X.K H a (ns.map V.int) ∧ c ns ∧ Q (.int (f ns)) H))
    (ht : CallR X (.builtin id) (fun vs H Q => ∃ (a : Addr) (ns : List Int), vs = [V.ref a] ∧ SqT X.K H a (ns.map V.int) ∧ c ns ∧ Q (.int (f ns)) H)) : CallD X C (.builtin id) (oIs f c) := by
  refine ⟨oIs.mono, fun pins s σ H xs us Q I r q => ?_⟩
  obtain ⟨B, n, env, m, σ', ls, rfl, ok, la, q⟩ := q
  unfold oIs at q
  split at q
  · obtain ⟨v, rfl, l1⟩ := la.one
    split at q
    · rename_i ys hy
      obtain ⟨p, vs, rfl, s1, z1⟩ := seq_ok ok l1 hy
      split at q
      · rename_i bs hb
        have e := ints_eq hb z1
        subst e
        rcases s1 with s1 | s1
        · exact hl pins s σ n.H _ us Q I r ⟨p, bs, rfl, s1, q.1, q.2 n _ ok.good (.refl _) (.int _)⟩
        · exact ht pins s σ n.H _ us Q I r ⟨p, bs, rfl, s1, q.1, q.2 n _ ok.good (.refl _) (.int _)⟩
      · exact q.elim
    · exact q.elim
  · exact q.elim
theorem max_uniq {ns : List Int} {M : Int} (h1 : M ∈ ns) (h2 : ∀ a, a ∈ ns → a ≤ M) : M = maxI ns := Int.le_antisymm (maxI_ge h1) (h2 _ (maxI_mem (List.length_pos_of_mem h1)))
theorem min_uniq {ns : List Int} {M : Int} (h1 : M ∈ ns) (h2 : ∀ a, a ∈ ns → M ≤ a) : M = minI ns := Int.le_antisymm (h2 _ (minI_mem (List.length_pos_of_mem h1))) (minI_le h1)
theorem call_maxD (hc : X.calm = true) : CallD X C (.builtin "max") (oIs maxI fun ns => 0 < ns.length) := by
  refine call_isI (fun pins s σ H xs us Q I r ⟨a, ns, e, hs, hl, q⟩ => cr_max hc pins s σ H xs us Q I r ⟨a, ns, e, hs, hl, fun M h1 h2 => by rw [max_uniq h1 h2]; exact q⟩) fun pins s σ H xs us Q I r ⟨a, ns, e, hs, hl, q⟩ => ?_
  subst e
  obtain ⟨its, rv, p, _⟩ := I.tuple hs
  rw [Vals.ref1 r]
  exact max_rawT (I.ok.hd hc) p rv.ints hl fun h' tk M t' hk h1 h2 => ⟨.int _, H, I.kept hk, ⟨_, rfl⟩, by rw [max_uniq h1 h2]; exact q⟩
theorem call_minD (hc : X.calm = true) : CallD X C (.builtin "min") (oIs minI fun ns => 0 < ns.length) := by
  refine call_isI (fun pins s σ H xs us Q I r ⟨a, ns, e, hs, hl, q⟩ => cr_min hc pins s σ H xs us Q I r ⟨a, ns, e, hs, hl, fun M h1 h2 => by rw [min_uniq h1 h2]; exact q⟩) fun pins s σ H xs us Q I r ⟨a, ns, e, hs, hl, q⟩ => ?_
  subst e
  obtain ⟨its, rv, p, _⟩ := I.tuple hs
  rw [Vals.ref1 r]
  exact min_rawT (I.ok.hd hc) p rv.ints hl fun h' tk M t' hk h1 h2 => ⟨.int _, H, I.kept hk, ⟨_, rfl⟩, by rw [min_uniq h1 h2]; exact q⟩
def oN1 (f : Lv → Option Dat) : OpN := fun _ m xs Q => match xs with
  | [x] => match f x with
    | some d => Q d m
    | none => False
  | _ => False
theorem oN1.mono {f} : MonoN (oN1 f) := fun env m xs Q Q' i => by
  unfold oN1
  split
  · split <;> first | exact i _ _ | exact id
  · exact id
def fAbs : Lv → Option Dat
  | .f (.int i) => some (.int (if i < 0 then -i else i))
  | _ => none
def fInt : Lv → Option Dat
  | .f (.int i) => some (.int i)
  | .f (.bl b) => some (.int (if b = true then 1 else 0))
  | _ => none
theorem call_absD : CallD X C (.builtin "abs") (oN1 fAbs) := by
  refine ⟨oN1.mono, fun pins s σ H xs us Q I r q => ?_⟩
  obtain ⟨B, n, env, m, σ', ls, rfl, ok, la, q⟩ := q
  unfold oN1 at q
  split at q
  · obtain ⟨v, rfl, l1⟩ := la.one
    rename_i x
    cases x with
    | o k => exact q.elim
    | f d =>
      cases d with
      | int i =>
        have l1 : FzN C X.w X.K n v (.int i) := l1
        cases l1
        exact call_abs pins s σ n.H _ us Q I r ⟨i, rfl, q n _ ok.good (.refl _) (.int _)⟩
      | _ => exact q.elim
  · exact q.elim
theorem call_intD : CallD X C (.type "int") (oN1 fInt) := by
  refine ⟨oN1.mono, fun pins s σ H xs us Q I r q => ?_⟩
  obtain ⟨B, n, env, m, σ', ls, rfl, ok, la, q⟩ := q
  unfold oN1 at q
  split at q
  · obtain ⟨v, rfl, l1⟩ := la.one
    rename_i x
    cases x with
    | o k => exact q.elim
    | f d =>
      cases d with
      | int i =>
        have l1 : FzN C X.w X.K n v (.int i) := l1
        cases l1
        exact call_int1 pins s σ n.H _ us Q I r (.inl ⟨i, rfl, q n _ ok.good (.refl _) (.int _)⟩)
      | bl i =>
        have l1 : FzN C X.w X.K n v (.bl i) := l1
        cases l1
        exact call_int1 pins s σ n.H _ us Q I r (.inr ⟨i, rfl, q n _ ok.good (.refl _) (.int _)⟩)
      | _ => exact q.elim
  · exact q.elim
def oTuple : OpN := fun env m xs Q => match xs with
  | [x] => match seqOf env m x with
    | some ys => Q (.tup ys) m
    | none => False
  | _ => False
theorem call_tupleD : CallD X C (.type "tuple") oTuple := by
  refine ⟨fun env m xs Q Q' i => ?_, fun pins s σ H xs us Q I r q => ?_⟩
  · unfold oTuple
    split
    · split <;> first | exact i _ _ | exact id
    · exact id
  obtain ⟨B, n, env, m, σ', ls, rfl, ok, la, q⟩ := q
  unfold oTuple at q
  split at q
  · obtain ⟨v, rfl, l1⟩ := la.one
    split at q
    · rename_i ys hy
      unfold seqOf at hy
      split at hy
      · rename_i zs hd
        cases hy
        obtain ⟨p, vs, rfl, s1, z1⟩ := lst_ok ok l1 (xs := ys) (by unfold lstOf; rw [hd])
        refine call_tuple_of pins s σ n.H _ us Q I r ⟨p, vs, rfl, .inl ⟨.inl s1, fun l hl => ?_⟩⟩
        obtain ⟨g2, l2⟩ := ok.good.freeze (o := .tup vs) hl
        exact q _ _ g2 l2 (.tup (SqT.of upd_same) (FzAllN.le z1 l2))
      · rename_i zs hd
        cases hy
        obtain ⟨p, vs, rfl, s1, z1⟩ := tup_ok ok l1 (xs := ys) (by unfold tupOf; rw [hd])
        exact call_tuple_of pins s σ n.H _ us Q I r ⟨p, vs, rfl, .inr ⟨s1, q n _ ok.good (.refl _) (now_fz (der_ok ok l1 hd) (by simp) (by simp))⟩⟩
      · cases hy
    · exact q.elim
  · exact q.elim
def nList (da : TD) : TN := fun env m Q => da env m fun x m1 => match seqOf env m1 x with
  | some ys => Q ys m1
  | none => False
theorem dn_list {B : Nw} {a : Expr} {da : TD} {p pos : Pos} (hg : Gl X "list") (hm : X.mg "list" = none) (hv : bootBuiltins "list" = some (.type "list")) (ha : DE X C B a da)
    (he : starEach [a] X.env = (false, eval a X.env) :: starEach [] X.env := by rfl) (hpl : (backTo pos (starEach [] X.env)).any (·.1) = false := by rfl) : DN X C B (.Call (.Name "list" p) [a] [] pos) (nList da) := by
  refine ⟨fun env m Q Q' i h => ha.mono _ _ _ _ (fun x m1 h1 => ?_) h, imp (pe_callTy call_list_of hg hm hv (pa_cons ha.run pa_nil he) (by decide) (by decide) he hpl) ?_⟩
  · split at h1
    · exact i _ _ h1
    · exact h1.elim
  rintro σ H Q ⟨n, env, m, rfl, ok, h⟩
  refine ⟨n, env, m, rfl, ok, ha.mono _ _ _ _ (fun x m1 h1 n1 v g1 l1 lx => ?_) h⟩
  split at h1
  · rename_i ys hy
    obtain ⟨p, vs, rfl, s1, z1⟩ := seq_ok (ok.go g1 l1) lx hy
    exact ⟨p, vs, rfl, s1, fun l hl => h1 n1 l vs g1 l1 hl z1⟩
  · exact h1.elim
def cutD {α : Type} (xs : List α) (lo hi : Option Int) : List α := (xs.drop (HT.sIx xs.length 0 lo)).take (HT.sIx xs.length xs.length hi - HT.sIx xs.length 0 lo)
abbrev TOd := Env' → Mem → (Option Int → Mem → Prop) → Prop
def lO (C : Ct) (B : Nw) (w : World) (K : PySem.W.Frag) (d : TOd) : TO := fun σ H Q => ∃ n env m, n.H = H ∧ Ok C w K B n env m σ ∧ d env m fun i m' => ∀ n', Good C w K n' m' → n.le n' → Q i n'.H
structure DO (X : Cx) (C : Ct) (B : Nw) (e : Option Expr) (d : TOd) : Prop where
  mono : ∀ env m (Q Q' : Option Int → Mem → Prop), (∀ x m', Q x m' → Q' x m') → d env m Q → d env m Q'
  run : PO X e (lO C B X.w X.K d)
def dNo : TOd := fun _ m Q => Q none m
def dPart (d : TD) : TOd := fun env m Q => d env m fun x m1 => match x with
  | .f (.int i) => Q (some i) m1
  | _ => False
theorem impO {e : Option Expr} {t t' : TO} (h : PO X e t) (i : ∀ σ H Q, t' σ H Q → t σ H Q) : PO X e t' := ⟨fun pins s σ H Q I q => h.run pins s σ H Q I (i σ H Q q)⟩
theorem do_none {B : Nw} : DO X C B none dNo := ⟨fun _ _ _ _ i => i _ _, impO po_none (by
  rintro σ H Q ⟨n, env, m, rfl, ok, h⟩
  exact h n ok.good (.refl _))⟩
theorem do_some {B : Nw} {e : Expr} {d : TD} (h : DE X C B e d) : DO X C B (some e) (dPart d) := by
  refine ⟨fun env m Q Q' i q => h.mono _ _ _ _ (fun x m1 h1 => ?_) q, impO (po_some h.run) ?_⟩
  · cases x with
    | o k => exact h1
    | f y => cases y <;> first | exact i _ _ h1 | exact h1
  rintro σ H Q ⟨n, env, m, rfl, ok, q⟩
  refine ⟨n, env, m, rfl, ok, h.mono _ _ _ _ (fun x m1 h1 n1 v g1 l1 lx => ?_) q⟩
  cases x with
  | o k => exact h1.elim
  | f y =>
    cases y with
    | int i => cases lx; exact ⟨i, rfl, h1 n1 g1 l1⟩
    | _ => exact h1.elim
def dSl (d : TD) (lo hi : TOd) : TD := fun env m Q => d env m fun x m1 => lo env m1 fun a m2 => hi env m2 fun b m3 => match der env m3 x with
  | some (.lst xs) => Q (.f (.lst (cutD xs a b))) m3
  | some (.tup xs) => Q (.f (.tup (cutD xs a b))) m3
  | _ => False
theorem FzAll.cut {w : World} {K : PySem.W.Frag} {n : Nw} {vs : List V} {ds : List Dat} (z : FzAllN C w K n vs ds) (a b : Option Int) : FzAllN C w K n (cutV vs a b) (cutD ds a b) := by
  unfold cutV cutD
  rw [z.length]
  exact (z.drop _).take _
theorem cut_whole {w : World} {K : PySem.W.Frag} {n : Nw} {vs : List V} {ds : List Dat} (z : FzAllN C w K n vs ds) {a b : Option Int} (h : HT.sIx vs.length 0 a = 0 ∧ HT.sIx vs.length vs.length b = vs.length) : cutD ds a b = ds := by
  unfold cutD
  rw [← z.length, h.1, h.2]
  simp [z.length]
def rSlD (C : Ct) (w : World) (K : PySem.W.Frag) : V → Option Int → Option Int → Hp → VK → Prop := fun v a b H Q => (∃ p vs, v = .ref p ∧ Rd H p (.lst vs) ∧ ∀ q, H q = none → Q (.ref q) (upd H q (.lst (cutV vs a b)))) ∨ rSlA K v a b H Q
theorem sl_D : SlR X (rSlD C X.w X.K) := SlR.or (r := fun v a b H Q => ∃ p vs, v = .ref p ∧ Rd H p (.lst vs) ∧ ∀ q, H q = none → Q (.ref q) (upd H q (.lst (cutV vs a b))))
  (fun pins s σ H x v vl vu lo hi sl Q I rx hs pl pu ⟨p, vs, e, hr, h⟩ => sl_list pins s σ H x v vl vu lo hi sl Q I rx hs pl pu ⟨p, vs, e, .inl hr, h⟩) sl_tupA
theorem de_sl {B : Nw} {e : Expr} {lo hi : Option Expr} {d : TD} {dl dh : TOd} {p2 pos : Pos} (he : DE X C B e d) (hl : DO X C B lo dl) (hh : DO X C B hi dh) : DE X C B (.Subscript e (.Slice lo hi none p2) pos) (dSl d dl dh) := by
  refine ⟨fun env m Q Q' i q => he.mono _ _ _ _ (fun x m1 h1 => hl.mono _ _ _ _ (fun a m2 h2 => hh.mono _ _ _ _ (fun b m3 h3 => ?_) h2) h1) q, imp (pe_slice (sl_D (C := C)) he.run hl.run hh.run) ?_⟩
  · split at h3 <;> first | exact i _ _ h3 | exact h3.elim
  rintro σ H Q ⟨n, env, m, rfl, ok, q⟩
  refine ⟨n, env, m, rfl, ok, he.mono _ _ _ _ (fun x m1 h1 n1 v g1 l1 lx => ?_) q⟩
  refine ⟨n1, env, m1, rfl, ok.go g1 l1, hl.mono _ _ _ _ (fun a m2 h2 n2 g2 l2 => ?_) h1⟩
  have l12 := l1.trans l2
  refine ⟨n2, env, m2, rfl, ok.go g2 l12, hh.mono _ _ _ _ (fun b m3 h3 n3 g3 l3 => ?_) h2⟩
  have l13 := l12.trans l3
  have ok3 := ok.go g3 l13
  have lx3 := (lx.le l2).le l3
  split at h3
  · rename_i xs hd
    obtain ⟨p, vs, rfl, s1, z1⟩ := lst_ok ok3 lx3 (xs := xs) (by unfold lstOf; rw [hd])
    refine .inl ⟨p, vs, rfl, s1, fun q hq => ?_⟩
    obtain ⟨g4, l4⟩ := g3.freeze (o := .lst (cutV vs a b)) hq
    exact h3 _ _ g4 (l13.trans l4) (.lst (Rd.of upd_same) (FzAllN.le (z1.cut a b) l4))
  · rename_i xs hd
    obtain ⟨p, vs, rfl, s1, z1⟩ := tup_ok ok3 lx3 (xs := xs) (by unfold tupOf; rw [hd])
    refine .inr ⟨p, vs, rfl, s1, fun hw => ?_, fun hw q hq => ?_⟩
    · rw [cut_whole z1 hw] at h3
      exact h3 n3 _ g3 l13 (now_fz (der_ok ok3 lx3 hd) (by simp) (by simp))
    · obtain ⟨g4, l4⟩ := g3.freeze (o := .tup (cutV vs a b)) hq
      exact h3 _ _ g4 (l13.trans l4) (.tup (SqT.of upd_same) (FzAllN.le (z1.cut a b) l4))
  · exact h3.elim
end
end DL

set_option maxHeartbeats 1000000
namespace DL
open PySem PySem.Spec PyProof.Rows L2

theorem oIsi.mono {C : Ct} : MonoN (oIsi C) := fun env m xs Q Q' i => by
  unfold oIsi
  split
  · split
    · split <;> first | exact i _ _ | exact id
    · exact id
  · exact id
theorem isT_ok {K : PySem.W.Frag} {d : Dat} {t T : String} {b : Bool} (h : tyN d = some t) (e : isT t T = some b) : PySem.W.kitOne K (.type t) (.type T) = some b := by
  have ht : t = "NoneType" ∨ t = "bool" ∨ t = "int" ∨ t = "str" ∨ t = "tuple" ∨ t = "list" ∨ t = "dict" := by
    cases d <;> first | cases h; simp | cases h
  have hT : T = "int" ∨ T = "bool" ∨ T = "str" ∨ T = "tuple" ∨ T = "list" ∨ T = "dict" := by
    unfold isT at e
    split at e
    · exact .inl ‹_›
    · split at e
      · exact .inr ‹_›
      · cases e
  apply kit_ty
  rcases ht with rfl | rfl | rfl | rfl | rfl | rfl | rfl <;> rcases hT with rfl | rfl | rfl | rfl | rfl | rfl <;> (rw [← e]; decide +kernel)
section
variable {X : Cx} {C : Ct}
theorem kit_dat {B n : Nw} {env : Env'} {m : Mem} {σ σ' : L2.St} {pins : List (Addr × Obj)} {s : Shared} {v : V} {u : Value} {x : Lv} {d : Dat} (T : CtOk C X.K) (I : Inv X pins σ n.H s) (ok : Ok C X.w X.K B n env m σ') (lx : LvOk C X.w X.K n env σ' v x)
    (hd : derI env m x = some d) (rx : RelV v u) : (∀ t, tyN d = some t → ∃ P, PySem.W.KitX X.K u (.type t) P ∧ P s.heap ∧ u ≠ .builtin "__main__.__loader__#opaque") ∧
      (∀ c xs, d = .ins c xs → C.own c = true → ∃ P, PySem.W.KitX X.K u (.ref (C.addr c)) P ∧ P s.heap ∧ u ≠ .builtin "__main__.__loader__#opaque") := by
  have viaIns : ∀ {a : Addr} {c : Nat} {dx : Addr} {fs : List (Str × V)}, C.own c = true → v = .ref a → n.H a = some (.ins (C.addr c) dx fs) → ∃ P, PySem.W.KitX X.K u (.ref (C.addr c)) P ∧ P s.heap ∧ u ≠ .builtin "__main__.__loader__#opaque" := by
    intro a c dx fs ho hv he
    subst hv
    obtain ⟨c1, c2, c3, c4, c5⟩ := T.cls c ho
    exact kit_of I rx (.base (.ins he c1 c2 c3 c4 c5))
  have viaNow : ∀ {d : Dat}, Nowv C X.w X.K n v d → ∀ t, tyN d = some t → ∃ P, PySem.W.KitX X.K u (.type t) P ∧ P s.heap ∧ u ≠ .builtin "__main__.__loader__#opaque" := by
    intro d hz t ht
    cases hz with
    | lst h1 h2 => cases ht; exact kit_of I rx (.base (.lst h1))
    | @dct a es kvs h1 h2 h3 =>
      cases ht
      cases (show u = Value.ref a from rx)
      have q := I.hok a _ h1
      obtain ⟨⟨o, ep, e1, e2, _⟩, _⟩ := (show _ ∧ _ from q)
      exact ⟨_, PySem.W.kitx_dict, ⟨o, e1, e2.1⟩, fun z => nomatch z⟩
    | fz z =>
      cases z with
      | non => cases ht; exact kit_of I rx (.base .non)
      | bl b => cases ht; exact kit_of I rx (.base (.bl b))
      | int i => cases ht; exact kit_of I rx (.base (.int i))
      | str y => cases ht; exact kit_of I rx (.base (.str y))
      | tup h1 h2 =>
        cases ht
        rename_i a vs ds
        cases (show u = Value.ref a from rx)
        obtain ⟨its, r, ⟨o, e1, e2, _⟩, _⟩ := I.tuple (SqT.keep ok.good.sub h1)
        exact ⟨_, PySem.W.kitx_tuple, ⟨o, e1, e2⟩, fun z => nomatch z⟩
      | lst h1 h2 =>
        cases ht
        rename_i a vs ds
        cases (show u = Value.ref a from rx)
        obtain ⟨_, its, k, _, _, e1⟩ := Rd.lstM I (rdUp ok.good h1)
        exact ⟨_, PySem.W.kitx_list, ⟨_, e1, rfl⟩, fun z => nomatch z⟩
      | @dct a es kvs h1 h2 h3 =>
        cases ht
        cases (show u = Value.ref a from rx)
        have q := I.hok a _ (ok.good.sub _ _ h1)
        obtain ⟨⟨o, ep, e1, e2, _⟩, _⟩ := (show _ ∧ _ from q)
        exact ⟨_, PySem.W.kitx_dict, ⟨o, e1, e2.1⟩, fun z => nomatch z⟩
      | _ => cases ht
  have viaDer : der env m x = some d → (∀ t, tyN d = some t → ∃ P, PySem.W.KitX X.K u (.type t) P ∧ P s.heap ∧ u ≠ .builtin "__main__.__loader__#opaque") ∧
      (∀ c xs, d = .ins c xs → C.own c = true → ∃ P, PySem.W.KitX X.K u (.ref (C.addr c)) P ∧ P s.heap ∧ u ≠ .builtin "__main__.__loader__#opaque") := by
    intro hd
    have hz := der_ok ok lx hd
    refine ⟨viaNow hz, fun c xs e ho => ?_⟩
    subst e
    cases hz with
    | fz z => cases z with | ins h1 h2 h3 => exact viaIns ho rfl (ok.good.sub _ _ h1)
  cases x with
  | f y =>
    by_cases hy : ∃ k, y = .obj k
    · obtain ⟨k, rfl⟩ := hy
      have hd' : (match m[k]? with
        | some (.ins c xs) => some (.ins c xs)
        | _ => der env m (.f (.obj k))) = some d := hd
      split at hd'
      · rename_i c xs hk
        cases hd'
        have lx : FzN C X.w X.K n v (.obj k) := lx
        cases lx with
        | obj ha =>
          obtain ⟨⟨dx, vs, e, _⟩, _⟩ := ok.good.at_ k _ _ hk ha
          exact ⟨(fun t ht => by cases ht), fun c' xs' e' ho => by cases e'; exact viaIns ho rfl e⟩
      · exact viaDer hd'
    · refine viaDer ?_
      cases y with
      | obj k => exact absurd ⟨k, rfl⟩ hy
      | _ => exact hd
  | o i =>
    have hd' : (match env[i]? with
      | some (some (.own (.ins c xs))) => some (.ins c xs)
      | _ => der env m (.o i)) = some d := hd
    split at hd'
    · rename_i c xs hk
      cases hd'
      obtain ⟨h1, _⟩ := lx
      obtain ⟨a, h2, h3⟩ := ok.env.own i _ hk
      rw [h1] at h2; cases h2
      obtain ⟨dx, vs, e, _⟩ := h3.ok
      exact ⟨(fun t ht => by cases ht), fun c' xs' e' ho => by cases e'; exact viaIns ho rfl e⟩
    · exact viaDer hd'
def clV (C : Ct) : Dat → Option Value
  | .ty T => some (.type T)
  | .cls d => some (.ref (C.addr d))
  | _ => none
theorem isa1_ok {K : PySem.W.Frag} {d c : Dat} {b : Bool} (T : CtOk C K) (h : isa1 C d c = some b) : ∃ u, clV C c = some u ∧ ((∃ t, tyN d = some t ∧ PySem.W.kitOne K (.type t) u = some b) ∨ ∃ k xs, d = .ins k xs ∧ C.own k = true ∧ PySem.W.kitOne K (.ref (C.addr k)) u = some b) := by
  unfold isa1 at h
  split at h
  · split at h
    · rename_i t ht
      exact ⟨_, rfl, .inl ⟨t, ht, isT_ok ht h⟩⟩
    · split at h
      · rename_i k xs _
        split at h
        · exact ⟨_, rfl, .inr ⟨k, xs, rfl, ‹_›, T.ib _ _ _ h⟩⟩
        · cases h
      · cases h
  · split at h
    · rename_i t ht
      exact ⟨_, rfl, .inl ⟨t, ht, T.it _ _ _ h⟩⟩
    · split at h
      · rename_i k xs _
        split at h
        · exact ⟨_, rfl, .inr ⟨k, xs, rfl, ‹_›, T.ii _ _ _ h⟩⟩
        · cases h
      · cases h
  · cases h
theorem clV_fz {w : World} {K : PySem.W.Frag} {n : Nw} {v : V} {c : Dat} {u x : Value} (h : FzN C w K n v c) (e : clV C c = some u) (r : RelV v x) : x = u := by
  cases c with
  | ty T => cases h; cases e; exact r
  | cls d => cases h; cases e; exact r
  | _ => cases e
theorem isaL_ok {K : PySem.W.Frag} {d : Dat} (T : CtOk C K) {t : Value} (ht : (∃ s, tyN d = some s ∧ t = .type s) ∨ ∃ k xs, d = .ins k xs ∧ t = .ref (C.addr k)) : ∀ {cs : List Dat} {b : Bool}, isaL C d cs = some b → ∀ {w : World} {n : Nw} {vs : List V} {us : List Value}, FzAllN C w K n vs cs → Vals vs us → PySem.W.kitAny K t us = some b
  | [], b, h, w, n, vs, us, hz, r => by cases hz; cases r; exact h
  | c :: cs, b, h, w, n, vs, us, hz, r => by
    cases hz with
    | cons z1 z2 =>
      cases r with
      | cons r1 r2 =>
        unfold isaL at h
        rename_i v0 vs0 u0 us0
        have key : ∀ {b'}, isa1 C d c = some b' → PySem.W.kitOne K t u0 = some b' := by
          intro b' h'
          obtain ⟨u, e1, e2⟩ := isa1_ok T h'
          have := clV_fz z1 e1 r1
          subst this
          rcases ht with ⟨s, h1, rfl⟩ | ⟨k, xs, rfl, rfl⟩
          · rcases e2 with ⟨s', h2, h3⟩ | ⟨k, xs, rfl, _, _⟩
            · rw [h1] at h2; cases h2; exact h3
            · cases h1
          · rcases e2 with ⟨s', h2, h3⟩ | ⟨k', xs', h2, _, h3⟩
            · cases h2
            · cases h2; exact h3
        unfold PySem.W.kitAny
        split at h
        · rename_i h1
          cases h
          rw [key h1]
        · rename_i h1
          rw [key h1]
          exact isaL_ok T ht h z2 r2
        · cases h
theorem call_isiD (T : CtOk C X.K) : CallD X C (.builtin "isinstance") (oIsi C) := by
  refine ⟨oIsi.mono, fun pins s σ H xs us Q I r q => ?_⟩
  obtain ⟨B, n, env, m, σ', ls, rfl, ok, la, q⟩ := q
  unfold oIsi at q
  split at q
  · rename_i x c
    obtain ⟨v1, v2, rfl, l1, l2⟩ := la.two
    have l2 : FzN C X.w X.K n v2 c := l2
    split at q
    · rename_i d hd
      obtain ⟨u1, u2, rfl, r1, r2⟩ := vals2 r
      obtain ⟨k1, k2⟩ := kit_dat T I ok l1 hd r1
      split at q
      · rename_i b hb
        have fin : ∀ tk, EP X pins σ Q (.bool b) { s with toks := tk } := fun tk => ⟨.bl b, n.H, I.tok tk, rfl, q n _ ok.good (.refl _) (.bl _)⟩
        unfold isaD at hb
        split at hb
        · rename_i cs _
          split at hb
          · cases hb
          rename_i hne
          cases l2 with
          | tup h1 h2 =>
            rename_i a vs
            cases (show u2 = Value.ref a from r2)
            obtain ⟨its, rv, ⟨o, e1, e2, nn, e3⟩, _⟩ := I.tuple (SqT.keep ok.good.sub h1)
            obtain ⟨oc, od, dt, sl⟩ := o
            simp only at e2 e3
            subst e2 e3
            have go : ∀ {t : Value} {P : Heap → Prop}, ((∃ s, tyN d = some s ∧ t = .type s) ∨ ∃ k xs, d = .ins k xs ∧ t = .ref (C.addr k)) → PySem.W.KitX X.K u1 t P → P s.heap → u1 ≠ .builtin "__main__.__loader__#opaque" → _ := fun {t P} ht Z p hx =>
              PySem.W.kia_tup (E := X.xe) (A := X.A) (prog := X.prog) (w := X.w) Z I.kIn p e1 (isaL_ok T ht hb h2 rv) hx fin
            cases hN : tyN d with
            | some t =>
              obtain ⟨P, Z, p, hx⟩ := k1 t hN
              exact go (.inl ⟨t, hN, rfl⟩) Z p hx
            | none =>
              by_cases hi : ∃ k xs, d = .ins k xs ∧ C.own k = true
              · obtain ⟨k, xs, e, ho⟩ := hi
                obtain ⟨P, Z, p, hx⟩ := k2 k xs e ho
                exact go (.inr ⟨k, xs, e, rfl⟩) Z p hx
              · exfalso
                cases cs with
                | nil => exact hne rfl
                | cons c1 cs1 =>
                  unfold isaL at hb
                  cases h1 : isa1 C d c1 with
                  | none => rw [h1] at hb; cases hb
                  | some b' =>
                    obtain ⟨u, _, e2⟩ := isa1_ok T h1
                    rcases e2 with ⟨t, h3, _⟩ | ⟨k, xs, h3, h4, _⟩
                    · rw [hN] at h3; cases h3
                    · exact hi ⟨k, xs, h3, h4⟩
        · obtain ⟨u, e1, e2⟩ := isa1_ok T hb
          have := clV_fz l2 e1 r2
          subst this
          rcases e2 with ⟨t, h3, h4⟩ | ⟨k, xs, h3, h5, h4⟩
          · obtain ⟨P, Z, p, hx⟩ := k1 t h3
            exact PySem.W.kia_one Z I.kIn p h4 hx fin
          · obtain ⟨P, Z, p, hx⟩ := k2 k xs h3 h5
            exact PySem.W.kia_one Z I.kIn p h4 hx fin
      · exact q.elim
    · exact q.elim
  · exact q.elim
end
end DL

set_option maxHeartbeats 1000000
namespace DL
open PySem PySem.Spec PyProof.Rows L2

def moOf (env : Env') (m : Mem) : Lv → Option Mo
  | .o i => match env[i]? with
    | some (some (.own x)) => some x
    | _ => none
  | .f (.obj k) => m[k]?
  | _ => none
def setE (x : Lv) (z : Mo) (env : Env') : Env' := match x with
  | .o i => env.set i (some (.own z))
  | _ => env
def setM (x : Lv) (z : Mo) (m : Mem) : Mem := match x with
  | .f (.obj k) => m.set k z
  | _ => m
section
variable {C : Ct} {w : World} {K : PySem.W.Frag} {B n : Nw} {m : Mem} {env : Env'} {σ : L2.St}
theorem mut_ok {v : V} {x : Lv} {y : Mo} (ok : Ok C w K B n env m σ) (h : LvOk C w K n env σ v x) (e : moOf env m x = some y) : ∃ a, v = .ref a ∧ MoOk C w K n a y ∧
    ∀ o z, MoOk C w K ⟨n.G, n.al, upd n.H a o⟩ a z → Ok C w K B ⟨n.G, n.al, upd n.H a o⟩ (setE x z env) (setM x z m) σ := by
  cases x with
  | o i =>
    obtain ⟨h1, y', h2⟩ := h
    have e' : (match env[i]? with
      | some (some (.own x)) => some x
      | _ => none) = some y := e
    rw [h2] at e'
    cases e'
    obtain ⟨a, h3, h4⟩ := ok.env.own i _ h2
    rw [h1] at h3; cases h3
    exact ⟨a, rfl, h4.ok, fun o z hz => ok.chgO h2 h1 hz⟩
  | f d =>
    cases d with
    | obj k =>
      have h : FzN C w K n v (.obj k) := h
      cases h with
      | obj hk =>
        rename_i a
        have hx : m[k]? = some y := e
        refine ⟨a, rfl, (ok.good.at_ k y a hx hk).1, fun o z hz => ?_⟩
        obtain ⟨g2, l2⟩ := ok.good.chgM hk hx hz
        exact ok.go g2 l2
    | _ => cases e
theorem sub_upd {n : Nw} {a : Addr} {o : HO} : n.sub ⟨n.G, n.al, upd n.H a o⟩ := ⟨fun _ _ h => h, List.prefix_rfl⟩
end
section
variable {X : Cx} {C : Ct} {B : Nw} {e o i : Expr} {d de di : TD} {pos apos cpos : Pos}
def sApp (d de : TD) : TSd := fun D env m => d env m fun x m1 => match moOf env m1 x with
  | some (.lst _) => de env m1 fun y m2 => match moOf env m2 x, y with
    | some (.lst xs), .f z => xs.length < sizeLine ∧ D.nx (setE x (.lst (xs ++ [z])) env) (setM x (.lst (xs ++ [z])) m2)
    | _, _ => False
  | _ => False
theorem sApp.mono (hd : MonoD d) (he : MonoD de) : MonoS (sApp d de) := fun env m D D' l h => hd _ _ _ _ (fun x m1 h1 => by
  try dsimp only at h1 ⊢
  split at h1
  · refine he _ _ _ _ (fun y m2 h2 => ?_) h1
    try dsimp only at h2 ⊢
    split at h2
    · exact ⟨h2.1, l.nx _ _ h2.2⟩
    · exact h2
  · exact h1) h
theorem tyL {K : PySem.W.Frag} {H : Hp} {a : Addr} {vs : List V} (h : H a = some (.lst vs)) : tyV K "list" (.ref a) H := .inl ⟨rfl, vs, .inl (.inl h)⟩
theorem ds_app (ho : DE X C B o d) (he : DE X C B e de) (hbase : attributeBase o "append" X.env (eval o X.env) = eval o X.env := by rfl)
    (hfew : ((backTo cpos (starEach [e] X.env)).all (fun x => !x.1) && (backToKw cpos (keywordEach [] X.env)).all (fun x => x.1.isSome)
      && decide (([e]).length + ([] : List Keyword).length + (if ([] : List Keyword).isEmpty then 0 else 1) < 30)) = true := by rfl)
    (hline : (apos.endLine == cpos.line) = true := by rfl) (hs : starEach [e] X.env = (false, eval e X.env) :: starEach [] X.env := by rfl) (hplain : (backTo cpos (starEach [] X.env)).any (·.1) = false := by rfl)
    (hsw : swapsWith (.Call (.Attribute o "append" apos) [e] [] cpos) none pos.line X.env = pure false := by rfl) : DS X C B (.Expr (.Call (.Attribute o "append" apos) [e] [] cpos) pos) (sApp d de) := by
  refine ⟨sApp.mono ho.mono he.mono, impS (ps_expr (pe_bm PySem.F.plainAttrs_list PySem.F.slot_list_append PySem.F.type_list_append mt_append ho.run (pa_cons he.run pa_nil hs) hbase hfew hline hs hplain) hsw) ?_⟩
  rintro D σ H ⟨n, env, m, rfl, ok, q⟩
  refine ⟨n, env, m, rfl, ok, ho.mono _ _ _ _ (fun x m1 h1 n1 v g1 l1 lx => ?_) q⟩
  have ok1 := ok.go g1 l1
  split at h1
  · rename_i xs0 hx0
    obtain ⟨a0, rfl, ⟨vs0, e0, _⟩, _⟩ := mut_ok ok1 lx hx0
    refine ⟨tyL e0, n1, env, m1, rfl, ok1, he.mono _ _ _ _ (fun y m2 h2 n2 u g2 l2 ly => ?_) h1⟩
    have ok2 := ok1.go g2 l2
    split at h2
    · rename_i xs z hx
      obtain ⟨a, ea, ⟨vs, e1, z1⟩, hset⟩ := mut_ok ok2 (lx.le l2) hx
      cases ea
      refine ⟨a0, vs, u, rfl, rfl, e1, by rw [z1.length]; exact h2.1, ?_⟩
      have ly : FzN C X.w X.K n2 u z := ly
      have ok3 := hset (.lst (vs ++ [u])) (.lst (xs ++ [z])) ⟨vs ++ [u], upd_same, FzAll.append (FzAll.keep (fun _ _ e => e) (fun _ _ e => e) z1) (.cons (Fz.keep (fun _ _ e => e) (fun _ _ e => e) ly) .nil)⟩
      exact h2.2 ⟨n2.G, n2.al, upd n2.H a0 (.lst (vs ++ [u]))⟩ σ ((l1.trans l2).sub.trans sub_upd) ok3
    · exact h2.elim
  · exact h1.elim
theorem mt_extendR : MtR X "list.extend" (fun x vs H Q => ∃ l b xs zs, x = .ref l ∧ vs = [.ref b] ∧ H l = some (.lst xs) ∧ Rd H b (.lst zs) ∧ xs.length + zs.length ≤ sizeLine ∧ Q .non (upd H l (.lst (xs ++ zs)))) := by
  intro pins s σ H x vs v us Q I rx rv h
  obtain ⟨l, b, xs, zs, rfl, rfl, hH, hB, hz, q⟩ := h
  cases rx
  obtain ⟨u, rfl, ru⟩ := rv.one
  cases ru
  obtain ⟨z, its, n, r, hl, e⟩ := I.lstM hH
  obtain ⟨z2, its2, n2, r2, hl2, e2⟩ := Rd.lstM I hB
  have hsz : its.toArray.size + its2.toArray.size ≤ sizeLine := by rw [List.size_toArray, List.size_toArray]; omega
  have hlong : ¬ (!its.toArray.isEmpty && Builtin.List.listTooLong (its.toArray.size + its2.toArray.size)) = true := by
    rw [notLongL hsz, Bool.and_false]
    exact Bool.false_ne_true
  refine call_meets F.slot_list_extend ⟨_, e, rfl⟩ F.entry_list_extend (F.args_list_extend_2 _ _)
    (AutoSeq1.list_extend_list_list_0 l its.toArray n b its2.toArray n2 hlong (by rw [List.size_toArray]; omega) (by omega)) ⟨e, e2, ?_⟩
  refine ⟨.non, _, I.lset (its' := its ++ its2) hH e (by simp) (r.append r2) ?_, rfl, q⟩
  rw [List.length_append]
  omega
def sExt (d de : TD) : TSd := fun D env m => d env m fun x m1 => match moOf env m1 x with
  | some (.lst _) => de env m1 fun y m2 => match moOf env m2 x, lstOf env m2 y with
    | some (.lst xs), some ys => xs.length + ys.length ≤ sizeLine ∧ D.nx (setE x (.lst (xs ++ ys)) env) (setM x (.lst (xs ++ ys)) m2)
    | _, _ => False
  | _ => False
theorem sExt.mono (hd : MonoD d) (he : MonoD de) : MonoS (sExt d de) := fun env m D D' l h => hd _ _ _ _ (fun x m1 h1 => by
  try dsimp only at h1 ⊢
  split at h1
  · refine he _ _ _ _ (fun y m2 h2 => ?_) h1
    try dsimp only at h2 ⊢
    split at h2
    · exact ⟨h2.1, l.nx _ _ h2.2⟩
    · exact h2
  · exact h1) h
theorem ds_ext (ho : DE X C B o d) (he : DE X C B e de) (hbase : attributeBase o "extend" X.env (eval o X.env) = eval o X.env := by rfl)
    (hfew : ((backTo cpos (starEach [e] X.env)).all (fun x => !x.1) && (backToKw cpos (keywordEach [] X.env)).all (fun x => x.1.isSome)
      && decide (([e]).length + ([] : List Keyword).length + (if ([] : List Keyword).isEmpty then 0 else 1) < 30)) = true := by rfl)
    (hline : (apos.endLine == cpos.line) = true := by rfl) (hs : starEach [e] X.env = (false, eval e X.env) :: starEach [] X.env := by rfl) (hplain : (backTo cpos (starEach [] X.env)).any (·.1) = false := by rfl)
    (hsw : swapsWith (.Call (.Attribute o "extend" apos) [e] [] cpos) none pos.line X.env = pure false := by rfl) : DS X C B (.Expr (.Call (.Attribute o "extend" apos) [e] [] cpos) pos) (sExt d de) := by
  refine ⟨sExt.mono ho.mono he.mono, impS (ps_expr (pe_bm PySem.F.plainAttrs_list PySem.F.slot_list_extend PySem.F.type_list_extend mt_extendR ho.run (pa_cons he.run pa_nil hs) hbase hfew hline hs hplain) hsw) ?_⟩
  rintro D σ H ⟨n, env, m, rfl, ok, q⟩
  refine ⟨n, env, m, rfl, ok, ho.mono _ _ _ _ (fun x m1 h1 n1 v g1 l1 lx => ?_) q⟩
  have ok1 := ok.go g1 l1
  split at h1
  · rename_i xs0 hx0
    obtain ⟨a0, rfl, ⟨vs0, e0, _⟩, _⟩ := mut_ok ok1 lx hx0
    refine ⟨tyL e0, n1, env, m1, rfl, ok1, he.mono _ _ _ _ (fun y m2 h2 n2 u g2 l2 ly => ?_) h1⟩
    have ok2 := ok1.go g2 l2
    split at h2
    · rename_i xs ys hx hy
      obtain ⟨a, ea, ⟨vs, e1, z1⟩, hset⟩ := mut_ok ok2 (lx.le l2) hx
      cases ea
      obtain ⟨b, us, rfl, r2, z2⟩ := lst_ok ok2 ly hy
      refine ⟨a0, b, vs, us, rfl, rfl, e1, r2, by rw [z1.length, z2.length]; exact h2.1, ?_⟩
      have ok3 := hset (.lst (vs ++ us)) (.lst (xs ++ ys)) ⟨vs ++ us, upd_same, FzAll.append (FzAll.keep (fun _ _ e => e) (fun _ _ e => e) z1) (FzAll.keep (fun _ _ e => e) (fun _ _ e => e) z2)⟩
      exact h2.2 ⟨n2.G, n2.al, upd n2.H a0 (.lst (vs ++ us))⟩ σ ((l1.trans l2).sub.trans sub_upd) ok3
    · exact h2.elim
  · exact h1.elim
def sPop0 (d : TD) : TSd := fun D env m => d env m fun x m1 => match moOf env m1 x with
  | some (.lst (_ :: xs)) => D.nx (setE x (.lst xs) env) (setM x (.lst xs) m1)
  | _ => False
theorem ds_pop0 {j c} (ho : DE X C B o d) (hbase : attributeBase o "pop" X.env (eval o X.env) = eval o X.env := by rfl)
    (hfew : ((backTo cpos (starEach [.Constant (.int 0) j c] X.env)).all (fun x => !x.1) && (backToKw cpos (keywordEach [] X.env)).all (fun x => x.1.isSome)
      && decide (([Expr.Constant (.int 0) j c]).length + ([] : List Keyword).length + (if ([] : List Keyword).isEmpty then 0 else 1) < 30)) = true := by rfl)
    (hline : (apos.endLine == cpos.line) = true := by rfl) (hs : starEach [.Constant (.int 0) j c] X.env = (false, eval (.Constant (.int 0) j c) X.env) :: starEach [] X.env := by rfl) (hplain : (backTo cpos (starEach [] X.env)).any (·.1) = false := by rfl)
    (hsw : swapsWith (.Call (.Attribute o "pop" apos) [.Constant (.int 0) j c] [] cpos) none pos.line X.env = pure false := by rfl) : DS X C B (.Expr (.Call (.Attribute o "pop" apos) [.Constant (.int 0) j c] [] cpos) pos) (sPop0 d) := by
  refine ⟨fun env m D D' l h => ho.mono _ _ _ _ (fun x m1 h1 => ?_) h, impS (ps_expr (pe_bm PySem.F.plainAttrs_list PySem.F.slot_list_pop PySem.F.type_list_pop mt_popAt ho.run (pa_cons pe_int pa_nil hs) hbase hfew hline hs hplain) hsw) ?_⟩
  · try dsimp only at h1 ⊢
    split at h1
    · exact l.nx _ _ h1
    · exact h1
  rintro D σ H ⟨n, env, m, rfl, ok, q⟩
  refine ⟨n, env, m, rfl, ok, ho.mono _ _ _ _ (fun x m1 h1 n1 v g1 l1 lx => ?_) q⟩
  have ok1 := ok.go g1 l1
  split at h1
  · rename_i y xs hx0
    obtain ⟨a, rfl, ⟨vs, e1, z1⟩, hset⟩ := mut_ok ok1 lx hx0
    refine ⟨tyL e1, ?_⟩
    cases z1 with
    | cons c1 c2 =>
      rename_i u us
      refine ⟨a, u :: us, 0, 0, u, rfl, rfl, e1, by decide, by decide, ?_, rfl, ?_⟩
      · rw [seqIndex_of (by decide) (by simp)]
        rfl
      · have ok3 := hset (.lst us) (.lst xs) ⟨us, upd_same, FzAll.keep (fun _ _ e => e) (fun _ _ e => e) c2⟩
        exact h1 ⟨n1.G, n1.al, upd n1.H a (.lst us)⟩ σ (l1.sub.trans sub_upd) ok3
  · exact h1.elim
def sSetI (de d di : TD) : TSd := fun D env m => de env m fun y m1 => d env m1 fun x m2 => di env m2 fun i m3 => match moOf env m3 x, i, y with
  | some (.lst xs), .f (.int k), .f z => match ixN xs.length k with
    | some j => D.nx (setE x (.lst (xs.set j z)) env) (setM x (.lst (xs.set j z)) m3)
    | none => False
  | _, _, _ => False
theorem sSetI.mono (he : MonoD de) (hd : MonoD d) (hi : MonoD di) : MonoS (sSetI de d di) := fun env m D D' l h => he _ _ _ _ (fun y m1 h1 => hd _ _ _ _ (fun x m2 h2 => hi _ _ _ _ (fun i m3 h3 => by
  try dsimp only at h3 ⊢
  split at h3
  · split at h3
    · exact l.nx _ _ h3
    · exact h3
  · exact h3) h2) h1) h
theorem ds_setI {sp : Pos} (he : DE X C B e de) (ho : DE X C B o d) (hi : DE X C B i di)
    (ha : ∀ v, assign (.Subscript o i sp) X.env v = (do
      let ov ← holding [v] (eval o X.env)
      let iv ← holding [v, ov] (eval i X.env)
      standAt sp
      holding [v, ov, iv] (setItem ov iv v)
      release [v, ov, iv] []) := by intro _; rfl) (hs : swapsWithSole [.Subscript o i sp] e pos.line X.env = pure false := by rfl) (hw : swappedStores [.Subscript o i sp] e X.env = pure none := by rfl)
    (h1 : (assignEach [.Subscript o i sp] X.env).map (·.2) = [assign (.Subscript o i sp) X.env] := by rfl) : DS X C B (.Assign [.Subscript o i sp] e pos) (sSetI de d di) := by
  refine ⟨sSetI.mono he.mono ho.mono hi.mono, impS (ps_asg he.run (pg_sub ho.run hi.run set_list ha) hs hw h1) ?_⟩
  rintro D σ H ⟨n, env, m, rfl, ok, q⟩
  refine ⟨n, env, m, rfl, ok, he.mono _ _ _ _ (fun y m1 h1 n1 u g1 l1 ly => ?_) q⟩
  have ok1 := ok.go g1 l1
  refine ⟨n1, env, m1, rfl, ok1, ho.mono _ _ _ _ (fun x m2 h2 n2 v g2 l2 lx => ?_) h1⟩
  have ok2 := ok1.go g2 l2
  refine ⟨n2, env, m2, rfl, ok2, hi.mono _ _ _ _ (fun i m3 h3 n3 iv g3 l3 li => ?_) h2⟩
  have ok3 := ok2.go g3 l3
  split at h3
  · rename_i xs k z hx
    split at h3
    · rename_i j hj
      have li : FzN C X.w X.K n3 iv (.int k) := li
      cases li
      have ly3 : FzN C X.w X.K n3 u z := FzN.le (FzN.le (n := n1) ly l2) l3
      obtain ⟨a, rfl, ⟨vs, e1, z1⟩, hset⟩ := mut_ok ok3 (lx.le l3) hx
      refine ⟨a, vs, k, j, rfl, rfl, e1, by rw [z1.length]; exact hj, ?_⟩
      have ok4 := hset (.lst (vs.set j u)) (.lst (xs.set j z)) ⟨vs.set j u, upd_same, FzAll.set j (FzAll.keep (fun _ _ e => e) (fun _ _ e => e) z1) (Fz.keep (fun _ _ e => e) (fun _ _ e => e) ly3)⟩
      exact h3 ⟨n3.G, n3.al, upd n3.H a (.lst (vs.set j u))⟩ σ (((l1.trans l2).trans l3).sub.trans sub_upd) ok4
    · exact h3.elim
  · exact h3.elim
def iVal (d : TD) : TId := fun env m Q => d env m fun x m1 => match x with
  | .f (.lst xs) => Q xs m1
  | .f (.tup xs) => Q xs m1
  | _ => False
theorem iVal.mono (h : MonoD d) : MonoI (iVal d) := fun env m Q Q' i => h _ _ _ _ fun x m1 => by
  try dsimp only
  split <;> first | exact i _ _ | exact id
theorem walkL {w : World} {K : PySem.W.Frag} {n : Nw} {m : Mem} {a : Addr} {vs : List V} {xs : List Dat} (h : Rd n.G a (.lst vs)) (z : FzAllN C w K n vs xs) : WalkD C w K n (Itl K a) xs := by
  have e := z.length
  refine ⟨_, _, by rw [← e]; exact walk_list (xs := vs), fun n' m' s g => ⟨Or.inl (rdUp g (Rd.keep s.g h)), fun i x H' hi hy => ?_⟩⟩
  obtain ⟨rfl, hx⟩ := hy
  obtain ⟨d, h1, h2⟩ := z.get' hx
  exact ⟨n', d, rfl, g, .refl _, h1, Fz.keep s.g (pre_get s.l) h2⟩
theorem walkT {w : World} {K : PySem.W.Frag} {n : Nw} {m : Mem} {a : Addr} {vs : List V} {xs : List Dat} (h : SqT K n.G a vs) (z : FzAllN C w K n vs xs) : WalkD C w K n (Itt K a) xs := by
  have e := z.length
  refine ⟨_, _, by rw [← e]; exact walk_tup (xs := vs), fun n' m' s g => ⟨SqT.keep g.sub (SqT.keep s.g h), fun i x H' hi hy => ?_⟩⟩
  obtain ⟨rfl, hx⟩ := hy
  obtain ⟨d, h1, h2⟩ := z.get' hx
  exact ⟨n', d, rfl, g, .refl _, h1, Fz.keep s.g (pre_get s.l) h2⟩
theorem pi_any {tg l : Expr} {tl : TE} (hl : PE X l tl) : PI X tg l (fun σ H R => tl σ H fun x H1 => ∃ a, x = .ref a ∧ (((∃ xs, SqL X.K H1 a xs) ∧ R (Itl X.K a) H1) ∨ ((∃ xs, SqT X.K H1 a xs) ∧ R (Itt X.K a) H1))) := by
  refine ⟨fun pins s σ H R I h => ?_⟩
  refine thn (hl.run pins s σ H _ I h) fun v s1 ⟨x, H1, I1, r1, q1⟩ => ?_
  obtain ⟨a, e, q⟩ := q1
  subst e
  cases r1
  rcases q with ⟨⟨xs, hq⟩, q⟩ | ⟨⟨xs, hq⟩, q⟩
  · obtain ⟨its, rv, p, hz⟩ := I1.list hq
    refine wpAny_pyIter_list p.isList ?_
    refine ⟨s1.heap.objs.size, [s1.heap.objs.size], _, _, H1, rfl, I1.kept (t' := s1.toks) fun b o e => Heap.get?_push_of_some _ e, turn_list a _, ⟨_, Heap.get?_push_size _ rfl, rfl, rfl⟩, fun b hb => ?_, q⟩
    have e : b = s1.heap.objs.size := by simpa using hb
    subst e
    exact I1.fpOk (Nat.le_refl _) (I1.hok.fresh (Nat.le_refl _))
  · obtain ⟨its, rv, p, hz⟩ := I1.tuple hq
    refine wpAny_pyIter_tuple (show s1.heap.IsTuple a its.toArray from p) ?_
    refine ⟨s1.heap.objs.size, [s1.heap.objs.size], _, _, H1, rfl, I1.kept (t' := s1.toks) fun b o e => Heap.get?_push_of_some _ e, turn_tuple a _, ⟨_, Heap.get?_push_size _ rfl, rfl, rfl⟩, fun b hb => ?_, q⟩
    have e : b = s1.heap.objs.size := by simpa using hb
    subst e
    exact I1.fpOk (Nat.le_refl _) (I1.hok.fresh (Nat.le_refl _))
theorem impI {tg l : Expr} {t t' : TI} (h : PI X tg l t) (i : ∀ σ H R, t' σ H R → t σ H R) : PI X tg l t' := ⟨fun pins s σ H R I q => h.run pins s σ H R I (i σ H R q)⟩
theorem di_val {tg : Expr} (h : DE X C B e d) : DI X C B tg e (iVal d) := by
  refine ⟨iVal.mono h.mono, impI (pi_any h.run) ?_⟩
  rintro σ H R ⟨n, env, m, rfl, ok, q⟩
  refine ⟨n, env, m, rfl, ok, h.mono _ _ _ _ (fun x m1 h1 n1 v g1 l1 lx => ?_) q⟩
  split at h1
  · rename_i xs
    have lx : FzN C X.w X.K n1 v (.lst xs) := lx
    cases lx with
    | lst r z => exact ⟨_, rfl, .inl ⟨⟨_, .inl (rdUp g1 r)⟩, h1 n1 _ g1 l1 (walkL (m := m1) r z)⟩⟩
  · rename_i xs
    have lx : FzN C X.w X.K n1 v (.tup xs) := lx
    cases lx with
    | tup r z => exact ⟨_, rfl, .inr ⟨⟨_, SqT.keep g1.sub r⟩, h1 n1 _ g1 l1 (walkT (m := m1) r z)⟩⟩
  · exact h1.elim
def rangeD (lo : Int) (k : Nat) : List Dat := (List.range k).map fun i => .int (lo + (i : Nat))
def iRg1 (d : TD) : TId := fun env m Q => d env m fun x m1 => match x with
  | .f (.int j) => -(2 ^ 62) ≤ j ∧ j < 2 ^ 62 ∧ Q (rangeD 0 j.toNat) m1
  | _ => False
def iRg2 (d de : TD) : TId := fun env m Q => d env m fun x m1 => de env m1 fun y m2 => match x, y with
  | .f (.int i), .f (.int j) => (-(2 ^ 62) ≤ i ∧ i < 2 ^ 62 ∧ -(2 ^ 62) ≤ j ∧ j < 2 ^ 62) ∧ Q (rangeD i (j - i).toNat) m2
  | _, _ => False
theorem walkR {w : World} {K : PySem.W.Frag} {n : Nw} {lo : Int} {k : Nat} : WalkD C w K n (Itr lo k) (rangeD lo k) := by
  refine ⟨_, _, by rw [show (rangeD lo k).length = k by simp [rangeD]]; exact walk_range, fun n' m' s g => ⟨trivial, fun i x H' hi hy => ?_⟩⟩
  obtain ⟨rfl, rfl⟩ := hy
  have hi' : i < k := by simpa [rangeD] using hi
  exact ⟨n', _, rfl, g, .refl _, by simp [rangeD, hi'], .int _⟩
theorem di_range1 {tg a : Expr} {p pos : Pos} (hg : Gl X "range") (hm : X.mg "range" = none) (ha : DE X C B a d) (hs : starEach [a] X.env = [(false, eval a X.env)] := by rfl) : DI X C B tg (.Call (.Name "range" p) [a] [] pos) (iRg1 d) := by
  refine ⟨fun env m Q Q' i h => ha.mono _ _ _ _ (fun x m1 h1 => ?_) h, impI (pi_range1 hg hm (pa_cons ha.run pa_nil hs) hs) ?_⟩
  · try dsimp only at h1 ⊢
    split at h1
    · exact ⟨h1.1, h1.2.1, i _ _ h1.2.2⟩
    · exact h1
  rintro σ H R ⟨n, env, m, rfl, ok, q⟩
  refine ⟨n, env, m, rfl, ok, ha.mono _ _ _ _ (fun x m1 h1 n1 v g1 l1 lx => ?_) q⟩
  split at h1
  · rename_i j
    have lx : FzN C X.w X.K n1 v (.int j) := lx
    cases lx
    exact ⟨j, rfl, h1.1, h1.2.1, h1.2.2 n1 _ g1 l1 walkR⟩
  · exact h1.elim
theorem di_range2 {tg a b : Expr} {p pos : Pos} (hg : Gl X "range") (hm : X.mg "range" = none) (ha : DE X C B a d) (hb : DE X C B b de) (hs : starEach [a, b] X.env = [(false, eval a X.env), (false, eval b X.env)] := by rfl) (hs2 : starEach [b] X.env = [(false, eval b X.env)] := by rfl)
    (hs3 : starEach [a, b] X.env = (false, eval a X.env) :: starEach [b] X.env := by rfl) : DI X C B tg (.Call (.Name "range" p) [a, b] [] pos) (iRg2 d de) := by
  refine ⟨fun env m Q Q' i h => ha.mono _ _ _ _ (fun x m1 h1 => hb.mono _ _ _ _ (fun y m2 h2 => ?_) h1) h, impI (pi_range2 hg hm (pa_cons ha.run (pa_cons hb.run pa_nil hs2) hs3) hs hs2) ?_⟩
  · try dsimp only at h2 ⊢
    split at h2
    · exact ⟨h2.1, i _ _ h2.2⟩
    · exact h2
  rintro σ H R ⟨n, env, m, rfl, ok, q⟩
  refine ⟨n, env, m, rfl, ok, ha.mono _ _ _ _ (fun x m1 h1 n1 v g1 l1 lx => ?_) q⟩
  refine ⟨n1, env, m1, rfl, ok.go g1 l1, hb.mono _ _ _ _ (fun y m2 h2 n2 u g2 l2 ly => ?_) h1⟩
  split at h2
  · rename_i i j
    have lx : FzN C X.w X.K n1 v (.int i) := lx
    have ly : FzN C X.w X.K n2 u (.int j) := ly
    cases lx
    cases ly
    exact ⟨i, j, rfl, h2.1, h2.2 n2 _ g2 (l1.trans l2) walkR⟩
  · exact h2.elim
def sPar (i j : Nat) (d de : TD) : TSd := fun D env m => d env m fun x m1 => de env m1 fun y m2 => match x, y with
  | .f a, .f b => D.nx ((env.set i (some (.f a))).set j (some (.f b))) m2
  | _, _ => False
theorem ds_par {i j : Nat} {x y : Str} {a b : Expr} {px py pt : Pos} {kt k2 pt2} (hc : X.calm = true) (hN : X.N.Nodup) (hi : X.N[i]? = some x) (hj : X.N[j]? = some y) (hij : i ≠ j)
    (hx : X.env.scope.names.lookup x = some .local) (hy : X.env.scope.names.lookup y = some .local) (ha : DE X C B a d) (hb : DE X C B b de)
    (hw : swappedStores [.Tuple [.Name x px, .Name y py] kt pt] (.Tuple [a, b] k2 pt2) X.env = pure (some [x, y]))
    (hs : swapsWithSole [.Tuple [.Name x px, .Name y py] kt pt] (.Tuple [a, b] k2 pt2) pos.line X.env = pure false := by rfl) (hs1 : starEach [a, b] X.env = (false, eval a X.env) :: starEach [b] X.env := by rfl) (hs2 : starEach [b] X.env = (false, eval b X.env) :: starEach [] X.env := by rfl) :
    DS X C B (.Assign [.Tuple [.Name x px, .Name y py] kt pt] (.Tuple [a, b] k2 pt2) pos) (sPar i j d de) := by
  refine ⟨fun env m D D' l h => ha.mono _ _ _ _ (fun x m1 h1 => hb.mono _ _ _ _ (fun y m2 h2 => ?_) h1) h, impS (ps_par hc hN hi hj hij hx hy (pa_cons ha.run (pa_cons hb.run pa_nil hs2) hs1) hw hs) ?_⟩
  · try dsimp only at h2 ⊢
    split at h2
    · exact l.nx _ _ h2
    · exact h2
  rintro D σ H ⟨n, env, m, rfl, ok, q⟩
  refine ⟨n, env, m, rfl, ok, ha.mono _ _ _ _ (fun x m1 h1 n1 v g1 l1 lx => ?_) q⟩
  refine ⟨n1, env, m1, rfl, ok.go g1 l1, hb.mono _ _ _ _ (fun y m2 h2 n2 u g2 l2 ly => ?_) h1⟩
  split at h2
  · rename_i a b
    have lx : FzN C X.w X.K n1 v a := lx
    have ly : FzN C X.w X.K n2 u b := ly
    exact ⟨v, u, rfl, h2 n2 _ (l1.trans l2).sub (((ok.go g2 (l1.trans l2)).setF (FzN.le lx l2)).setF ly)⟩
  · exact h2.elim
theorem dChain.mono {f g : Op2} {da db dc : TD} (hf : Mono2 f) (hg : Mono2 g) (ha : MonoD da) (hb : MonoD db) (hc : MonoD dc) : MonoD (dChain f g da db dc) := fun env m Q Q' i h =>
  ha _ _ _ _ (fun x m1 h1 => hb _ _ _ _ (fun y m2 h2 => hf _ _ _ _ _ _ (fun z m3 h3 => by
    try dsimp only at h3 ⊢
    split at h3
    · exact hc _ _ _ _ (fun u m4 h4 => hg _ _ _ _ _ _ (fun r m5 h5 => i _ _ h5) h4) h3
    · exact i _ _ h3
    · exact h3) h2) h1) h
theorem chain_imp {f g : Op2} {da db dc : TD} (hf : Mono2 f) (hg : Mono2 g) (ha : MonoD da) (hb : MonoD db) (hc : MonoD dc) :
    ∀ σ H Q, lE C B X.w X.K (dChain f g da db dc) σ H Q → tChain (r2 C X.w X.K f) (r2 C X.w X.K g) (lE C B X.w X.K da) (lE C B X.w X.K db) (lE C B X.w X.K dc) σ H Q := by
  rintro σ H Q ⟨n, env, m, rfl, ok, h⟩
  refine ⟨n, env, m, rfl, ok, ha _ _ _ _ (fun x m1 h1 n1 v ok1 l1 lx => ?_) h⟩
  refine ⟨n1, env, m1, rfl, ok.go ok1 l1, hb _ _ _ _ (fun y m2 h2 n2 u ok2 l2 ly => ?_) h1⟩
  refine ⟨B, n2, env, m2, σ, x, y, rfl, ok.go ok2 (l1.trans l2), lx.le l2, ly, hf _ _ _ _ _ _ (fun z m3 h3 n3 v3 ok3 l3 lz => ?_) h2⟩
  have l13 := l1.trans (l2.trans l3)
  cases z with
  | bl c =>
    cases lz
    refine ⟨c, rfl, ?_⟩
    cases c with
    | true =>
      show if (true = true) then _ else _
      rw [if_pos rfl]
      refine ⟨n3, env, m3, rfl, ok.go ok3 l13, hc _ _ _ _ (fun r m4 h4 n4 v4 ok4 l4 lr => ?_) h3⟩
      exact ⟨B, n4, env, m4, σ, y, r, rfl, ok.go ok4 (l13.trans l4), (ly.le l3).le l4, lr, hg _ _ _ _ _ _ (fun z5 m5 h5 n5 v5 ok5 l5 lz5 => h5 n5 v5 ok5 (l13.trans (l4.trans l5)) lz5) h4⟩
    | false =>
      show if (false = true) then _ else _
      rw [if_neg (by decide)]
      exact h3 n3 (.bl false) ok3 l13 (.bl false)
  | _ => exact h3.elim
theorem de_chain {op op' : CmpOp} {f g : Op2} {a b c : Expr} {da db dc : TD} (ho : OpD X C (compareOp op) f) (ho' : OpD X C (compareOp op') g) (ha : DE X C B a da) (hb : DE X C B b db) (hc : DE X C B c dc)
    (hm : lastMarks [op, op'] [b, c] = false := by with_unfolding_all rfl) : DE X C B (.Compare a [op, op'] [b, c] pos) (dChain f g da db dc) :=
  ⟨dChain.mono ho.mono ho'.mono ha.mono hb.mono hc.mono, imp (pe_chain ho.run ho'.run ha.run hb.run hc.run hm) (chain_imp ho.mono ho'.mono ha.mono hb.mono hc.mono)⟩
theorem dt_chain {op op' : CmpOp} {f g : Op2} {a b c : Expr} {da db dc : TD} (ho : OpD X C (compareOp op) f) (ho' : OpD X C (compareOp op') g) (ha : DE X C B a da) (hb : DE X C B b db) (hc : DE X C B c dc)
    (hm : lastMarks [op, op'] [b, c] = false := by with_unfolding_all rfl) : DT X C B (.Compare a [op, op'] [b, c] pos) (dTst (dChain f g da db dc)) := by
  refine ⟨dTst.mono (dChain.mono ho.mono ho'.mono ha.mono hb.mono hc.mono), impT (pt_chain ho.run ho'.run ha.run hb.run hc.run hm) ?_⟩
  rintro σ H Q ⟨n, env, m, rfl, ok, h⟩
  refine chain_imp (B := B) ho.mono ho'.mono ha.mono hb.mono hc.mono σ _ _ ⟨n, env, m, rfl, ok, dChain.mono ho.mono ho'.mono ha.mono hb.mono hc.mono _ _ _ _ (fun x m1 h1 n1 v ok1 l1 lx => ?_) h⟩
  cases x with
  | o k => exact h1.elim
  | f y =>
    cases y with
    | bl c => cases lx; exact ⟨c, rfl, h1 n1 ok1 l1⟩
    | _ => exact h1.elim
end
end DL

set_option maxHeartbeats 1000000
namespace DL
open PySem PySem.Spec PyProof.Rows L2

structure RoomG (k : Nat) (A : Around) : Prop where
  room : Room k A
  gd : A.guards = some []
structure FnG (P : Program) (w : World) (K : PySem.W.Frag) (mg : Str → Option Value) (base : Heap) (CX : CXT) (k : Nat) (f : Addr) (fd : FuncData) (ps : List Str) (sp : Sp) : Prop where
  len : ∀ vs H Q E, sp vs H Q E → vs.length = ps.length
  run : ∀ (A : Around) (outer : List Env) (s : Shared) (H : Hp) (args : Args) (us : List Value) (vs : List V) (Q : VK) (E : XK), RoomG k A → Env0 P w K mg base A outer s H → BindsTo s fd args (ps.zip us) → Vals vs us → sp vs H Q E →
    codeAny (model P w) A (.call (.ref f) args) (CR CX outer P w H s Q E) s
section
variable {X : Cx} {CX : CXT} {k : Nat} {f : Addr} {fd : FuncData} {ps : List Str} {sp : Sp} {E : L2.St → XK} {x : Str} {p pos : Pos} {e : Expr} {es : List Expr} {t : TA}
end
structure DG (P : Program) (w : World) (K : PySem.W.Frag) (mg : Str → Option Value) (base : Heap) (C : Ct) (k : Nat) (f : Addr) (fd : FuncData) (ps : List Str) (p : DSp) : Prop where
  mono : MonoP p
  ok : FnG P w K mg base (L2.CX P w) k f fd ps (spD C w K ps.length p)
section
variable {X : Cx} {C : Ct} {B : Nw} {k : Nat} {f : Addr} {fd : FuncData} {ps : List Str} {p : DSp} {EX : QXe} {x : Str} {p1 pos : Pos} {e : Expr} {es : List Expr} {da : TAd}
variable {P : Program} {w : World} {K : PySem.W.Frag} {mg : Str → Option Value} {base : Heap} {qual : Str} {params : Arguments} {body : List Stmt} {scope : Scope} {N : List Str}
end

def NoSys (K : PySem.W.Frag) : Prop := ∃ o, K.lookup sysModules = some o ∧ o.cls ≠ .type "list"
theorem pyk_1 : ∀ kvs : List (Dat × Dat), (pyk kvs).map (·.1) = kvs.map fun p => py p.1
  | [] => by rw [pyk]; rfl
  | (k, x) :: r => by rw [pyk, List.map_cons, pyk_1 r]; rfl
theorem pyk_2 : ∀ kvs : List (Dat × Dat), (pyk kvs).map (·.2) = kvs.map fun p => py p.2
  | [] => by rw [pyk]; rfl
  | (k, x) :: r => by rw [pyk, List.map_cons, pyk_2 r]; rfl
theorem okR_show : ∀ (k : Nat) (d : Dat), okR k d = true → (py d).showable = true ∧ (py d).depth ≤ k
  | k, .non, _ => by cases k <;> exact ⟨rfl, Nat.zero_le _⟩
  | k, .bl b, _ => by cases k <;> exact ⟨rfl, Nat.zero_le _⟩
  | k, .int i, h => by
    have h : decide (i.natAbs.log2 < 1920) = true := by cases k <;> exact h
    exact ⟨by rw [py, PyData.showable]; exact h, by rw [py, PyData.depth]; exact Nat.zero_le _⟩
  | k, .str x, h => ⟨by rw [py, PyData.showable], by rw [py, PyData.depth]; exact Nat.zero_le _⟩
  | 0, .tup xs, h => by cases h
  | 0, .lst xs, h => by cases h
  | 0, .dct xs, h => by cases h
  | k + 1, .tup xs, h => by
    have h : xs.all (okR k) = true := h
    have key : ∀ ys : List Dat, ys.all (okR k) = true → PyData.showableAll (pys ys) = true ∧ PyData.depthAll (pys ys) ≤ k := by
      intro ys
      induction ys with
      | nil => intro _; rw [pys]; exact ⟨by rw [PyData.showableAll], by rw [PyData.depthAll]; exact Nat.zero_le _⟩
      | cons y ys ih =>
        intro hy
        rw [List.all_cons, Bool.and_eq_true] at hy
        obtain ⟨h1, h2⟩ := okR_show k y hy.1
        obtain ⟨h3, h4⟩ := ih hy.2
        rw [pys, PyData.showableAll, PyData.depthAll, h1, h3]
        exact ⟨rfl, by omega⟩
    obtain ⟨h1, h2⟩ := key xs h
    rw [py, PyData.showable, PyData.depth]
    exact ⟨h1, by omega⟩
  | k + 1, .lst xs, h => by
    have h : xs.all (okR k) = true := h
    have key : ∀ ys : List Dat, ys.all (okR k) = true → PyData.showableAll (pys ys) = true ∧ PyData.depthAll (pys ys) ≤ k := by
      intro ys
      induction ys with
      | nil => intro _; rw [pys]; exact ⟨by rw [PyData.showableAll], by rw [PyData.depthAll]; exact Nat.zero_le _⟩
      | cons y ys ih =>
        intro hy
        rw [List.all_cons, Bool.and_eq_true] at hy
        obtain ⟨h1, h2⟩ := okR_show k y hy.1
        obtain ⟨h3, h4⟩ := ih hy.2
        rw [pys, PyData.showableAll, PyData.depthAll, h1, h3]
        exact ⟨rfl, by omega⟩
    obtain ⟨h1, h2⟩ := key xs h
    rw [py, PyData.showable, PyData.depth]
    exact ⟨h1, by omega⟩
  | k + 1, .dct kvs, h => by
    have h : (kvs.all fun p => okR k p.1 && okR k p.2) = true := h
    have key : ∀ ys : List (Dat × Dat), (ys.all fun p => okR k p.1 && okR k p.2) = true → PyData.showableKv (pyk ys) = true ∧ PyData.depthKv (pyk ys) ≤ k := by
      intro ys
      induction ys with
      | nil => intro _; rw [pyk]; exact ⟨by rw [PyData.showableKv], by rw [PyData.depthKv]; exact Nat.zero_le _⟩
      | cons y ys ih =>
        obtain ⟨a, b⟩ := y
        intro hy
        rw [List.all_cons, Bool.and_eq_true, Bool.and_eq_true] at hy
        obtain ⟨h1, h2⟩ := okR_show k a hy.1.1
        obtain ⟨h5, h6⟩ := okR_show k b hy.1.2
        obtain ⟨h3, h4⟩ := ih hy.2
        rw [pyk, PyData.showableKv, PyData.depthKv, h1, h3, h5]
        exact ⟨rfl, by omega⟩
    obtain ⟨h1, h2⟩ := key kvs h
    rw [py, PyData.showable, PyData.depth]
    exact ⟨h1, by omega⟩
  | k, .ins _ _, h => by cases k <;> cases h
  | k, .obj _, h => by cases k <;> cases h
  | k, .ref _, h => by cases k <;> cases h
  | k, .ty _, h => by cases k <;> cases h
  | k, .cls _, h => by cases k <;> cases h
section
variable {X : Cx} {C : Ct} {pins : List (Addr × Obj)} {σ : L2.St} {s : Shared} {n : Nw} {m : Mem}
theorem list_ns (I : Inv X pins σ n.H s) (ns : NoSys X.K) {a : Addr} {o : Obj} (e : s.heap.get? a = some o) (c : o.cls = .type "list") : a ≠ sysModules := by
  rintro rfl
  obtain ⟨o', h1, h2⟩ := ns
  have := I.kIn _ _ h1
  rw [e] at this
  cases this
  exact h2 c
mutual
theorem fz_rd (I : Inv X pins σ n.H s) (g : Good C X.w X.K n m) (ns : NoSys X.K) : ∀ (k : Nat) {v : V} {d : Dat} {u : Value}, FzN C X.w X.K n v d → RelV v u → okR k d = true → ∃ as, Reads s.heap u (py d) as ∧ sysModules ∉ as
  | k, _, .non, _, h, r, _ => by cases h; cases r; exact ⟨[], show Reads s.heap .none .none [] from .none, by simp⟩
  | k, _, .bl b, _, h, r, _ => by cases h; cases r; rw [py]; exact ⟨_, .bool b, by simp⟩
  | k, _, .int i, _, h, r, _ => by cases h; obtain ⟨t, rfl⟩ := r; rw [py]; exact ⟨_, .int i t, by simp⟩
  | k, _, .str x, _, h, r, _ => by cases h; obtain ⟨t, rfl⟩ := r; rw [py]; exact ⟨_, .str x t, by simp⟩
  | 0, _, .tup xs, _, h, r, e => by cases e
  | 0, _, .lst xs, _, h, r, e => by cases e
  | 0, _, .dct xs, _, h, r, e => by cases e
  | k + 1, _, .tup xs, _, h, r, e => by
    cases h with
    | tup h1 h2 =>
      cases r
      obtain ⟨its, rv, ⟨o, ho, hc, nn, hd⟩, _⟩ := I.tuple (SqT.keep g.sub h1)
      obtain ⟨as, q1, q2⟩ := fzs_rd I g ns k h2 rv e
      rw [py]
      exact ⟨_, .tuple ho hc hd (by simpa using q1), q2⟩
  | k + 1, _, .lst xs, _, h, r, e => by
    cases h with
    | lst h1 h2 =>
      cases r
      obtain ⟨its, rv, ⟨o, nn, ho, hc, _, hd⟩, _⟩ := I.list (.inl (rdUp g h1))
      obtain ⟨as, q1, q2⟩ := fzs_rd I g ns k h2 rv e
      rw [py]
      refine ⟨_, .list ho hc hd (by simpa using q1), fun z => ?_⟩
      rcases List.mem_cons.mp z with z | z
      · exact list_ns I ns ho hc z.symm
      · exact q2 z
  | k + 1, _, .dct kvs, _, h, r, e => by
    cases h with
    | dct h1 h2 h3 =>
      cases r
      obtain ⟨⟨o, ep, ho, hx, hd⟩, _⟩ : (∃ o ep, s.heap.get? _ = some o ∧ o.ExactDict ∧ o.data = .dict _ ep) ∧ _ := I.hok _ _ (g.sub _ _ h1)
      obtain ⟨as, bs, q1, q2, q3, q4⟩ := fze_rd I g ns k h3 e
      rw [py]
      refine ⟨_, .dict ho hx.1 hd (by rw [pyk_1]; exact q1) (by rw [pyk_2]; exact q2), fun z => ?_⟩
      rcases List.mem_append.mp z with z | z
      · rcases List.mem_cons.mp z with z | z
        · exact absurd z.symm (by simpa using h2)
        · exact q3 z
      · exact q4 z
  | k, _, .ins _ _, _, h, r, e => by cases k <;> cases e
  | k, _, .obj _, _, h, r, e => by cases k <;> cases e
  | k, _, .ref _, _, h, r, e => by cases k <;> cases e
  | k, _, .ty _, _, h, r, e => by cases k <;> cases e
  | k, _, .cls _, _, h, r, e => by cases k <;> cases e
theorem fzs_rd (I : Inv X pins σ n.H s) (g : Good C X.w X.K n m) (ns : NoSys X.K) : ∀ (k : Nat) {vs : List V} {ds : List Dat} {us : List Value}, FzAllN C X.w X.K n vs ds → Vals vs us → ds.all (okR k) = true → ∃ as, ReadsAll s.heap us (pys ds) as ∧ sysModules ∉ as
  | k, _, [], _, h, r, _ => by cases h; cases r; rw [pys]; exact ⟨_, .nil, by simp⟩
  | k, _, d :: ds, _, h, r, e => by
    rw [List.all_cons, Bool.and_eq_true] at e
    cases h with
    | cons a b =>
      cases r with
      | cons r1 r2 =>
        obtain ⟨as, q1, q2⟩ := fz_rd I g ns k a r1 e.1
        obtain ⟨bs, q3, q4⟩ := fzs_rd I g ns k b r2 e.2
        rw [pys]
        exact ⟨_, .cons q1 q3, fun z => (List.mem_append.mp z).elim q2 q4⟩
theorem fze_rd (I : Inv X pins σ n.H s) (g : Good C X.w X.K n m) (ns : NoSys X.K) : ∀ (k : Nat) {es : List DictEntry} {kvs : List (Dat × Dat)}, FzEs C X.w X.K n.al n.G es kvs → (kvs.all fun p => okR k p.1 && okR k p.2) = true →
    ∃ as bs, ReadsAll s.heap (es.map (·.key)) (kvs.map fun p => py p.1) as ∧ ReadsAll s.heap (es.map (·.val)) (kvs.map fun p => py p.2) bs ∧ sysModules ∉ as ∧ sysModules ∉ bs
  | k, _, [], h, _ => by cases h; exact ⟨_, _, .nil, .nil, by simp, by simp⟩
  | k, _, (a, b) :: ds, h, e => by
    rw [List.all_cons, Bool.and_eq_true, Bool.and_eq_true] at e
    cases h with
    | cons r1 x r2 y _ t =>
      obtain ⟨as, q1, q2⟩ := fz_rd I g ns k x r1 e.1.1
      obtain ⟨bs, q3, q4⟩ := fz_rd I g ns k y r2 e.1.2
      obtain ⟨cs, ds, q5, q6, q7, q8⟩ := fze_rd I g ns k t e.2
      exact ⟨_, _, .cons q1 q5, .cons q3 q6, fun z => (List.mem_append.mp z).elim q2 q7, fun z => (List.mem_append.mp z).elim q4 q8⟩
end
end
end DL

set_option maxHeartbeats 1000000
namespace DL
open PySem PySem.Spec PyProof.Rows L2

def sortOk (xs : List Dat) : Prop := PySem.W.AllAlike (xs.map py) ∧ PySem.W.Sortable (xs.map py) ∧ xs.all (okR 30) = true
noncomputable def sortD (xs : List Dat) : List Dat := xs.mergeSort (PySem.W.dataLe false py)
section
variable {prog : Program} {w : World} {A : Around} {E : Value → Shared → Prop} {s : Shared} {β : Type} {bs : List β} {enc : β → PyData} {R : Value → β → Prop}
theorem tup_items {l : Addr} {vs : List Value} {Q : List Value → Shared → Prop} (hl : IsTup s.heap l vs.toArray)
    (h : Q vs { s with heap := (s.heap.push (seqObj "list" #[] 0)).update s.heap.objs.size (Obj.mapSeq (· ++ vs.toArray)) }) (hsz : vs.length ≤ sizeLine) :
    wpAny (model prog w) A (collect (.ref l)) Q E s := by
  obtain ⟨o, ho, hc, n, hd⟩ := id hl
  unfold collect
  refine wpAny_bind (wpAny_runValue (codeAny_builtin entry_proto_collect' ?_))
  show wpAny _ _ (do again (.builtin "list.__iadd__" ⟨[← newList [], .ref l], []⟩)) _ _ s
  refine wpAny_bind (wpAny_newList (wpAny_pure ⟨Code.quiet_builtin _ (by decide +kernel), codeAny_builtin entry_list_iadd' ?_⟩))
  show wpAny _ _ (Builtin.List.listExtendWith (.ref s.heap.objs.size) (.ref l) (.ref s.heap.objs.size)) _ _ { s with heap := s.heap.push (seqObj "list" #[] 0) }
  unfold Builtin.List.listExtendWith
  have ho' : (s.heap.push (seqObj "list" #[] 0)).get? l = some o := Heap.get?_push_of_some _ ho
  refine wpAny_bind (wpAny_typeOf (T := "tuple") ⟨o, ho', hc⟩ ?_)
  have ht : (Value.type "tuple" == Value.type "tuple") = true := by rfl
  rw [if_pos (by rw [ht]; simp)]
  refine wpAny_bind (listItems_at ho' hd ?_)
  refine wpAny_bind (listItems_at (xs := #[]) (n := 0) (Heap.get?_push_size _ rfl) rfl ?_)
  rw [if_neg (by simp)]
  refine wpAny_bind (listUpdate_at (xs := #[]) (n := 0) (Heap.get?_push_size _ rfl) rfl ?_ (Nat.zero_le _) (by show (#[] ++ vs.toArray).size ≤ sizeLine + 1; simp only [Array.size_append, List.size_toArray, List.length_nil]; omega))
  refine wpAny_pure ?_
  show wpAny (model prog w) A (do
      let o ← load s.heap.objs.size
      match o.data with
      | .seq xs _ => pure xs.toList
      | _ => unsupported "internal:collect") Q E { s with heap := (s.heap.push (seqObj "list" #[] 0)).update s.heap.objs.size (Obj.mapSeq (· ++ vs.toArray)) }
  refine wpAny_bind (wpAny_load (get?_update_seq (Heap.get?_push_size _ rfl) _) ?_)
  show wpAny _ _ (pure ((#[] : Array Value) ++ vs.toArray).toList) Q E _
  rw [show ((#[] : Array Value) ++ vs.toArray).toList = vs by simp]
  exact wpAny_pure h
open PySem.W PySem.Calls in
theorem sorted_tup {l : Addr} {vs : List Value} {Q : Value → Shared → Prop} (hl : IsTup s.heap l vs.toArray) (e : EachIs R vs bs) (er : EachIs (fun v b => ∃ as, Reads s.heap v (enc b) as) vs bs) (hal : AllAlike (bs.map enc)) (hk : Sortable (bs.map enc)) (hL : bs.length ≤ sizeLine)
    (hu : ∀ b, b ∈ bs → A.units + 2 + (enc b).depth < cLine) (h : ∀ out, out.length = bs.length → EachIs R out (bs.mergeSort (dataLe false enc)) → Q (.ref (s.heap.objs.size + 1)) { s with heap := sortedAll s.heap vs (List.toArray out) }) :
    wpAny (model prog w) A (call (.builtin "sorted") [.ref l]) Q E s := by
  have er' : EachIs (fun v b => ∃ as, Reads (sortingHeap (copyHeap s.heap vs) (s.heap.objs.size + 1) vs) v (enc b) as) vs bs := er.mono fun _ _ ⟨as, r⟩ => ⟨as, PyProof.Rows.Reads.keeps (fun _ _ => sorting_copy_old) r⟩
  have hL' : vs.length ≤ sizeLine := by rw [e.length]; exact hL
  have S := SortsAt.data (prog := prog) (w := w) (A := A.in1.in1) (s := { s with heap := sortingHeap (copyHeap s.heap vs) (s.heap.objs.size + 1) vs }) (each_map (R := fun v d => ∃ as, Reads (sortingHeap (copyHeap s.heap vs) (s.heap.objs.size + 1) vs) v d as) enc er') hal hk (bound_map hu)
  refine call_function_entry_kw kind_sorted plain_sorted entry_sorted (args_sorted1 _) ?_
  unfold Builtin.«sorted»
  refine wpAny_bind (m := checkCount "sorted" 1 1 _) (wpAny_pure ?_)
  refine wpAny_bind (tup_items hl ?_ hL')
  refine wpAny_bind (wpAny_newList ?_ hL')
  have hsz : ((s.heap.push (seqObj "list" #[] 0)).update s.heap.objs.size (Obj.mapSeq (· ++ vs.toArray))).objs.size = s.heap.objs.size + 1 := by
    rw [Heap.size_update, size_push']
  show wpAny _ _ _ _ _ { s with heap := copyHeap s.heap vs }
  rw [hsz]
  refine wpAny_bind (wpAny_holding (wpAny_call_entry_kw slot_list_sort ⟨_, copyHeap_at s.heap vs, rfl⟩ entry_list_sort ?body (args_list_sort _)))
  case body =>
    show wpAny (model prog w) A.in1.in1 (Builtin.«list.sort» ⟨[.ref (s.heap.objs.size + 1)], []⟩) _ _ _
    refine wpAny_mono (list_sort_vals (s := { s with heap := copyHeap s.heap vs }) (P := fun f s' => f = .done (.ret .none) ∧ Q (.ref (s.heap.objs.size + 1)) s') (copyHeap_at s.heap vs) S hL' ⟨rfl, h _ (by rw [sortVals_length false rfl]; exact e.length) (sortVals_data false e er' hal)⟩) (fun f s' hf => ?_) fun _ _ e => e
    obtain ⟨rfl, hq⟩ := hf
    exact ⟨_, rfl, wpAny_pure ⟨_, rfl, hq⟩⟩
end
section
variable {X : Cx} {C : Ct}
def ShowV (X : Cx) (C : Ct) (n : Nw) : Value → Dat → Prop := fun u d => ∃ v, RelV v u ∧ FzN C X.w X.K n v d
theorem each_of {n : Nw} : ∀ {us : List Value} {vs : List V} {ds : List Dat}, Vals vs us → FzAllN C X.w X.K n vs ds → PySem.W.EachIs (ShowV X C n) us ds
  | _, _, [], r, z => by cases z; cases r; exact .nil
  | _, _, d :: ds, r, z => by
    cases z with
    | cons a b =>
      cases r with
      | cons r1 r2 => exact .cons ⟨_, r1, a⟩ (each_of r2 b)
theorem of_each {n : Nw} : ∀ {us : List Value} {ds : List Dat}, PySem.W.EachIs (ShowV X C n) us ds → ∃ vs, Vals vs us ∧ FzAllN C X.w X.K n vs ds
  | _, _, .nil => ⟨[], .nil, .nil⟩
  | _, _, .cons ⟨v, r, z⟩ t => by
    obtain ⟨vs, h1, h2⟩ := of_each t
    exact ⟨v :: vs, .cons r h1, .cons z h2⟩
theorem each_rd {pins : List (Addr × Obj)} {σ : L2.St} {s : Shared} {n : Nw} {m : Mem} (I : Inv X pins σ n.H s) (g : Good C X.w X.K n m) (ns : NoSys X.K) (k : Nat) : ∀ {us : List Value} {ds : List Dat}, PySem.W.EachIs (ShowV X C n) us ds → ds.all (okR k) = true →
    PySem.W.EachIs (fun v b => ∃ as, Reads s.heap v (py b) as) us ds
  | _, _, .nil, _ => .nil
  | _, _, .cons ⟨v, r, z⟩ t, h => by
    rw [List.all_cons, Bool.and_eq_true] at h
    obtain ⟨as, r1, _⟩ := fz_rd I g ns k z r h.1
    exact .cons ⟨as, r1⟩ (each_rd I g ns k t h.2)
def rSortN (X : Cx) (C : Ct) : List V → Hp → VK → Prop := fun vs H Q => ∃ B n env m σ v x ds, n.H = H ∧ Ok C X.w X.K B n env m σ ∧ vs = [v] ∧ LvOk C X.w X.K n env σ v x ∧ seqOf env m x = some ds ∧ sortOk ds ∧
  ∀ p us, H p = none → FzAllN C X.w X.K n us (sortD ds) → Q (.ref p) (upd H p (.lst us))
theorem call_sortN (hu : X.A.units + 64 < cLine) (ns : NoSys X.K) : CallR X (.builtin "sorted") (rSortN X C) := by
  intro pins s σ H vs us Q I rv h
  obtain ⟨B, n, env, m, σ', v, x, ds, rfl, ok, rfl, lx, hs, ⟨o1, o2, o3⟩, q⟩ := h
  obtain ⟨a, zs, rfl, hsq, hz⟩ := seq_ok ok lx hs
  rw [Vals.ref1 rv]
  have dep : ∀ b, b ∈ ds → X.A.units + 2 + (py b).depth < cLine := fun b hb => by
    have := (okR_show 30 b (List.all_eq_true.mp o3 b hb)).2
    omega
  have fin : ∀ its : List Value, Vals zs its → zs.length ≤ sizeLine → ∀ out : List Value, out.length = ds.length → PySem.W.EachIs (ShowV X C n) out (ds.mergeSort (PySem.W.dataLe false py)) →
      EP X pins σ Q (.ref (s.heap.objs.size + 1)) { s with heap := sortedAll s.heap its (List.toArray out) } := fun its r hl out ho eo => by
    obtain ⟨ws, r2, z2⟩ := of_each eo
    obtain ⟨ep, he'⟩ := PyProof.Rows.sortedAll_at s.heap its (List.toArray out)
    have hlen : ws.length ≤ sizeLine := by
      rw [r2.length, ho, ← hz.length]; exact hl
    exact ⟨.ref _, upd n.H (s.heap.objs.size + 1) (.lst ws), I.laid (t' := s.toks) (fun _ _ => PyProof.Rows.sortedAll_old) (Nat.le_succ _) ⟨hlen, out, ep, r2, he'⟩, rfl, q _ ws (I.hok.fresh (Nat.le_succ _)) z2⟩
  rcases hsq with hsq | hsq
  · obtain ⟨its, r, hl, hzl⟩ := I.list hsq
    have e := each_of (X := X) (C := C) r hz
    exact PySem.W.sorted_data hl.isList e (each_rd I ok.good ns 30 e o3) o1 o2 (by rw [← hz.length]; exact hzl) dep (fin its r hzl)
  · obtain ⟨its, r, hl, hzl⟩ := I.tuple hsq
    have e := each_of (X := X) (C := C) r hz
    exact sorted_tup hl e (each_rd I ok.good ns 30 e o3) o1 o2 (by rw [← hz.length]; exact hzl) dep (fin its r hzl)
def nSort (da : TD) : TN := fun env m Q => da env m fun x m1 => match seqOf env m1 x with
  | some ds => sortOk ds ∧ Q (sortD ds) m1
  | none => False
theorem dn_sorted {B : Nw} {a : Expr} {da : TD} {p pos : Pos} (hu : X.A.units + 64 < cLine) (ns : NoSys X.K) (hg : Gl X "sorted") (hm : X.mg "sorted" = none) (hv : bootBuiltins "sorted" = some (.builtin "sorted")) (ha : DE X C B a da)
    (he : starEach [a] X.env = (false, eval a X.env) :: starEach [] X.env := by rfl) (hpl : (backTo pos (starEach [] X.env)).any (·.1) = false := by rfl) : DN X C B (.Call (.Name "sorted" p) [a] [] pos) (nSort da) := by
  refine ⟨fun env m Q Q' i h => ha.mono _ _ _ _ (fun x m1 h1 => ?_) h, imp (pe_callB (call_sortN (C := C) hu ns) hg hm hv (pa_cons ha.run pa_nil he) (by decide) (by decide) he hpl) ?_⟩
  · split at h1
    · exact ⟨h1.1, i _ _ h1.2⟩
    · exact h1.elim
  rintro σ H Q ⟨n, env, m, rfl, ok, h⟩
  refine ⟨n, env, m, rfl, ok, ha.mono _ _ _ _ (fun x m1 h1 n1 v g1 l1 lx => ?_) h⟩
  split at h1
  · rename_i ds hds
    exact ⟨B, n1, env, m1, σ, v, x, ds, rfl, ok.go g1 l1, rfl, lx, hds, h1.1, fun p us hp hu => h1.2 n1 p us g1 l1 hp hu⟩
  · exact h1.elim
end
end DL

set_option maxHeartbeats 1000000
namespace DL
open PySem PySem.Spec PyProof.Rows L2

set_option maxHeartbeats 1000000 in
theorem enum_new0 {v : Value} {o : Obj} {H : Heap → Prop} (B : Begins v o H) :
    Meets (Builtin.«enumerate.__new__» ⟨[.type "enumerate", v], []⟩) (fun _ R s => H s.heap ∧
      R (.ok (.ret (.ref (s.heap.push o).objs.size))) { s with heap := (s.heap.push o).push { cls := .type "enumerate", data := .fields #[.none, .bool false, .ref s.heap.objs.size, rawInt 0, .none, .none] } }) :=
  .of_wp fun prog w A R s h => by
    obtain ⟨hp, g, d, tk, os⟩ := s; obtain ⟨h1, h⟩ := h
    have hsub := sub_enumerate
    have q1 : ∀ {A' : Around} {E : Value → Shared → Prop} {Q : Value → Shared → Prop}, Q (.ref hp.objs.size) ⟨hp.push o, g, d, tk, os⟩ → wpAny (model prog w) A' (pyIter v) Q E ⟨hp, g, d, tk, os⟩ :=
      fun q => B.iter prog w _ _ ⟨hp, g, d, tk, os⟩ _ h1 q
    wp_walk using q1
    refine wpAny_stack_any fun st => wpAny_pure ?_
    split
    · rename_i c _ _ _ _ _
      cases (c == Value.type "enumerate")
      · wp_walk using q1
        exact ⟨_, rfl, h⟩
      · wp_walk using q1
        exact ⟨_, rfl, h⟩
    · wp_walk using q1
      exact ⟨_, rfl, h⟩
theorem enum_begins0 {prog : Program} {w : World} {A : Around} {E : Value → Shared → Prop} {s : Shared} {v : Value} {o : Obj} {H : Heap → Prop} {Q : Value → Shared → Prop} (B : Begins v o H) (h1 : H s.heap)
    (h : ∀ h', IsEnum h' (s.heap.objs.size + 1) s.heap.objs.size 0 .none → h'.get? s.heap.objs.size = some o → h'.objs.size = s.heap.objs.size + 2 →
      (∀ b o, s.heap.get? b = some o → h'.get? b = some o) → Q (.ref (s.heap.objs.size + 1)) { s with heap := h' }) :
    wpAny (model prog w) A (call (.type "enumerate") [v]) Q E s := by
  refine callType_new F.called_enumerate (by decide) (F.typeCall_enumerate_1 _) (F.newCall_enumerate_1 _) (fun obj => F.args_object_init_2 obj _) F.entry_enumerate_new
    (enum_new0 B) ⟨h1, ?_⟩
  have hz : (s.heap.push o).objs.size = s.heap.objs.size + 1 := Heap.size_push ..
  show _ ∧ _
  rw [hz]
  have he : IsEnum ((s.heap.push o).push { cls := .type "enumerate", data := .fields #[.none, .bool false, .ref s.heap.objs.size, rawInt 0, .none, .none] }) (s.heap.objs.size + 1) s.heap.objs.size 0 .none := by
    have := Heap.get?_push_size (s.heap.push o) (o := { cls := .type "enumerate", data := .fields #[.none, .bool false, .ref s.heap.objs.size, rawInt 0, .none, .none] }) rfl
    rw [hz] at this; exact this
  refine ⟨⟨_, he, rfl⟩, h _ he (Heap.get?_push_of_some _ (Heap.get?_push_size _ B.free)) (by rw [Heap.size_push, hz]) fun b o x => Heap.get?_push_of_some _ (Heap.get?_push_of_some _ x)⟩
def IteT (K : PySem.W.Frag) (a : Addr) : It :=
  ⟨fun i H => ∃ (xs : List V) (x : V), SqT K H a xs ∧ xs[i]? = some x, fun i H v H' => ∃ T x, v = .ref T ∧ H T = none ∧ H' = upd H T (.tup [.int (i : Nat), x]) ∧ ∀ xs, SqT K H a xs → xs[i]? = some x, fun i H => ∃ xs : List V, SqT K H a xs ∧ xs.length ≤ i⟩
theorem turn_enumT {P : Program} {w : World} {K : PySem.W.Frag} {elts : List Expr} {kk : Nat} {tpos : Pos} (a e it : Addr) :
    Turn P w K (.Tuple elts kk tpos) (IteT K a) [e, it] e (fun i h => (∃ old, IsEnum h e it ((i : Nat) : Int) old) ∧ h.IsTupleIter it a i ∧ e ≠ it ∧ e ≠ a ∧ a ≠ it) where
  mem := by simp
  obj := fun i h st b hb => by
    obtain ⟨⟨old, he⟩, ⟨o, ho, hc, hd⟩, _⟩ := st
    have e' : b = e ∨ b = it := by simpa using hb
    rcases e' with z | z
    · rw [z]; exact ⟨_, he, fun v q => nomatch q⟩
    · rw [z]; exact ⟨o, ho, fun v q => by rw [hd] at q; cases q⟩
  keep := fun i h h' st k => let ⟨⟨old, he⟩, hi, hne⟩ := st; ⟨⟨old, k e (by simp) _ he⟩, hi.at fun o q => k it (by simp) o q, hne⟩
  item := by
    intro X hP hw hK hc i pins s σ H E I hf st hg
    subst hP hw hK
    obtain ⟨⟨old, he⟩, hit, hne, hea, hai⟩ := st
    obtain ⟨xs, x, hq, hx⟩ := hg
    obtain ⟨its, rv, p, hz⟩ := I.tuple hq
    obtain ⟨u, hu, ru⟩ := rv.get hx
    have hel : e < s.heap.objs.size := Heap.lt_size he
    have hil : it < s.heap.objs.size := by obtain ⟨_, q, _⟩ := hit; exact Heap.lt_size q
    have hh : X.A.in1.handled = none := I.ok.hd hc
    have hlt : i < its.toArray.size := by
      have := (List.getElem?_eq_some_iff.mp hu).1
      simpa using this
    refine wpAny_pyNext_enum_itemD (Draws.tuple hh it a hai its.toArray) he ⟨hit, p⟩ hlt hne (by simp [hne, hea]) fun y h' tk hy ho hit' hT hsz hk => ?_
    have hy' : its.toArray[i]? = some y := hy
    have hyu : y = u := by
      have e1 : its.toArray[i]? = some u := by simpa using hu
      rw [hy'] at e1
      exact Option.some.inj e1
    subst hyu
    refine ⟨_, rfl, wpAny_letOwnedTupleGo_enum (s := { s with heap := h', toks := tk + 1 }) ho fun h'' he' sb => ?_⟩
    have hT2 : h''.get? s.heap.objs.size = some { cls := .type "tuple", data := .seq #[.int i tk, y] } := (sb.2 _ (Nat.ne_of_gt hel)).trans hT
    have new : ObjOk X.prog X.w (upd H s.heap.objs.size (.tup [.int (i : Nat), x])) h'' s.heap.objs.size (.tup [.int (i : Nat), x]) :=
      ⟨by show 2 ≤ sizeLine; decide, [.int i tk, y], .cons ⟨_, rfl⟩ (.cons ru .nil), ⟨_, hT2, rfl, _, rfl⟩⟩
    have I1 : Inv X pins σ (upd H s.heap.objs.size (.tup [.int (i : Nat), x])) { s with heap := h'', toks := tk + 1 } :=
      I.turnedNew (ch := [e, it]) (fun b ob hb q => (sb.2 b (fun z => hb (by simp [z]))).trans (hk b ob (fun z => hb (by simp [z])) (fun z => hb (by simp [z])) q)) hf (Nat.le_refl _) new
    refine ⟨.ref s.heap.objs.size, _, I1, rfl, ⟨_, x, rfl, I.hok.fresh (Nat.le_refl _), rfl, fun ys hy => by rw [I.tuple_inj hy hq]; exact hx⟩, ⟨⟨y, ?_⟩, hit'.1.at fun o q => (sb.2 it (Ne.symm hne)).trans q, hne, hea, hai⟩, fun b hb => ?_⟩
    · have e1 : ((i + 1 : Nat) : Int) = (i : Int) + 1 := by omega
      rw [e1]; exact he'
    · have hb' : b < s.heap.objs.size := by
        have e' : b = e ∨ b = it := by simpa using hb
        rcases e' with z | z
        · rw [z]; exact hel
        · rw [z]; exact hil
      rw [upd_ne (Nat.ne_of_lt hb')]
      exact (hf b hb).1
  done := by
    intro X hP hw hK hc i pins s σ H E I hf st hg
    subst hP hw hK
    obtain ⟨⟨old, he⟩, hit, hne, hea, hai⟩ := st
    obtain ⟨xs, hq, hx⟩ := hg
    obtain ⟨its, rv, p, hz⟩ := I.tuple hq
    obtain ⟨f0, f1, f2, f3, f4, f5⟩ := hf it (by simp)
    have hl := rv.length
    have hh : X.A.in1.handled = none := I.ok.hd hc
    have hx' : its.toArray[i]? = none := by simp; omega
    have D : Draws X.prog X.w X.A.in1 it [it, a] i (fun _ _ => False) (fun j h => j = i ∧ h.IsTupleIter it a i ∧ h.IsTuple a its.toArray) :=
      { live := fun _ _ st => let ⟨o, ho, _⟩ := st.2.1; ⟨o, ho⟩
        frame := fun _ _ _ st hk => ⟨st.1, st.2.1.at fun o e => hk it (by simp) o e, st.2.2.at fun o e => hk a (by simp) o e⟩
        item := fun j s Q E hj st _ => absurd st.1 (by omega)
        done := fun s Q E st hE => wpAny_nextOf_tuple_end hh st.2.1 st.2.2 hx' hE }
    exact wpAny_pyNext_enum_endD D he ⟨rfl, hit, p⟩ fun h' eb => ⟨rfl, I.turned (t' := s.toks) (fun b o hb q => eb b o hb q) f0 f1 f3 f4 f5⟩
  self := fun A i s Q E st h => let ⟨⟨_, he⟩, _⟩ := st; wpAny_pyIter_enum he h
theorem pi_enumA {X : Cx} {e : Expr} {ta : TA} {p pos tpos : Pos} {elts : List Expr} {kk : Nat} (hg : Gl X "enumerate") (hm : X.mg "enumerate" = none) (ha : PA X [e] ta) (hs : starEach [e] X.env = [(false, eval e X.env)] := by rfl) :
    PI X (.Tuple elts kk tpos) (.Call (.Name "enumerate" p) [e] [] pos) (fun σ H R => ta σ H fun vs H1 => ∃ a xs, vs = [.ref a] ∧ ((SqL X.K H1 a xs ∧ R (Ite X.K a) H1) ∨ (SqT X.K H1 a xs ∧ R (IteT X.K a) H1))) := by
  refine ⟨fun pins s σ H R I h => ?_⟩
  refine Call_ (ld_blt I hg hm boot_enumerate (PyProof.Rows.callWith_type1 (thn (ha.run pos pins s σ H _ I h) fun us s1 ⟨vs, H1, I1, r1, q1⟩ => ?_) hs rfl))
  obtain ⟨a, xs, ex, q1⟩ := q1
  subst ex
  cases r1 with
  | cons r rr =>
    cases rr
    cases r
    have fr2 : ∀ b, b ∈ [s1.heap.objs.size + 1, s1.heap.objs.size] → FpOk X pins H1 b := fun b hb => by
      have e' : b = s1.heap.objs.size + 1 ∨ b = s1.heap.objs.size := by simpa using hb
      have hle : s1.heap.objs.size ≤ b := by
        rcases e' with z | z
        · rw [z]; exact Nat.le_add_right _ _
        · rw [z]; exact Nat.le_refl _
      exact I1.fpOk hle (I1.hok.fresh hle)
    rcases q1 with ⟨hq, q⟩ | ⟨hq, q⟩
    · obtain ⟨its, rv, p', hz⟩ := I1.list hq
      refine call_enumerate_list p'.isList fun h' he hit hsz hk => wpAny_pyIter_enum he ?_
      exact ⟨s1.heap.objs.size + 1, [s1.heap.objs.size + 1, s1.heap.objs.size], _, _, H1, rfl, I1.kept (t' := s1.toks) hk, turn_enum a (s1.heap.objs.size + 1) s1.heap.objs.size, ⟨⟨.none, he⟩, hit, Nat.succ_ne_self _⟩, fr2, q⟩
    · obtain ⟨its, rv, p', hz⟩ := I1.tuple hq
      have lt : a < s1.heap.objs.size := by obtain ⟨_, e, _⟩ := id p'; exact Heap.lt_size e
      refine enum_begins0 (begins_tuple a its.toArray) p' fun h' he hit hsz hk => wpAny_pyIter_enum he ?_
      exact ⟨s1.heap.objs.size + 1, [s1.heap.objs.size + 1, s1.heap.objs.size], _, _, H1, rfl, I1.kept (t' := s1.toks) hk, turn_enumT a (s1.heap.objs.size + 1) s1.heap.objs.size,
        ⟨⟨.none, he⟩, ⟨_, hit, rfl, rfl⟩, Nat.succ_ne_self _, Nat.ne_of_gt (Nat.lt_succ_of_lt lt), Nat.ne_of_lt lt⟩, fr2, q⟩
theorem walk_enumT {K : PySem.W.Frag} {a : Addr} {xs : List V} : Walk (IteT K a) xs.length (fun H => SqT K H a xs) (YPair (fun i => some (.int (i : Nat))) (fun i => xs[i]?)) := by
  refine ⟨fun i _ hi q => ⟨xs, xs[i], q, by simp [hi]⟩, fun _ q => ⟨xs, q, Nat.le_refl _⟩, fun i H v H' _ q y => ?_⟩
  obtain ⟨T, x, h1, h2, h3, h4⟩ := y
  exact ⟨T, .int (i : Nat), x, h1, h2, h3, rfl, h4 xs q⟩
def enumD : Nat → List Dat → List Dat
  | _, [] => []
  | i, x :: xs => .tup [.int (i : Nat), x] :: enumD (i + 1) xs
theorem enumD_len : ∀ (i : Nat) (xs : List Dat), (enumD i xs).length = xs.length
  | _, [] => rfl
  | i, x :: xs => by rw [enumD, List.length_cons, List.length_cons, enumD_len]
theorem enumD_get : ∀ (xs : List Dat) (k i : Nat), (enumD k xs)[i]? = xs[i]?.map fun x => .tup [.int ((k + i : Nat) : Int), x]
  | [], _, _ => by simp [enumD]
  | x :: xs, k, 0 => by simp [enumD]
  | x :: xs, k, i + 1 => by
    have := enumD_get xs (k + 1) i
    rw [enumD, List.getElem?_cons_succ, List.getElem?_cons_succ, this, show k + 1 + i = k + (i + 1) by omega]
section
variable {X : Cx} {C : Ct} {B : Nw} {w : World} {K : PySem.W.Frag} {n : Nw} {m : Mem} {e e2 : Expr} {d d2 : TD}
theorem new_pair {n' : Nw} {T : Addr} {x y : V} {a b : Dat} (g : Good C w K n' m) (hT : n'.H T = none) (ha : FzN C w K n' x a) (hb : FzN C w K n' y b) :
    ∃ n'' : Nw, n''.H = upd n'.H T (.tup [x, y]) ∧ Good C w K n'' m ∧ n'.le n'' ∧ FzN C w K n'' (.ref T) (.tup [a, b]) := by
  obtain ⟨g2, l2⟩ := g.freeze (o := .tup [x, y]) hT
  exact ⟨_, rfl, g2, l2, .tup (SqT.of upd_same) (.cons (FzN.le ha l2) (.cons (FzN.le hb l2) .nil))⟩
theorem walkD_pairs {J : It} {xs : List Dat} {us vs : Nat → Option V} {Gp : Hp → Prop} (wk : Walk J xs.length Gp (YPair us vs)) (hG : ∀ n' m', n.sub n' → Good C w K n' m' → Gp n'.H)
    (hv : ∀ i x y, i < xs.length → us i = some x → vs i = some y → ∃ a b, xs[i]? = some (.tup [a, b]) ∧ FzN C w K n x a ∧ FzN C w K n y b) : WalkD C w K n J xs := by
  refine ⟨Gp, _, wk, fun n' m' s g => ⟨hG n' m' s g, fun i v H' hi hy => ?_⟩⟩
  obtain ⟨T, x, y, rfl, hT, rfl, h1, h2⟩ := hy
  obtain ⟨a, b, h3, h4, h5⟩ := hv i x y hi h1 h2
  obtain ⟨n'', e1, g2, l2, z⟩ := new_pair g hT (Fz.keep s.g (pre_get s.l) h4) (Fz.keep s.g (pre_get s.l) h5)
  exact ⟨n'', _, e1, g2, l2, h3, z⟩
def iEnumD (d : TD) : TId := fun env m Q => d env m fun x m1 => match x with
  | .f (.lst xs) => Q (enumD 0 xs) m1
  | .f (.tup xs) => Q (enumD 0 xs) m1
  | _ => False
theorem walkE {J : It} {xs : List Dat} {vs : List V} {Gp : Hp → Prop} (wk : Walk J vs.length Gp (YPair (fun i => some (.int (i : Nat))) (fun i => vs[i]?))) (hG : ∀ n' m', n.sub n' → Good C w K n' m' → Gp n'.H) (z : FzAllN C w K n vs xs) : WalkD C w K n J (enumD 0 xs) := by
  have hl := z.length
  refine walkD_pairs (by rw [enumD_len, ← hl]; exact wk) hG fun i x y hi h1 h2 => ?_
  cases h1
  obtain ⟨b, h3, h4⟩ := z.get' h2
  exact ⟨.int (i : Nat), b, by rw [enumD_get, h3, Nat.zero_add]; rfl, .int _, h4⟩
theorem di_enum {elts : List Expr} {kk : Nat} {tpos p pos : Pos} (hg : Gl X "enumerate") (hm : X.mg "enumerate" = none) (h : DE X C B e d) (hs : starEach [e] X.env = [(false, eval e X.env)] := by rfl) : DI X C B (.Tuple elts kk tpos) (.Call (.Name "enumerate" p) [e] [] pos) (iEnumD d) := by
  refine ⟨fun env m Q Q' i => h.mono _ _ _ _ fun x m1 => ?_, impI (pi_enumA hg hm (pa_cons h.run pa_nil hs) hs) ?_⟩
  · try dsimp only
    split <;> first | exact i _ _ | exact id
  rintro σ H R ⟨n, env, m, rfl, ok, q⟩
  refine ⟨n, env, m, rfl, ok, h.mono _ _ _ _ (fun x m1 h1 n1 v g1 l1 lx => ?_) q⟩
  split at h1
  · rename_i xs
    have lx : FzN C X.w X.K n1 v (.lst xs) := lx
    cases lx with
    | lst r z =>
      exact ⟨_, _, rfl, .inl ⟨.inl (rdUp g1 r), h1 n1 _ g1 l1 (walkE walk_enum (fun n' m' s g => Or.inl (rdUp g (Rd.keep s.g r))) z)⟩⟩
  · rename_i xs
    have lx : FzN C X.w X.K n1 v (.tup xs) := lx
    cases lx with
    | tup r z =>
      exact ⟨_, _, rfl, .inr ⟨SqT.keep g1.sub r, h1 n1 _ g1 l1 (walkE walk_enumT (fun n' m' s g => SqT.keep g.sub (SqT.keep s.g r)) z)⟩⟩
  · exact h1.elim
end
end DL

set_option maxHeartbeats 1000000
namespace DL
open PySem PySem.Spec PyProof.Rows L2

section
variable {prog : Program} {w : World} {A : Around} {E : Value → Shared → Prop} {s : Shared}
end
section
variable {X : Cx} {C : Ct} {B : Nw} {e : Expr} {d : TD}
def dShr (d : TN) : TD := fun env m Q => d env m fun ds m1 => Q (.f (.obj m1.length)) (m1 ++ [.lst ds])
theorem DN.shr {d : TN} (h : DN X C B e d) : DE X C B e (dShr d) := by
  refine ⟨fun env m Q Q' i => h.mono env m _ _ fun ds m1 => i _ _, imp h.run ?_⟩
  rintro σ H Q ⟨n, env, m, rfl, ok, q⟩
  refine ⟨n, env, m, rfl, ok, h.mono _ _ _ _ (fun ds m1 h1 n1 p vs g1 l1 hp hz => ?_) q⟩
  have l : ∀ a o, n1.G a = some o → n1.G a = some o := fun _ _ e => e
  obtain ⟨g2, l2⟩ := g1.newM (o := .lst vs) (x := .lst ds) hp ⟨vs, upd_same, FzAll.keep (fun _ _ e => e) (pre_get (List.prefix_append _ _)) hz⟩
  refine h1 _ _ g2 (l1.trans l2) (.obj ?_)
  show (n1.al ++ [p])[m1.length]? = some p
  rw [g1.len, List.getElem?_append_right (Nat.le_refl _)]
  simp

def sPar3N (i j l : Nat) (d1 d2 : TD) (d3 : TN) : TSd := fun D env m => d1 env m fun x m1 => d2 env m1 fun y m2 => d3 env m2 fun zs m3 => match x, y with
  | .f a, .f b => D.nx (((env.set i (some (.f a))).set j (some (.f b))).set l (some (.own (.lst zs)))) m3
  | _, _ => False
theorem ds_par3N {i j l : Nat} {x y z : Str} {a b c : Expr} {d1 d2 : TD} {d3 : TN} {px py pz pt pos : Pos} {kt k2 pt2} (hc : X.calm = true) (hN : X.N.Nodup) (hi : X.N[i]? = some x) (hj : X.N[j]? = some y) (hl : X.N[l]? = some z) (hij : i ≠ j) (hil : i ≠ l) (hjl : j ≠ l)
    (hx : X.env.scope.names.lookup x = some .local) (hy : X.env.scope.names.lookup y = some .local) (hz : X.env.scope.names.lookup z = some .local) (ha : DE X C B a d1) (hb : DE X C B b d2) (hcc : DN X C B c d3)
    (hw : swappedStores [.Tuple [.Name x px, .Name y py, .Name z pz] kt pt] (.Tuple [a, b, c] k2 pt2) X.env = pure (some [x, y, z]))
    (hs : swapsWithSole [.Tuple [.Name x px, .Name y py, .Name z pz] kt pt] (.Tuple [a, b, c] k2 pt2) pos.line X.env = pure false := by rfl)
    (hs1 : starEach [a, b, c] X.env = (false, eval a X.env) :: starEach [b, c] X.env := by rfl) (hs2 : starEach [b, c] X.env = (false, eval b X.env) :: starEach [c] X.env := by rfl) (hs3 : starEach [c] X.env = (false, eval c X.env) :: starEach [] X.env := by rfl) :
    DS X C B (.Assign [.Tuple [.Name x px, .Name y py, .Name z pz] kt pt] (.Tuple [a, b, c] k2 pt2) pos) (sPar3N i j l d1 d2 d3) := by
  refine ⟨fun env m D D' le h => ha.mono _ _ _ _ (fun x m1 h1 => hb.mono _ _ _ _ (fun y m2 h2 => hcc.mono _ _ _ _ (fun z m3 h3 => ?_) h2) h1) h, impS (ps_par3 hc hN hi hj hl hij hil hjl hx hy hz (pa_cons ha.run (pa_cons hb.run (pa_cons hcc.run pa_nil hs3) hs2) hs1) hw hs) ?_⟩
  · try dsimp only at h3 ⊢
    split at h3
    · exact le.nx _ _ h3
    · exact h3
  rintro D σ H ⟨n, env, m, rfl, ok, q⟩
  refine ⟨n, env, m, rfl, ok, ha.mono _ _ _ _ (fun x m1 h1 n1 v g1 l1 lx => ?_) q⟩
  refine ⟨n1, env, m1, rfl, ok.go g1 l1, hb.mono _ _ _ _ (fun y m2 h2 n2 u g2 l2 ly => ?_) h1⟩
  refine ⟨n2, env, m2, rfl, ok.go g2 (l1.trans l2), hcc.mono _ _ _ _ (fun zs m3 h3 n3 p vs g3 l3 hp hz => ?_) h2⟩
  split at h3
  · rename_i a b
    have l13 := (l1.trans l2).trans l3
    have lx : FzN C X.w X.K n3 v a := FzN.le (n := n1) lx (l2.trans l3)
    have ly : FzN C X.w X.K n3 u b := FzN.le (n := n2) ly l3
    have ok2 := (((ok.go g3 l13).setF (i := i) lx).setF (i := j) ly).newO (i := l) (o := .lst vs) (z := .lst zs) hp ⟨vs, upd_same, hz⟩
    exact ⟨v, u, .ref p, rfl, h3 ⟨n3.G, n3.al, upd n3.H p (.lst vs)⟩ _ ⟨l13.g, l13.ale⟩ ok2⟩
  · exact h3.elim

end
end DL

set_option maxHeartbeats 1000000
namespace DL
open PySem PySem.Spec PyProof.Rows L2

section
variable {C : Ct} {w : World} {K : PySem.W.Frag} {n n1 : Nw} {m : Mem}
theorem refreeze {p : Addr} {o : HO} (l : n.le n1) (hp : n.H p = none) (g : Good C w K n1 m) (hG : n1.G p = none) (hA : p ∉ n1.al) (hc : Calm (n1.H p) := by first | assumption | exact Calm.none (by assumption) | exact Calm.lst (by assumption) | exact Calm.dx (by assumption) | exact Calm.ins (by assumption) | exact Calm.dK (by assumption) | exact Calm.xd (by assumption) | exact Calm.tup (by assumption) | exact Calm.lst upd_same | exact Calm.dx upd_same | exact Calm.dK upd_same | exact Calm.ins upd_same | exact Calm.xd upd_same) : Good C w K ⟨upd n1.G p o, n1.al, upd n1.H p o⟩ m ∧ n.le ⟨upd n1.G p o, n1.al, upd n1.H p o⟩ := by
  have hg : ∀ a u, n1.G a = some u → upd n1.G p o a = some u := fun a u e => by
    rw [upd_ne (fun z => by subst z; rw [hG] at e; cases e)]; exact e
  refine ⟨⟨fun a u e => ?_, g.nd, g.len, fun k x a e1 e2 => ?_, Tabs_upd g.tab hc, tg_upd g.tab hc g.tg⟩, ⟨fun a u e => hg a u (l.g a u e), fun a u e na nt => ?_, fun a e => ?_, fun a e => ?_, l.ale, l.anew⟩⟩
  · have e' : upd n1.G p o a = some u := e
    show upd n1.H p o a = some u
    by_cases z : a = p
    · subst z; rw [upd_same] at e'; rw [upd_same]; exact e'
    · rw [upd_ne z] at e'; rw [upd_ne z]; exact g.sub a u e'
  · obtain ⟨h1, h2⟩ := g.at_ k x a e1 e2
    have na : a ≠ p := fun z => hA (z ▸ List.mem_of_getElem? e2)
    refine ⟨h1.imp hg (fun _ _ e => e) fun u e => ?_, ?_⟩
    · show upd n1.H p o a = some u
      rw [upd_ne na]; exact e
    · show upd n1.G p o a = none
      rw [upd_ne na]; exact h2
  · show upd n1.H p o a = some u
    rw [upd_ne (fun z => by subst z; rw [hp] at e; cases e)]; exact l.keepN a u e na nt
  · show upd n1.H p o a ≠ none
    rw [upd_ne (fun z => by subst z; exact e hp)]; exact l.there a e
  · show upd n1.G p o a = n.G a
    rw [upd_ne (fun z => by subst z; exact e hp)]; exact l.gnew a e
end
section
variable {X : Cx} {C : Ct} {B : Nw} {e kx : Expr} {d : TD}
end
end DL

set_option maxHeartbeats 1000000
namespace DL
open PySem PySem.Spec PyProof.Rows L2

structure FldOk (K : PySem.W.Frag) (C : Ct) (c : Nat) (f : Str) : Prop where
  cls : Cls K (C.addr c)
  na : NoAttr K (C.addr c) f
  nd : (C.flds c).Nodup
  few : (C.flds c).length < 1000
structure FiOk (K : PySem.W.Frag) (C : Ct) (f : Str) (fi : Nat → Option Nat) : Prop where
  ok : ∀ c k, fi c = some k → FldOk K C c f ∧ (C.flds c)[k]? = some f
def insOf (env : Env') (m : Mem) : Lv → Option (Nat × List Dat)
  | .f (.ins c xs) => some (c, xs)
  | x => match moOf env m x with
    | some (.ins c xs) => some (c, xs)
    | _ => none
theorem zip_lookup : ∀ {fs : List Str} {vs : List V} {k : Nat} {f : Str} {v : V}, fs.Nodup → fs[k]? = some f → vs[k]? = some v → (fs.zip vs).lookup f = some v
  | [], _, k, f, v, _, h, _ => by simp at h
  | g :: fs, [], k, f, v, _, _, h => by simp at h
  | g :: fs, u :: vs, 0, f, v, _, h1, h2 => by
    simp at h1 h2; subst h1; subst h2; simp [List.lookup]
  | g :: fs, u :: vs, k + 1, f, v, nd, h1, h2 => by
    rw [List.getElem?_cons_succ] at h1 h2
    have ne : f ≠ g := fun z => by
      subst z
      exact (List.nodup_cons.mp nd).1 (List.mem_of_getElem? h1)
    have e : (f == g) = false := by simpa using ne
    have ih := zip_lookup (List.nodup_cons.mp nd).2 h1 h2
    simp only [List.zip_cons_cons, List.lookup, e]
    exact ih
theorem zip_put_old : ∀ {fs : List Str} {vs : List V} {k : Nat} {f : Str} {v : V}, fs.Nodup → fs[k]? = some f → k < vs.length → putF f v (fs.zip vs) = fs.zip (vs.set k v)
  | [], _, k, f, v, _, h, _ => by simp at h
  | g :: fs, [], k, f, v, _, _, h => by simp at h
  | g :: fs, u :: vs, 0, f, v, _, h1, h2 => by
    simp at h1; subst h1; simp [putF]
  | g :: fs, u :: vs, k + 1, f, v, nd, h1, h2 => by
    rw [List.getElem?_cons_succ] at h1
    have ne : g ≠ f := fun z => by
      subst z
      exact (List.nodup_cons.mp nd).1 (List.mem_of_getElem? h1)
    have ih := zip_put_old (v := v) (List.nodup_cons.mp nd).2 h1 (show k < vs.length by simpa using h2)
    rw [List.zip_cons_cons, putF, if_neg ne, ih, List.set_cons_succ, List.zip_cons_cons]
theorem zip_put_new : ∀ {fs : List Str} {vs : List V} {f : Str} {v : V}, fs.Nodup → fs[vs.length]? = some f → putF f v (fs.zip vs) = fs.zip (vs ++ [v])
  | [], _, f, v, _, h => by simp at h
  | g :: fs, [], f, v, _, h => by
    simp at h; subst h
    simp [putF]
  | g :: fs, u :: vs, f, v, nd, h1 => by
    rw [List.length_cons, List.getElem?_cons_succ] at h1
    have ne : g ≠ f := fun z => by
      subst z
      exact (List.nodup_cons.mp nd).1 (List.mem_of_getElem? h1)
    have ih := zip_put_new (v := v) (List.nodup_cons.mp nd).2 h1
    rw [List.zip_cons_cons, putF, if_neg ne, ih, List.cons_append, List.zip_cons_cons]
section
variable {X : Cx} {C : Ct} {B : Nw} {e o : Expr} {d de : TD} {f : Str} {fi : Nat → Option Nat} {pos pos' : Pos}
theorem ins_ok {w : World} {K : PySem.W.Frag} {n : Nw} {m : Mem} {env : Env'} {σ : L2.St} {v : V} {x : Lv} {c : Nat} {xs : List Dat} (ok : Ok C w K B n env m σ) (h : LvOk C w K n env σ v x) (e : insOf env m x = some (c, xs)) :
    ∃ a dx vs, v = .ref a ∧ n.H a = some (.ins (C.addr c) dx ((C.flds c).zip vs)) ∧ vs.length ≤ (C.flds c).length ∧ FzAllN C w K n vs xs := by
  have key : ∀ y, moOf env m x = some y → (match some y with
      | some (Mo.ins c xs) => some (c, xs)
      | _ => none) = some (c, xs) → ∃ a dx vs, v = .ref a ∧ n.H a = some (.ins (C.addr c) dx ((C.flds c).zip vs)) ∧ vs.length ≤ (C.flds c).length ∧ FzAllN C w K n vs xs := fun y hy e => by
    obtain ⟨a, rfl, h1, _⟩ := mut_ok ok h hy
    cases y with
    | ins c' xs' =>
      cases e
      obtain ⟨dx, vs, q1, q2, q3⟩ := h1
      exact ⟨a, dx, vs, rfl, q1, q2, q3⟩
    | lst _ => cases e
    | dct _ => cases e
  cases x with
  | o i =>
    cases hy : moOf env m (.o i) with
    | none =>
      have e' : (match moOf env m (.o i) with
        | some (Mo.ins c xs) => some (c, xs)
        | _ => none) = some (c, xs) := e
      rw [hy] at e'; cases e'
    | some y =>
      refine key y hy ?_
      have e' : (match moOf env m (.o i) with
        | some (Mo.ins c xs) => some (c, xs)
        | _ => none) = some (c, xs) := e
      rw [hy] at e'; exact e'
  | f y =>
    cases y with
    | ins c' xs' =>
      cases e
      have h : FzN C w K n v (.ins c xs) := h
      cases h with
      | ins h1 h2 h3 => exact ⟨_, _, _, rfl, ok.good.sub _ _ h1, Nat.le_of_eq h2, h3⟩
    | obj k =>
      cases hy : moOf env m (.f (.obj k)) with
      | none =>
        have e' : (match moOf env m (.f (.obj k)) with
          | some (Mo.ins c xs) => some (c, xs)
          | _ => none) = some (c, xs) := e
        rw [hy] at e'; cases e'
      | some y =>
        refine key y hy ?_
        have e' : (match moOf env m (.f (.obj k)) with
          | some (Mo.ins c xs) => some (c, xs)
          | _ => none) = some (c, xs) := e
        rw [hy] at e'; exact e'
    | _ => cases e
def dFld (fi : Nat → Option Nat) (d : TD) : TD := fun env m Q => d env m fun x m1 => match insOf env m1 x with
  | some (c, xs) => match fi c with
    | some k => match xs[k]? with
      | some y => Q (.f y) m1
      | none => False
    | none => False
  | none => False
theorem de_fld (F : FiOk X.K C f fi) (hd : DE X C B e d) (hb : attributeBase e f X.env (eval e X.env) = eval e X.env) : DE X C B (.Attribute e f pos) (dFld fi d) := by
  refine ⟨fun env m Q Q' i q => hd.mono _ _ _ _ (fun x m1 h1 => ?_) q, imp (pe_fld hd.run hb) ?_⟩
  · try dsimp only at h1 ⊢
    split at h1
    · split at h1
      · split at h1
        · exact i _ _ h1
        · exact h1
      · exact h1
    · exact h1
  rintro σ H Q ⟨n, env, m, rfl, ok, q⟩
  refine ⟨n, env, m, rfl, ok, hd.mono _ _ _ _ (fun x m1 h1 n1 v g1 l1 lx => ?_) q⟩
  have ok1 := ok.go g1 l1
  split at h1
  · rename_i c xs hx
    split at h1
    · rename_i k hk
      split at h1
      · rename_i y hy
        obtain ⟨a, dx, vs, rfl, e1, e2, z⟩ := ins_ok ok1 lx hx
        obtain ⟨FO, e3⟩ := F.ok c k hk
        obtain ⟨u, e4, z4⟩ := z.get hy
        exact ⟨a, C.addr c, dx, _, u, rfl, e1, FO.cls, FO.na, zip_lookup FO.nd e3 e4, h1 n1 u g1 l1 z4⟩
      · exact h1.elim
    · exact h1.elim
  · exact h1.elim
def sFldD (fi : Nat → Option Nat) (d de : TD) : TSd := fun D env m => de env m fun y m1 => d env m1 fun x m2 => match moOf env m2 x, y with
  | some (.ins c xs), .f z => match fi c with
    | some k => if k < xs.length then D.nx (setE x (.ins c (xs.set k z)) env) (setM x (.ins c (xs.set k z)) m2) else k = xs.length ∧ D.nx (setE x (.ins c (xs ++ [z])) env) (setM x (.ins c (xs ++ [z])) m2)
    | none => False
  | _, _ => False
theorem sFldD.mono (hd : MonoD d) (he : MonoD de) : MonoS (sFldD fi d de) := fun env m D D' l h => he _ _ _ _ (fun y m1 h1 => hd _ _ _ _ (fun x m2 h2 => by
  try dsimp only at h2 ⊢
  split at h2
  · split at h2
    · split at h2
      · rename_i hh
        rw [if_pos hh]; exact l.nx _ _ h2
      · rename_i hh
        rw [if_neg hh]; exact ⟨h2.1, l.nx _ _ h2.2⟩
    · exact h2
  · exact h2) h1) h
theorem ds_fld (F : FiOk X.K C f fi) (hd : DE X C B o d) (he : DE X C B e de) (hs : swapsWith e (some (.Attribute o f pos')) pos.line X.env = pure false := by rfl) : DS X C B (.Assign [.Attribute o f pos'] e pos) (sFldD fi d de) := by
  refine ⟨sFldD.mono hd.mono he.mono, impS (ps_fld hd.run he.run hs) ?_⟩
  rintro D σ H ⟨n, env, m, rfl, ok, q⟩
  refine ⟨n, env, m, rfl, ok, he.mono _ _ _ _ (fun y m1 h1 n1 v g1 l1 ly => ?_) q⟩
  have ok1 := ok.go g1 l1
  refine ⟨n1, env, m1, rfl, ok1, hd.mono _ _ _ _ (fun x m2 h2 n2 u g2 l2 lx => ?_) h1⟩
  have ok2 := ok1.go g2 l2
  have l12 := l1.trans l2
  split at h2
  · rename_i c xs z hx
    obtain ⟨a, rfl, ⟨dx, vs, e1, e2, z1⟩, hset⟩ := mut_ok ok2 lx hx
    have lz : FzN C X.w X.K n2 v z := FzN.le (n := n1) ly l2
    split at h2
    · rename_i k hk
      obtain ⟨FO, e3⟩ := F.ok c k hk
      have few : ((C.flds c).zip vs).length < 1000 := by
        rw [List.length_zip]
        have := FO.few
        omega
      refine ⟨a, C.addr c, dx, _, rfl, e1, FO.cls, FO.na, few, ?_⟩
      have up : ∀ {v d} {o : HO}, FzN C X.w X.K n2 v d → FzN C X.w X.K ⟨n2.G, n2.al, upd n2.H a o⟩ v d := fun h => Fz.keep (fun _ _ e => e) (fun _ _ e => e) h
      have ups : ∀ {v d} {o : HO}, FzAllN C X.w X.K n2 v d → FzAllN C X.w X.K ⟨n2.G, n2.al, upd n2.H a o⟩ v d := fun h => FzAll.keep (fun _ _ e => e) (fun _ _ e => e) h
      split at h2
      · rename_i hlt
        rw [zip_put_old FO.nd e3 (by rw [z1.length]; exact hlt)]
        have ok3 := hset (.ins (C.addr c) dx ((C.flds c).zip (vs.set k v))) (.ins c (xs.set k z)) ⟨dx, vs.set k v, upd_same, by simpa using e2, FzAll.set k (ups z1) (up lz)⟩
        exact h2 ⟨n2.G, n2.al, upd n2.H a (.ins (C.addr c) dx ((C.flds c).zip (vs.set k v)))⟩ σ (l12.sub.trans sub_upd) ok3
      · obtain ⟨hk2, h2⟩ := h2
        rw [hk2, ← z1.length] at e3
        rw [zip_put_new FO.nd e3]
        have hlt := (List.getElem?_eq_some_iff.mp e3).1
        have ok3 := hset (.ins (C.addr c) dx ((C.flds c).zip (vs ++ [v]))) (.ins c (xs ++ [z])) ⟨dx, vs ++ [v], upd_same, by rw [List.length_append]; exact hlt, (ups z1).append (.cons (up lz) .nil)⟩
        exact h2 ⟨n2.G, n2.al, upd n2.H a (.ins (C.addr c) dx ((C.flds c).zip (vs ++ [v])))⟩ σ (l12.sub.trans sub_upd) ok3
    · exact h2.elim
  · exact h2.elim
end

mutual
def bel (k : Nat) : Dat → Bool
  | .obj j => decide (j < k)
  | .tup xs => bels k xs
  | .lst xs => bels k xs
  | .ins _ xs => bels k xs
  | .dct kvs => belk k kvs
  | _ => true
def bels (k : Nat) : List Dat → Bool
  | [] => true
  | x :: xs => bel k x && bels k xs
def belk (k : Nat) : List (Dat × Dat) → Bool
  | [] => true
  | (a, b) :: r => bel k a && (bel k b && belk k r)
end
def belM (k : Nat) (m : Mem) : Bool := m.all fun
  | .lst xs => bels k xs
  | .ins _ xs => bels k xs
  | .dct kvs => belk k kvs
section
variable {C : Ct} {w : World} {K : PySem.W.Frag} {al : List Addr} {G : Hp} {n n' : Nw} {m : Mem}
mutual
theorem Fz.cut (k : Nat) : ∀ {v d}, Fz C w K al G v d → bel k d = true → Fz C w K (al.take k) G v d
  | _, _, .non, _ => .non
  | _, _, .bl b, _ => .bl b
  | _, _, .int i, _ => .int i
  | _, _, .str x, _ => .str x
  | _, _, .ty n, _ => .ty n
  | _, _, .ref a, _ => .ref a
  | _, _, .cls c, _ => .cls c
  | _, _, .tup s r, h => .tup s (FzAll.cutB k r (by rw [bel] at h; exact h))
  | _, _, .lst s r, h => .lst s (FzAll.cutB k r (by rw [bel] at h; exact h))
  | _, _, .dct e s r, h => .dct e s (FzEs.cutB k r (by rw [bel] at h; exact h))
  | _, _, .ins e l r, h => .ins e l (FzAll.cutB k r (by rw [bel] at h; exact h))
  | _, _, .obj e, h => .obj (by rw [bel] at h; rw [List.getElem?_take_of_lt (of_decide_eq_true h)]; exact e)
theorem FzAll.cutB (k : Nat) : ∀ {v d}, FzAll C w K al G v d → bels k d = true → FzAll C w K (al.take k) G v d
  | _, _, .nil, _ => .nil
  | _, _, .cons x r, h => by
    rw [bels, Bool.and_eq_true] at h
    exact .cons (Fz.cut k x h.1) (FzAll.cutB k r h.2)
theorem FzEs.cutB (k : Nat) : ∀ {v d}, FzEs C w K al G v d → belk k d = true → FzEs C w K (al.take k) G v d
  | _, _, .nil, _ => .nil
  | _, _, .cons r1 x r2 y e r, h => by
    rw [belk, Bool.and_eq_true, Bool.and_eq_true] at h
    exact .cons r1 (Fz.cut k x h.1) r2 (Fz.cut k y h.2.1) e (FzEs.cutB k r h.2.2)
end
theorem Good.dropM {y : Mo} (g : Good C w K n (m ++ [y])) (hb : belM m.length m = true) : Good C w K ⟨n.G, n.al.take m.length, n.H⟩ m := by
  refine ⟨g.sub, g.nd.sublist (List.take_sublist _ _), ?_, fun k x a e1 e2 => ?_, g.tab, g.tg⟩
  · have := g.len
    simp at this
    simp [← this]
  · have hk : k < m.length := (List.getElem?_eq_some_iff.mp e1).1
    have e2' : (n.al.take m.length)[k]? = some a := e2
    rw [List.getElem?_take_of_lt hk] at e2'
    obtain ⟨h1, h2⟩ := g.at_ k x a (by rw [List.getElem?_append_left hk]; exact e1) e2'
    refine ⟨?_, h2⟩
    have hx := List.all_eq_true.mp hb x (List.mem_of_getElem? e1)
    cases x with
    | lst xs => obtain ⟨vs, q1, q2⟩ := h1; exact ⟨vs, q1, FzAll.cutB _ q2 hx⟩
    | ins c xs => obtain ⟨dx, vs, q1, q2, q3⟩ := h1; exact ⟨dx, vs, q1, q2, FzAll.cutB _ q3 hx⟩
    | dct kvs => obtain ⟨es, q1, q2, q3⟩ := h1; exact ⟨es, q1, q2, FzEs.cutB _ q3 hx⟩
theorem Nw.le.dropM {k : Nat} (l : n.le n') (hk : n.al.length = k) : n.le ⟨n'.G, n'.al.take k, n'.H⟩ := by
  have e : n'.al.take k = n.al := by
    obtain ⟨t, ht⟩ := l.ale
    rw [← ht, ← hk]
    simp
  refine ⟨l.g, l.keepN, l.there, l.gnew, ?_, fun j p hj q => ?_⟩
  · show n.al <+: n'.al.take k
    rw [e]
    exact List.prefix_rfl
  · have q' : (n'.al.take k)[j]? = some p := q
    rw [e, List.getElem?_eq_none hj] at q'
    cases q'
theorem Good.sealM {c : Nat} {xs : List Dat} {x : Addr} (l : n.le n') (hk : n.al.length = m.length) (g : Good C w K n' (m ++ [.ins c xs])) (hx : n'.al[m.length]? = some x) (hb : belM m.length m = true) (hbx : bels m.length xs = true) (hl : xs.length = (C.flds c).length) :
    ∃ n'', n''.H = n'.H ∧ Good C w K n'' m ∧ n.le n'' ∧ FzN C w K n'' (.ref x) (.ins c xs) := by
  have hlen : (m ++ [Mo.ins c xs])[m.length]? = some (.ins c xs) := by simp
  obtain ⟨⟨dx, vs, q1, q2, q3⟩, q4⟩ := g.at_ _ _ _ hlen hx
  have g1 := g.dropM hb
  have l1 := l.dropM hk
  have z1 : FzAllN C w K ⟨n'.G, n'.al.take m.length, n'.H⟩ vs xs := FzAll.cutB _ q3 hbx
  have hnx : n.H x = none := l.anew m.length x (by omega) hx
  have hal : x ∉ n'.al.take m.length := fun z => by
    obtain ⟨j, hj⟩ := List.getElem?_of_mem z
    have hjl : j < m.length := by
      have := (List.getElem?_eq_some_iff.mp hj).1
      simp at this
      omega
    rw [List.getElem?_take_of_lt hjl] at hj
    have := (List.getElem?_inj (List.getElem?_eq_some_iff.mp hj).1 g.nd).mp (hj.trans hx.symm)
    omega
  obtain ⟨g2, l2⟩ := refreeze (o := .ins (C.addr c) dx ((C.flds c).zip vs)) l1 hnx g1 q4 hal
  refine ⟨⟨upd n'.G x (.ins (C.addr c) dx ((C.flds c).zip vs)), n'.al.take m.length, n'.H⟩, rfl, ?_, ?_, .ins upd_same (by rw [z1.length, hl]) (FzAllN.up (n1 := ⟨n'.G, n'.al.take m.length, n'.H⟩) q4 z1)⟩
  · have e : upd n'.H x (.ins (C.addr c) dx ((C.flds c).zip vs)) = n'.H := by
      funext b
      by_cases hbx : b = x
      · subst hbx; rw [upd_same, q1]
      · rw [upd_ne hbx]
    have g2' : Good C w K ⟨upd n'.G x (.ins (C.addr c) dx ((C.flds c).zip vs)), n'.al.take m.length, upd n'.H x (.ins (C.addr c) dx ((C.flds c).zip vs))⟩ m := g2
    rw [e] at g2'
    exact g2'
  · have e : upd n'.H x (.ins (C.addr c) dx ((C.flds c).zip vs)) = n'.H := by
      funext b
      by_cases hbx : b = x
      · subst hbx; rw [upd_same, q1]
      · rw [upd_ne hbx]
    have l2' : n.le ⟨upd n'.G x (.ins (C.addr c) dx ((C.flds c).zip vs)), n'.al.take m.length, upd n'.H x (.ins (C.addr c) dx ((C.flds c).zip vs))⟩ := l2
    rw [e] at l2'
    exact l2'
end
section
variable {X : Cx} {CX : CXT} {k : Nat} {f C : Addr} {fd : FuncData} {ps : List Str} {sp : Sp} {E : L2.St → XK} {x : Str} {p pos : Pos} {e : Expr} {es : List Expr} {t : TA}
theorem run_makeS {pins : List (Addr × Obj)} {σ : L2.St} {H : Hp} {s : Shared} {Q : VK} {us : List Value} {vs : List V} (M : Mk X.K C f) (F : FnOk X.prog X.w X.K X.mg X.base CX k f fd ps sp) (hr : Room (k + 1) X.A) (hb : Binds X.K fd ps [])
    (hx : PassesAt CX X σ (E σ)) (I : Inv X pins σ H s) (r : Vals vs us)
    (h : ∀ x dx, H x = none → H dx = none → dx ≠ x → sp (.ref x :: vs) (upd (upd H dx (.own x)) x (.ins C dx [])) (fun v H2 => v = .non ∧ Q (.ref x) H2) (E σ)) :
    wpAny (model X.prog X.w) X.A (call (.ref C) us) (EP X pins σ Q) X.xe s := by
  have hq := h (s.heap.objs.size + 1) s.heap.objs.size (I.hok.fresh (Nat.le_succ _)) (I.hok.fresh (Nat.le_refl _)) (Nat.ne_of_lt (Nat.lt_succ_self _))
  have I2 := Inv.made (C := C) I
  have r2 : Vals (V.ref (s.heap.objs.size + 1) :: vs) (Value.ref (s.heap.objs.size + 1) :: us) := .cons rfl r
  have hl : ((Value.ref (s.heap.objs.size + 1) :: us) ++ []).length = ps.length := by
    have e := r2.length
    rw [F.len _ _ _ _ hq] at e
    rw [List.append_nil]
    exact e.symm
  have hb' := hb _ (Value.ref (s.heap.objs.size + 1) :: us) I2.kIn hl
  rw [List.append_nil] at hb'
  refine wpAny_call (make_map (f := f) I.kIn M.makes M.init (beq_iff_eq.mp M.fn) (codeAny_mono (F.run _ X.stack _ _ ⟨Value.ref (s.heap.objs.size + 1) :: us, []⟩ (Value.ref (s.heap.objs.size + 1) :: us) _ _ (E σ) (hr.make C us [])
    (I2.env0.make C us []) hb' r2 hq) fun r s' hq' => ?_))
  cases r with
  | error e => exact hx pins _ _ e s' I2 hq'
  | ok fl =>
    cases fl with
    | ret u =>
      obtain ⟨v, H', I3, rv, ev, q3⟩ := I2.after hq'
      subst ev
      exact ⟨rv, ⟨V.ref (s.heap.objs.size + 1), H', I3, rfl, q3⟩⟩
    | next => exact False.elim hq'
    | brk => exact False.elim hq'
    | cont => exact False.elim hq'
def tMakeS (C : Addr) (sp : Sp) (E : L2.St → XK) (t : TA) : TE := fun σ H Q => t σ H fun vs H1 => ∀ x dx, H1 x = none → H1 dx = none → dx ≠ x → sp (.ref x :: vs) (upd (upd H1 dx (.own x)) x (.ins C dx [])) (fun v H2 => v = .non ∧ Q (.ref x) H2) (E σ)
theorem pe_makeS (M : Mk X.K C f) (F : FnOk X.prog X.w X.K X.mg X.base CX k f fd ps sp) (hr : Room (k + 1) X.A) (hg : Gl X x) (hm : X.mg x = some (.ref C)) (hb : Binds X.K fd ps []) (hx : ∀ σ, PassesAt CX X σ (E σ))
    (ha : PA X (e :: es) t) (hdb : (x == ("__debug__" : Str)) = false := by decide) (he : starEach (e :: es) X.env = (false, eval e X.env) :: starEach es X.env := by rfl) (hpl : (backTo pos (starEach es X.env)).any (·.1) = false := by rfl) :
    PE X (.Call (.Name x p) (e :: es) [] pos) (tMakeS C sp E t) := by
  refine ⟨fun pins s σ H Q I h => ?_⟩
  refine wpAny_Call_Name_kw (ld_glob I hg hm ?_ hdb)
  refine PySem.W.callWith_K (h₀ := X.base) I.ok.mod.kin M.kp (thn (ha.run pos pins s σ H _ I h) fun us s1 ⟨vs, H1, I1, r, q⟩ => ⟨I1.kIn, ?_⟩) he hpl
  exact run_makeS M F hr hb (hx σ) I1 r q
end
def dMakeF (c nf : Nat) (p : DSp) (EX : QXe) (da : TAd) : TD := fun env m Q => da env m fun xs m1 => match frs xs with
  | some ds => p (.obj m1.length :: ds) (m1 ++ [.ins c []]) (fun d m2 => d = .non ∧ ∃ m3 ys, m2 = m3 ++ [.ins c ys] ∧ m3.length = m1.length ∧ ys.length = nf ∧ belM m1.length m3 = true ∧ bels m1.length ys = true ∧ Q (.f (.ins c ys)) m3)
    (fun c' ys m2 => ∃ m3 y, m2 = m3 ++ [y] ∧ m3.length = m1.length ∧ belM m1.length m3 = true ∧ bels m1.length ys = true ∧ EX c' ys env m3)
  | none => False
def dMakeS (c : Nat) (p : DSp) (EX : QXe) (da : TAd) : TD := fun env m Q => da env m fun xs m1 => match frs xs with
  | some ds => p (.obj m1.length :: ds) (m1 ++ [.ins c []]) (fun d m2 => d = .non ∧ Q (.f (.obj m1.length)) m2)
    (fun c' ys m2 => ∃ m3 y, m2 = m3 ++ [y] ∧ m3.length = m1.length ∧ belM m1.length m3 = true ∧ bels m1.length ys = true ∧ EX c' ys env m3)
  | none => False
section
variable {X : Cx} {C : Ct} {B : Nw} {k c nf : Nat} {f : Addr} {fd : FuncData} {ps : List Str} {p : DSp} {EX : QXe} {x : Str} {p1 pos : Pos} {e : Expr} {es : List Expr} {da : TAd}
theorem make_start {w : World} {K : PySem.W.Frag} {n : Nw} {m : Mem} {x dx : Addr} (g : Good C w K n m) (hx : n.H x = none) (hdx : n.H dx = none) (hne : dx ≠ x) :
    ∃ n2 : Nw, n2.H = upd (upd n.H dx (.own x)) x (.ins (C.addr c) dx []) ∧ Good C w K n2 (m ++ [.ins c []]) ∧ n.le n2 ∧ n2.al = n.al ++ [x] := by
  obtain ⟨b1, b2⟩ := g.free hdx
  have g1 : Good C w K ⟨n.G, n.al, upd n.H dx (.own x)⟩ m := g.at b1 b2
  have l1 : n.le ⟨n.G, n.al, upd n.H dx (.own x)⟩ := (Nw.le.refl n).at hdx
  have hx1 : (upd n.H dx (.own x)) x = none := by rw [upd_ne (Ne.symm hne)]; exact hx
  obtain ⟨g2, l2⟩ := g1.newM (p := x) (o := .ins (C.addr c) dx []) (x := .ins c []) hx1 ⟨dx, [], by
    show upd _ x _ x = _
    rw [upd_same]; simp, Nat.zero_le _, .nil⟩
  exact ⟨_, rfl, g2, l1.trans l2, rfl⟩
theorem make_err {w : World} {K : PySem.W.Frag} {n1 n2 : Nw} {B : Nw} {m1 : Mem} {env : Env'} {σ : L2.St} (ok : Ok C w K B n1 env m1 σ) (l : n1.le n2) {c' : Nat} {ys : List Dat} {m2 m3 : Mem} {y : Mo} (e1 : m2 = m3 ++ [y]) (e2 : m3.length = m1.length)
    (b1 : belM m1.length m3 = true) (b2 : bels m1.length ys = true) (h : EX c' ys env m3) : AftX C w K n2 (atX C B w K EX σ) c' ys m2 := by
  intro n' dx vs g' l' hx hz
  subst e1
  rw [← e2] at b1 b2
  have g3 := g'.dropM b1
  have l3 : n1.le ⟨n'.G, n'.al.take m3.length, n'.H⟩ := (l.trans l').dropM (by rw [e2, ok.good.len])
  exact ⟨⟨n'.G, n'.al.take m3.length, n'.H⟩, env, m3, c', ys, vs, rfl, ok.go g3 l3, rfl, hx.base (ok.base.trans l), FzAll.cutB _ hz b2, h⟩
theorem makeF_imp (hp : MonoP p) (ha : MonoA da) (hl : ∀ ds m Q E, p ds m Q E → ds.length = ps.length) (hf : (C.flds c).length = nf) : ∀ σ H Q, lE C B X.w X.K (dMakeF c nf p EX da) σ H Q → tMakeS (C.addr c) (spD C X.w X.K ps.length p) (atX C B X.w X.K EX) (lA C B X.w X.K da) σ H Q := by
  rintro σ H Q ⟨n, env, m, rfl, ok, h⟩
  refine ⟨n, env, m, rfl, ok, ha _ _ _ _ (fun xs m1 h1 n1 vs g1 l1 lx => ?_) h⟩
  split at h1
  · rename_i ds hd
    have hz := frs_ok lx hd
    intro x dx hx hdx hne
    obtain ⟨n2, e2, g2, l2, ea⟩ := make_start (c := c) g1 hx hdx hne
    have ok1 := ok.go g1 l1
    have hat : n2.al[m1.length]? = some x := by
      rw [ea, g1.len, List.getElem?_append_right (Nat.le_refl _)]; simp
    have hz2 : FzAllN C X.w X.K n2 (.ref x :: vs) (.obj m1.length :: ds) := .cons (.obj hat) (FzAllN.le hz l2)
    refine ⟨?_, n2, m1 ++ [.ins c []], _, e2, g2, hz2, hp _ _ _ _ _ _ (fun d m2 h2 n3 v g3 l3 hv => ?_) (fun c' ys m2 h2 => ?_) h1⟩
    · rw [hz2.length]; exact hl _ _ _ _ h1
    · obtain ⟨rfl, m3, ys, rfl, h4, h5, h6, h7, h8⟩ := h2
      have hv' : FzN C X.w X.K n3 v .non := hv
      cases hv'
      rw [← h4] at h6 h7
      have hx3 : n3.al[m3.length]? = some x := by
        rw [h4]; exact pre_get l3.ale _ _ hat
      obtain ⟨n4, q1, q2, q3, q4⟩ := Good.sealM (l2.trans l3) (by rw [← g1.len, h4]) g3 hx3 h6 h7 (by rw [h5, hf])
      refine ⟨rfl, ?_⟩
      rw [← q1]
      exact h8 n4 _ q2 (l1.trans q3) q4
    · obtain ⟨m3, y, e1, e3, b1, b2, h3⟩ := h2
      exact make_err ok1 l2 e1 e3 b1 b2 h3
  · exact h1.elim
theorem dMakeF.mono (hp : MonoP p) (ha : MonoA da) : MonoD (dMakeF c nf p EX da) := fun env m Q Q' i => ha _ _ _ _ fun xs m1 => by
  split
  · exact hp _ _ _ _ _ _ (fun d m2 ⟨h1, m3, ys, h2, h3, h4, h5, h6, h7⟩ => ⟨h1, m3, ys, h2, h3, h4, h5, h6, i _ _ h7⟩) fun _ _ _ h => h
  · exact id
theorem dMakeS.mono (hp : MonoP p) (ha : MonoA da) : MonoD (dMakeS c p EX da) := fun env m Q Q' i => ha _ _ _ _ fun xs m1 => by
  split
  · exact hp _ _ _ _ _ _ (fun d m2 ⟨h1, h2⟩ => ⟨h1, i _ _ h2⟩) fun _ _ _ h => h
  · exact id
theorem de_makeF (M : Mk X.K (C.addr c) f) (F : DF X.prog X.w X.K X.mg X.base C k f fd ps p) (hl : ∀ ds m Q E, p ds m Q E → ds.length = ps.length) (hf : (C.flds c).length = nf) (hr : Room (k + 1) X.A) (hg : Gl X x) (hm : X.mg x = some (.ref (C.addr c))) (hb : Binds X.K fd ps []) (hx : PassD X C B EX) (ha : DA X C B (e :: es) da)
    (hdb : (x == ("__debug__" : Str)) = false := by decide) (he : starEach (e :: es) X.env = (false, eval e X.env) :: starEach es X.env := by rfl) (hpl : (backTo pos (starEach es X.env)).any (·.1) = false := by rfl) :
    DE X C B (.Call (.Name x p1) (e :: es) [] pos) (dMakeF c nf p EX da) :=
  ⟨dMakeF.mono F.mono ha.mono, imp (pe_makeS M F.ok hr hg hm hb hx ha.run hdb he hpl) (makeF_imp F.mono ha.mono hl hf)⟩
end
end DL

set_option maxHeartbeats 4000000
namespace PySem.W
open PySem PySem.Spec PySem.Calls PyProof.Rows
section
variable {prog : Program} {w : World} {A : Around} {E : Value → Shared → Prop} {s : Shared} {K : Frag} {x D : Addr} {ox : Obj} {od : Option Obj}
end
end PySem.W
namespace DL
open PySem PySem.Spec PyProof.Rows L2

def spX (K : PySem.W.Frag) (fs : List Str) : Sp := fun vs H Q _ => ∃ a C us, vs = .ref a :: us ∧ us.length = fs.length ∧ H a = some (exo a C none) ∧ OexC K C ∧ (∀ f ∈ fs, PySem.W.findIn K (.ref C) f = some none) ∧
  ∀ d, H d = none → d ≠ a → Q .non (upd (upd H d (exd d (fs.zip us).reverse)) a (exo a C (some d)))
section
variable {P : Program} {w : World} {K : PySem.W.Frag} {mg : Str → Option Value} {base : Heap} {y qual : Str} {params : Arguments} {body : List Stmt} {scope : Scope} {fI : Addr} {fd : FuncData} {f1 f2 x0 x1 x2 : Str}
theorem exc_init1 (F : FunD K y qual params body scope [] [] fI fd) (S : FnScope [x0, x1] [x0, x1] scope)
    (hb : ∀ (cdv : Value) (A : Around) (outer : List Env) (s : Shared) (H : Hp) (E : XK), PSs (cxOf (L2.CX P w) P w K mg base [x0, x1] qual scope fI cdv A outer s H E) body (tOst K f1 (tVar 0) (tVar 1))) :
    FnOk P w K mg base (L2.CX P w) 1 fI fd [x0, x1] (spX K [f1]) := by
  refine F.ok S (fun vs H Q E h => ?_) fun cdv A outer s H vs Q E hr h => ⟨_, hb cdv A outer s H E, ?_⟩
  · obtain ⟨a, C, us, rfl, h1, _⟩ := h
    simp at h1; simp [h1]
  · obtain ⟨a, C, us, rfl, h1, h2, h3, h4, h5⟩ := h
    match us, h1 with
    | [v], _ =>
      exact ⟨v, rfl, .ref a, rfl, a, C, rfl, h3, h4 f1 (by simp), .inl ⟨h2, fun d hd hne => h5 d hd hne⟩⟩
end
theorem zip_rev {α β : Type} : ∀ {xs : List α} {ys : List β}, xs.length = ys.length → (xs.zip ys).reverse = xs.reverse.zip ys.reverse
  | [], [], _ => rfl
  | x :: xs, y :: ys, h => by
    have h' : xs.length = ys.length := by simpa using h
    rw [List.zip_cons_cons, List.reverse_cons, List.reverse_cons, List.reverse_cons, zip_rev h', List.zip_append (by simp [h'])]
    rfl
  | [], _ :: _, h => by simp at h
  | _ :: _, [], h => by simp at h
abbrev TMd := Env' → Mem → (Nat → List Dat → Mem → Prop) → Prop
def lM (C : Ct) (B : Nw) (w : World) (K : PySem.W.Frag) (d : TMd) : L2.St → Hp → XK → Prop := fun σ H Q => ∃ n env m, n.H = H ∧ Ok C w K B n env m σ ∧ d env m fun c ys m' => ∀ n' dx vs, Good C w K n' m' → n.le n' → XAt C n n' c dx vs → FzAllN C w K n' vs ys → Q (.ref (C.addr c)) dx n'.H
structure DM (X : Cx) (C : Ct) (B : Nw) (e : Expr) (d : TMd) : Prop where
  mono : ∀ env m (Q Q' : Nat → List Dat → Mem → Prop), (∀ c ys m', Q c ys m' → Q' c ys m') → d env m Q → d env m Q'
  run : PMk X e (lM C B X.w X.K d)
def sRaise (d : TMd) (EX : QXe) : TSd := fun _ env m => d env m fun c ys m' => EX c ys env m'
section
variable {X : Cx} {C : Ct} {B : Nw} {e : Expr} {es : List Expr} {d : TMd} {EX : QXe} {p pos : Pos} {x : Str} {fI : Addr} {fd : FuncData} {ps fs : List Str} {c k : Nat} {da : TAd}
theorem ds_raise (hc : X.calm = true) (tk : TakesD X C B EX) (he : DM X C B e d) : DS X C B (.Raise (some e) none pos) (sRaise d EX) := by
  refine ⟨fun env m D D' l h => h, ⟨fun pins s σ H D I q => (ps_raise hc tk he.run).run pins s σ H D I ?_⟩⟩
  obtain ⟨n, env, m, rfl, ok, h⟩ := q
  refine ⟨n, env, m, rfl, ok, he.mono _ _ _ _ (fun c ys m' h1 n' dx vs g l hx hz => ?_) h⟩
  exact ⟨n', env, m', c, ys, vs, rfl, ok.go g l, rfl, hx.base ok.base, hz, h1⟩
def mOwn (c nf : Nat) (da : TAd) : TMd := fun env m Q => da env m fun xs m1 => match frs xs with
  | some ds => ds.length = nf ∧ Q c ds.reverse m1
  | none => False
theorem dm_own (T : OexC X.K (C.addr c)) (hno : ∀ f ∈ fs, PySem.W.findIn X.K (.ref (C.addr c)) f = some none) (hf : C.flds c = fs.reverse) (h64 : fs.length ≤ 1000) (iC : PySem.W.findIn X.K (.ref (C.addr c)) "__init__" = some (some (.ref fI))) (tI : PySem.W.typeIn X.K (.ref fI) = some (.type "function"))
    (F1 : FnOk X.prog X.w X.K X.mg X.base (L2.CX X.prog X.w) k fI fd ps (spX X.K fs)) (hr : Room (k + 1) X.A) (hb : Binds X.K fd ps []) (hg : Gl X x) (hm : X.mg x = some (.ref (C.addr c))) (ha : DA X C B (e :: es) da)
    (hdb : (x == ("__debug__" : Str)) = false := by decide) (he : starEach (e :: es) X.env = (false, eval e X.env) :: starEach es X.env := by rfl) (hpl : (backTo pos (starEach es X.env)).any (·.1) = false := by rfl) :
    DM X C B (.Call (.Name x p) (e :: es) [] pos) (mOwn c fs.length da) := by
  refine ⟨fun env m Q Q' i q => ha.mono _ _ _ _ (fun xs m1 h1 => ?_) q, ?_⟩
  · split at h1
    · exact ⟨h1.1, i _ _ _ h1.2⟩
    · exact h1
  have hx : Passes (L2.CX X.prog X.w) X (fun _ _ _ => False) := fun pins σ H s e s' I h => by
    obtain ⟨_, _, _, _, _, _, _, _, _, _, _, _, z⟩ := h
    exact z.elim
  intro pins s σ H Q I q
  refine pmk_oex (dvs := []) T iC tI F1 hr hb .nil hx hg hm ha.run hdb he hpl pins s σ H Q I ?_
  obtain ⟨n, env, m, rfl, ok, h⟩ := q
  refine ⟨n, env, m, rfl, ok, ha.mono _ _ _ _ (fun xs m1 h1 n1 vs g1 l1 lx => ?_) h⟩
  split at h1
  · rename_i ds hd
    obtain ⟨hl, h1⟩ := h1
    have hz := frs_ok lx hd
    have hlen : vs.length = fs.length := by rw [hz.length, hl]
    refine ⟨by omega, fun a ha1 => ?_⟩
    rw [List.append_nil]
    refine ⟨a, C.addr c, vs, rfl, hlen, upd_same, T, hno, fun d hd1 hne => ⟨rfl, d, (fs.zip vs).reverse, upd_same, ?_, ?_, ?_⟩⟩
    · rw [upd_ne hne, upd_same]
    · rw [upd_ne hne] at hd1; exact hd1
    · have hd2 : n1.H d = none := by rw [upd_ne hne] at hd1; exact hd1
      have e : upd (L2.del (upd (upd (upd n1.H a (exo a (C.addr c) none)) d (exd d (fs.zip vs).reverse)) a (exo a (C.addr c) (some d))) a) d (.xd (fs.zip vs).reverse) = upd n1.H d (.xd ((C.flds c).zip vs.reverse)) := by
        funext b
        by_cases h1 : b = d
        · subst h1
          rw [upd_same, upd_same, hf, zip_rev hlen.symm]
        · rw [upd_ne h1, upd_ne h1]
          by_cases h2 : b = a
          · subst h2; rw [L2.del_same, ha1]
          · rw [L2.del_ne h2, upd_ne h2, upd_ne h1, upd_ne h2]
      rw [e]
      obtain ⟨b2, b4⟩ := g1.free hd2
      have g2 : Good C X.w X.K ⟨n1.G, n1.al, upd n1.H d (.xd ((C.flds c).zip vs.reverse))⟩ m1 := g1.at b2 b4
      have l2 : n.le ⟨n1.G, n1.al, upd n1.H d (.xd ((C.flds c).zip vs.reverse))⟩ := l1.at (l1.base hd2)
      refine h1 _ (some d) vs.reverse g2 l2 ⟨by rw [hf]; simp [hlen], .inr ⟨d, rfl, l1.base hd2, upd_same⟩⟩ ?_
      exact FzAll.reverse (FzAll.keep (fun _ _ e => e) (fun _ _ e => e) hz)
  · exact h1.elim
end
end DL

set_option maxHeartbeats 2000000
namespace DL
open PySem PySem.Spec PyProof.Rows L2

section
variable {C : Ct} {w : World} {K : PySem.W.Frag} {B n n0 : Nw} {m : Mem} {env : Env'} {σ : L2.St}
theorem MoOk.noxd {a : Addr} {x : Mo} {fs : List (Str × V)} (h : MoOk C w K n a x) : n.H a ≠ some (.xd fs) := fun z => by
  cases x with
  | lst xs => obtain ⟨vs, e, r⟩ := h; rw [e] at z; cases z
  | ins c xs => obtain ⟨dx, vs, e, q, r⟩ := h; rw [e] at z; cases z
  | dct kvs =>
    obtain ⟨es, e, q, r⟩ := h
    rw [e] at z
    have z' : HO.ext _ = HO.xd fs := Option.some.inj z
    cases z'
theorem Ok.frz {dd : Addr} {fs : List (Str × V)} (ok : Ok C w K B n env m σ) (hB : B.H dd = none) (hH : n.H dd = some (.xd fs)) :
    Ok C w K B ⟨upd n.G dd (.xd fs), n.al, n.H⟩ env m σ ∧ ∀ p o, n.G p = some o → upd n.G dd (.xd fs) p = some o := by
  have hg : ∀ p o, n.G p = some o → upd n.G dd (.xd fs) p = some o := fun p o e => by
    by_cases z : p = dd
    · subst z
      have := ok.good.sub p o e
      rw [hH] at this
      cases this
      exact upd_same
    · rw [upd_ne z]; exact e
  refine ⟨⟨⟨fun p o e => ?_, ok.good.nd, ok.good.len, fun k x a e1 e2 => ?_, ok.good.tab, tg_upd ok.good.tab (Calm.xd hH) ok.good.tg⟩, ⟨fun p o e => hg p o (ok.base.g p o e), ok.base.keepN, ok.base.there, fun p e => ?_, ok.base.ale, ok.base.anew⟩,
    ⟨ok.env.len, fun i d e => let ⟨v, f, z⟩ := ok.env.fz i d e; ⟨v, f, Fz.keep hg (fun _ _ e => e) z⟩, fun i x e => ?_, ok.env.apart⟩⟩, hg⟩
  · have e' : upd n.G dd (.xd fs) p = some o := e
    show n.H p = some o
    by_cases z : p = dd
    · subst z; rw [upd_same] at e'; cases e'; exact hH
    · rw [upd_ne z] at e'; exact ok.good.sub p o e'
  · obtain ⟨h1, h2⟩ := ok.good.at_ k x a e1 e2
    refine ⟨h1.imp (n := n) hg (fun _ _ e => e) fun _ e => e, ?_⟩
    show upd n.G dd (.xd fs) a = none
    rw [upd_ne (fun z => by subst z; exact h1.noxd hH)]; exact h2
  · show upd n.G dd (.xd fs) p = B.G p
    rw [upd_ne (fun z => by subst z; exact e hB)]; exact ok.base.gnew p e
  · obtain ⟨a, f, q⟩ := ok.env.own i x e
    refine ⟨a, f, q.ok.imp (n := n) hg (fun _ _ e => e) fun _ e => e, ?_, q.al, q.new⟩
    show upd n.G dd (.xd fs) a = none
    rw [upd_ne (fun z => by subst z; exact q.ok.noxd hH)]; exact q.g
end
def En.gone (D : En) (i : Nat) : En := ⟨fun e m => D.nx (e.set i none) m, D.rt, fun e m => D.bk (e.set i none) m, fun e m => D.ct (e.set i none) m⟩
def hGo (i : Nat) (tst : Nat → Option Bool) (ds : Addr → Nat → List Dat → TSd) (EXo : QXe) (D : En) : QXe := fun c xs env m => match tst c with
  | some true => ∀ a, ds a c xs (D.gone i) (env.set i (some (.f (.ref a)))) m
  | some false => EXo c xs env m
  | none => False
def sTry (i : Nat) (tst : Nat → Option Bool) (dt : QXe → TSd) (ds : Addr → Nat → List Dat → TSd) (EXo : QXe) : TSd := fun D env m => ∀ EX', (∀ c xs env' m', hGo i tst ds EXo D c xs env' m' → EX' c xs env' m') → dt EX' D env m
section
variable {X : Cx} {C : Ct} {B : Nw} {x nm : Str} {cv : Value} {i : Nat} {body suite : List Stmt} {b0 : Stmt} {np pos pos' : Pos} {tst : Nat → Option Bool} {dt : QXe → TSd} {ds : Addr → Nat → List Dat → TSd} {EXo : QXe}
theorem sTry.mono (hb : ∀ EX, MonoS (dt EX)) (hs : ∀ a c xs, MonoS (ds a c xs)) : MonoS (sTry i tst dt ds EXo) := fun env m D D' l h EX' hE => by
  refine hb EX' env m D D' l (h EX' fun c xs env' m' q => hE c xs env' m' ?_)
  unfold hGo at q ⊢
  split at q
  · exact fun a => hs a c xs _ _ (D.gone i) (D'.gone i) ⟨fun e m h => l.nx _ _ h, l.rt, fun e m h => l.bk _ _ h, fun e m h => l.ct _ _ h⟩ (q a)
  · exact q
  · exact q
def dXf (a : Addr) (c : Nat) (xs : List Dat) (fi : Nat → Option Nat) (d : TD) : TD := fun env m Q => d env m fun x m1 => match x with
  | .f (.ref b) => b = a ∧ match fi c with
    | some k => match xs[k]? with
      | some y => Q (.f y) m1
      | none => False
    | none => False
  | _ => False
def oIsE (a : Addr) (c : Nat) (isE : Nat → Nat → Option Bool) : OpN := fun env m xs Q => match xs with
  | [.f (.ref b), .f (.cls c')] => b = a ∧ match isE c c' with
    | some r => Q (.bl r) m
    | none => False
  | _ => False
theorem oIsE.mono {a : Addr} {c : Nat} {isE : Nat → Nat → Option Bool} : MonoN (oIsE a c isE) := fun env m xs Q Q' i => by
  unfold oIsE
  split
  · refine fun h => ⟨h.1, ?_⟩
    obtain ⟨_, h⟩ := h
    split at h
    · exact i _ _ h
    · exact h
  · exact id
end
end DL

set_option maxHeartbeats 1000000
namespace DL
open PySem PySem.Spec PyProof.Rows L2

theorem pRel.mono {n pre post posE} : MonoP (pRel n pre post posE) := fun ds m Q Q' E E' i j h => ⟨h.1, h.2.1, fun r m' q => i _ _ (h.2.2.1 r m' q), fun c xs m' q => j _ _ _ (h.2.2.2 c xs m' q)⟩
def fdA (K : PySem.W.Frag) (p : Str × Option Str) : FuncData := match K.lookup (He.fAd K p) with
  | some ⟨_, _, .func fd, _⟩ => fd
  | _ => default
structure FnC (P : Program) (w : World) (K : PySem.W.Frag) (mg : Str → Option Value) (base : Heap) (C : Ct) (x : Str) (k : Nat) (ps : List Str) (p : DSp) : Prop where
  hm : mg x = some (.ref (He.ga K x))
  hk : PySem.W.keepIn K (.ref (He.ga K x)) = true
  F : DF P w K mg base C k (He.ga K x) (fdA K (x, none)) ps p
  hb : Binds K (fdA K (x, none)) ps []
  hl : ∀ ds m Q E, p ds m Q E → ds.length = ps.length
theorem DG.lift {P : Program} {w : World} {K : PySem.W.Frag} {mg : Str → Option Value} {base : Heap} {C : Ct} {j k : Nat} {f : Addr} {fd : FuncData} {ps : List Str} {p : DSp} (F : DG P w K mg base C j f fd ps p) (h : j ≤ k) : DG P w K mg base C k f fd ps p :=
  ⟨F.mono, ⟨F.ok.len, fun A outer s H args us vs Q E hr => F.ok.run A outer s H args us vs Q E ⟨hr.room.mono h, hr.gd⟩⟩⟩
theorem DF.lift {P : Program} {w : World} {K : PySem.W.Frag} {mg : Str → Option Value} {base : Heap} {C : Ct} {j k : Nat} {f : Addr} {fd : FuncData} {ps : List Str} {p : DSp} (F : DF P w K mg base C j f fd ps p) (h : j ≤ k) : DF P w K mg base C k f fd ps p :=
  ⟨F.mono, F.ok.mono h⟩
section
variable {X : Cx} {C : Ct} {B : Nw} {k j : Nat} {ps : List Str} {p : DSp} {EX : QXe} {x : Str} {p1 pos : Pos} {e : Expr} {es : List Expr} {da : TAd}
theorem de_fn (F : FnC X.prog X.w X.K X.mg X.base C x j ps p) (hr : Room k X.A) (h : j ≤ k) (ha : DA X C B (e :: es) da) (hx : PassD X C B EX) (hg : Gl X x := by rfl)
    (hdb : (x == ("__debug__" : Str)) = false := by decide) (he : starEach (e :: es) X.env = (false, eval e X.env) :: starEach es X.env := by rfl) (hpl : (backTo pos (starEach es X.env)).any (·.1) = false := by rfl) :
    DE X C B (.Call (.Name x p1) (e :: es) [] pos) (dCall p EX da) := de_call (F.F.lift h) F.hl hr hg F.hm F.hk F.hb hx ha hdb he hpl
theorem rm {k : Nat} {A : Around} (h : Room k A) : A.units + 70 < cLine := by have := h.un; omega
theorem op_eqR (hr : Room k X.A) : OpD X C (compareOp .Eq) (oEq id) := op_eqd (by have := rm hr; omega)
theorem op_neR (hr : Room k X.A) : OpD X C (compareOp .NotEq) (oEq not) := op_ned (by have := rm hr; omega)
theorem op_inR (hr : Room k X.A) : OpD X C (compareOp .In) (oIn id) := op_inS (by have := rm hr; omega)
theorem op_ninR (hr : Room k X.A) : OpD X C (compareOp .NotIn) (oIn not) := op_notInS (by have := rm hr; omega)
theorem ds_setV {i : Nat} {de : TD} {pos' : Pos} (hN : X.N.Nodup) (he : DE X C B e de) (hi : X.N[i]? = some x := by rfl) (hx : Loc X.env.scope x := by first | exact Or.inl rfl | exact Or.inr rfl) (hs : swapsWith e (some (.Name x pos')) pos.line X.env = pure false := by rfl)
    (hf : X.fn x = true ∨ X.env.scope.names.lookup x = some .local := by first | exact .inl rfl | exact .inr rfl) : DS X C B (.Assign [.Name x pos'] e pos) (sAsg (.nm i) de) := ds_set hN hi hx he hs (hf := hf)
theorem ds_setNV {i : Nat} {dn : TN} {pos' : Pos} (hN : X.N.Nodup) (he : DN X C B e dn) (hi : X.N[i]? = some x := by rfl) (hx : Loc X.env.scope x := by first | exact Or.inl rfl | exact Or.inr rfl) (hs : swapsWith e (some (.Name x pos')) pos.line X.env = pure false := by rfl)
    (hf : X.fn x = true ∨ X.env.scope.names.lookup x = some .local := by first | exact .inl rfl | exact .inr rfl) : DS X C B (.Assign [.Name x pos'] e pos) (sSetN i dn) := ds_setN hN hi hx he hs (hf := hf)
theorem tg_v {i : Nat} (hN : X.N.Nodup) (hi : X.N[i]? = some x := by rfl) (hx : Loc X.env.scope x := by first | exact Or.inl rfl | exact Or.inr rfl) (hf : X.fn x = true ∨ X.env.scope.names.lookup x = some .local := by first | exact .inl rfl | exact .inr rfl) : TgOk X (.Name x pos) (.nm i) := tg_nm hN hi hx hf
theorem tgs_v {i : Nat} {is : List Nat} (hN : X.N.Nodup) (r : TgsOk X es is) (hi : X.N[i]? = some x := by rfl) (hx : Loc X.env.scope x := by first | exact Or.inl rfl | exact Or.inr rfl) (hf : X.fn x = true ∨ X.env.scope.names.lookup x = some .local := by first | exact .inl rfl | exact .inr rfl) :
    TgsOk X (.Name x pos :: es) (i :: is) := tgs_cons hN hi hx r hf
theorem de_tyN {T : String} (hm : X.mg x = none) (hv : bootBuiltins x = some (.type T)) (hg : Gl X x := by rfl) (hn : x ≠ "__name__" := by decide) (hd : (x == ("__debug__" : Str)) = false := by decide) : DE X C B (.Name x pos) (dC (.ty T)) :=
  de_bltn (v := .ty T) hg hm hv (show RelV (.ty T) (.type T) from rfl) (fun _ _ _ _ _ => .ty T) hn hd
theorem de_gInt {i : Int} (hm : ∃ t, X.mg x = some (.int i t)) (hg : Gl X x := by rfl) (hd : (x == ("__debug__" : Str)) = false := by decide) : DE X C B (.Name x pos) (dC (.int i)) := by
  obtain ⟨t, e⟩ := hm
  exact de_glob (v := .int i) hg e ⟨t, rfl⟩ (fun _ _ _ _ _ => .int i) hd
theorem const_cls {c : Nat} : ∀ σ H Q, lE C B X.w X.K (dC (.cls c)) σ H Q → tC (.ref (C.addr c)) σ H Q := by
  rintro σ H Q ⟨n, env, m, rfl, ok, h⟩
  exact h n _ ok.good (.refl _) (.cls c)
theorem de_gCls {c : Nat} (hm : X.mg x = some (.ref (C.addr c))) (hg : Gl X x := by rfl) (hd : (x == ("__debug__" : Str)) = false := by decide) : DE X C B (.Name x pos) (dC (.cls c)) :=
  ⟨dC.mono _, imp (pe_glob hg hm (show RelV (.ref (C.addr c)) (.ref (C.addr c)) from rfl) hd) const_cls⟩
theorem de_b {id : String} {f : OpN} (hc : CallD X C (.builtin id) f) (hm : X.mg x = none) (hv : bootBuiltins x = some (.builtin id)) (ha : DA X C B (e :: es) da) (hg : Gl X x := by rfl) (hn : x ≠ "__name__" := by decide) (hdb : (x == ("__debug__" : Str)) = false := by decide)
    (he : starEach (e :: es) X.env = (false, eval e X.env) :: starEach es X.env := by rfl) (hpl : (backTo pos (starEach es X.env)).any (·.1) = false := by rfl) : DE X C B (.Call (.Name x p1) (e :: es) [] pos) (dN f da) := de_callB hc hg hm hv ha hn hdb he hpl
theorem de_t {T : String} {f : OpN} (hc : CallD X C (.type T) f) (hm : X.mg x = none) (hv : bootBuiltins x = some (.type T)) (ha : DA X C B (e :: es) da) (hg : Gl X x := by rfl) (hn : x ≠ "__name__" := by decide) (hdb : (x == ("__debug__" : Str)) = false := by decide)
    (he : starEach (e :: es) X.env = (false, eval e X.env) :: starEach es X.env := by rfl) (hpl : (backTo pos (starEach es X.env)).any (·.1) = false := by rfl) : DE X C B (.Call (.Name x p1) (e :: es) [] pos) (dN f da) := de_callTy hc hg hm hv ha hn hdb he hpl
variable {elt te iter : Expr} {ifs : List Expr} {scope : Scope} {own : List (Str × Nat)} {tg : Tg} {dt : TB} {de : TD} {di : TId}
theorem dn_comp (own : List (Str × Nat)) (hc : X.calm = true) (hN : X.N.Nodup) (hi : DI X C B te iter di) (hg : Blk X scope fun Y => TgOk Y te tg) (ht : Blk X scope fun Y => DTs Y C B ifs dt) (he : Blk X scope fun Y => DE Y C B elt de)
    (ok : BlkOk X.N X.env.scope scope own) (htg : ∀ i ∈ tg.ids, i ∈ own.map (·.2)) (hs : ∀ x, foldedSetIterable iter X.env x = pure x := by intro _; rfl) : DN X C B (.ListComp elt [⟨te, iter, ifs, 0⟩] scope pos) (nLc tg dt de (own.map (·.2)) di) :=
  dn_lc hc hN hi ok (ht X.s_0 X.H_0 0 [] []).mono (he X.s_0 X.H_0 0 [] []).mono hg ht he htg hs
theorem ds_setC {i : Nat} {y : Str} {py spos : Pos} (own : List (Str × Nat)) (hc : X.calm = true) (hN : X.N.Nodup) (hi : DI X C B te iter di) (hg : Blk X scope fun Y => TgOk Y te tg) (ht : Blk X scope fun Y => DTs Y C B ifs dt) (he : Blk X scope fun Y => DE Y C B elt de)
    (ok : BlkOk X.N X.env.scope scope own) (htg : ∀ i ∈ tg.ids, i ∈ own.map (·.2)) (hy : X.N[i]? = some y := by rfl) (hyl : X.env.scope.names.lookup y = some .local := by rfl) (hsw : swapsWith (.ListComp elt [⟨te, iter, ifs, 0⟩] scope pos) (some (.Name y py)) spos.line X.env = pure true := by rfl)
    (hs : ∀ x, foldedSetIterable iter X.env x = pure x := by intro _; rfl) : DS X C B (.Assign [.Name y py] (.ListComp elt [⟨te, iter, ifs, 0⟩] scope pos) spos) (sAsg (.nm i) (dNew (nLc tg dt de (own.map (·.2)) di))) :=
  ds_setLc hc hN hy hyl hsw hi ok (ht X.s_0 X.H_0 0 [] []).mono (he X.s_0 X.H_0 0 [] []).mono hg ht he htg hs
theorem ds_setCN {i : Nat} {y : Str} {py spos : Pos} (own : List (Str × Nat)) (hc : X.calm = true) (hN : X.N.Nodup) (hi : DI X C B te iter di) (hg : Blk X scope fun Y => TgOk Y te tg) (ht : Blk X scope fun Y => DTs Y C B ifs dt) (he : Blk X scope fun Y => DE Y C B elt de)
    (ok : BlkOk X.N X.env.scope scope own) (htg : ∀ i ∈ tg.ids, i ∈ own.map (·.2)) (hy : X.N[i]? = some y := by rfl) (hyl : X.env.scope.names.lookup y = some .local := by rfl) (hsw : swapsWith (.ListComp elt [⟨te, iter, ifs, 0⟩] scope pos) (some (.Name y py)) spos.line X.env = pure true := by rfl)
    (hs : ∀ x, foldedSetIterable iter X.env x = pure x := by intro _; rfl) : DS X C B (.Assign [.Name y py] (.ListComp elt [⟨te, iter, ifs, 0⟩] scope pos) spos) (sSetN i (nLc tg dt de (own.map (·.2)) di)) :=
  ds_setLcN hc hN hy hyl hsw hi ok (ht X.s_0 X.H_0 0 [] []).mono (he X.s_0 X.H_0 0 [] []).mono hg ht he htg hs
end
end DL

set_option maxHeartbeats 1000000
namespace DL
open PySem PySem.Spec PyProof.Rows L2
abbrev oSub : Op2 := oI0 fun i j => .int (i - j)
abbrev oMul : Op2 := oI CMul fun i j => .int (i * j)
abbrev oFdiv : Op2 := oI CDivW fun i j => .int (i / j)
abbrev oMod : Op2 := oI (fun _ j => 0 < j) fun i j => .int (i % j)
abbrev oPow : Op2 := oI CPow fun i j => .int (i ^ j.toNat)
abbrev oLt : Op2 := oI0 fun i j => .bl (decide (i < j))
abbrev oLe : Op2 := oI0 fun i j => .bl (decide (i ≤ j))
abbrev oGt : Op2 := oI0 fun i j => .bl (decide (j < i))
abbrev oGe : Op2 := oI0 fun i j => .bl (decide (j ≤ i))
structure MkC (P : Program) (w : World) (K : PySem.W.Frag) (mg : Str → Option Value) (base : Heap) (C : Ct) (x : Str) (c nf k : Nat) (ps : List Str) (p : DSp) : Prop where
  hm : mg x = some (.ref (C.addr c))
  M : Mk K (C.addr c) (He.fAd K (x, some "__init__"))
  F : DF P w K mg base C k (He.fAd K (x, some "__init__")) (fdA K (x, some "__init__")) ps p
  hb : Binds K (fdA K (x, some "__init__")) ps []
  hl : ∀ ds m Q E, p ds m Q E → ds.length = ps.length
  nf : (C.flds c).length = nf
structure XcC (P : Program) (w : World) (K : PySem.W.Frag) (mg : Str → Option Value) (base : Heap) (C : Ct) (x : Str) (c : Nat) (fs : List Str) : Prop where
  hm : mg x = some (.ref (C.addr c))
  T : OexC K (C.addr c)
  no : ∀ f ∈ fs, PySem.W.findIn K (.ref (C.addr c)) f = some none
  fl : C.flds c = fs.reverse
  few : fs.length ≤ 1000
  ini : PySem.W.findIn K (.ref (C.addr c)) "__init__" = some (some (.ref (He.fAd K (x, some "__init__"))))
  ty : PySem.W.typeIn K (.ref (He.fAd K (x, some "__init__"))) = some (.type "function")
  F : ∃ ps, FnOk P w K mg base (L2.CX P w) 1 (He.fAd K (x, some "__init__")) (fdA K (x, some "__init__")) ps (spX K fs) ∧ Binds K (fdA K (x, some "__init__")) ps []
section
variable {X : Cx} {C : Ct} {B : Nw} {k j c nf : Nat} {ps : List Str} {p : DSp} {EX : QXe} {x : Str} {p1 pos : Pos} {e : Expr} {es : List Expr} {da : TAd}
theorem de_mk (M : MkC X.prog X.w X.K X.mg X.base C x c nf j ps p) (hg : Gl X x) (hr : Room k X.A) (h : j + 1 ≤ k) (ha : DA X C B (e :: es) da) (hx : PassD X C B EX)
    (hdb : (x == ("__debug__" : Str)) = false := by decide) (he : starEach (e :: es) X.env = (false, eval e X.env) :: starEach es X.env := by rfl) (hpl : (backTo pos (starEach es X.env)).any (·.1) = false := by rfl) :
    DE X C B (.Call (.Name x p1) (e :: es) [] pos) (dMakeF c nf p EX da) := by
  obtain ⟨i, rfl⟩ : ∃ i, k = i + 1 := ⟨k - 1, by omega⟩
  exact de_makeF M.M (M.F.lift (by omega)) M.hl M.nf hr hg M.hm M.hb hx ha hdb he hpl
theorem dm_x {fs : List Str} {n : Nat} (M : XcC X.prog X.w X.K X.mg X.base C x c fs) (hr : Room k X.A) (h : 2 ≤ k) (ha : DA X C B (e :: es) da) (hn : fs.length = n := by rfl) (hg : Gl X x := by rfl)
    (hdb : (x == ("__debug__" : Str)) = false := by decide) (he : starEach (e :: es) X.env = (false, eval e X.env) :: starEach es X.env := by rfl) (hpl : (backTo pos (starEach es X.env)).any (·.1) = false := by rfl) :
    DM X C B (.Call (.Name x p1) (e :: es) [] pos) (mOwn c n da) := by
  subst hn
  obtain ⟨ps, F, hb⟩ := M.F
  exact dm_own M.T M.no M.fl M.few M.ini M.ty F (hr.mono h) hb hg M.hm ha hdb he hpl
theorem sDrop.mono {de : TD} (h : MonoD de) : MonoS (sDrop de) := fun env m D D' l => h _ _ _ _ fun _ m1 => l.nx _ _
theorem dNil.mono : MonoA dNil := fun _ _ _ _ i => i _ _
theorem dXf.mono {a : Addr} {c : Nat} {xs : List Dat} {fi : Nat → Option Nat} {d : TD} (h : MonoD d) : MonoD (dXf a c xs fi d) := fun env m Q Q' i q => h _ _ _ _ (fun y m1 h1 => by
  try dsimp only at h1 ⊢
  split at h1
  · refine ⟨h1.1, ?_⟩
    obtain ⟨_, h1⟩ := h1
    split at h1
    · split at h1
      · exact i _ _ h1
      · exact h1
    · exact h1
  · exact h1) q
theorem dn_sortedR {a : Expr} {da : TD} (hr : Room k X.A) (ns : NoSys X.K) (hm : X.mg "sorted" = none) (ha : DE X C B a da) (hg : Gl X "sorted" := by rfl)
    (he : starEach [a] X.env = (false, eval a X.env) :: starEach [] X.env := by rfl) (hpl : (backTo pos (starEach [] X.env)).any (·.1) = false := by rfl) : DN X C B (.Call (.Name "sorted" p1) [a] [] pos) (nSort da) := dn_sorted (by have := rm hr; omega) ns hg hm boot_sorted ha he hpl
end
def blkB (N : List Str) (sc scope : Scope) (own : List (Str × Nat)) : Bool :=
  decide (scope.kind = .function) && (scope.names.all (fun y => decide (scope.names.lookup y.1 = some y.2)) && (own.all (fun p => decide (N[p.2]? = some p.1)) &&
    (scope.names.all (fun y => !(decide (y.2 = .free)) || (decide (sc.names.lookup y.1 = some .cell) || decide (sc.names.lookup y.1 = some .free))) &&
      scope.names.all (fun y => !(decide (y.2 = .local) || decide (y.2 = .cell)) || (decide (y.1 ∈ own.map (·.1)) || !(decide (y.1 ∈ N)))))))
theorem blkB_ok {N : List Str} {sc scope : Scope} {own : List (Str × Nat)} (h : blkB N sc scope own = true) : BlkOk N sc scope own := by
  unfold blkB at h
  simp only [Bool.and_eq_true, decide_eq_true_eq, List.all_eq_true] at h
  obtain ⟨h1, h2, h3, h4, h5⟩ := h
  refine ⟨h1, h2, h3, fun y hy e => ?_, fun y hy e => ?_⟩
  · have := h4 y hy
    simp [e] at this
    exact this
  · have := h5 y hy
    rcases e with e | e <;> · simp [e] at this; simpa using this
end DL

set_option maxHeartbeats 2000000
namespace DL
open PySem PySem.Spec PyProof.Rows L2

def NoLst (K : PySem.W.Frag) : Prop := ∀ b o, K.lookup b = some o → o.cls ≠ .type "list"
def onlyAt (a : Addr) (u : HO) : Hp := fun b => if b = a then some u else none
theorem onlyAt_same {a : Addr} {u : HO} : onlyAt a u a = some u := if_pos rfl
theorem onlyAt_ne {a b : Addr} {u : HO} (h : b ≠ a) : onlyAt a u b = none := if_neg h
theorem onlyAt_inv {a b : Addr} {u x : HO} (h : onlyAt a u b = some x) : b = a ∧ x = u := by
  by_cases e : b = a
  · subst e; rw [onlyAt_same] at h; cases h; exact ⟨rfl, rfl⟩
  · rw [onlyAt_ne e] at h; cases h
section
variable {P : Program} {w : World} {K : PySem.W.Frag} {gl bn : Str → Option Value} {CX : CXT} {k : Nat} {f a : Addr} {fd : FuncData} {x : Str} {sp : Sp} {S : Shared} {us : List Value} {is : List Int}
theorem end_call (inK : K.In S.heap) (gG : S.heap.Ns mainGlobals gl) (gB : S.heap.Ns builtinsNs bn) (boot : ∀ y : Str, y ≠ "__name__" → bn y = bootBuiltins y) (nl : S.heap.NoLimit) (gens : S.gens = #[])
    (at_ : S.heap.get? a = some { cls := .type "list", data := .seq us.toArray }) (hin : IntsAre us is) (len : is.length ≤ sizeLine) (rm : RoomG k callerA) (noL : NoLst K)
    (F : ∀ B : Heap, K.In B → B.Ns mainGlobals gl → FnG P w K gl B CX k f fd [x] sp) (bind : ∀ (s : Shared) (v : Value), BindsTo s fd ⟨[v], []⟩ [(x, v)])
    (prom : sp [.ref a] (onlyAt a (.frz { cls := .type "list", data := .seq us.toArray } (.lst (is.map V.int)))) (fun v _ => v = .bl true) fun _ _ _ => False)
    (none_out : ∀ H e s', CX [] H S (fun _ _ _ => False) e s' → False) :
    codeAny (model P w) callerA (.call (.ref f) ⟨[.ref a], []⟩) (fun r s' => r = .ok (.ret (.bool true)) ∧ OldK S.heap s'.heap ∧ s'.os = S.os ∧ AllBare s'.gens) S := by
  let u : HO := .frz { cls := .type "list", data := .seq us.toArray } (.lst (is.map V.int))
  have rv := vals_ints hin
  have ka : K.lookup a = none := by
    cases e : K.lookup a with
    | none => rfl
    | some o =>
      have h1 := inK a o e
      rw [at_] at h1
      cases h1
      exact absurd rfl (noL a _ e)
  have okH : HOk P w (onlyAt a u) S.heap := fun b y e => by
    obtain ⟨rfl, rfl⟩ := onlyAt_inv e
    exact ⟨at_, by rw [List.length_map]; exact len, us, _, rv, at_⟩
  have hide : ∀ {b : Addr} {o : Obj}, S.heap.get? b = some o → b ≠ a → (hidT S.heap (onlyAt a u)).get? b = some o := fun e n => hidT_get e (onlyAt_ne n)
  have nsH : ∀ {b : Addr} {m : Str → Option Value}, S.heap.Ns b m → (hidT S.heap (onlyAt a u)).Ns b m := fun {b m} ⟨o, es, ep, e, d, r⟩ => ⟨o, es, ep, hide e (fun z => by
    subst z
    rw [at_] at e; cases e
    have d2 : Data.seq us.toArray _ = Data.dict es ep := d
    cases d2), d, r⟩
  have kB : K.In (hidT S.heap (onlyAt a u)) := fun b o e => hide (inK b o e) fun z => by rw [z, ka] at e; cases e
  have md : Mod K gl (hidT S.heap (onlyAt a u)) := ⟨kB, nsH gG, ⟨bn, nsH gB, boot⟩, let ⟨mc, h1, h2⟩ := nl; ⟨mc, nsH h1, h2⟩⟩
  have env : Env0 P w K gl (hidT S.heap (onlyAt a u)) callerA [] S (onlyAt a u) :=
    ⟨rfl, md, fun b o e => of_hidT e, Nat.le_of_eq (hidT_size _ _), trivial, fun b z => absurd (show b ∈ ([] : List Addr) from z) (by simp), okH, .of_eq gens⟩
  have run := (F _ kB (nsH gG)).run callerA [] S (onlyAt a u) ⟨[.ref a], []⟩ [.ref a] [.ref a] _ _ rm env (bind S (.ref a)) (.cons rfl .nil) prom
  refine codeAny_mono run fun r s' q => ?_
  cases r with
  | error e => exact (none_out _ e s' q).elim
  | ok z =>
    cases z with
    | next => exact False.elim q
    | brk => exact False.elim q
    | cont => exact False.elim q
    | ret y =>
      obtain ⟨v, H', eos, bare, un, hok', r', q1⟩ := q
      have q2 : v = .bl true := q1
      subst q2
      obtain rfl : y = Value.bool true := r'
      refine ⟨rfl, OldK.of_keep fun b o e => ?_, eos, bare⟩
      by_cases n : b = a
      · subst n
        obtain ⟨e1, _⟩ := hok' b _ (un.frzs b _ _ onlyAt_same)
        rw [at_] at e; cases e
        exact e1
      · exact un.keep b o e (onlyAt_ne n) (by intro z; exact absurd (show b ∈ ([] : List Addr) from z) (by simp)) (by simp)
end
theorem walk_ofG {l : PySem.W.OpenLaw} {n k : Nat} {q : Program} {lo : List Str} {XP : (Str → Option Value) → Heap → Prop} {YP : World → Heap → Prop} {d : DefRec} {x : Str}
    (most : l.most = some n) (hn : n ≤ sizeLine) (nodef : d.params.defaults = []) (rm : RoomG k callerA)
    (F : ∀ (w : World) (gl : Str → Option Value) (f : Addr) (h : Heap), YP w h → h.Ns mainGlobals gl → gl d.name = some (.ref f) →
      ∃ (K : PySem.W.Frag) (fd : FuncData) (sp : Sp), K.In h ∧ NoLst K ∧ (∀ (s : Shared) (v : Value), BindsTo s fd ⟨[v], []⟩ [(x, v)]) ∧
        (∀ (a : Addr) (o : Obj) (is : List Int), is.length ≤ n → sp [.ref a] (onlyAt a (.frz o (.lst (is.map V.int)))) (fun v _ => v = .bl true) fun _ _ _ => False) ∧
        ∀ B : Heap, K.In B → B.Ns mainGlobals gl → FnG l.prog w K gl B (L2.CX l.prog w) k f fd [x] sp) :
    PySem.W.WalkO q lo XP YP l.row.toRowW d [] (fun f vs => PySem.call f vs) := by
  refine Att.attach_call most nodef ?_
  intro w S0 S mg mb f o pm cd doc a us is G Y ho hd hcd hmg hobj hi hlen hg
  obtain ⟨K, fd, sp, inK, noL, hb, prom, hF⟩ := F w mg f _ Y G.T.g hmg
  refine end_call inK G.T.g G.T.b G.T.builtins G.T.nolimit hg hobj hi (Nat.le_trans hlen hn) rm noL hF hb (prom a _ is hlen) ?_
  rintro H e s' ⟨_, _, _, _, _, _, _, _, _, _, _, _, z⟩
  exact z
theorem pLaw.mono {n : Nat} : MonoP (pLaw n) := fun ds m Q Q' E E' i _ ⟨is, h1, h2, h3, h4⟩ => ⟨is, h1, h2, h3, fun m' => i _ _ (h4 m')⟩
theorem fz_ints {C : Ct} {w : World} {K : PySem.W.Frag} {al : List Addr} {G : Hp} : ∀ is : List Int, FzAll C w K al G (is.map V.int) (is.map Dat.int)
  | [] => .nil
  | i :: is => .cons (.int i) (fz_ints is)
theorem law_prom {C : Ct} {w : World} {K : PySem.W.Frag} {n : Nat} {a : Addr} {o : Obj} {is : List Int} (h : is.length ≤ n) (ht : C.tabs = [] := by rfl) :
    spD C w K 1 (pLaw n) [.ref a] (onlyAt a (.frz o (.lst (is.map V.int)))) (fun v _ => v = .bl true) fun _ _ _ => False := by
  refine ⟨rfl, ⟨onlyAt a (.frz o (.lst (is.map V.int))), [], onlyAt a (.frz o (.lst (is.map V.int)))⟩, [], [.lst (is.map Dat.int)], rfl, ?_, ?_, is, h, rfl, rfl, ?_⟩
  · exact ⟨fun _ _ e => e, List.nodup_nil, rfl, fun k x b e => (by simp at e), fun p hp => (by rw [ht] at hp; cases hp), fun p hp => (by rw [ht] at hp; cases hp)⟩
  · exact .cons (.lst (.inr ⟨o, onlyAt_same⟩) (fz_ints is)) .nil
  · intro m' n' v g l z
    cases z; rfl
end DL

set_option maxHeartbeats 2000000
namespace DL
open PySem PySem.Spec PyProof.Rows L2

def fiOf (tab : List (Nat × Nat)) (c : Nat) : Option Nat := match tab with
  | [] => none
  | (a, b) :: l => if a = c then some b else fiOf l c
theorem fiOf_mem : ∀ {tab : List (Nat × Nat)} {c d : Nat}, fiOf tab c = some d → (c, d) ∈ tab
  | [], _, _, h => by cases h
  | (a, b) :: l, c, d, h => by
    unfold fiOf at h
    split at h
    · rename_i e; subst e; cases h; exact List.mem_cons_self
    · exact List.mem_cons_of_mem _ (fiOf_mem h)
theorem Tab.fi_ok {t : Tab} {f : Str} {tab : List (Nat × Nat)} {K : PySem.W.Frag} (h : t.fiC f tab K = true) : FiOk K (t.ct K) f (fiOf tab) := ⟨fun c k e => by
  obtain ⟨h1, q⟩ := and2 (List.all_eq_true.mp h _ (fiOf_mem e))
  obtain ⟨h2, q⟩ := and2 q
  obtain ⟨h3, q⟩ := and2 q
  obtain ⟨h4, h5⟩ := and2 q
  have e2 : PySem.W.findIn K (.ref (t.at K c)) f = some none := of_decide_eq_true h2
  exact ⟨⟨clsB_ok h1, e2, of_decide_eq_true h3, of_decide_eq_true h4⟩, of_decide_eq_true h5⟩⟩
theorem oexB_ok {K : PySem.W.Frag} {C : Addr} (h : oexB K C = true) : ∃ nm q N bs bm sn sub ab col dd k0 k1 k2 k3 k5, K.lookup C = some (excClassObj nm q C N bs bm true sn sub ab col dd k0 k1 k2 k3 k5 "ValueError.__new__") ∧ PySem.HandSPX.refsVE bm = true := by
  unfold oexB at h
  split at h
  · rename_i dd cd sl lk
    split at h
    · rename_i C2 bm k0 k1 k2 k3 n k5 em es
      obtain ⟨h1, h⟩ := and2 h
      obtain ⟨h2, h⟩ := and2 h
      obtain ⟨h3, h⟩ := and2 h
      obtain ⟨h4, h5⟩ := and2 h
      have e1 := eq_of_beq h1
      have e2 := eq_of_beq h2
      subst e1 e2
      have es2 : sl = #[k0, k1, k2, k3, some (.builtin "ValueError.__new__"), k5] := by
        cases sl; simp at es; rw [es]
      subst es2
      obtain ⟨nm, bs, mro, ns, qn, hd, sn, sub, ab, col, del⟩ := cd
      have e3 : mro = .ref C2 :: bm := em
      have e4 : hd = true := h4
      have e5 : del = false := by simpa using h3
      subst e3 e4 e5
      exact ⟨nm, qn, ns, bs, bm, sn, sub, ab, col, dd, k0, k1, k2, k3, k5, lk, h5⟩
    · cases h
  · cases h
theorem Tab.xc_ok {t : Tab} {c : Nat} {fs : List Str} {P : Program} {w : World} {K : PySem.W.Frag} {mg : Str → Option Value} {base : Heap} {x : Str} (h : t.xcC c fs K = true) (hx : t.names.getD c Str.empty = x) (hm : mg x = some (.ref (He.ga K x))) (fl : t.flds.getD c [] = fs.reverse) (few : fs.length ≤ 1000)
    (F : ∃ ps, FnOk P w K mg base (L2.CX P w) 1 (He.fAd K (x, some "__init__")) (fdA K (x, some "__init__")) ps (spX K fs) ∧ Binds K (fdA K (x, some "__init__")) ps []) : XcC P w K mg base (t.ct K) x c fs := by
  subst hx
  obtain ⟨h1, h⟩ := and2 h
  obtain ⟨h2, h⟩ := and2 h
  obtain ⟨h3, h⟩ := and2 h
  obtain ⟨h4, h⟩ := and2 h
  obtain ⟨h5, h⟩ := and2 h
  obtain ⟨h6, h⟩ := and2 h
  obtain ⟨h7, h8⟩ := and2 h
  exact ⟨hm, ⟨oexB_ok h1, of_decide_eq_true h2, of_decide_eq_true h3, of_decide_eq_true h4, h5⟩, fun f hf => of_decide_eq_true (List.all_eq_true.mp h6 f hf), fl, few, of_decide_eq_true h7, of_decide_eq_true h8, F⟩
theorem Tab.mk_ok {t : Tab} {c : Nat} {K : PySem.W.Frag} {x : Str} (h : t.mkC c K = true) (hx : t.names.getD c Str.empty = x) : Mk K ((t.ct K).addr c) (He.fAd K (x, some "__init__")) := by
  subst hx
  obtain ⟨h1, h⟩ := and2 h
  obtain ⟨h2, h⟩ := and2 h
  obtain ⟨h3, h4⟩ := and2 h
  exact ⟨h1, of_decide_eq_true h2, h3, h4⟩
theorem noSysB_ok {K : PySem.W.Frag} (h : noSysB K = true) : NoSys K := by
  unfold noSysB at h
  split at h
  · rename_i o e
    exact ⟨o, e, by simpa using h⟩
  · cases h
theorem lookup_mem {α β : Type} [BEq α] [LawfulBEq α] : ∀ {l : List (α × β)} {a : α} {b : β}, l.lookup a = some b → (a, b) ∈ l
  | [], _, _, h => by cases h
  | (x, y) :: l, a, b, h => by
    rw [List.lookup_cons] at h
    split at h
    · rename_i e
      cases h
      rw [eq_of_beq e]
      exact List.mem_cons_self
    · exact List.mem_cons_of_mem _ (lookup_mem h)
theorem noLstB_ok {K : PySem.W.Frag} (h : noLstB K = true) : NoLst K := fun b o e => by
  have q := List.all_eq_true.mp h _ (lookup_mem e)
  simpa using q

def obsX (ex : List Fk) (fn : List He.DefD) (K : PySem.W.Frag) : He.AlD := ((ex.all fun g => g K) && fn.all fun d => d.ok K, fn.map fun d => He.fnW K d.at_)
def SaysX (ex : List Fk) (fn : List He.DefD) (K : PySem.W.Frag) : Prop := obsX ex fn K = He.valD fn
section
variable {ex : List Fk} {fn : List He.DefD} {K : PySem.W.Frag}
theorem SaysX.fact (c : SaysX ex fn K) (i : Nat) {g : Fk} (h : ex[i]? = some g := by rfl) : g K = true :=
  List.all_eq_true.mp (and2 (show ((ex.all fun g => g K) && fn.all fun d => d.ok K) = true from congrArg (fun z : He.AlD => z.1) c)).1 g (List.mem_of_getElem? h)
theorem SaysX.def_ (c : SaysX ex fn K) (i : Nat) {d : He.DefD} (h : fn[i]? = some d := by rfl) : ∃ fd, FunD K d.name d.qual d.params d.body d.scope (d.dvs K) (d.kws K) (He.fAd K d.at_) fd := by
  have c1 := (and2 (show ((ex.all fun g => g K) && fn.all fun d => d.ok K) = true from congrArg (fun z : He.AlD => z.1) c)).2
  have e1 : fn.map (fun d => He.fnW K d.at_) = fn.map He.DefD.val := congrArg (fun z : He.AlD => z.2) c
  have e2 : (fn.map fun d => He.fnW K d.at_)[i]? = (fn.map He.DefD.val)[i]? := by rw [e1]
  rw [List.getElem?_map, List.getElem?_map, h] at e2
  exact He.DefD.funD (Option.some.inj e2) (List.all_eq_true.mp c1 d (List.mem_of_getElem? h))
end
end DL

set_option maxHeartbeats 2000000
namespace DL
open PySem PySem.Spec PyProof.Rows L2
theorem pNo.mono : MonoP pNo := fun _ _ _ _ _ _ _ _ h => h
section
variable {P : Program} {w : World} {K : PySem.W.Frag} {mg : Str → Option Value} {base : Heap} {C : Ct} {k : Nat} {f : Addr} {fd : FuncData} {ps : List Str}
end
end DL

set_option maxHeartbeats 2000000
namespace DL
open PySem PySem.Spec PyProof.Rows L2

def selfD (c : Nat) (m : Mem) (x : Lv) : Option Dat := match x with
  | .f (.ins c' xs) => if c' = c then some (.ins c' xs) else none
  | .f (.obj k) => match m[k]? with
    | some (.ins c' _) => if c' = c then some (.obj k) else none
    | _ => none
  | _ => none
section
variable {C : Ct} {w : World} {K : PySem.W.Frag} {B n : Nw} {m : Mem} {env : Env'} {σ : L2.St} {c : Nat}
theorem self_ok {v : V} {x : Lv} {d : Dat} (ok : Ok C w K B n env m σ) (h : LvOk C w K n env σ v x) (e : selfD c m x = some d) :
    ∃ a dx vs, v = .ref a ∧ n.H a = some (.ins (C.addr c) dx ((C.flds c).zip vs)) ∧ FzN C w K n (.ref a) d := by
  cases x with
  | o i => cases e
  | f y =>
    cases y with
    | ins c' xs =>
      unfold selfD at e
      simp only at e
      split at e
      · rename_i hc
        subst hc
        cases e
        have h' : FzN C w K n v (.ins c' xs) := h
        cases h' with
        | ins g l r => exact ⟨_, _, _, rfl, ok.good.sub _ _ g, .ins g l r⟩
      · cases e
    | obj k =>
      unfold selfD at e
      simp only at e
      split at e
      · rename_i c' xs hm
        split at e
        · rename_i hc
          subst hc
          cases e
          have h' : FzN C w K n v (.obj k) := h
          cases h' with
          | obj ha =>
            obtain ⟨⟨dx, vs, e1, _, _⟩, _⟩ := ok.good.at_ k _ _ hm ha
            exact ⟨_, dx, vs, rfl, e1, .obj ha⟩
        · cases e
      · cases e
    | _ => cases e
end
abbrev noX : QX := fun _ _ _ => False
section
variable {X : Cx} {CX : CXT} {k : Nat} {f : Addr} {fd : FuncData} {ps : List Str} {sp : Sp} {E : XK}
theorem runA {A' : Around} {pins : List (Addr × Obj)} {σ : L2.St} {H : Hp} {s : Shared} {Q : VK} {us : List Value} {vs : List V} (F : FnOk X.prog X.w X.K X.mg X.base CX k f fd ps sp) (room : Room k A') (e0 : Env0 X.prog X.w X.K X.mg X.base A' X.stack s H)
    (hb : Binds X.K fd ps []) (px : PassesAt CX X σ E) (I : Inv X pins σ H s) (r : Vals vs us) (h : sp vs H Q E) : wpAny (model X.prog X.w) A' (call (.ref f) us) (EP X pins σ Q) X.xe s := by
  have le : us.length = ps.length := by rw [← r.length]; exact F.len _ _ _ _ h
  have b := hb s us I.kIn (by rw [List.append_nil]; exact le)
  rw [List.append_nil] at b
  refine wpAny_call (codeAny_mono (F.run A' X.stack s H ⟨us, []⟩ us vs Q E room e0 b r h) fun r s' q => ?_)
  cases r with
  | error e => exact px pins H s e s' I q
  | ok z =>
    cases z with
    | ret u => exact I.after q
    | next => exact False.elim q
    | brk => exact False.elim q
    | cont => exact False.elim q
theorem pass_no {σ : L2.St} : PassesAt (L2.CX X.prog X.w) X σ (fun _ _ _ => False) := fun pins H s e s' I h => by
  obtain ⟨_, _, _, _, _, _, _, _, _, _, _, _, z⟩ := h
  exact z.elim
end
structure MeC (P : Program) (w : World) (K : PySem.W.Frag) (mg : Str → Option Value) (base : Heap) (C : Ct) (c : Nat) (y x : Str) (k : Nat) (ps : List Str) (p : DSp) : Prop where
  cls : Cls K (C.addr c)
  me : Meth K (C.addr c) x (He.fAd K (y, some x))
  no : x ∉ C.flds c
  F : DF P w K mg base C k (He.fAd K (y, some x)) (fdA K (y, some x)) ps p
  hb : Binds K (fdA K (y, some x)) ps []
  hl : ∀ ds m Q E, p ds m Q E → ds.length = ps.length
theorem zip_none {fs : List Str} {vs : List V} {x : Str} (h : x ∉ fs) : (fs.zip vs).lookup x = none := by
  induction fs generalizing vs with
  | nil => rfl
  | cons f fs ih =>
    cases vs with
    | nil => rfl
    | cons v vs =>
      rw [List.zip_cons_cons, List.lookup_cons]
      have hne : (x == f) = false := by
        have : x ≠ f := fun z => h (by rw [z]; exact List.mem_cons_self)
        simpa using this
      rw [hne]
      exact ih fun z => h (List.mem_cons_of_mem _ z)
section
variable {X : Cx} {C : Ct} {B : Nw} {k j c : Nat} {ps : List Str} {p : DSp} {EX : QXe} {x y : Str} {pos apos : Pos} {o e : Expr} {es : List Expr} {d : TD} {da : TAd}
def dMeth (c : Nat) (p : DSp) (EX : QXe) (d : TD) (da : TAd) : TD := fun env m Q => d env m fun x m1 => match selfD c m1 x with
  | some s => da env m1 fun xs m2 => match frs xs with
    | some ds => p (s :: ds) m2 (fun r m3 => Q (.f r) m3) (fun c ys m3 => EX c ys env m3)
    | none => False
  | none => False
theorem dMeth.mono (hp : MonoP p) (hd : MonoD d) (ha : MonoA da) : MonoD (dMeth c p EX d da) := fun env m Q Q' i h => by
  refine hd _ _ _ _ (fun x m1 h1 => ?_) h
  split at h1
  · refine ha _ _ _ _ (fun xs m2 h2 => ?_) h1
    split at h2
    · exact hp _ _ _ _ _ _ (fun r m3 => i _ _) (fun _ _ _ z => z) h2
    · exact h2
  · exact h1
theorem err_at {n1 n2 : Nw} {m1 : Mem} {env : Env'} {σ : L2.St} (ok : Ok C X.w X.K B n1 env m1 σ) {c : Nat} {ys : List Dat} {m2 : Mem} (l : n1.le n2) (h : EX c ys env m2) : AftX C X.w X.K n2 (atX C B X.w X.K EX σ) c ys m2 :=
  fun n3 dx us g l3 hx hu => ⟨n3, env, m2, c, ys, us, rfl, ok.go g (l.trans l3), rfl, XAt.base (ok.base.trans l) hx, hu, h⟩
theorem de_meth {pl : Sem Bool} (M : MeC X.prog X.w X.K X.mg X.base C c y x j ps p) (ho : DE X C B o d) (hr : Room k X.A) (h : j ≤ k) (ha : DA X C B (e :: es) da) (px : PassD X C B EX)
    (hst : starEach (e :: es) X.env = (false, eval e X.env) :: starEach es X.env := by rfl) (hpl : (backTo pos (starEach es X.env)).any (·.1) = false := by rfl)
    (ht : eval (.Call (.Attribute o x apos) (e :: es) [] pos) X.env = (do
        let ov ← eval o X.env
        standAt apos.atName
        let (f, first) ← holding [ov] (getMethod ov x pl)
        callWith pos f first (backTo pos (starEach (e :: es) X.env)) (backToKw pos (keywordEach [] X.env))) := by rfl) :
    DE X C B (.Call (.Attribute o x apos) (e :: es) [] pos) (dMeth c p EX d da) := by
  refine ⟨dMeth.mono M.F.mono ho.mono ha.mono, ⟨fun pins s σ H Q I h0 => ?_⟩⟩
  obtain ⟨n, env, m, rfl, ok, q⟩ := h0
  refine PySem.W.methodCall_KW (pl := pl) (thn (ho.run.run pins s σ n.H (fun v H1 => ∃ n1 m1 sd a dx vs, n1.H = H1 ∧ Good C X.w X.K n1 m1 ∧ n.le n1 ∧ v = .ref a ∧ n1.H a = some (.ins (C.addr c) dx ((C.flds c).zip vs)) ∧ FzN C X.w X.K n1 (.ref a) sd ∧
      da env m1 fun xs m2 => match frs xs with
        | some ds => p (sd :: ds) m2 (fun r m3 => AftL C X.w X.K n env σ Q (.f r) m3) (fun c ys m3 => EX c ys env m3)
        | none => False) I ⟨n, env, m, rfl, ok, ho.mono _ _ _ _ (fun z m1 q1 n1 v g1 l1 lz => ?_) q⟩) fun u s1 ⟨v, H1, I1, rv, n1, m1, sd, a, dx, vs, eH, g1, l1, ev, ea, fz, q1⟩ => ?_) ht
  · split at q1
    · rename_i sd hs
      obtain ⟨a, dx, vs, e1, e2, e3⟩ := self_ok (ok.go g1 l1) lz hs
      exact ⟨n1, m1, sd, a, dx, vs, rfl, g1, l1, e1, e2, e3, q1⟩
    · exact q1.elim
  · subst eH ev
    cases rv
    refine getmeth_ok I1 ea M.cls M.me (zip_none M.no) ?_
    refine PySem.W.callWith_K (first := [.ref a]) (h₀ := X.base) I1.ok.mod.kin M.me.kp (thn (ha.run.run pos pins s1 σ n1.H (fun vs H2 => ∃ n2 m2 ds, n2.H = H2 ∧ Good C X.w X.K n2 m2 ∧ n1.le n2 ∧ FzAllN C X.w X.K n2 vs ds ∧
      p (sd :: ds) m2 (fun r m3 => AftL C X.w X.K n env σ Q (.f r) m3) (fun c ys m3 => EX c ys env m3)) I1 ⟨n1, env, m1, rfl, ok.go g1 l1, ha.mono _ _ _ _ (fun xs m2 q2 n2 vs2 g2 l2 lxs => ?_) q1⟩)
        fun us s2 ⟨vs2, H2, I2, r2, n2, m2, ds, eH2, g2, l2, hz, q2⟩ => ⟨I2.kIn, ?_⟩) hst hpl
    · split at q2
      · rename_i ds hd
        exact ⟨n2, m2, ds, rfl, g2, l2, frs_ok lxs hd, q2⟩
      · exact q2.elim
    · subst eH2
      refine runA (us := .ref a :: us) (vs := .ref a :: vs2) M.F.ok (hr.mono h) I2.env0 M.hb (px σ) I2 (.cons rfl r2) ?_
      refine ⟨?_, n2, m2, sd :: ds, rfl, g2, .cons (FzN.le fz l2) hz, M.F.mono _ _ _ _ _ _ (fun r m3 q3 n3 v3 g3 l3 lv => q3 n3 v3 g3 (l1.trans (l2.trans l3)) lv) (fun c ys m3 q3 => err_at ok (l1.trans l2) q3) q2⟩
      have e1 := M.hl _ _ _ _ q2
      rw [List.length_cons] at e1 ⊢
      rw [hz.length]; exact e1
structure PrC (P : Program) (w : World) (K : PySem.W.Frag) (mg : Str → Option Value) (base : Heap) (C : Ct) (c : Nat) (x : Str) (k : Nat) (p : DSp) : Prop where
  cls : Cls K (C.addr c)
  ex : ∃ pr g fd ps, PropOf K (C.addr c) x pr g ∧ DF P w K mg base C k g fd ps p ∧ Binds K fd ps [] ∧ ps.length = 1
  hl : ∀ ds m Q E, p ds m Q E → ds.length = 1
def dProp (c : Nat) (p : DSp) (d : TD) : TD := fun env m Q => d env m fun x m1 => match selfD c m1 x with
  | some s => p [s] m1 (fun r m2 => Q (.f r) m2) noX
  | none => False
theorem dProp.mono (hp : MonoP p) (hd : MonoD d) : MonoD (dProp c p d) := fun env m Q Q' i h => hd _ _ _ _ (fun x m1 h1 => by
  split at h1
  · exact hp _ _ _ _ _ _ (fun r m3 => i _ _) (fun _ _ _ z => z) h1
  · exact h1) h
theorem de_prop (M : PrC X.prog X.w X.K X.mg X.base C c x j p) (ho : DE X C B o d) (hr : Room k X.A) (h : j + 1 ≤ k) (hab : attributeBase o x X.env (eval o X.env) = eval o X.env := by rfl) : DE X C B (.Attribute o x pos) (dProp c p d) := by
  obtain ⟨pr, g, fd, ps, hp, F, hb, hps⟩ := M.ex
  refine ⟨dProp.mono F.mono ho.mono, imp (pe_prop ho.run M.cls hp F.ok (hr.mono h) hb .nil (E := fun _ _ _ => False) (fun pins σ H s e s' I z => (pass_no (X := X.nox) (σ := σ) pins H s e s' I z)) hab) ?_⟩
  rintro σ H Q ⟨n, env, m, rfl, ok, q⟩
  refine ⟨n, env, m, rfl, ok, ho.mono _ _ _ _ (fun z m1 q1 n1 v g1 l1 lz => ?_) q⟩
  split at q1
  · rename_i sd hs
    obtain ⟨a, dx, vs, e1, e2, e3⟩ := self_ok (ok.go g1 l1) lz hs
    refine ⟨a, dx, _, e1, e2, by rw [hps]; rfl, n1, m1, [sd], rfl, g1, .cons e3 .nil, F.mono _ _ _ _ _ _ (fun r m3 q3 n3 v3 g3 l3 lv => q3 n3 v3 g3 (l1.trans l3) lv) (fun _ _ _ z => z.elim) q1⟩
  · exact q1.elim
structure DunC (P : Program) (w : World) (K : PySem.W.Frag) (mg : Str → Option Value) (base : Heap) (C : Ct) (c : Nat) (x : Str) (k : Nat) (p : DSp) : Prop where
  ex : ∃ f fd ps, PySem.W.findIn K (.ref (C.addr c)) x = some (some (.ref f)) ∧ PySem.W.isFn K (.ref f) = true ∧ DF P w K mg base C k f fd ps p ∧ Binds K fd ps [] ∧ ∀ ds m Q E, p ds m Q E → ds.length = ps.length
theorem run_dun {A' : Around} {pins : List (Addr × Obj)} {σ : L2.St} {s : Shared} {n : Nw} {m : Mem} {us : List Value} {vs : List V} {ds : List Dat} {f : Addr} {fd : FuncData} {Q : QD} {Qv : VK}
    (F : DF X.prog X.w X.K X.mg X.base C j f fd ps p) (room : Room j A') (e0 : Env0 X.prog X.w X.K X.mg X.base A' X.stack s n.H) (hb : Binds X.K fd ps []) (hl : ∀ ds m Q E, p ds m Q E → ds.length = ps.length) (I : Inv X pins σ n.H s) (g : Good C X.w X.K n m)
    (r : Vals vs us) (hz : FzAllN C X.w X.K n vs ds) (q : p ds m Q noX) (hQ : ∀ d m', Q d m' → AftD C X.w X.K n Qv d m') : wpAny (model X.prog X.w) A' (call (.ref f) us) (EP X pins σ Qv) X.xe s :=
  runA F.ok room e0 hb pass_no I r ⟨by rw [hz.length]; exact hl _ _ _ _ q, n, m, ds, rfl, g, hz, F.mono _ _ _ _ _ _ hQ (fun _ _ _ z => z.elim) q⟩
def oLenI (c : Nat) (p : DSp) : OpN := fun env m xs Q => match xs with
  | [x] => match selfD c m x with
    | some s => p [s] m (fun r m' => match r with
      | .int i => (0 ≤ i ∧ i < 2 ^ 63) ∧ Q (.int i) m'
      | _ => False) noX
    | none => False
  | _ => False
theorem oLenI.mono (hp : MonoP p) : MonoN (oLenI c p) := fun env m xs Q Q' i h => by
  unfold oLenI at h ⊢
  split at h
  · split at h
    · refine hp _ _ _ _ _ _ (fun r m' z => ?_) (fun _ _ _ z => z) h
      cases r <;> first | exact z.elim | exact ⟨z.1, i _ _ z.2⟩
    · exact h
  · exact h
theorem call_lenI (M : DunC X.prog X.w X.K X.mg X.base C c "__len__" j p) (hr : Room k X.A) (h : j + 1 ≤ k) : CallD X C (.builtin "len") (oLenI c p) := by
  obtain ⟨f, fd, ps, hs, hf, F, hb, hl⟩ := M.ex
  refine ⟨oLenI.mono F.mono, fun pins s σ H xs us Q I rv q => ?_⟩
  obtain ⟨B, n, env, m, σ', ls, rfl, ok, lxs, q⟩ := q
  unfold oLenI at q
  split at q
  · split at q
    · rename_i x sd hsd
      obtain ⟨v, rfl, lx⟩ := lxs.one
      obtain ⟨a, dx, vs, rfl, e2, e3⟩ := self_ok ok lx hsd
      obtain ⟨u, rfl⟩ : ∃ u, us = [u] := by cases rv with | cons _ r => cases r; exact ⟨_, rfl⟩
      cases rv with
      | cons ru _ =>
        cases (show u = Value.ref a from ru)
        obtain ⟨mA, J, _⟩ := ins_get I.hok e2
        obtain ⟨od, J, _⟩ := J.look
        obtain ⟨mf, hF⟩ := I.fr
        refine PySem.W.len_K hF I.ok.mod.kin J hs hf (wpAny_mono (run_dun (A' := X.A.in1) (us := [.ref a]) (vs := [.ref a]) F (hr.mono h).in1 I.env0.in1 hb hl I ok.good (.cons rfl .nil) (.cons e3 .nil) q (Qv := fun v H' => ∃ i : Int, v = .int i ∧ (0 ≤ i ∧ i < 2 ^ 63) ∧ Q (.int i) H') fun d m' z => ?_) (fun r s' z => ?_) fun _ _ z => z)
        · cases d with
          | int i =>
            intro n2 v2 g2 l2 lz
            cases lz
            exact ⟨i, rfl, z.1, z.2 n2 _ g2 l2 (.int i)⟩
          | _ => exact z.elim
        · obtain ⟨v2, H2, I2, r2, i, rfl, hi, z⟩ := z
          obtain ⟨t, rfl⟩ := r2
          exact ⟨hi, .int i, H2, I2.tok _, ⟨_, rfl⟩, z⟩
    · exact q.elim
  · exact q.elim
def oInI (g : Bool → Bool) (c : Nat) (p : DSp) : Op2 := fun env m x y Q => match selfD c m y, x with
  | some s, .f d => p [s, d] m (fun r m' => match r with
    | .bl b => Q (.bl (g b)) m'
    | _ => False) noX
  | _, _ => False
theorem oInI.mono {g : Bool → Bool} (hp : MonoP p) : Mono2 (oInI g c p) := fun env m x y Q Q' i h => by
  unfold oInI at h ⊢
  split at h
  · refine hp _ _ _ _ _ _ (fun r m' z => ?_) (fun _ _ _ z => z) h
    cases r <;> first | exact z.elim | exact i _ _ z
  · exact h.elim
def oEqI (C : Ct) (c : Nat) (cs : List Nat) (p : DSp) : Op2 := fun env m x y Q => match selfD c m x, y with
  | some s, .f d => match derI env m (.f d) with
    | some e => ((∃ t, tyN e = some t) ∨ ∃ c' ys, e = .ins c' ys ∧ c' ∈ cs ∧ C.own c' = true) ∧ p [s, d] m (fun r m' => match r with
      | .bl b => Q (.bl b) m'
      | _ => False) noX
    | none => False
  | _, _ => False
theorem oEqI.mono {cs : List Nat} (hp : MonoP p) : Mono2 (oEqI C c cs p) := fun env m x y Q Q' i h => by
  unfold oEqI at h ⊢
  split at h
  · split at h
    · refine ⟨h.1, hp _ _ _ _ _ _ (fun r m' z => ?_) (fun _ _ _ z => z) h.2⟩
      cases r <;> first | exact z.elim | exact i _ _ z
    · exact h.elim
  · exact h.elim
def oStrI (c : Nat) (p : DSp) : OpN := fun env m xs Q => match xs with
  | [x] => match selfD c m x with
    | some s => p [s] m (fun r m' => match r with
      | .str z => Q (.str z) m'
      | _ => False) noX
    | none => False
  | _ => False
theorem oStrI.mono (hp : MonoP p) : MonoN (oStrI c p) := fun env m xs Q Q' i h => by
  unfold oStrI at h ⊢
  split at h
  · split at h
    · refine hp _ _ _ _ _ _ (fun r m' z => ?_) (fun _ _ _ z => z) h
      cases r <;> first | exact z.elim | exact i _ _ z
    · exact h
  · exact h
def oBinI (c : Nat) (p : DSp) : Op2 := fun env m x y Q => match selfD c m x, selfD c m y with
  | some s, some s2 => p [s, s2] m (fun r m' => match r with
    | .ins c' ys => Q (.ins c' ys) m'
    | _ => False) noX
  | _, _ => False
theorem oBinI.mono (hp : MonoP p) : Mono2 (oBinI c p) := fun env m x y Q Q' i h => by
  unfold oBinI at h ⊢
  split at h
  · refine hp _ _ _ _ _ _ (fun r m' z => ?_) (fun _ _ _ z => z) h
    cases r <;> first | exact z.elim | exact i _ _ z
  · exact h.elim
end
end DL

set_option maxHeartbeats 3200000
namespace DL
open PySem PySem.Spec PyProof.Rows L2

def setObj0 (led : Bool) : Obj := { cls := .type "set", dict := none, data := .set #[] 0 (.fresh 0 0 led) }
section
variable {prog : Program} {w : World} {A : Around} {E : Value → Shared → Prop} {S : Shared}
open AutoSeq1 MeetsSeq MeetsSeq2 MeetsSeq3 SeqRoads2 in
theorem set_of_tuple {t : Addr} {its : Array Value} {is : List Int} {Q : Value → Shared → Prop} (calm : A.handled = none) (ht : S.heap.IsTuple t its) (hi : PyProof.Rows.IntsAre its.toList is) (room : its.size + 1 < scanBound)
    (fin : ∀ (h' : Heap) (tk : Nat), h'.SetOf (intKind prog w) S.heap.objs.size (fun k => (PyProof.Rows.firstMet (fun i => is.getD i 0) its.size).any (· == k)) (PyProof.Rows.firstMet (fun i => is.getD i 0) its.size).length →
      (∀ b o, b < S.heap.objs.size → S.heap.get? b = some o → h'.get? b = some o) → Q (.ref S.heap.objs.size) { S with heap := h', toks := tk }) :
    wpAny (model prog w) A (call (.type "set") [.ref t]) Q E S := by
  obtain ⟨mc, mt, mro⟩ := PySem.F.called_set.mro
  have c1 := PySem.F.called_set.made
  have c2 := PySem.F.called_set.sub
  refine wpAny_call (codeAny_of_tree ?_)
  show wpAny _ _ (callAny (.type "set") _) _ _ _
  refine wpAny_pure ⟨Code.quiet_builtin _ (by decide +kernel), codeAny_builtin PySem.F.entry_type_call ?_⟩
  rw [Around.under_plain (weight_type_call_type "set" [.ref t] []) rfl]
  have c3 := PySem.F.called_set.notType
  have c4 := PySem.F.called_set.canCreate
  have c5 := PySem.F.typeCall_set_1 (.ref t)
  repeat (any_goals (first | assumption | wp_step))
  refine codeAny_mono (code_set_new_1 (.ref t) (E := E) (Q₁ := fun x s₁ => ∃ led : Bool, x = .ref S.heap.objs.size ∧ s₁ = { S with heap := S.heap.push (setObj0 led) }) fun led => ⟨led, rfl, rfl⟩) fun r s₁ hr => ?_
  cases r with
  | error e => exact hr
  | ok z =>
    cases z with
    | ret x =>
      obtain ⟨led, rfl, rfl⟩ := hr
      have at0 : (S.heap.push (setObj0 led)).get? S.heap.objs.size = some (setObj0 led) := Heap.get?_push_size _ rfl
      have ty0 : Shared.TypeIs { S with heap := S.heap.push (setObj0 led) } (.ref S.heap.objs.size) "set" := ⟨_, at0, rfl⟩
      have c6 := PySem.F.called_set.init.lookup
      have c7 := PySem.F.called_set.init.bind (.ref S.heap.objs.size)
      repeat (any_goals (first | assumption | wp_step))
      refine codeAny_mono (codeAny_call_builtin (R := wants (fun r s₂ => r = .none ∧ ∃ h' tk, s₂ = { S with heap := h', toks := tk } ∧
          h'.SetOf (intKind prog w) S.heap.objs.size (fun k => (PyProof.Rows.firstMet (fun i => is.getD i 0) its.size).any (· == k)) (PyProof.Rows.firstMet (fun i => is.getD i 0) its.size).length ∧
          (∀ b o, b < S.heap.objs.size → S.heap.get? b = some o → h'.get? b = some o)) E) PySem.F.called_set.init.plain PySem.F.entry_set_init (check_set_init_1 ty0 ?_)) fun r₂ s₂ hr₂ => ?_
      · obtain ⟨ot, e1, e2, nl, e3⟩ := ht
        obtain ⟨o1, o2, o3, o4⟩ := ot
        simp only at e2 e3
        subst e2; subst e3
        have at1 : (S.heap.push (setObj0 led)).get? t = some { cls := .type "tuple", dict := o2, data := .seq its nl, slots := o4 } := Heap.get?_push_of_some _ e1
        have c8 := PySem.F.sub_tuple_set
        have c9 := PySem.F.sub_tuple_frozenset
        have c10 : (Value.type "tuple" == Value.type "dict") = false := by decide
        have tup1 : (S.heap.push (setObj0 led)).IsTuple t its := ⟨_, at1, rfl, nl, rfl⟩
        unfold Builtin.«set.__init__» noKeywords Builtin.Frozenset.updateFrom
        generalize hPI : pyIter = PI
        wp_walk
        subst hPI
        refine wpAny_pyIter_tuple tup1 ?_
        refine wpAny_bind (wpAny_runValue ?_)
        have lt0 : t < S.heap.objs.size := Heap.lt_size e1
        have calm3 : A.in1.in1.in1.handled = none := by simp [calm]
        have ne1 : t ≠ (S.heap.push (setObj0 led)).objs.size := by
          rw [Heap.size_push]; exact Nat.ne_of_lt (Nat.lt_succ_of_lt lt0)
        have out : S.heap.objs.size ∉ [(S.heap.push (setObj0 led)).objs.size, t] := by
          rw [Heap.size_push]; simp only [List.mem_cons, List.mem_singleton, List.not_mem_nil, or_false, not_or]
          exact ⟨Nat.ne_of_lt (Nat.lt_succ_self _), Nat.ne_of_gt lt0⟩
        have val : ∀ (i : Nat) (v : Value), its[i]? = some v → ∃ k, v = .int ((fun i => is.getD i 0) i) k := fun i v hv =>
          PyProof.Rows.IntsAre.int_at hi i v (by rw [Array.getElem?_toList]; exact hv)
        refine PyProof.Rows.codeAny_set_update_loopS ((Walks.tuple calm3 _ t ne1 its).toS) S.heap.objs.size
          out (fun i => is.getD i 0) val room (its.size - 0) 0 _ (by omega) (Nat.zero_le _)
          ⟨⟨_, Heap.get?_push_size _ rfl, rfl, rfl⟩, (tup1.push _)⟩ ?a0 ?a1
        case a0 =>
          have at2 : ((S.heap.push (setObj0 led)).push { cls := .type "tuple_iterator", data := .fields #[.ref t, .int 0 0] }).get? S.heap.objs.size = some (setObj0 led) := Heap.get?_push_of_some _ at0
          exact PyProof.Rows.SetOf_congr ((PyProof.Rows.setObjOf_fresh (knd := intKind prog w) led).setOf at2 (by unfold scanBound; omega)) (fun _ => rfl) rfl
        case a1 =>
          intro s' hm hS'
          obtain ⟨h', g', d', tk', os'⟩ := s'
          have eg : g' = S.gens := hm.gens
          have ed : d' = S.drawn := hm.drawn
          have eo : os' = S.os := hm.os
          subst eg ed eo
          show wpAny _ _ _ _ _ _
          refine wpAny_pure ?_
          show wpAny _ _ (ret Value.none) _ _ _
          refine wpAny_pure ⟨rfl, h', tk', rfl, hS', fun b o hb e => ?_⟩
          have n1 : b ≠ S.heap.objs.size := Nat.ne_of_lt hb
          have n2 : b ≠ (S.heap.push (setObj0 led)).objs.size := by
            rw [Heap.size_push]; exact Nat.ne_of_lt (Nat.lt_succ_of_lt hb)
          exact hm.heap b o (by simp only [List.mem_cons, List.mem_singleton, List.not_mem_nil, or_false, not_or]; exact ⟨n1, n2⟩) (Heap.get?_push_of_some _ (Heap.get?_push_of_some _ e))
      · cases r₂ with
        | error e => exact hr₂
        | ok z₂ =>
          cases z₂ with
          | ret r =>
            obtain ⟨rfl, h', tk, rfl, hS', hk'⟩ := hr₂
            repeat (any_goals (first | assumption | wp_step))
            exact fin _ _ hS' hk'
          | _ => exact hr₂.elim
    | _ => exact hr.elim
end
def dist (ns : List Int) : Nat := (PyProof.Rows.firstMet (fun i => ns.getD i 0) ns.length).length
section
variable {X : Cx} {C : Ct} {B : Nw} {a : Expr} {da : TD} {p p2 q pos : Pos}
def tLenSetA (K : PySem.W.Frag) (ta : TE) : TE := fun σ H Q => ta σ H fun x H1 => ∃ (l : Addr) (ns : List Int), x = .ref l ∧ (SqL K H1 l (ns.map V.int) ∨ SqT K H1 l (ns.map V.int)) ∧ ns.length ≤ 4000 ∧ Q (.int (dist ns : Nat)) H1
theorem pe_lenSetA {ta : TE} (hg : Gl X "len") (hm : X.mg "len" = none) (hg2 : Gl X "set") (hm2 : X.mg "set" = none) (ha : PE X a ta) (hc : X.calm = true := by rfl)
    (na : starEach [a] X.env = (false, eval a X.env) :: starEach [] X.env := by rfl) : PE X (.Call (.Name "len" p) [.Call (.Name "set" p2) [a] [] q] [] pos) (tLenSetA X.K ta) := by
  refine ⟨fun pins s σ H Q I h => ?_⟩
  refine Call_ (ld_blt I hg hm boot_len ?_)
  refine PyProof.Rows.callWith_builtin1 (PyProof.Rows.args_cons ?_ rfl) rfl rfl
  refine Call_ (ld_blt I hg2 hm2 boot_set ?_)
  refine PyProof.Rows.callWith_type1 (PyProof.Rows.args_cons (thn (ha.run pins s σ H _ I h) fun v s1 ⟨x, H1, I1, r1, z⟩ => PyProof.Rows.args_nil ?_) na) na rfl
  obtain ⟨l, ns, rfl, hq, hl, z⟩ := z
  cases r1
  have last : ∀ (its : List Value), Vals (ns.map V.int) its → ∀ (h' : Heap) (tk : Nat), h'.SetOf (intKind X.prog X.w) s1.heap.objs.size (fun k => (PyProof.Rows.firstMet (fun i => ns.getD i 0) its.toArray.size).any (· == k)) (PyProof.Rows.firstMet (fun i => ns.getD i 0) its.toArray.size).length →
      (∀ b o, b < s1.heap.objs.size → s1.heap.get? b = some o → h'.get? b = some o) →
      wpAny (model X.prog X.w) X.A (spliced (backTo pos (starEach [] X.env))) (fun vs s₂ => wpAny (model X.prog X.w) X.A (call (.builtin "len") (Value.ref s1.heap.objs.size :: vs)) (EP X pins σ Q) X.xe s₂) X.xe { s1 with heap := h', toks := tk } := fun its r h' tk hS hk => by
    refine PyProof.Rows.args_nil ?_
    have sz : its.toArray.size = ns.length := by rw [List.size_toArray, ← r.length, List.length_map]
    rw [sz] at hS
    obtain ⟨o, es, ep, t, ho, hex, hd, _, _, _, hf, hn⟩ := hS
    have I2 : Inv X pins σ H1 { s1 with heap := h', toks := tk } := I1.kept fun b o e => hk b o (Heap.lt_size e) e
    have le : (PyProof.Rows.firstMet (fun i => ns.getD i 0) ns.length).length ≤ ns.length := PyProof.Rows.firstMet_length_le _ _
    exact call_len_set ho hex hd hf (by rw [hn]; omega) ⟨.int (dist ns : Nat), H1, I2.tok _, ⟨_, by rw [hn]; rfl⟩, z⟩
  rcases hq with hq | hq
  · obtain ⟨its, r, pl, hz⟩ := I1.list hq
    have sz : its.toArray.size = ns.length := by rw [List.size_toArray, ← r.length, List.length_map]
    exact call_set_list (I1.ok.hd hc) pl.isList (by simpa using RZ.intsAre_vals r) (by rw [sz]; unfold scanBound; omega) fun h' tk hS hk => last its r h' tk hS hk
  · obtain ⟨its, r, pl, hz⟩ := I1.tuple hq
    have sz : its.toArray.size = ns.length := by rw [List.size_toArray, ← r.length, List.length_map]
    exact set_of_tuple (I1.ok.hd hc) pl (by simpa using RZ.intsAre_vals r) (by rw [sz]; unfold scanBound; omega) fun h' tk hS hk => last its r h' tk hS hk
def dLenSet (d : TD) : TD := fun env m Q => d env m fun x m1 => match seqOf env m1 x with
  | some xs => match intsD xs with
    | some ns => ns.length ≤ 4000 ∧ Q (.f (.int (dist ns : Nat))) m1
    | none => False
  | none => False
theorem de_lenSet (hm : X.mg "len" = none) (hm2 : X.mg "set" = none) (ha : DE X C B a da) (hc : X.calm = true := by rfl) (hg : Gl X "len" := by rfl) (hg2 : Gl X "set" := by rfl)
    (na : starEach [a] X.env = (false, eval a X.env) :: starEach [] X.env := by rfl) : DE X C B (.Call (.Name "len" p) [.Call (.Name "set" p2) [a] [] q] [] pos) (dLenSet da) := by
  refine ⟨fun env m Q Q' i h => ha.mono _ _ _ _ (fun x m1 h1 => ?_) h, imp (pe_lenSetA hg hm hg2 hm2 ha.run hc na) ?_⟩
  · split at h1
    · split at h1
      · exact ⟨h1.1, i _ _ h1.2⟩
      · exact h1
    · exact h1
  rintro σ H Q ⟨n, env, m, rfl, ok, h⟩
  refine ⟨n, env, m, rfl, ok, ha.mono _ _ _ _ (fun x m1 h1 n1 v g1 l1 lx => ?_) h⟩
  split at h1
  · rename_i xs hx
    split at h1
    · rename_i ns hn
      obtain ⟨a, vs, rfl, hs, hz⟩ := seq_ok (ok.go g1 l1) lx hx
      have e := ints_eq hn hz
      subst e
      exact ⟨a, ns, rfl, hs, h1.1, h1.2 n1 _ g1 l1 (.int _)⟩
    · exact h1.elim
  · exact h1.elim
end
end DL

set_option maxHeartbeats 2000000
namespace DL
open PySem PySem.Spec PyProof.Rows L2

theorem DefX.funD {K : PySem.W.Frag} {d : DefX} (e : fnY K (d.wh.ad K) = d.val) (c : d.ok K = true) : FunD K d.name d.qual d.params d.body d.scope [] [] (d.wh.ad K) (fdY K (d.wh.ad K)) := by
  obtain ⟨kp, c2⟩ := and2 c
  unfold fnY at e
  unfold fdY
  cases q : K.lookup (d.wh.ad K) with
  | none => rw [q] at c2; cases c2
  | some o =>
    obtain ⟨oc, od, dt, osl⟩ := o
    rw [q] at c2 e
    cases dt with
    | func fd =>
      obtain ⟨n1, n2, n3, n4, n5, n6, n7, n8, n9, n10, n11, n12, n13, n14, n15⟩ := fd
      have e2 : (some (n1, n2, n3, n4, n5, n6, n7, n15) : FnY) = some (d.name, d.qual, d.params, .stmts d.body, d.scope, mainGlobals, [], builtinsNs) := e
      simp only [Option.some.injEq, Prod.mk.injEq] at e2
      obtain ⟨h1, h2, h3, h4, h5, h6, h7, h8⟩ := e2
      subst h1 h2 h3 h4 h5 h6 h7 h8
      have c3 : (PySem.W.codeIn K n13 d.qual && (He.dflB K n8 [] && He.kwdB K n9 [])) = true := c2
      obtain ⟨k1, k2⟩ := and2 c3
      obtain ⟨k3, k4⟩ := and2 k2
      exact ⟨⟨oc, od, n8, n9, n10, n11, n12, n13, n14, osl, rfl, q, k1, He.dflB_ok k3, He.kwdB_ok k4⟩, kp⟩
    | _ => cases c2
section
variable {ex : List Fk} {fn : List DefX} {K : PySem.W.Frag}
theorem SaysY.fact (c : SaysY ex fn K) (i : Nat) {g : Fk} (h : ex[i]? = some g := by rfl) : g K = true :=
  List.all_eq_true.mp (and2 (show ((ex.all fun g => g K) && fn.all fun d => d.ok K) = true from congrArg (fun z : AlY => z.1) c)).1 g (List.mem_of_getElem? h)
theorem SaysY.def_ (c : SaysY ex fn K) (i : Nat) {d : DefX} (h : fn[i]? = some d := by rfl) : FunD K d.name d.qual d.params d.body d.scope [] [] (d.wh.ad K) (fdY K (d.wh.ad K)) := by
  have c1 := (and2 (show ((ex.all fun g => g K) && fn.all fun d => d.ok K) = true from congrArg (fun z : AlY => z.1) c)).2
  have e1 : fn.map (fun d => fnY K (d.wh.ad K)) = fn.map DefX.val := congrArg (fun z : AlY => z.2) c
  have e2 : (fn.map fun d => fnY K (d.wh.ad K))[i]? = (fn.map DefX.val)[i]? := by rw [e1]
  rw [List.getElem?_map, List.getElem?_map, h] at e2
  exact DefX.funD (Option.some.inj e2) (List.all_eq_true.mp c1 d (List.mem_of_getElem? h))
end
section
variable {P : Program} {w : World} {K : PySem.W.Frag} {mg : Str → Option Value} {base : Heap} {t : Tab} {c k : Nat} {y x : Str} {ps : List Str} {p : DSp}
theorem Tab.me_ok (h : t.meC c x K = true) (hy : t.names.getD c Str.empty = y) (no : x ∉ t.flds.getD c []) (F : DF P w K mg base (t.ct K) k (He.fAd K (y, some x)) (fdA K (y, some x)) ps p) (hb : Binds K (fdA K (y, some x)) ps [])
    (hl : ∀ ds m Q E, p ds m Q E → ds.length = ps.length) : MeC P w K mg base (t.ct K) c y x k ps p := by
  subst hy
  obtain ⟨h1, h⟩ := and2 h
  obtain ⟨h2, h⟩ := and2 h
  obtain ⟨h3, h4⟩ := and2 h
  exact ⟨clsB_ok h1, ⟨of_decide_eq_true h2, h3, h4⟩, no, F, hb, hl⟩
theorem Tab.du_ok (h : t.duC c x K = true) (hy : t.names.getD c Str.empty = y) (F : DF P w K mg base (t.ct K) k (He.fAd K (y, some x)) (fdA K (y, some x)) ps p) (hb : Binds K (fdA K (y, some x)) ps [])
    (hl : ∀ ds m Q E, p ds m Q E → ds.length = ps.length) : DunC P w K mg base (t.ct K) c x k p := by
  subst hy
  obtain ⟨h1, h2⟩ := and2 h
  exact ⟨_, _, _, of_decide_eq_true h1, h2, F, hb, hl⟩
theorem Tab.pr_ok (h : t.prC c x K = true) (hy : t.names.getD c Str.empty = y) (F : DF P w K mg base (t.ct K) k ((Wh.p y x).ad K) (fdY K ((Wh.p y x).ad K)) ps p) (hb : Binds K (fdY K ((Wh.p y x).ad K)) ps []) (h1 : ps.length = 1)
    (hl : ∀ ds m Q E, p ds m Q E → ds.length = 1) : PrC P w K mg base (t.ct K) c x k p := by
  subst hy
  obtain ⟨q1, h⟩ := and2 h
  obtain ⟨q2, h⟩ := and2 h
  obtain ⟨q3, h⟩ := and2 h
  obtain ⟨q4, q5⟩ := and2 h
  refine ⟨clsB_ok q1, ⟨_, _, _, _, ⟨of_decide_eq_true q2, of_decide_eq_true q3, of_decide_eq_true q4, ?_⟩, F, hb, h1⟩, hl⟩
  show ∃ rest, PySem.W.recIn K _ "property" = some (.ref (recF K "property" _) :: rest)
  unfold recF
  cases e : PySem.W.recIn K (He.fAd K (t.names.getD c Str.empty, some x)) "property" with
  | none => rw [e] at q5; cases q5
  | some l =>
    rw [e] at q5
    cases l with
    | nil => cases q5
    | cons a r =>
      cases a with
      | ref g => exact ⟨r, rfl⟩
      | _ => cases q5
end
end DL

set_option maxHeartbeats 2000000
namespace DL
open PySem PySem.Spec PyProof.Rows L2

abbrev TRd := Env' → Mem → (Int → Int → Mem → Prop) → Prop
def lR (C : Ct) (B : Nw) (w : World) (K : PySem.W.Frag) (d : TRd) : L2.St → Hp → (Int → Int → Hp → Prop) → Prop := fun σ H Q => ∃ n env m, n.H = H ∧ Ok C w K B n env m σ ∧ d env m fun a b m' => ∀ n', Good C w K n' m' → n.le n' → Q a b n'.H
structure DR (X : Cx) (C : Ct) (B : Nw) (e : Expr) (d : TRd) : Prop where
  mono : ∀ env m (Q Q' : Int → Int → Mem → Prop), (∀ a b m', Q a b m' → Q' a b m') → d env m Q → d env m Q'
  run : PRg X e (lR C B X.w X.K d)
def rRg1 (d : TD) : TRd := fun env m Q => d env m fun x m1 => match x with
  | .f (.int j) => Q 0 j m1
  | _ => False
def rRg2 (d de : TD) : TRd := fun env m Q => d env m fun x m1 => de env m1 fun y m2 => match x, y with
  | .f (.int i), .f (.int j) => Q i j m2
  | _, _ => False
section
variable {X : Cx} {C : Ct} {B : Nw} {a b e : Expr} {d de : TD} {r : TRd} {p pos : Pos}
theorem dr_1 (hm : X.mg "range" = none) (ha : DE X C B a d) (hg : Gl X "range" := by rfl) (na : starEach [a] X.env = (false, eval a X.env) :: starEach [] X.env := by rfl) : DR X C B (.Call (.Name "range" p) [a] [] pos) (rRg1 d) := by
  refine ⟨fun env m Q Q' i h => ha.mono _ _ _ _ (fun x m1 h1 => ?_) h, fun pins s σ H Q I q => prg_1 hg hm ha.run na pins s σ H Q I ?_⟩
  · split at h1
    · exact i _ _ _ h1
    · exact h1
  · obtain ⟨n, env, m, rfl, ok, q⟩ := q
    refine ⟨n, env, m, rfl, ok, ha.mono _ _ _ _ (fun x m1 h1 n1 v g1 l1 lx => ?_) q⟩
    split at h1
    · rename_i j
      cases (show FzN C X.w X.K n1 v (.int j) from lx)
      exact ⟨_, rfl, h1 n1 g1 l1⟩
    · exact h1.elim
theorem dr_2 (hm : X.mg "range" = none) (ha : DE X C B a d) (hb : DE X C B b de) (hg : Gl X "range" := by rfl) (na : starEach [a, b] X.env = (false, eval a X.env) :: starEach [b] X.env := by rfl) (nb : starEach [b] X.env = (false, eval b X.env) :: starEach [] X.env := by rfl)
    (hp : (backTo pos (starEach [b] X.env)).any (·.1) = false := by rfl) : DR X C B (.Call (.Name "range" p) [a, b] [] pos) (rRg2 d de) := by
  refine ⟨fun env m Q Q' i h => ha.mono _ _ _ _ (fun x m1 h1 => hb.mono _ _ _ _ (fun y m2 h2 => ?_) h1) h, fun pins s σ H Q I q => prg_2 hg hm ha.run hb.run na nb hp pins s σ H Q I ?_⟩
  · split at h2
    · exact i _ _ _ h2
    · exact h2
  · obtain ⟨n, env, m, rfl, ok, q⟩ := q
    refine ⟨n, env, m, rfl, ok, ha.mono _ _ _ _ (fun x m1 h1 n1 v g1 l1 lx => ?_) q⟩
    refine ⟨n1, env, m1, rfl, ok.go g1 l1, hb.mono _ _ _ _ (fun y m2 h2 n2 u g2 l2 ly => ?_) h1⟩
    split at h2
    · rename_i i j
      cases (show FzN C X.w X.K n1 v (.int i) from lx)
      cases (show FzN C X.w X.K n2 u (.int j) from ly)
      exact ⟨_, _, rfl, rfl, h2 n2 g2 (l1.trans l2)⟩
    · exact h2.elim
theorem fz_rg {C : Ct} {w : World} {K : PySem.W.Frag} {al : List Addr} {G : Hp} (i j : Int) : FzAll C w K al G (rgV i j) (rangeD i (j - i).toNat) := by
  unfold rgV rangeD
  generalize List.range (j - i).toNat = l
  induction l with
  | nil => exact .nil
  | cons k l ih => exact .cons (.int _) ih
def dTupRg (r : TRd) : TD := fun env m Q => r env m fun i j m1 => RgOk i j ∧ Q (.f (.tup (rangeD i (j - i).toNat))) m1
theorem de_tupRg (hm : X.mg "tuple" = none) (h : DR X C B e r) (hc : X.calm = true := by rfl) (hg : Gl X "tuple" := by rfl) (na : starEach [e] X.env = (false, eval e X.env) :: starEach [] X.env := by rfl) : DE X C B (.Call (.Name "tuple" p) [e] [] pos) (dTupRg r) := by
  refine ⟨fun env m Q Q' i q => h.mono _ _ _ _ (fun a b m1 h1 => ⟨h1.1, i _ _ h1.2⟩) q, imp (pe_tupRg hc hg hm h.run na) ?_⟩
  rintro σ H Q ⟨n, env, m, rfl, ok, q⟩
  refine ⟨n, env, m, rfl, ok, h.mono _ _ _ _ (fun i j m1 h1 n1 g1 l1 => ⟨h1.1, fun q hq => ?_⟩) q⟩
  obtain ⟨g3, l3⟩ := g1.freeze (o := .tup (rgV i j)) hq
  exact h1.2 _ _ g3 (l1.trans l3) (.tup (SqT.of upd_same) (FzAllN.le (fz_rg i j) l3))
def nLstRg (r : TRd) : TN := fun env m Q => r env m fun i j m1 => RgOk i j ∧ Q (rangeD i (j - i).toNat) m1
theorem dn_lstRg (hm : X.mg "list" = none) (h : DR X C B e r) (hc : X.calm = true := by rfl) (hg : Gl X "list" := by rfl) (na : starEach [e] X.env = (false, eval e X.env) :: starEach [] X.env := by rfl) : DN X C B (.Call (.Name "list" p) [e] [] pos) (nLstRg r) := by
  refine ⟨fun env m Q Q' i q => h.mono _ _ _ _ (fun a b m1 h1 => ⟨h1.1, i _ _ h1.2⟩) q, imp (pe_listRg hc hg hm h.run na) ?_⟩
  rintro σ H Q ⟨n, env, m, rfl, ok, q⟩
  exact ⟨n, env, m, rfl, ok, h.mono _ _ _ _ (fun i j m1 h1 n1 g1 l1 => ⟨h1.1, fun p hp => h1.2 n1 p _ g1 l1 hp (fz_rg i j)⟩) q⟩
end
end DL

set_option maxHeartbeats 1000000
namespace DL
open PySem PySem.Spec PyProof.Rows L2

section
variable {X : Cx} {C : Ct}
def oRep : Op2 := fun env m x y Q => match lstOf env m x, y with
  | some xs, .f (.int k) => -(2 ^ 63) ≤ k ∧ k < 2 ^ 63 ∧ xs.length * k.toNat ≤ sizeLine ∧ Q (.lst (List.replicate k.toNat xs).flatten) m
  | _, _ => False
theorem oRep.mono : Mono2 oRep := fun env m x y Q Q' i => by
  unfold oRep
  split
  · exact fun ⟨a, b, c, h⟩ => ⟨a, b, c, i _ _ h⟩
  · exact id
end
section
variable {X : Cx} {C : Ct} {B : Nw} {e o i : Expr} {d de di : TD} {pos apos cpos : Pos}
def sPopN (j : Nat) (d di : TD) : TSd := fun D env m => d env m fun x m1 => match moOf env m1 x with
  | some (.lst _) => di env m1 fun i m2 => match moOf env m2 x, i with
    | some (.lst xs), .f (.int k) => match xs[k.toNat]? with
      | some y => 0 ≤ k ∧ k < 2 ^ 63 ∧ D.nx ((setE x (.lst (xs.eraseIdx k.toNat)) env).set j (some (.f y))) (setM x (.lst (xs.eraseIdx k.toNat)) m2)
      | none => False
    | _, _ => False
  | _ => False
theorem sPopN.mono {j : Nat} (hd : MonoD d) (hi : MonoD di) : MonoS (sPopN j d di) := fun env m D D' l h => hd _ _ _ _ (fun x m1 h1 => by
  try dsimp only at h1 ⊢
  split at h1
  · refine hi _ _ _ _ (fun i m2 h2 => ?_) h1
    try dsimp only at h2 ⊢
    split at h2
    · split at h2
      · exact ⟨h2.1, h2.2.1, l.nx _ _ h2.2.2⟩
      · exact h2
    · exact h2
  · exact h1) h
end
section
variable {X : Cx} {C : Ct} {B : Nw} {e : Expr} {d : TD} {pos : Pos}
def dJs : List TD → Str → Env' → Mem → (Str → Mem → Prop) → Prop
  | [], acc, _, m, Q => Q acc m
  | t :: ts, acc, env, m, Q => t env m fun x m1 => match x with
    | .f (.str y) => (acc ++ y).length ≤ sizeLine ∧ dJs ts (acc ++ y) env m1 Q
    | _ => False
inductive DJ (X : Cx) (C : Ct) (B : Nw) : List Expr → List TD → Prop where
  | nil : DJ X C B [] []
  | cons {e : Expr} {t : TD} {es : List Expr} {ts : List TD} (h : DE X C B e t) (r : DJ X C B es ts) : DJ X C B (e :: es) (t :: ts)
theorem DJ.mono {es : List Expr} {ts : List TD} (h : DJ X C B es ts) : ∀ acc env m (Q Q' : Str → Mem → Prop), (∀ y m1, Q y m1 → Q' y m1) → dJs ts acc env m Q → dJs ts acc env m Q' := by
  induction h with
  | nil => exact fun acc env m Q Q' i q => i _ _ q
  | cons h r ih =>
    intro acc env m Q Q' i q
    refine h.mono _ _ _ _ (fun x m1 h1 => ?_) q
    try dsimp only at h1 ⊢
    split at h1
    · exact ⟨h1.1, ih _ _ _ _ _ i h1.2⟩
    · exact h1.elim
end
end DL

set_option maxHeartbeats 1000000
namespace DL
open PySem PySem.Spec PyProof.Rows L2

section
variable {X : Cx} {C : Ct} {B : Nw} {pos : Pos}
end
section
variable {P : Program} {w : World} {K : PySem.W.Frag} {mg : Str → Option Value} {base : Heap} {C : Ct} {x : Str} {k : Nat} {ps : List Str} {p p' : DSp}
theorem DF.weak {f : Addr} {fd : FuncData} (F : DF P w K mg base C k f fd ps p) (hm : MonoP p') (h : ∀ ds m Q E, p' ds m Q E → p ds m Q E) : DF P w K mg base C k f fd ps p' :=
  ⟨hm, F.ok.imp fun vs H Q E ⟨h1, n, m, ds, e, g, z, q⟩ => ⟨h1, n, m, ds, e, g, z, h _ _ _ _ q⟩⟩
theorem FnC.weak (c : FnC P w K mg base C x k ps p) (hm : MonoP p') (h : ∀ ds m Q E, p' ds m Q E → p ds m Q E) : FnC P w K mg base C x k ps p' :=
  ⟨c.hm, c.hk, c.F.weak hm h, c.hb, fun ds m Q E q => c.hl ds m Q E (h _ _ _ _ q)⟩
end
end DL

set_option maxHeartbeats 1000000
namespace DL
open PySem PySem.Spec PyProof.Rows L2

def intKeys : List (Dat × Dat) → Option (List (Int × Dat))
  | [] => some []
  | (.int i, d) :: r => match intKeys r with
    | some ks => some ((i, d) :: ks)
    | none => none
  | _ => none
def getI (ks : List (Int × Dat)) (k : Int) : Option Dat := (ks.find? fun p => decide (p.1 = k)).map (·.2)
def putI (ks : List (Int × Dat)) (k : Int) (d : Dat) : List (Int × Dat) := if (ks.any fun p => decide (p.1 = k)) = true then ks.map (fun p => if p.1 = k then (p.1, d) else p) else ks ++ [(k, d)]
def asDct (ks : List (Int × Dat)) : List (Dat × Dat) := ks.map fun p => (.int p.1, p.2)
theorem intKeys_as : ∀ ks : List (Int × Dat), intKeys (asDct ks) = some ks
  | [] => rfl
  | (i, d) :: ks => by
    have h := intKeys_as ks
    show intKeys ((.int i, d) :: asDct ks) = _
    rw [intKeys, h]
section
variable {C : Ct} {w : World} {P : Program} {K : PySem.W.Frag} {al : List Addr} {G : Hp} {n : Nw}
end
section
variable {X : Cx} {C : Ct}
def iDct (env : Env') (m : Mem) (x : Lv) : Option (List (Int × Dat)) := match der env m x with
  | some (.dct kvs) => intKeys kvs
  | _ => none
def oInDk (f : Bool → Bool) : Op2 := fun env m x y Q => match x, iDct env m y with
  | .f (.int k), some ks => (ks.map (·.1)).Nodup ∧ Q (.bl (f (getI ks k).isSome)) m
  | _, _ => False
theorem oInDk.mono {f : Bool → Bool} : Mono2 (oInDk f) := fun env m x y Q Q' i => by
  unfold oInDk
  split
  · exact fun h => ⟨h.1, i _ _ h.2⟩
  · exact id
def oIxDk : Op2 := fun env m x y Q => match iDct env m x, y with
  | some ks, .f (.int k) => (ks.map (·.1)).Nodup ∧ match getI ks k with
    | some d => Q d m
    | none => False
  | _, _ => False
theorem oIxDk.mono : Mono2 oIxDk := fun env m x y Q Q' i => by
  unfold oIxDk
  split
  · rintro ⟨h1, h2⟩
    refine ⟨h1, ?_⟩
    split at h2
    · exact i _ _ h2
    · exact h2
  · exact id
end
end DL

set_option maxHeartbeats 1000000
namespace DL
open PySem PySem.Spec PyProof.Rows L2

section
variable {X : Cx} {C : Ct}
theorem dxo_ok {h : Heap} {H : Hp} {a : Addr} {o : Obj} {es : Array DictEntry} {ep : Nat} (h1 : h.get? a = some o) (h2 : o.ExactDict) (h3 : o.data = .dict es ep) : ObjOk X.prog X.w H h a (dxo a es) :=
  ⟨⟨o, ep, h1, h2, h3⟩, ⟨o, h1⟩, fun a b ⟨o, ep, e1, e2, e3⟩ k => ⟨o, ep, k _ e1, e2, e3⟩⟩
end
end DL

set_option maxHeartbeats 1000000
namespace DL
open PySem PySem.Spec PyProof.Rows L2

section
variable {X : Cx} {C : Ct} {B : Nw} {e o i : Expr} {d de di : TD} {pos : Pos}
def sPutDk (de d di : TD) : TSd := fun D env m => de env m fun y m1 => d env m1 fun x m2 => di env m2 fun i m3 => match moOf env m3 x, i, y with
  | some (.dct kvs), .f (.int k), .f z => match intKeys kvs with
    | some ks => (ks.map (·.1)).Nodup ∧ ks.length < sizeLine ∧ D.nx (setE x (.dct (asDct (putI ks k z))) env) (setM x (.dct (asDct (putI ks k z))) m3)
    | none => False
  | _, _, _ => False
theorem sPutDk.mono (he : MonoD de) (hd : MonoD d) (hi : MonoD di) : MonoS (sPutDk de d di) := fun env m D D' l h => he _ _ _ _ (fun y m1 h1 => hd _ _ _ _ (fun x m2 h2 => hi _ _ _ _ (fun i m3 h3 => by
  try dsimp only at h3 ⊢
  split at h3
  · split at h3
    · exact ⟨h3.1, h3.2.1, l.nx _ _ h3.2.2⟩
    · exact h3
  · exact h3) h2) h1) h
end
end DL

set_option maxHeartbeats 1000000
namespace DL
open PySem PySem.Spec PyProof.Rows L2

section
variable {X : Cx} {C : Ct} {B : Nw} {d de dc : TD}
end
end DL

set_option maxHeartbeats 1000000
namespace DL
open PySem PySem.Spec PyProof.Rows L2

def oI2 (f : Int → Int → Int) : OpN := fun _ m xs Q => match xs with
  | [.f (.int i), .f (.int j)] => Q (.int (f i j)) m
  | _ => False
theorem oI2.mono {f : Int → Int → Int} : MonoN (oI2 f) := fun env m xs Q Q' i => by
  unfold oI2
  split
  · exact i _ _
  · exact id
section
variable {X : Cx} {C : Ct}
theorem call_I2 {id : String} {f : Int → Int → Int} (h : CallR X (.builtin id) (fun xs H Q => ∃ i j, xs = [.int i, .int j] ∧ Q (.int (f i j)) H)) : CallD X C (.builtin id) (oI2 f) := by
  refine ⟨oI2.mono, fun pins s σ H vs us Q I rv q => ?_⟩
  obtain ⟨B, n, env, m, σ', xs, rfl, ok, lx, q⟩ := q
  unfold oI2 at q
  split at q
  · rename_i i j
    cases lx with
    | cons l1 r =>
      cases r with
      | cons l2 r =>
        cases r
        rename_i v1 v2
        have l1 : FzN C X.w X.K n v1 (.int i) := l1
        have l2 : FzN C X.w X.K n v2 (.int j) := l2
        cases l1
        cases l2
        exact h pins s σ n.H _ us Q I rv ⟨i, j, rfl, q n _ ok.good (.refl _) (.int _)⟩
  · exact q.elim
theorem call_min2D (hc : X.calm = true) : CallD X C (.builtin "min") (oI2 fun i j => if j < i then j else i) := call_I2 (call_min2 hc)
end
end DL

set_option maxHeartbeats 1000000
namespace DL
open PySem PySem.Spec PyProof.Rows L2

def WalkE (C : Ct) (w : World) (K : PySem.W.Frag) (n : Nw) (J : It) (xs : List Dat) : Prop := ∃ Gp Y, Walk J xs.length Gp Y ∧ ∀ n' m', n.le n' → Good C w K n' m' → Gp n'.H ∧
  ∀ i x H', i < xs.length → Y i n'.H x H' → ∃ n'' d, n''.H = H' ∧ Good C w K n'' m' ∧ n'.le n'' ∧ xs[i]? = some d ∧ FzN C w K n'' x d
theorem WalkD.e {C : Ct} {w : World} {K : PySem.W.Frag} {n : Nw} {J : It} {xs : List Dat} (h : WalkD C w K n J xs) : WalkE C w K n J xs := by
  obtain ⟨Gp, Y, wk, st⟩ := h
  exact ⟨Gp, Y, wk, fun n' m' l g => st n' m' l.sub g⟩
def lIe (C : Ct) (B : Nw) (w : World) (K : PySem.W.Frag) (d : TId) : TI := fun σ H R => ∃ n env m, n.H = H ∧ Ok C w K B n env m σ ∧ d env m fun xs m' => ∀ n' J, Good C w K n' m' → n.le n' → WalkE C w K n' J xs → R J n'.H
structure DIE (X : Cx) (C : Ct) (B : Nw) (tg iter : Expr) (d : TId) : Prop where
  mono : MonoI d
  run : PI X tg iter (lIe C B X.w X.K d)
section
variable {X : Cx} {C : Ct} {B : Nw}
theorem DI.e {tg iter : Expr} {d : TId} (h : DI X C B tg iter d) : DIE X C B tg iter d := ⟨h.mono, impI h.run fun σ H R ⟨n, env, m, e, ok, q⟩ => ⟨n, env, m, e, ok, h.mono _ _ _ _ (fun xs m1 h1 n1 J g1 l1 wk => h1 n1 J g1 l1 wk.e) q⟩⟩
def iOwn (i : Nat) : TId := fun env m Q => match env[i]? with
  | some (some (.own (.lst xs))) => Q xs m
  | _ => False
theorem iOwn.mono (i : Nat) : MonoI (iOwn i) := fun env m Q Q' k h => by
  unfold iOwn at h ⊢
  split at h
  · exact k _ _ h
  · exact h.elim
variable {elt te iter : Expr} {ifs : List Expr} {scope : Scope} {own : List (Str × Nat)} {pos : Pos} {tg : Tg} {dt : TB} {de : TD} {di : TId}
end
end DL

set_option maxHeartbeats 2000000
namespace DL
open PySem PySem.Spec PyProof.Rows L2

def spR (C : Ct) (w : World) (K : PySem.W.Frag) (p : DSp) : Sp := fun vs H Q E => ∃ n m ds, n.H = H ∧ Good C w K n m ∧ FzAllN C w K n vs ds ∧ p ds m (AftD C w K n Q) (AftX C w K n E)
structure DRp (P : Program) (w : World) (K : PySem.W.Frag) (mg : Str → Option Value) (base : Heap) (C : Ct) (k : Nat) (f : Addr) (p : DSp) : Prop where
  mono : MonoP p
  ok : FnR P w K mg base (L2.CX P w) k f (spR C w K p)
def pStar (a : Nat) (p : DSp) : DSp := fun ds m Q E => a ≤ ds.length ∧ (ds.drop a).length ≤ sizeLine ∧ p (ds.take a ++ [.tup (ds.drop a)]) m Q E
theorem pStar.mono {a : Nat} {p : DSp} (h : MonoP p) : MonoP (pStar a p) := fun ds m Q Q' E E' i j ⟨h1, h2, h3⟩ => ⟨h1, h2, h _ _ _ _ _ _ i j h3⟩
section
variable {P : Program} {w : World} {K : PySem.W.Frag} {mg : Str → Option Value} {base : Heap} {C : Ct} {x qual : Str} {params : Arguments} {body : List Stmt} {scope : Scope} {f : Addr} {fd : FuncData} {N ps : List Str} {k : Nat} {p : DSp}
theorem DF.raw (F : DF P w K mg base C k f fd ps p) (hb : Binds K fd ps []) (hl : ∀ ds m Q E, p ds m Q E → ds.length = ps.length) : DRp P w K mg base C k f p :=
  ⟨F.mono, (F.ok.raw hb .nil).imp fun vs H Q E ⟨n, m, ds, e, g, z, h⟩ => by
    rw [List.append_nil]
    exact ⟨by rw [z.length]; exact hl _ _ _ _ h, n, m, ds, e, g, z, h⟩⟩
theorem AftD.back {n n2 : Nw} {Q : VK} (l : n.le n2) {d : Dat} {m : Mem} (h : AftD C w K n Q d m) : AftD C w K n2 Q d m := fun n3 v g3 l3 hz => h n3 v g3 (l.trans l3) hz
theorem AftX.back {n n2 : Nw} {E : XK} (l : n.le n2) {c : Nat} {xs : List Dat} {m : Mem} (h : AftX C w K n E c xs m) : AftX C w K n2 E c xs m := fun n3 dx vs g3 l3 hx hz => h n3 dx vs g3 (l.trans l3) (hx.base l) hz
end
structure CmC (P : Program) (w : World) (K : PySem.W.Frag) (mg : Str → Option Value) (base : Heap) (C : Ct) (c : Nat) (x : Str) (k : Nat) (p : DSp) : Prop where
  ex : ∃ mc q g, ClX.CRead K (C.addr c) mc ∧ ClX.CMet K (C.addr c) mc x q g ∧ DRp P w K mg base C k g p
section
variable {X : Cx} {C : Ct} {B : Nw} {k j c : Nat} {p : DSp} {EX : QXe} {x y : Str} {pos apos np : Pos} {o e : Expr} {es : List Expr} {da : TAd}
def dCm (c : Nat) (p : DSp) (EX : QXe) (da : TAd) : TD := fun env m Q => da env m fun xs m1 => match frs xs with
  | some ds => p (.cls c :: ds) m1 (fun d m2 => Q (.f d) m2) (fun c ys m2 => EX c ys env m2)
  | none => False
theorem dCm.mono (hp : MonoP p) (ha : MonoA da) : MonoD (dCm c p EX da) := fun env m Q Q' i => ha _ _ _ _ fun xs m1 => by
  split
  · exact hp _ _ _ _ _ _ (fun d m2 => i _ _) fun _ _ _ h => h
  · exact id
theorem run_fnRA {CX : CXT} {k : Nat} {f : Addr} {sp : Sp} {E : XK} {Q : VK} {us : List Value} {vs : List V} {pins : List (Addr × Obj)} {σ : L2.St} {H : Hp} {s : Shared} (F : FnR X.prog X.w X.K X.mg X.base CX k f sp) (hr : Room k X.A) (px : PassesAt CX X σ E) (I : Inv X pins σ H s) (r : Vals vs us) (h : sp vs H Q E) :
    codeAny (model X.prog X.w) X.A (.call (.ref f) ⟨us, []⟩) (fun r s' => match r with | .ok (.ret v) => EP X pins σ Q v s' | .ok _ => False | .error e => X.xe e s') s := by
  refine codeAny_mono (F X.A X.stack s H us vs Q E hr I.env0 r h) fun r s' hq => ?_
  cases r with
  | error e => exact px pins H s e s' I hq
  | ok fl =>
    cases fl with
    | ret u => exact I.after hq
    | next => exact False.elim hq
    | brk => exact False.elim hq
    | cont => exact False.elim hq
theorem run_cmA {CX : CXT} {k : Nat} {q g : Addr} {cv : Addr} {sp : Sp} {E : XK} {Q : VK} {us : List Value} {vs : List V} {pins : List (Addr × Obj)} {σ : L2.St} {H : Hp} {s : Shared} (F : FnR X.prog X.w X.K X.mg X.base CX k g sp) (hr : Room k X.A) (px : PassesAt CX X σ E) (I : Inv X ((q, PySem.W.methodObj (.ref g) (.ref cv)) :: pins) σ H s)
    (r : Vals vs us) (h : sp (.ref cv :: vs) H Q E) : wpAny (model X.prog X.w) X.A (call (.ref q) us) (EP X pins σ Q) X.xe s := by
  have z : wpAny (model X.prog X.w) X.A (call (.ref q) us) (EP X ((q, PySem.W.methodObj (.ref g) (.ref cv)) :: pins) σ Q) X.xe s :=
    wpAny_call (PySem.W.method_call (ClX.pin_at I) (run_fnRA (us := .ref cv :: us) (vs := .ref cv :: vs) F hr px I (.cons rfl r) h))
  exact thn z fun _ _ y => ClX.unpinE y
theorem de_cm {pl : Sem Bool} (M : CmC X.prog X.w X.K X.mg X.base C c x j p) (ho : DE X C B o (dC (.cls c))) (hr : Room k X.A) (h : j ≤ k) (ha : DA X C B (e :: es) da) (px : PassD X C B EX)
    (hst : starEach (e :: es) X.env = (false, eval e X.env) :: starEach es X.env := by rfl) (hpl : (backTo pos (starEach es X.env)).any (·.1) = false := by rfl)
    (ht : eval (.Call (.Attribute o x apos) (e :: es) [] pos) X.env = (do
        let ov ← eval o X.env
        standAt apos.atName
        let (f, first) ← holding [ov] (getMethod ov x pl)
        callWith pos f first (backTo pos (starEach (e :: es) X.env)) (backToKw pos (keywordEach [] X.env))) := by rfl) :
    DE X C B (.Call (.Attribute o x apos) (e :: es) [] pos) (dCm c p EX da) := by
  obtain ⟨mc, q, g, rd, cm, F⟩ := M.ex
  refine ⟨dCm.mono F.mono ha.mono, ⟨fun pins s σ H Q I h0 => ?_⟩⟩
  obtain ⟨n, env, m, rfl, ok, h0⟩ := h0
  refine PySem.W.methodCall_KW (pl := pl) (thn (ho.run.run pins s σ n.H (fun v H1 => v = .ref (C.addr c) ∧ ∃ n1, n1.H = H1 ∧ Good C X.w X.K n1 m ∧ n.le n1) I ⟨n, env, m, rfl, ok, fun n1 v g1 l1 lz => ?_⟩) fun u s1 ⟨v, H1, I1, rv, ev, n1, eH, g1, l1⟩ => ?_) ht
  · have lz' : FzN C X.w X.K n1 v (.cls c) := lz
    cases lz'
    exact ⟨rfl, n1, rfl, g1, l1⟩
  · subst ev eH
    cases rv
    refine ClX.getmethcm_ok I1 rd cm fun s2 I2 => ?_
    refine ClX.callwith_cm I2 (ClX.base_none I1 (Nat.le_refl _)) cm.fi (thn (ha.run.run pos _ s2 σ n1.H (fun vs H2 => ∃ n2 m2 ds, n2.H = H2 ∧ Good C X.w X.K n2 m2 ∧ n1.le n2 ∧ FzAllN C X.w X.K n2 vs ds ∧
      p (.cls c :: ds) m2 (fun r m3 => AftL C X.w X.K n env σ Q (.f r) m3) (fun c ys m3 => EX c ys env m3)) I2 ⟨n1, env, m, rfl, ok.go g1 l1, ha.mono _ _ _ _ (fun xs m2 q2 n2 vs2 g2 l2 lxs => ?_) h0⟩)
        fun us s3 ⟨vs2, H2, I3, r2, n2, m2, ds, eH2, g2, l2, hz, q2⟩ => ⟨⟨ClX.pin_at I3, I3.kIn⟩, ?_⟩) hst hpl
    · split at q2
      · rename_i ds hd
        exact ⟨n2, m2, ds, rfl, g2, l2, frs_ok lxs hd, q2⟩
      · exact q2.elim
    · subst eH2
      refine run_cmA F.ok (hr.mono h) (px σ) I3 r2 ?_
      exact ⟨n2, m2, .cls c :: ds, rfl, g2, .cons (.cls c) hz, F.mono _ _ _ _ _ _ (fun r m3 q3 n3 v3 g3 l3 lv => q3 n3 v3 g3 (l1.trans (l2.trans l3)) lv) (fun c ys m3 q3 => err_at ok (l1.trans l2) q3) q2⟩
def dMakeV (i c nf : Nat) (p : DSp) (EX : QXe) (da : TAd) : TD := fun env m Q => env[i]? = some (some (.f (.cls c))) ∧ dMakeF c nf p EX da env m Q
theorem de_makeV {i nf : Nat} {f : Addr} {fd : FuncData} {ps : List Str} (M : Mk X.K (C.addr c) f) (F : DF X.prog X.w X.K X.mg X.base C j f fd ps p) (hl : ∀ ds m Q E, p ds m Q E → ds.length = ps.length) (hf : (C.flds c).length = nf) (hr : Room (j + 1) X.A) (hN : X.N[i]? = some x) (hv : Vis X.env.scope x) (hb : Binds X.K fd ps []) (hx : PassD X C B EX) (ha : DA X C B (e :: es) da)
    (hdb : (x == ("__debug__" : Str)) = false := by decide) (hcd : (x == ("__classdict__" : Str)) = false := by decide)
    (he : starEach (e :: es) X.env = (false, eval e X.env) :: starEach es X.env := by rfl) (hpl : (backTo pos (starEach es X.env)).any (·.1) = false := by rfl) :
    DE X C B (.Call (.Name x np) (e :: es) [] pos) (dMakeV i c nf p EX da) := by
  refine ⟨fun env m Q Q' g ⟨h1, h2⟩ => ⟨h1, dMakeF.mono F.mono ha.mono _ _ _ _ g h2⟩, ⟨fun pins s σ H Q I h => ?_⟩⟩
  obtain ⟨n, env, m, rfl, ok, he1, h⟩ := h
  have hs : σ[i]? = some (some (V.ref (C.addr c))) := by
    obtain ⟨v, f, z⟩ := ok.env.fz i (.cls c) he1
    cases z
    exact f
  have ht := makeF_imp (X := X) (ps := ps) F.mono ha.mono hl hf σ n.H Q ⟨n, env, m, rfl, ok, h⟩
  refine wpAny_Call_Name_kw (thn ((pe_var (pos := np) hN hv hdb hcd).run pins s σ n.H (fun v H1 => v = .ref (C.addr c) ∧ H1 = n.H) I ⟨_, hs, rfl, rfl⟩) fun u s1 ⟨v, H1, I1, r1, q1⟩ => ?_)
  obtain ⟨rfl, rfl⟩ := q1
  cases r1
  refine PySem.W.callWith_K (h₀ := X.base) I1.ok.mod.kin M.kp (thn (ha.run.run pos pins s1 σ _ _ I1 ht) fun us s2 ⟨vs, H2, I2, r, q⟩ => ⟨I2.kIn, ?_⟩) he hpl
  exact run_makeS M F.ok hr hb (hx σ) I2 r q
end
end DL

set_option maxHeartbeats 2000000
namespace DL
open PySem PySem.Spec PyProof.Rows L2

section
variable {P : Program} {w : World} {K : PySem.W.Frag} {mg : Str → Option Value} {base : Heap} {t : Tab} {c k : Nat} {y x : Str} {ps : List Str} {p : DSp}
theorem Tab.cm_ok (h : t.cmC c x K = true) (hy : t.names.getD c Str.empty = y) (F : DRp P w K mg base (t.ct K) k ((Wh.c y x).ad K) p) : CmC P w K mg base (t.ct K) c x k p := by
  subst hy
  obtain ⟨q1, h⟩ := and2 h
  obtain ⟨q2, h⟩ := and2 h
  obtain ⟨q3, h⟩ := and2 h
  obtain ⟨q4, q5⟩ := and2 h
  refine ⟨.type "type", He.fAd K (t.names.getD c Str.empty, some x), _, ⟨q1, of_decide_eq_true q2⟩, ⟨?_, ?_, q5⟩, F⟩
  · show PySem.W.findCls K (.ref (t.at K c)) (.type "type") x = _
    revert q3
    cases PySem.W.findCls K (.ref (t.at K c)) (.type "type") x with
    | none => intro q; cases q
    | some f =>
      cases f with
      | val v => intro q; cases q
      | get g a o d =>
        intro q
        obtain ⟨z1, q⟩ := and2 q
        obtain ⟨z2, q⟩ := and2 q
        obtain ⟨z3, z4⟩ := and2 q
        rw [of_decide_eq_true z1, of_decide_eq_true z2, of_decide_eq_true z3, of_decide_eq_true z4]
        rfl
  · show ∃ rest, PySem.W.recIn K _ "classmethod" = some (.ref (recF K "classmethod" _) :: rest)
    unfold recF
    cases e : PySem.W.recIn K (He.fAd K (t.names.getD c Str.empty, some x)) "classmethod" with
    | none => rw [e] at q4; cases q4
    | some l =>
      rw [e] at q4
      cases l with
      | nil => cases q4
      | cons a r =>
        cases a with
        | ref g => exact ⟨r, rfl⟩
        | _ => cases q4
theorem PrC.mono {C : Ct} (h : PrC P w K mg base C c x k p) : MonoP p := by
  obtain ⟨_, _, _, _, _, F, _, _⟩ := h.ex
  exact F.mono
theorem CmC.mono {C : Ct} (h : CmC P w K mg base C c x k p) : MonoP p := by
  obtain ⟨_, _, _, _, _, F⟩ := h.ex
  exact F.mono
end
section
variable {X : Cx} {C : Ct} {B : Nw} {k j c nf : Nat} {ps : List Str} {p : DSp} {EX : QXe} {x z : Str} {np pos : Pos} {e : Expr} {es : List Expr} {da : TAd}
theorem de_mkV {i : Nat} (M : MkC X.prog X.w X.K X.mg X.base C z c nf j ps p) (hr : Room k X.A) (h : j + 1 ≤ k) (ha : DA X C B (e :: es) da) (hx : PassD X C B EX)
    (hN : X.N[i]? = some x := by rfl) (hv : Vis X.env.scope x := by first | exact Or.inl rfl | exact Or.inr (Or.inl rfl) | exact Or.inr (Or.inr rfl))
    (hdb : (x == ("__debug__" : Str)) = false := by decide) (hcd : (x == ("__classdict__" : Str)) = false := by decide)
    (he : starEach (e :: es) X.env = (false, eval e X.env) :: starEach es X.env := by rfl) (hpl : (backTo pos (starEach es X.env)).any (·.1) = false := by rfl) :
    DE X C B (.Call (.Name x np) (e :: es) [] pos) (dMakeV i c nf p EX da) :=
  de_makeV M.M M.F M.hl M.nf (hr.mono (by omega)) hN hv M.hb hx ha hdb hcd he hpl
theorem dMakeV.mono {i : Nat} (hp : MonoP p) (ha : MonoA da) : MonoD (dMakeV i c nf p EX da) := fun env m Q Q' g ⟨h1, h2⟩ => ⟨h1, dMakeF.mono hp ha _ _ _ _ g h2⟩
end
def oI3 (f : Int → Int → Int → Int) : OpN := fun _ m xs Q => match xs with
  | [.f (.int i), .f (.int j), .f (.int k)] => Q (.int (f i j k)) m
  | _ => False
theorem oI3.mono {f : Int → Int → Int → Int} : MonoN (oI3 f) := fun env m xs Q Q' i => by
  unfold oI3
  split
  · exact i _ _
  · exact id
section
variable {X : Cx} {C : Ct}
end
end DL

set_option maxHeartbeats 1000000
namespace DL
open PySem PySem.Spec PyProof.Rows L2

def tKeys : List (Dat × Dat) → Option (List NestedKey)
  | [] => some []
  | (k, _) :: r => match tKey k, tKeys r with
    | some n, some ns => some (n :: ns)
    | _, _ => none
def putT (kvs : List (Dat × Dat)) (key : Dat) (k : NestedKey) (d : Dat) : List (Dat × Dat) := if (getT kvs k).isSome = true then kvs.map (fun p => if tKey p.1 = some k then (p.1, d) else p) else kvs ++ [(key, d)]
theorem tKey_is {d : Dat} {k : NestedKey} (h : tKey d = some k) : (∃ xs, d = .tup xs) ∧ keyN d = some k ∧ k.depth ≤ 8 := by
  unfold tKey at h
  split at h
  · rename_i ht
    split at h
    · rename_i k' hk
      split at h
      · rename_i hd
        cases h
        refine ⟨?_, hk, hd⟩
        cases d <;> first | exact ⟨_, rfl⟩ | cases ht
      · cases h
    · cases h
  · cases h
section
variable {C : Ct} {K : PySem.W.Frag} {al : List Addr} {G : Hp} {n : Nw} {P : Program} {w : World}
theorem tk_to : ∀ {kvs : List (Dat × Dat)} {es : List DictEntry} {ns : List NestedKey}, FzEs C w K al G es kvs → tKeys kvs = some ns → ∃ xs, es = xs.map (entryOfKey (nestedKind P w)) ∧ TK C w K al G xs kvs ∧ xs.map (·.1) = ns
  | [], es, ns, h, e => by
    cases h
    cases e
    exact ⟨[], rfl, .nil, rfl⟩
  | (k, d) :: r, es, ns, h, e => by
    rw [tKeys] at e
    cases hk : tKey k with
    | none => rw [hk] at e; cases e
    | some q =>
      cases hr : tKeys r with
      | none => rw [hk, hr] at e; cases e
      | some qs =>
        rw [hk, hr] at e
        cases e
        cases h with
        | @cons e1 es kv vv _ _ _ r1 z1 r2 z2 hh hrest =>
          obtain ⟨xs, a1, a2, a3⟩ := tk_to hrest hr
          obtain ⟨⟨ys, rfl⟩, hn, hd⟩ := tKey_is hk
          obtain ⟨a, rfl⟩ : ∃ a, kv = .ref a := by cases z1; exact ⟨_, rfl⟩
          have hkey : e1.key = .ref a := r1
          have hhash : e1.hash = q.hash w := by
            rw [hh]
            unfold hashD
            rw [hn]
          refine ⟨(q, a, e1.val) :: xs, ?_, .cons ⟨hk, z1, vv, r2, z2⟩ a2, by rw [List.map_cons, a3]⟩
          rw [List.map_cons, ← a1]
          congr 1
          obtain ⟨h1, k1, v1⟩ := e1
          have hkey : k1 = .ref a := hkey
          have hhash : h1 = q.hash w := hhash
          subst hkey hhash
          rfl
theorem tk_from : ∀ {xs : List (NestedKey × Addr × Value)} {kvs : List (Dat × Dat)}, TK C w K al G xs kvs → FzEs C w K al G (xs.map (entryOfKey (nestedKind P w))) kvs
  | _, _, .nil => .nil
  | x :: xs, p :: kvs, .cons h t => by
    obtain ⟨hk, z1, v, r2, z2⟩ := h
    obtain ⟨_, hn, _⟩ := tKey_is hk
    obtain ⟨k, d⟩ := p
    rw [List.map_cons]
    refine .cons (e := entryOfKey (nestedKind P w) x) (kv := .ref x.2.1) (vv := v) rfl z1 r2 z2 ?_ (tk_from t)
    show x.1.hash w = hashD w k
    unfold hashD
    rw [hn]
theorem tk_at : ∀ {xs : List (NestedKey × Addr × Value)} {kvs : List (Dat × Dat)}, TK C w K al G xs kvs → ∀ k, (atKey xs k = none ∧ getT kvs k = none) ∨ ∃ p v d, atKey xs k = some p ∧ getT kvs k = some d ∧ RelV v p.2 ∧ Fz C w K al G v d
  | _, _, .nil, k => .inl ⟨rfl, rfl⟩
  | x :: xs, p :: kvs, .cons h t, k => by
    obtain ⟨hk, z1, v, r2, z2⟩ := h
    by_cases e : x.1 = k
    · refine .inr ⟨x.2, v, p.2, ?_, ?_, r2, z2⟩
      · simp [atKey, List.find?_cons, e]
      · simp [getT, List.find?_cons, hk, e]
    · have a : atKey (x :: xs) k = atKey xs k := by simp [atKey, List.find?_cons, e]
      have b : getT (p :: kvs) k = getT kvs k := by simp [getT, List.find?_cons, hk, e]
      rw [a, b]
      exact tk_at t k
theorem tk_map {xs : List (NestedKey × Addr × Value)} {kvs : List (Dat × Dat)} (h : TK C w K al G xs kvs) {k : NestedKey} {v : V} {u : Value} {d : Dat} (rv : RelV v u) (hv : Fz C w K al G v d) :
    TK C w K al G (xs.map (putAt k u)) (kvs.map (fun p => if tKey p.1 = some k then (p.1, d) else p)) := by
  induction h with
  | nil => exact .nil
  | @cons x p xs kvs h t ih =>
    rw [List.map_cons, List.map_cons]
    refine .cons ?_ ih
    obtain ⟨hk, z1, v', r2, z2⟩ := h
    by_cases e : x.1 = k
    · rw [putAt, if_pos e, if_pos (by rw [hk, e])]
      exact ⟨hk, z1, v, rv, hv⟩
    · rw [putAt, if_neg e, if_neg (by rw [hk]; exact fun z => e (Option.some.inj z))]
      exact ⟨hk, z1, v', r2, z2⟩
theorem tk_put {xs : List (NestedKey × Addr × Value)} {kvs : List (Dat × Dat)} (h : TK C w K al G xs kvs) {k : NestedKey} {key : Dat} {a : Addr} {v : V} {u : Value} {d : Dat} (hk : tKey key = some k) (ha : Fz C w K al G (.ref a) key) (rv : RelV v u) (hv : Fz C w K al G v d) :
    TK C w K al G (storedH xs k a u) (putT kvs key k d) := by
  unfold storedH putT
  rcases tk_at h k with ⟨h1, h2⟩ | ⟨p, v', d', h1, h2, _⟩
  · rw [h1, h2]
    exact Paired.snoc h ⟨hk, ha, v, rv, hv⟩
  · rw [h1, h2]
    exact tk_map h rv hv
end
section
variable {X : Cx} {C : Ct} {pins : List (Addr × Obj)} {σ : L2.St} {s : Shared} {n : Nw}
mutual
theorem nis_of (I : Inv X pins σ n.H s) (sub : ∀ p o, n.G p = some o → n.H p = some o) : ∀ (d : Dat) (k : NestedKey) (v : V) (u : Value), keyN d = some k → Fz C X.w X.K n.al n.G v d → RelV v u → NestedIs s.heap k u
  | .non, k, v, u, e, z, r => by
    rw [keyN] at e; cases e
    cases z
    have r : u = Value.none := r
    subst r; exact .none
  | .bl b, k, v, u, e, z, r => by
    rw [keyN] at e; cases e
    cases z
    have r : u = Value.bool b := r
    subst r; exact .bool rfl
  | .int i, k, v, u, e, z, r => by
    rw [keyN] at e; cases e
    cases z
    obtain ⟨t, rfl⟩ := (show ∃ t, u = Value.int i t from r)
    exact .int i t
  | .str x, k, v, u, e, z, r => by
    rw [keyN] at e; cases e
    cases z
    obtain ⟨t, rfl⟩ := (show ∃ t, u = Value.str x t from r)
    exact .text x t
  | .tup ds, k, v, u, e, z, r => by
    rw [keyN] at e
    obtain ⟨ks, hk, rfl⟩ := Option.map_eq_some_iff.mp e
    cases z with
    | @tup a vs _ sq fz =>
      have r : u = Value.ref a := r
      subst r
      obtain ⟨its, rv, ⟨o, ho, hc, m, hd⟩, _⟩ := I.tuple (SqT.keep sub sq)
      exact .tup ho hc hd (by simpa using nal_of I sub ds ks vs its hk fz rv)
  | .lst _, k, v, u, e, z, r => by cases e
  | .dct _, k, v, u, e, z, r => by cases e
  | .ins _ _, k, v, u, e, z, r => by cases e
  | .obj _, k, v, u, e, z, r => by cases e
  | .ref _, k, v, u, e, z, r => by cases e
  | .ty _, k, v, u, e, z, r => by cases e
  | .cls _, k, v, u, e, z, r => by cases e
theorem nal_of (I : Inv X pins σ n.H s) (sub : ∀ p o, n.G p = some o → n.H p = some o) : ∀ (ds : List Dat) (ks : List NestedKey) (vs : List V) (us : List Value), keyNs ds = some ks → FzAll C X.w X.K n.al n.G vs ds → Vals vs us → NestedAll s.heap ks us
  | [], ks, vs, us, e, z, r => by
    rw [keyNs] at e; cases e
    cases z
    cases r
    exact .nil
  | d :: ds, ks, vs, us, e, z, r => by
    rw [keyNs] at e
    cases h1 : keyN d with
    | none => rw [h1] at e; cases e
    | some k =>
      cases h2 : keyNs ds with
      | none => rw [h1, h2] at e; cases e
      | some ks' =>
        rw [h1, h2] at e
        cases e
        cases z with
        | cons z1 z2 =>
          cases r with
          | cons r1 r2 => exact .cons (nis_of I sub d k _ _ h1 z1 r1) (nal_of I sub ds ks' _ _ h2 z2 r2)
end
theorem key_is (I : Inv X pins σ n.H s) (sub : ∀ p o, n.G p = some o → n.H p = some o) {d : Dat} {k : NestedKey} {a : Addr} (e : tKey d = some k) (z : Fz C X.w X.K n.al n.G (.ref a) d) : (nestedKind X.prog X.w).is s.heap k a := by
  obtain ⟨_, h1, h2⟩ := tKey_is e
  exact ⟨nis_of I sub d k (.ref a) (.ref a) h1 z rfl, h2⟩
theorem tk_all (I : Inv X pins σ n.H s) (sub : ∀ p o, n.G p = some o → n.H p = some o) : ∀ {xs : List (NestedKey × Addr × Value)} {kvs : List (Dat × Dat)}, TK C X.w X.K n.al n.G xs kvs → ∀ x ∈ xs, (nestedKind X.prog X.w).is s.heap x.1 x.2.1
  | _, _, .nil, x, hx => by cases hx
  | y :: xs, p :: kvs, .cons h t, x, hx => by
    rcases List.mem_cons.mp hx with rfl | q
    · exact key_is I sub h.1 h.2.1
    · exact tk_all I sub t x q
theorem tdct_dd {a : Addr} {es : Array DictEntry} {kvs : List (Dat × Dat)} {ns : List NestedKey} (I : Inv X pins σ n.H s) (sub : ∀ p o, n.G p = some o → n.H p = some o) (ha : n.H a = some (dxo a es)) (fz : FzEs C X.w X.K n.al n.G es.toList kvs) (hk : tKeys kvs = some ns) (nd : ns.Nodup) :
    ∃ xs, TK C X.w X.K n.al n.G xs kvs ∧ s.heap.DictOfH (nestedKind X.prog X.w) a xs := by
  obtain ⟨⟨o, ep, e1, e2, e3⟩, _⟩ := (show _ ∧ _ from I.hok a _ ha)
  obtain ⟨xs, h1, h2, h3⟩ := tk_to (P := X.prog) fz hk
  exact ⟨xs, h2, o, es, ep, e1, e2, e3, h1, tk_all I sub h2, by rw [h3]; exact nd⟩
def dDct (env : Env') (m : Mem) (x : Lv) : Option (List (Dat × Dat)) := match der env m x with
  | some (.dct kvs) => some kvs
  | _ => none
theorem dDct_ok {w : World} {K : PySem.W.Frag} {B n : Nw} {env : Env'} {m : Mem} {σ : L2.St} {v : V} {x : Lv} {kvs : List (Dat × Dat)} (ok : Ok C w K B n env m σ) (h : LvOk C w K n env σ v x) (e : dDct env m x = some kvs) :
    ∃ a es, v = .ref a ∧ n.H a = some (dxo a es) ∧ (a == sysModules) = false ∧ FzEs C w K n.al n.G es.toList kvs := by
  unfold dDct at e
  split at e
  · rename_i kvs' hd
    cases e
    have z := der_ok ok h hd
    cases z with
    | dct h1 h2 h3 => exact ⟨_, _, rfl, h1, h2, h3⟩
    | fz z =>
      cases z with
      | dct h1 h2 h3 => exact ⟨_, _, rfl, ok.good.sub _ _ h1, h2, h3⟩
  · cases e
theorem roomT {k : Nat} {A : Around} (h : Room k A) : (nestedKind X.prog X.w).room A.in1 := by
  have := rm h
  show A.in1.units + 8 < cLine
  have e : A.in1.units = A.units + 1 := rfl
  omega
def oInT (f : Bool → Bool) : Op2 := fun env m x y Q => match x, dDct env m y with
  | .f d, some kvs => match tKey d, tKeys kvs with
    | some k, some ns => ns.Nodup ∧ Q (.bl (f (getT kvs k).isSome)) m
    | _, _ => False
  | _, _ => False
theorem oInT.mono {f : Bool → Bool} : Mono2 (oInT f) := fun env m x y Q Q' i h => by
  unfold oInT at h ⊢
  split at h
  · split at h
    · exact ⟨h.1, i _ _ h.2⟩
    · exact h
  · exact h
def oIxT : Op2 := fun env m x y Q => match dDct env m x, y with
  | some kvs, .f d => match tKey d, tKeys kvs with
    | some k, some ns => ns.Nodup ∧ match getT kvs k with
      | some z => Q z m
      | none => False
    | _, _ => False
  | _, _ => False
theorem oIxT.mono : Mono2 oIxT := fun env m x y Q Q' i h => by
  unfold oIxT at h ⊢
  split at h
  · split at h
    · obtain ⟨h1, h2⟩ := h
      refine ⟨h1, ?_⟩
      split at h2
      · exact i _ _ h2
      · exact h2
    · exact h
  · exact h
end
section
variable {X : Cx} {C : Ct} {B : Nw} {e o i : Expr} {d de di : TD} {pos : Pos}
def sPutT (de d di : TD) : TSd := fun D env m => de env m fun y m1 => d env m1 fun x m2 => di env m2 fun i m3 => match moOf env m3 x, i, y with
  | some (.dct kvs), .f key, .f z => match tKeys kvs, tKey key with
    | some ns, some k => ns.Nodup ∧ kvs.length < sizeLine ∧ D.nx (setE x (.dct (putT kvs key k z)) env) (setM x (.dct (putT kvs key k z)) m3)
    | _, _ => False
  | _, _, _ => False
theorem sPutT.mono (he : MonoD de) (hd : MonoD d) (hi : MonoD di) : MonoS (sPutT de d di) := fun env m D D' l h => he _ _ _ _ (fun y m1 h1 => hd _ _ _ _ (fun x m2 h2 => hi _ _ _ _ (fun i m3 h3 => by
  try dsimp only at h3 ⊢
  split at h3
  · split at h3
    · exact ⟨h3.1, h3.2.1, l.nx _ _ h3.2.2⟩
    · exact h3
  · exact h3) h2) h1) h
end
end DL

set_option maxHeartbeats 1000000
namespace DL
open PySem PySem.Spec PyProof.Rows L2

def dcGo (tg : Tg) (dt : TB) (dk dv : TD) (env : Env') : List Dat → List (Int × Dat) → Mem → (List (Int × Dat) → Mem → Prop) → Prop
  | [], acc, m, Q => Q acc m
  | x :: xs, acc, m, Q => match bind tg (.f x) env with
    | some env2 => dt env2 m fun b m1 => if b = true then dk env2 m1 fun y m2 => dv env2 m2 fun z m3 => match y, z with
        | .f (.int i), .f d => dcGo tg dt dk dv env xs (putI acc i d) m3 Q
        | _, _ => False
      else dcGo tg dt dk dv env xs acc m1 Q
    | none => False
theorem dcGo.mono {tg : Tg} {dt : TB} {dk dv : TD} (ht : MonoB dt) (hk : MonoD dk) (hv : MonoD dv) (env : Env') : ∀ xs acc m (Q Q' : List (Int × Dat) → Mem → Prop), (∀ x m', Q x m' → Q' x m') → dcGo tg dt dk dv env xs acc m Q → dcGo tg dt dk dv env xs acc m Q'
  | [], acc, m, Q, Q', i, h => i _ _ h
  | x :: xs, acc, m, Q, Q', i, h => by
    unfold dcGo at h ⊢
    split
    · rename_i e2 he
      rw [he] at h
      refine ht _ _ _ _ (fun b m1 h1 => ?_) h
      cases b with
      | true =>
        refine hk _ _ _ _ (fun y m2 h2 => hv _ _ _ _ (fun z m3 h3 => ?_) h2) h1
        split at h3
        · exact dcGo.mono ht hk hv env xs _ m3 _ _ i h3
        · exact h3
      | false => exact dcGo.mono ht hk hv env xs acc m1 _ _ i h1
    · rename_i he
      rw [he] at h
      exact h
def dDc (tg : Tg) (dt : TB) (dk dv : TD) (vs : List Nat) (di : TId) : TD := fun env m Q => di env m fun xs m1 => xs.length ≤ sizeLine ∧ dcGo tg dt dk dv (wipeE env vs) xs [] m1 fun ks m2 => Q (.f (.dct (asDct ks))) m2
theorem dDc.mono {tg : Tg} {dt : TB} {dk dv : TD} {vs : List Nat} {di : TId} (hi : MonoI di) (ht : MonoB dt) (hk : MonoD dk) (hv : MonoD dv) : MonoD (dDc tg dt dk dv vs di) := fun env m Q Q' i h =>
  hi _ _ _ _ (fun xs m1 h1 => ⟨h1.1, dcGo.mono ht hk hv _ _ _ _ _ _ (fun ks m2 => i _ _) h1.2⟩) h
section
variable {X : Cx} {C : Ct} {B : Nw}
theorem del_good {w : World} {K : PySem.W.Frag} {n : Nw} {m : Mem} {D : Addr} (g : Good C w K n m) (hG : n.G D = none) (ha : D ∉ n.al) (hc : Calm (n.H D) := by first | assumption | exact Calm.none (by assumption) | exact Calm.lst (by assumption) | exact Calm.dx (by assumption) | exact Calm.ins (by assumption) | exact Calm.dK (by assumption) | exact Calm.xd (by assumption) | exact Calm.tup (by assumption) | exact Calm.lst upd_same | exact Calm.dx upd_same | exact Calm.dK upd_same | exact Calm.ins upd_same | exact Calm.xd upd_same) : Good C w K ⟨n.G, n.al, del n.H D⟩ m :=
  ⟨fun p o e => by
    show del n.H D p = some o
    rw [del_ne (fun z => by subst z; have e' : n.G p = some o := e; rw [hG] at e'; cases e')]; exact g.sub p o e, g.nd, g.len, fun k y a e1 e2 => by
    obtain ⟨q1, q2⟩ := g.at_ k y a e1 e2
    exact ⟨q1.imp (n := n) (fun _ _ e => e) (fun _ _ e => e) (fun u e => by
      show del n.H D a = some u
      rw [del_ne (fun z => by subst z; exact ha (List.mem_of_getElem? e2))]; exact e), q2⟩, Tabs_del g.tab hc, g.tg⟩
theorem del_le {n n2 : Nw} {D : Addr} (l : n.le n2) (hD : n.H D = none) : n.le ⟨n2.G, n2.al, del n2.H D⟩ := by
  have ne : ∀ {a u}, n.H a = some u → a ≠ D := fun e z => by subst z; rw [hD] at e; cases e
  refine ⟨l.g, fun p o e hn nt => ?_, fun p e => ?_, l.gnew, l.ale, l.anew⟩
  · show del n2.H D p = some o
    rw [del_ne (ne e)]; exact l.keepN p o e hn nt
  · show del n2.H D p ≠ none
    rw [del_ne (fun z => by subst z; exact e hD)]; exact l.there p e
end
end DL

set_option maxHeartbeats 1000000
namespace DL
open PySem PySem.Spec PyProof.Rows L2

abbrev TSt := Addr → V → V → Hp → (Hp → Prop) → Prop
def StOk (X : Cx) (S : TSt) : Prop := ∀ (s0 : Shared) (H0 : Hp) (scope : Scope) (ce : Env) (fp : List Addr) (pins : List (Addr × Obj)) (σ : L2.St) (H : Hp) (s : Shared) (D : Addr) (y z : V) (u r : Value) (Q : Hp → Prop) (E : Value → Shared → Prop),
  Inv (X.blk s0 H0 scope ce fp) pins σ H s → RelV y u → RelV z r → S D y z H Q → wpAny (model X.prog X.w) X.A (dictSet D u r) (fun _ s' => ∃ H', Inv (X.blk s0 H0 scope ce fp) pins σ H' s' ∧ Q H') E s
def rDx (wi : TI) (g : TG) (tt : TT) (tk tv : TE) (S : TSt) (vs : List Nat) : TE := fun σ H Q => wi σ H fun J H1 => ∀ D, H1 D = none → (D == sysModules) = false → ∃ (N : Nat) (T : Nat → Hp → Prop), T 0 (upd H1 D (dxo D #[])) ∧ (∀ Hx, T N Hx → J.stop N Hx ∧ Q (.ref D) Hx) ∧
  ∀ i Hx, i < N → T i Hx → J.go i Hx ∧ ∀ x Hy, J.yld i Hx x Hy → g x (wipe σ vs) Hy fun τ Ha => wipe τ vs = wipe σ vs ∧ tt τ Ha fun b Hb => if b = true then tk τ Hb fun y Hc => tv τ Hc fun z Hd => S D y z Hd (T (i + 1)) else T (i + 1) Hb
section
variable {X : Cx}
theorem dx_new {pins : List (Addr × Obj)} {σ : L2.St} {H : Hp} {s : Shared} (I : Inv X pins σ H s) :
    Inv X pins σ (upd H s.heap.objs.size (dxo s.heap.objs.size #[])) { s with heap := s.heap.push { cls := .type "dict", data := .dict #[] } } :=
  I.laid (t' := s.toks) (fun b o e => Heap.get?_push_of_some _ e) (Nat.le_refl _) (dxo_ok (Heap.get?_push_size _ rfl) ⟨rfl, rfl, rfl⟩ rfl)
theorem dx_turns {kx vx tg iter : Expr} {ifs : List Expr} {scope : Scope} {pos : Pos} {g : TG} {tt : TT} {tk tv : TE} {S : TSt} {s0 : Shared} {H0 : Hp} {ce : Env} {fp : List Addr} {vs : List Nat} {σ : L2.St} {J : It} {it D : Addr} {tn : Nat → Heap → Prop} {N : Nat} {T : Nat → Hp → Prop} {Fin : Hp → Prop} {R : Result → Shared → Prop}
    (hc : X.calm = true) (tr : Turn X.prog X.w X.K tg J fp it tn) (hS : StOk X S)
    (pg : PG (X.blk s0 H0 scope ce fp) tg g) (pt : PTs (X.blk s0 H0 scope ce fp) ifs tt) (pk : PE (X.blk s0 H0 scope ce fp) kx tk) (pv : PE (X.blk s0 H0 scope ce fp) vx tv)
    (fin : ∀ Hx, T N Hx → J.stop N Hx ∧ Fin Hx)
    (step : ∀ i Hx, i < N → T i Hx → J.go i Hx ∧ ∀ x Hy, J.yld i Hx x Hy → g x (wipe σ vs) Hy fun τ Ha => wipe τ vs = wipe σ vs ∧ tt τ Ha fun b Hb => if b = true then tk τ Hb fun y Hc => tv τ Hc fun z Hd => S D y z Hd (T (i + 1)) else T (i + 1) Hb)
    (hR : ∀ s' Hx, Inv (X.blk s0 H0 scope ce fp) [] (wipe σ vs) Hx s' → Fin Hx → R (.ok .next) s')
    {s : Shared} {Hs : Hp} (I : Inv (X.blk s0 H0 scope ce fp) [] (wipe σ vs) Hs s) (st : tn 0 s.heap) (nf : ∀ b ∈ fp, Hs b = none) (t0 : T 0 Hs) :
    codeAny (model X.prog X.w) X.A (.compLoop (.DictComp kx vx [⟨tg, iter, ifs, 0⟩] scope pos) 0 (.ref it) (.ref D) ce) R s := by
  have fpo : ∀ {τ : L2.St} {Hx : Hp} {s' : Shared}, Inv (X.blk s0 H0 scope ce fp) [] τ Hx s' → (∀ b ∈ fp, Hx b = none) → ∀ b ∈ fp, FpOk (X.blk s0 H0 scope ce fp) [] Hx b := by
    intro τ Hx s' I' hn b hb
    refine ⟨hn b hb, (I'.ok.exf b hb).1, I'.ok.exfs b hb, .inl hb, fun x c e => (I'.ok.exf b hb).2 x c e, fun p hp => ?_⟩
    have hp : p ∈ ([] : List (Addr × Obj)) ++ [] := hp
    cases hp
  refine compLoop_anyD (fun left s' => ∃ i Hx, left + i = N ∧ Inv (X.blk s0 H0 scope ce fp) [] (wipe σ vs) Hx s' ∧ tn i s'.heap ∧ (∀ b ∈ fp, Hx b = none) ∧ T i Hx) ?_ N ⟨0, Hs, rfl, I, st, nf, t0⟩
  rintro left s1 ⟨i, H1, hl, I1, st1, nf1, t1⟩
  by_cases hlast : i = N
  · subst hlast
    obtain ⟨q1, q2⟩ := fin H1 t1
    refine thnF (tr.done (X.blk s0 H0 scope ce fp) rfl rfl rfl hc i [] s1 _ H1 (fun _ _ => False) I1 (fpo I1 nf1) st1 q1) fun r s2 ⟨hr, I2⟩ => ?_
    subst hr
    exact hR s2 H1 I2 q2
  · obtain ⟨q1, q2⟩ := step i H1 (by omega) t1
    refine thnF (tr.item (X.blk s0 H0 scope ce fp) rfl rfl rfl hc i [] s1 _ H1 (fun _ _ => False) I1 (fpo I1 nf1) st1 q1) fun r s2 ⟨u, hr, h2⟩ => ?_
    subst hr
    refine thnF h2 fun _ s3 ⟨x, H3, I3, rx, yx, st3, nf3⟩ => ?_
    have P3 := I3.pinned (fpo I3 nf3) (tr.obj _ _ st3)
    -- a turn has ended: the iterator stands as it stood
    have next : ∀ {τ : L2.St} {Hx : Hp} {s' : Shared}, wipe τ vs = wipe σ vs → Inv (X.blk s0 H0 scope ce fp) ([] ++ pinsAt fp s3.heap) τ Hx s' → T (i + 1) Hx →
        ∃ m, m < left ∧ ∃ i Hx, m + i = N ∧ Inv (X.blk s0 H0 scope ce fp) [] (wipe σ vs) Hx s' ∧ tn i s'.heap ∧ (∀ b ∈ fp, Hx b = none) ∧ T i Hx := by
      intro τ Hx s' hw I' t'
      have pin : ∀ b ∈ fp, ∀ o, s3.heap.get? b = some o → s'.heap.get? b = some o ∧ Hx b = none := fun b hb o e => by
        have z := I'.pin (b, o) (List.mem_append_right _ (List.mem_append_right _ (mem_pinsAt hb e)))
        exact ⟨z.1, z.2.1⟩
      refine ⟨N - (i + 1), by omega, i + 1, Hx, by omega, ?_, tr.keep _ _ _ st3 fun b hb o e => (pin b hb o e).1, fun b hb => ?_, t'⟩
      · rw [← hw]
        exact (I'.unpinned (pins := [])).weak (by rw [wipe_length]) fun j v e => (wipe_some e).1
      · obtain ⟨o, e, _⟩ := tr.obj _ _ st3 b hb
        exact (pin b hb o e).2
    refine thnF (pg.run _ s3 _ H3 x u _ P3 rx (q2 x H3 yx)) fun _ s4 ⟨τ, H4, I4, hw, q4⟩ => ?_
    refine thnF (pt.run _ s4 τ H4 _ I4 q4) fun b s5 ⟨H5, I5, q5⟩ => ?_
    cases b with
    | false =>
      rw [if_neg Bool.false_ne_true] at q5 ⊢
      exact next hw I5 q5
    | true =>
      rw [if_pos rfl] at q5 ⊢
      refine thnF (pk.run _ s5 τ H5 _ I5 q5) fun yv s6 ⟨y, H6, I6, ry, q6⟩ => ?_
      refine thnF (pv.run _ s6 τ H6 _ I6 q6) fun zv s7 ⟨z, H7, I7, rz, q7⟩ => ?_
      exact thnF (hS _ _ _ _ _ _ _ _ _ _ _ _ _ _ _ _ I7 ry rz q7) fun _ s8 ⟨H8, I8, q8⟩ => next hw I8 q8
theorem pe_dx {kx vx tg iter : Expr} {ifs : List Expr} {scope : Scope} {own : List (Str × Nat)} {pos : Pos} {wi : TI} {g : TG} {tt : TT} {tk tv : TE} {S : TSt} (hc : X.calm = true) (hN : X.N.Nodup) (hS : StOk X S) (hi : PI X tg iter wi) (ok : BlkOk X.N X.env.scope scope own)
    (hg : Blk X scope fun Y => PG Y tg g) (ht : Blk X scope fun Y => PTs Y ifs tt) (hk : Blk X scope fun Y => PE Y kx tk) (hv : Blk X scope fun Y => PE Y vx tv) (hs : ∀ x, foldedSetIterable iter X.env x = pure x := by intro _; rfl) :
    PE X (.DictComp kx vx [⟨tg, iter, ifs, 0⟩] scope pos) (rDx wi g tt tk tv S (own.map (·.2))) := by
  refine ⟨fun pins s σ H Q I h => ?_⟩
  rw [arm_eval_DictComp]
  have hfree : ∀ y ∈ scope.names, y.2 = .free → ∃ c, X.env.cells.lookup y.1 = some c := by
    intro y hy e
    exact I.ok.has _ ((ok.free y hy e).imp id id)
  refine wpAny_comprehension_free (use := none) rfl hs (closure_ok hfree) ok.kind (fun y hy e => by rw [ok.uniq y hy, e]) ?_
  refine thn (hi.run pins s σ H _ I h) fun xv s1 hx => thn hx fun itv s2 ⟨it, fp, tn, J, H2, e, I2, tr, st2, f2, q⟩ => ?_
  subst e
  obtain ⟨N, T, t0, fin, step⟩ := q s2.heap.objs.size (I2.hok.fresh (Nat.le_refl _)) (beq_eq_false_iff_ne.mpr (Nat.ne_of_gt I2.big))
  have hDn : H2 s2.heap.objs.size = none := I2.hok.fresh (Nat.le_refl _)
  refine wpAny_newObj_type (newEnv_comp ?_)
  have I3 := dx_new I2
  have lt : ∀ b ∈ fp, b < s2.heap.objs.size := fun b hb => by
    obtain ⟨o, e, _⟩ := tr.obj _ _ st2 b hb
    exact Heap.lt_size e
  generalize hD : s2.heap.objs.size = D at *
  generalize hs3 : ({ s2 with heap := s2.heap.push { cls := .type "dict", data := .dict #[] } } : Shared) = s3 at I3
  have e3 : s3.heap = s2.heap.push { cls := .type "dict", data := .dict #[] } := by rw [← hs3]
  have f3 : ∀ b ∈ fp, FpOk X pins (upd H2 D (dxo D #[])) b ∧ b < s3.heap.objs.size := fun b hb => by
    have := lt b hb
    refine ⟨⟨?_, (f2 b hb).2⟩, by rw [e3, Heap.size_push, hD]; exact Nat.lt_succ_of_lt this⟩
    rw [upd_ne (Nat.ne_of_lt this)]
    exact (f2 b hb).1
  have k3 : tn 0 s3.heap := tr.keep _ _ _ st2 fun b _ o e => by rw [e3]; exact Heap.get?_push_of_some _ e
  have I4 := block_start I3 ok hN f3
  refine codeAny_compStart_dict ?_ (tr.self X.A 0 _ _ _ (tr.keep _ _ _ k3 fun b _ o e => pushCells_keeps _ _ _ _ (Heap.get?_push_of_some _ e)) ?_) <;>
  · refine dx_turns (Fin := Q (.ref D)) hc tr hS (hg s3 (upd H2 D (dxo D #[])) s3.heap.objs.size (cellsFrom (s3.heap.objs.size + 1) scope.names (cloFrom X.env.cells scope.names [])) fp)
      (ht s3 (upd H2 D (dxo D #[])) s3.heap.objs.size (cellsFrom (s3.heap.objs.size + 1) scope.names (cloFrom X.env.cells scope.names [])) fp)
      (hk s3 (upd H2 D (dxo D #[])) s3.heap.objs.size (cellsFrom (s3.heap.objs.size + 1) scope.names (cloFrom X.env.cells scope.names [])) fp)
      (hv s3 (upd H2 D (dxo D #[])) s3.heap.objs.size (cellsFrom (s3.heap.objs.size + 1) scope.names (cloFrom X.env.cells scope.names [])) fp)
      fin step (fun s5 H5 I5 q5 => ?_) I4 (tr.keep _ _ _ k3 fun b _ o e => pushCells_keeps _ _ _ _ (Heap.get?_push_of_some _ e)) (fun b hb => (f3 b hb).1.1) t0
    -- back in the def
    have I6 : Inv X pins σ H5 s5 := I3.call' (ch := fp) I5.os I5.base I5.hok I5.bare fun b hb => ⟨(f3 b hb).1.2.2.2.1, (f3 b hb).1.2.1, (f3 b hb).1.2.2.2.2.1, (f3 b hb).1.2.2.2.2.2⟩
    have nL : H5 s3.heap.objs.size = none := I5.free
    obtain ⟨m, hn, _⟩ := I5.loc
    obtain ⟨a0, a1, a2, a3, a4, a5⟩ := I3.fpOk (Nat.le_refl _) nL
    exact ⟨m, hn, fun h'' sb => ⟨.ref D, H5, I6.turned (t' := s5.toks) (fun b o hb e => (sb.2 b hb).trans e) a0 a1 a3 a4 a5, rfl, q5⟩⟩
end
end DL

set_option maxHeartbeats 1000000
namespace DL
open PySem PySem.Spec PyProof.Rows L2

theorem tKeys_cons {k d : Dat} {r : List (Dat × Dat)} {ns : List NestedKey} (h : tKeys ((k, d) :: r) = some ns) : ∃ q qs, tKey k = some q ∧ tKeys r = some qs ∧ ns = q :: qs := by
  rw [tKeys] at h
  split at h
  · rename_i q qs h1 h2
    cases h
    exact ⟨q, qs, h1, h2, rfl⟩
  · cases h
theorem getT_mem {k : NestedKey} : ∀ {kvs : List (Dat × Dat)} {ns : List NestedKey}, tKeys kvs = some ns → ((getT kvs k).isSome = true ↔ k ∈ ns)
  | [], ns, h => by cases h; simp [getT]
  | (x, d) :: r, ns, h => by
    obtain ⟨q, qs, h1, h2, rfl⟩ := tKeys_cons h
    by_cases e : q = k
    · subst e
      have : getT ((x, d) :: r) q = some d := by simp [getT, h1]
      rw [this]
      simp
    · have : getT ((x, d) :: r) k = getT r k := by simp [getT, h1, e]
      rw [this, getT_mem h2]
      simp [Ne.symm e]
theorem tKeys_snoc {key d : Dat} {k : NestedKey} (hk : tKey key = some k) : ∀ {kvs : List (Dat × Dat)} {ns : List NestedKey}, tKeys kvs = some ns → tKeys (kvs ++ [(key, d)]) = some (ns ++ [k])
  | [], ns, h => by
    cases h
    show tKeys [(key, d)] = _
    rw [tKeys, hk]
    rfl
  | (x, d') :: r, ns, h => by
    obtain ⟨q, qs, h1, h2, rfl⟩ := tKeys_cons h
    show tKeys ((x, d') :: (r ++ [(key, d)])) = _
    rw [tKeys, h1, tKeys_snoc hk h2]
    rfl
theorem tKeys_map {f : Dat × Dat → Dat × Dat} (hf : ∀ p, (f p).1 = p.1) : ∀ {kvs : List (Dat × Dat)} {ns : List NestedKey}, tKeys kvs = some ns → tKeys (kvs.map f) = some ns
  | [], ns, h => h
  | (x, d') :: r, ns, h => by
    obtain ⟨q, qs, h1, h2, rfl⟩ := tKeys_cons h
    rw [List.map_cons]
    have e := hf (x, d')
    generalize hg : f (x, d') = g at e
    obtain ⟨g1, g2⟩ := g
    have e : g1 = x := e
    subst e
    rw [tKeys, h1, tKeys_map hf h2]
theorem putT_ok {key d : Dat} {k : NestedKey} {kvs : List (Dat × Dat)} {ns : List NestedKey} (hk : tKey key = some k) (h : tKeys kvs = some ns) (nd : ns.Nodup) : ∃ ns', tKeys (putT kvs key k d) = some ns' ∧ ns'.Nodup := by
  unfold putT
  split
  · exact ⟨ns, tKeys_map (fun p => by split <;> rfl) h, nd⟩
  · rename_i hn
    refine ⟨ns ++ [k], tKeys_snoc hk h, ?_⟩
    rw [getT_mem h] at hn
    rw [List.nodup_append]
    refine ⟨nd, by simp, ?_⟩
    intro a ha b hb e
    have hb : b = k := by simpa using hb
    subst hb
    subst e
    exact hn ha
theorem putT_len {key d : Dat} {k : NestedKey} {kvs : List (Dat × Dat)} : (putT kvs key k d).length ≤ kvs.length + 1 := by
  unfold putT
  split <;> simp
def dxGo (tg : Tg) (dt : TB) (dk dv : TD) (env : Env') : List Dat → List (Dat × Dat) → Mem → (List (Dat × Dat) → Mem → Prop) → Prop
  | [], acc, m, Q => Q acc m
  | x :: xs, acc, m, Q => match bind tg (.f x) env with
    | some env2 => dt env2 m fun b m1 => if b = true then dk env2 m1 fun y m2 => dv env2 m2 fun z m3 => match y, z with
        | .f key, .f d => match tKey key with
          | some k => dxGo tg dt dk dv env xs (putT acc key k d) m3 Q
          | none => False
        | _, _ => False
      else dxGo tg dt dk dv env xs acc m1 Q
    | none => False
theorem dxGo.mono {tg : Tg} {dt : TB} {dk dv : TD} (ht : MonoB dt) (hk : MonoD dk) (hv : MonoD dv) (env : Env') : ∀ xs acc m (Q Q' : List (Dat × Dat) → Mem → Prop), (∀ x m', Q x m' → Q' x m') → dxGo tg dt dk dv env xs acc m Q → dxGo tg dt dk dv env xs acc m Q'
  | [], acc, m, Q, Q', i, h => i _ _ h
  | x :: xs, acc, m, Q, Q', i, h => by
    unfold dxGo at h ⊢
    split
    · rename_i e2 he
      rw [he] at h
      refine ht _ _ _ _ (fun b m1 h1 => ?_) h
      cases b with
      | true =>
        refine hk _ _ _ _ (fun y m2 h2 => hv _ _ _ _ (fun z m3 h3 => ?_) h2) h1
        split at h3
        · split at h3
          · exact dxGo.mono ht hk hv env xs _ m3 _ _ i h3
          · exact h3.elim
        · exact h3.elim
      | false => exact dxGo.mono ht hk hv env xs acc m1 _ _ i h1
    · rename_i he
      rw [he] at h
      exact h
def dDx (tg : Tg) (dt : TB) (dk dv : TD) (vs : List Nat) (di : TId) : TD := fun env m Q => di env m fun xs m1 => xs.length ≤ sizeLine ∧ dxGo tg dt dk dv (wipeE env vs) xs [] m1 fun ks m2 => Q (.f (.dct ks)) m2
theorem dDx.mono {tg : Tg} {dt : TB} {dk dv : TD} {vs : List Nat} {di : TId} (hi : MonoI di) (ht : MonoB dt) (hk : MonoD dk) (hv : MonoD dv) : MonoD (dDx tg dt dk dv vs di) := fun env m Q Q' i h =>
  hi _ _ _ _ (fun xs m1 h1 => ⟨h1.1, dxGo.mono ht hk hv _ _ _ _ _ _ (fun ks m2 => i _ _) h1.2⟩) h
section
variable {X : Cx} {C : Ct} {B : Nw}
theorem fzes_le {w : World} {K : PySem.W.Frag} {n n' : Nw} (l : n.le n') {es : List DictEntry} {ks : List (Dat × Dat)} (h : FzEs C w K n.al n.G es ks) : FzEs C w K n'.al n'.G es ks := FzEs.keep l.g (pre_get l.ale) h
def stT (X : Cx) (C : Ct) : TSt := fun D y v H Q => ∃ (n : Nw) (es : Array DictEntry) (kvs : List (Dat × Dat)) (ns : List NestedKey) (k : NestedKey) (key z : Dat) (b : Addr), n.H = H ∧ (∀ p o, n.G p = some o → n.H p = some o) ∧ y = .ref b ∧ n.H D = some (dxo D es) ∧ (D == sysModules) = false ∧
  FzEs C X.w X.K n.al n.G es.toList kvs ∧ tKeys kvs = some ns ∧ ns.Nodup ∧ tKey key = some k ∧ FzN C X.w X.K n (.ref b) key ∧ kvs.length < sizeLine ∧ FzN C X.w X.K n v z ∧ ∀ es' : Array DictEntry, FzEs C X.w X.K n.al n.G es'.toList (putT kvs key k z) → Q (upd H D (dxo D es'))
theorem stT_ok {k : Nat} (hr : Room k X.A) : StOk X (stT X C) := by
  intro s0 H0 scope ce fp pins σ H s D y v u r Q E I ry rv h
  obtain ⟨n, es, kvs, ns, k, key, z, b, rfl, sub, rfl, hD, hs, fz, hk, nd, hkey, hb, hl, hv, q⟩ := h
  obtain ⟨xs, tk, dd⟩ := tdct_dd (X := X.blk s0 H0 scope ce fp) (C := C) (n := n) I sub hD fz hk nd
  cases ry
  have hlen : xs.length = kvs.length := tk.length
  have dd : s.heap.DictOfH (nestedKind X.prog X.w) D xs := dd
  have hkk : (nestedKind X.prog X.w).is s.heap k b := key_is (X := X.blk s0 H0 scope ce fp) (C := C) (n := n) I sub hkey hb
  refine wpAny_dictSet_heap (hsz := by rw [hlen]; omega) (by have := rm hr; show X.A.units + 8 < cLine; omega) hkk dd fun h' dd' hsb => ?_
  obtain ⟨o, es', ep, h1, h2, h3, h4, h5, h6⟩ := dd'
  have f2 : FzEs C X.w X.K n.al n.G es'.toList (putT kvs key k z) := by
    rw [h4]
    exact tk_from (P := X.prog) (tk_put tk hkey hb rv hv)
  exact ⟨_, d_write (X := X.blk s0 H0 scope ce fp) I (by rw [hD]; exact True.intro) hsb ⟨o, h1⟩ (dxo_ok h1 h2 h3), q es' f2⟩
theorem dx_imp {tg : Tg} {dt : TB} {dk dv : TD} {vs : List Nat} {di : TId} (hi : MonoI di) (ht : MonoB dt) (hk : MonoD dk) (hv : MonoD dv) (htg : ∀ i ∈ tg.ids, i ∈ vs) :
    ∀ σ H Q, lE C B X.w X.K (dDx tg dt dk dv vs di) σ H Q → rDx (lI C B X.w X.K di) (gOf X.K tg) (lB C B X.w X.K dt) (lE C B X.w X.K dk) (lE C B X.w X.K dv) (stT X C) vs σ H Q := by
  rintro σ H Q ⟨n, env, m, rfl, ok, h⟩
  refine ⟨n, env, m, rfl, ok, hi _ _ _ _ (fun xs m1 h1 n1 J g1 l1 wk => ?_) h⟩
  obtain ⟨Gp, Y, wk, st⟩ := wk
  intro D hD hsys
  have ok1 := (ok.go g1 l1).wipe vs
  obtain ⟨f1, f2⟩ := g1.free hD
  refine ⟨xs.length, fun i H => ∃ n2 m2 es acc ns, n2.H = H ∧ n1.le n2 ∧ Good C X.w X.K n2 m2 ∧ n2.H D = some (dxo D es) ∧ n2.G D = none ∧ D ∉ n2.al ∧ FzEs C X.w X.K n2.al n2.G es.toList acc ∧ tKeys acc = some ns ∧ ns.Nodup ∧ acc.length ≤ i ∧ i ≤ xs.length ∧
    dxGo tg dt dk dv (wipeE env vs) (xs.drop i) acc m2 (fun ks m' => AftL C X.w X.K n env σ Q (.f (.dct ks)) m'), ?_, ?_, ?_⟩
  · exact ⟨⟨n1.G, n1.al, upd n1.H D (dxo D #[])⟩, m1, #[], [], [], rfl, (Nw.le.refl n1).at hD, g1.at f1 f2, upd_same, f1, f2, .nil, rfl, List.nodup_nil, Nat.le_refl _, Nat.zero_le _, h1.2⟩
  · rintro H ⟨n2, m2, es, acc, ns, rfl, l2, g2, hD2, hG2, ha2, hz2, hk2, nd2, hl2, hi2, h2⟩
    refine ⟨wk.stops _ (st n2 m2 l2.sub g2).1, ?_⟩
    rw [List.drop_length] at h2
    have h2 : AftL C X.w X.K n env σ Q (.f (.dct acc)) m2 := h2
    have g3 := del_good g2 hG2 ha2
    have l3 : n.le ⟨n2.G, n2.al, del n2.H D⟩ := l1.trans (del_le l2 hD)
    obtain ⟨g4, l4⟩ := g3.freeze (o := dxo D es) (p := D) del_same
    have hG' : ∀ p o, n2.G p = some o → upd n2.G D (dxo D es) p = some o := fun p o e => by
      rw [upd_ne (fun z => by subst z; rw [hG2] at e; cases e)]; exact e
    have e5 : upd (del n2.H D) D (dxo D es) = upd n2.H D (dxo D es) := by
      funext b
      by_cases hb : b = D
      · subst hb; rw [upd_same, upd_same]
      · rw [upd_ne hb, upd_ne hb, del_ne hb]
    have e6 : upd n2.H D (dxo D es) = n2.H := by
      funext b
      by_cases hb : b = D
      · subst hb; rw [upd_same, hD2]
      · rw [upd_ne hb]
    have h5 := h2 ⟨upd n2.G D (dxo D es), n2.al, upd (del n2.H D) D (dxo D es)⟩ (.ref D) g4 (l3.trans l4) (Fz.dct upd_same hsys (FzEs.keep hG' (fun _ _ e => e) hz2))
    rw [← e6, ← e5]
    exact h5
  · rintro i H hi ⟨n2, m2, es, acc, ns, rfl, l2, g2, hD2, hG2, ha2, hz2, hk2, nd2, hl2, hi2, h2⟩
    obtain ⟨gp, sti⟩ := st n2 m2 l2.sub g2
    refine ⟨wk.goes i _ hi gp, fun x H' yx => ?_⟩
    obtain ⟨n3, d, rfl, g3, l3, hd3, hz3⟩ := sti i x _ hi (wk.yields i _ x H' hi gp yx)
    have hdr : xs.drop i = d :: xs.drop (i + 1) := by
      rw [List.drop_eq_getElem_cons hi]
      rw [List.getElem?_eq_getElem hi] at hd3
      rw [Option.some.inj hd3]
    rw [hdr] at h2
    unfold dxGo at h2
    split at h2
    · rename_i env2 hb2
      have D2 : n2.H D ≠ none := by rw [hD2]; simp
      refine bind_ok (x := .f d) hz3 (ok1.go g3 (l2.trans l3)) hb2 fun σ2 ok3 hw => ⟨?_, ?_⟩
      · rw [hw vs htg, wipe_idem]
      · refine ⟨n3, env2, m2, rfl, ok3, ht _ _ _ _ (fun b m4 h4 n4 g4 l4 => ?_) h2⟩
        have l24 := l3.trans l4
        cases b with
        | false =>
          exact ⟨n4, m4, es, acc, ns, rfl, l2.trans l24, g4, l24.keep D _ hD2 ha2, (l24.gnew D D2).trans hG2, l24.nal D2 ha2, fzes_le l24 hz2, hk2, nd2, by omega, by omega, h4⟩
        | true =>
          refine ⟨n4, env2, m4, rfl, ok3.go g4 l4, hk _ _ _ _ (fun y m5 h5 n5 v g5 l5 ly => ?_) h4⟩
          refine ⟨n5, env2, m5, rfl, (ok3.go g4 l4).go g5 l5, hv _ _ _ _ (fun z m6 h6 n6 u g6 l6 lz => ?_) h5⟩
          have l26 := (l24.trans l5).trans l6
          have e6 := l26.keep D _ hD2 ha2
          have hG6 := (l26.gnew D D2).trans hG2
          have ha6 := l26.nal D2 ha2
          split at h6
          · rename_i key d6
            split at h6
            · rename_i k ek
              have ly : FzN C X.w X.K n5 v key := ly
              have ly6 : FzN C X.w X.K n6 v key := FzN.le (n := n5) ly l6
              have lz : FzN C X.w X.K n6 u d6 := lz
              obtain ⟨⟨ys, rfl⟩, _, _⟩ := tKey_is ek
              obtain ⟨b, rfl⟩ : ∃ b, v = .ref b := by
                have l' : Fz C X.w X.K n5.al n5.G v (.tup ys) := ly
                cases l'; exact ⟨_, rfl⟩
              obtain ⟨ns', hk', nd'⟩ := putT_ok (d := d6) ek hk2 nd2
              refine ⟨n6, es, acc, ns, k, _, d6, b, rfl, g6.sub, rfl, e6, hsys, fzes_le l26 hz2, hk2, nd2, ek, ly6, by have := h1.1; omega, lz, fun es' fz' => ?_⟩
              have := putT_len (key := .tup ys) (d := d6) (k := k) (kvs := acc)
              exact ⟨⟨n6.G, n6.al, upd n6.H D (dxo D es')⟩, m6, es', putT acc (.tup ys) k d6, ns', rfl, (l2.trans l26).at hD, g6.at hG6 ha6, upd_same, hG6, ha6, fz', hk', nd', by omega, by omega, h6⟩
            · exact h6.elim
          · exact h6.elim
    · exact h2.elim
theorem de_dx {k : Nat} {kx vx te iter : Expr} {ifs : List Expr} {scope : Scope} {pos : Pos} {tg : Tg} {dt : TB} {dk dv : TD} {di : TId} (own : List (Str × Nat)) (hr : Room k X.A) (hc : X.calm = true) (hN : X.N.Nodup) (hi : DI X C B te iter di) (hg : Blk X scope fun Y => TgOk Y te tg) (ht : Blk X scope fun Y => DTs Y C B ifs dt)
    (hk : Blk X scope fun Y => DE Y C B kx dk) (hv : Blk X scope fun Y => DE Y C B vx dv) (mt : MonoB dt) (mk : MonoD dk) (mv : MonoD dv) (ok : BlkOk X.N X.env.scope scope own) (htg : ∀ i ∈ tg.ids, i ∈ own.map (·.2)) (hs : ∀ x, foldedSetIterable iter X.env x = pure x := by intro _; rfl) :
    DE X C B (.DictComp kx vx [⟨te, iter, ifs, 0⟩] scope pos) (dDx tg dt dk dv (own.map (·.2)) di) :=
  ⟨dDx.mono hi.mono mt mk mv, imp (pe_dx hc hN (stT_ok (C := C) hr) hi.run ok (fun s H C cl fp => (hg s H C cl fp).run) (fun s H C cl fp => (ht s H C cl fp).run) (fun s H C cl fp => (hk s H C cl fp).run) (fun s H C cl fp => (hv s H C cl fp).run) hs) (dx_imp hi.mono mt mk mv htg)⟩
end
end DL

set_option maxHeartbeats 1000000
namespace DL
open PySem PySem.Spec PyProof.Rows L2

section
variable {X : Cx} {C : Ct}
end
end DL

set_option maxHeartbeats 1000000
namespace DL
open PySem PySem.Spec PyProof.Rows L2

def dGetT (d : TD) (da : TAd) : TD := fun env m Q => d env m fun x m1 => match dDct env m1 x with
  | some _ => da env m1 fun ls m2 => match dDct env m2 x, ls with
    | some kvs, [.f key, .f z] => match tKey key, tKeys kvs with
      | some k, some ns => ns.Nodup ∧ Q (.f ((getT kvs k).getD z)) m2
      | _, _ => False
    | _, _ => False
  | none => False
theorem dGetT.mono {d : TD} {da : TAd} (hd : MonoD d) (ha : MonoA da) : MonoD (dGetT d da) := fun env m Q Q' i h => hd _ _ _ _ (fun x m1 h1 => by
  split at h1
  · refine ha _ _ _ _ (fun ls m2 h2 => ?_) h1
    split at h2
    · split at h2
      · exact ⟨h2.1, i _ _ h2.2⟩
      · exact h2
    · exact h2
  · exact h1) h
section
variable {X : Cx} {C : Ct} {B : Nw} {k : Nat} {o e : Expr} {es : List Expr} {d : TD} {da : TAd} {apos cpos : Pos}
theorem dictAt {pins : List (Addr × Obj)} {σ : L2.St} {s : Shared} {n : Nw} {a : Addr} {es : Array DictEntry} (I : Inv X pins σ n.H s) (ha : n.H a = some (dxo a es)) : s.TypeIs (.ref a) "dict" ∧ ∀ b, Value.ref a = .ref b → ∃ ob, s.heap.get? b = some ob ∧ ob.dict = none := by
  obtain ⟨⟨o, ep, e1, e2, e3⟩, _⟩ := (show _ ∧ _ from I.hok a _ ha)
  refine ⟨⟨o, e1, e2.1⟩, fun b eb => ?_⟩
  cases eb
  exact ⟨o, e1, e2.2.1⟩
theorem de_getT (hr : Room k X.A) (ho : DE X C B o d) (ha : DA X C B (e :: es) da)
    (hbase : attributeBase o "get" X.env (eval o X.env) = eval o X.env := by rfl)
    (hfew : ((backTo cpos (starEach (e :: es) X.env)).all (fun x => !x.1) && (backToKw cpos (keywordEach [] X.env)).all (fun x => x.1.isSome)
      && decide ((e :: es).length + ([] : List Keyword).length + (if ([] : List Keyword).isEmpty then 0 else 1) < 30)) = true := by rfl)
    (hline : (apos.endLine == cpos.line) = true := by rfl) (hs : starEach (e :: es) X.env = (false, eval e X.env) :: starEach es X.env := by rfl) (hpl : (backTo cpos (starEach es X.env)).any (·.1) = false := by rfl) :
    DE X C B (.Call (.Attribute o "get" apos) (e :: es) [] cpos) (dGetT d da) := by
  refine ⟨dGetT.mono ho.mono ha.mono, ⟨fun pins s σ H Q I h0 => ?_⟩⟩
  obtain ⟨n, env, m, rfl, ok, q⟩ := h0
  refine wpAny_Call_method_late hbase hfew hline rfl (thn (ho.run.run pins s σ n.H (fun v H1 => ∃ n1 m1 x, n1.H = H1 ∧ Good C X.w X.K n1 m1 ∧ n.le n1 ∧ LvOk C X.w X.K n1 env σ v x ∧ (∃ kvs, dDct env m1 x = some kvs) ∧
      da env m1 fun ls m2 => match dDct env m2 x, ls with
        | some kvs, [.f key, .f z] => match tKey key, tKeys kvs with
          | some k, some ns => ns.Nodup ∧ AftL C X.w X.K n env σ Q (.f ((getT kvs k).getD z)) m2
          | _, _ => False
        | _, _ => False) I ⟨n, env, m, rfl, ok, ho.mono _ _ _ _ (fun x m1 q1 n1 v g1 l1 lx => ?_) q⟩) fun u s1 ⟨v, H1, I1, rv, n1, m1, x, eH, g1, l1, lx, ⟨kvs0, hk0⟩, q1⟩ => ?_)
  · split at q1
    · rename_i kvs hk
      exact ⟨n1, m1, x, rfl, g1, l1, lx, ⟨kvs, hk⟩, q1⟩
    · exact q1.elim
  · subst eH
    have ok1 := ok.go g1 l1
    obtain ⟨a, es1, rfl, ha1, _, _⟩ := dDct_ok ok1 lx hk0
    cases rv
    obtain ⟨t1, t2⟩ := dictAt I1 ha1
    refine ⟨"dict", "dict.get", PySem.F.plainAttrs_dict, PySem.F.slot_dict_get, PySem.F.type_dict_get, t1, t2, ?_⟩
    have hA := ha.run.run cpos pins s1 σ n1.H (fun vs H2 => ∃ n2 m2 ls, n2.H = H2 ∧ Good C X.w X.K n2 m2 ∧ n1.le n2 ∧ LvsOk C X.w X.K n2 env σ vs ls ∧
      (match dDct env m2 x, ls with
        | some kvs, [.f key, .f z] => match tKey key, tKeys kvs with
          | some k, some ns => ns.Nodup ∧ AftL C X.w X.K n env σ Q (.f ((getT kvs k).getD z)) m2
          | _, _ => False
        | _, _ => False)) I1 ⟨n1, env, m1, rfl, ok1, ha.mono _ _ _ _ (fun ls m2 q2 n2 vs g2 l2 lls => ⟨n2, m2, ls, rfl, g2, l2, lls, q2⟩) q1⟩
    rw [hs] at hA ⊢
    refine Calls.callWith_builtin (by show (false || (backTo cpos (starEach es X.env)).any (·.1)) = false; rw [hpl] <;> rfl) (Calls.evalArgs_plain ?_)
    refine thn hA fun us s2 ⟨vs, H2, I2, r2, n2, m2, ls, eH2, g2, l2, lls, q2⟩ => ?_
    subst eH2
    have ok2 := ok1.go g2 l2
    split at q2
    · rename_i kvs key z hk
      split at q2
      · rename_i k ns e1 e2
        obtain ⟨nd, q2⟩ := q2
        cases lls with
        | cons h1 lls =>
          cases lls with
          | cons h2 lls =>
            cases lls
            rename_i v1 v2
            cases r2 with
            | cons r1 r2 =>
              cases r2 with
              | cons r3 r2 =>
                cases r2
                have h1 : FzN C X.w X.K n2 v1 key := h1
                have h2 : FzN C X.w X.K n2 v2 z := h2
                obtain ⟨⟨ys, rfl⟩, _, _⟩ := tKey_is e1
                obtain ⟨b, rfl⟩ : ∃ b, v1 = .ref b := by
                  have h1' : Fz C X.w X.K n2.al n2.G v1 (.tup ys) := h1
                  cases h1'; exact ⟨_, rfl⟩
                cases r1
                obtain ⟨a', es2, ea, ha2, hsm, fz⟩ := dDct_ok ok2 (lx.le l2) hk
                cases ea
                obtain ⟨xs, tk, dd⟩ := tdct_dd I2 ok2.good.sub ha2 fz e2 nd
                refine PySem.call_meetsIn PySem.F.slot_dict_get dd.typeIs PySem.F.entry_dict_get (PySem.F.args_dict_get_3 _ _ _) (PySem.meetsH_dict_get_default (nestedKind X.prog X.w) a b hsm _) ⟨roomT hr, k, xs, key_is I2 ok2.good.sub e1 h1, dd, ?_⟩
                rcases tk_at tk k with ⟨g3, g4⟩ | ⟨p, v', d', g3, g4, g5, g6⟩
                · rw [g3]
                  rw [g4] at q2
                  exact ⟨v2, n2.H, I2.tok _, r3, q2 n2 v2 ok2.good (l1.trans l2) h2⟩
                · rw [g3]
                  rw [g4] at q2
                  exact ⟨v', n2.H, I2.tok _, g5, q2 n2 v' ok2.good (l1.trans l2) g6⟩
      · exact q2.elim
    · exact q2.elim
end
end DL

set_option maxHeartbeats 1000000
namespace DL
open PySem PySem.Spec PyProof.Rows L2

theorem walk_it {J : It} {N : Nat} {Gp : Hp → Prop} {Y : Nat → Hp → V → Hp → Prop} (wk : Walk J N Gp Y) {Tn : V → Hp → (Hp → Prop) → Prop} {H0 : Hp} {Qd : Hp → Prop} (S : Nat → Hp → Prop) (start : S 0 H0)
    (stays : ∀ j Hx, j ≤ N → S j Hx → Gp Hx) (step : ∀ j a Hx Hy, j < N → S j Hx → Y j Hx a Hy → Tn a Hy (S (j + 1))) (fin : ∀ Hx, S N Hx → Qd Hx) :
    ∃ W : Nat → Nat → Hp → Prop, (∃ m, W 0 m H0) ∧ ∀ j m Hx, W j m Hx → (J.stop j Hx ∧ Qd Hx) ∨ (J.go j Hx ∧ ∃ Nx : Hp → Prop, (∀ Hn, Nx Hn → ∃ m', m' < m ∧ W (j + 1) m' Hn) ∧ ∀ a Hy, J.yld j Hx a Hy → Tn a Hy Nx) := by
  refine ⟨fun j m Hx => m = N - j ∧ j ≤ N ∧ S j Hx, ⟨N, by simp, Nat.zero_le _, start⟩, ?_⟩
  rintro j m Hx ⟨rfl, hj, sj⟩
  have gj := stays j Hx hj sj
  by_cases lt : j < N
  · exact .inr ⟨wk.goes j Hx lt gj, S (j + 1), fun Hn sn => ⟨N - (j + 1), by omega, rfl, lt, sn⟩, fun a Hy y => step j a Hx Hy lt sj (wk.yields j Hx a Hy lt gj y)⟩
  · have e : j = N := by omega
    subst e
    exact .inl ⟨wk.stops Hx gj, fin Hx sj⟩
def lc2Go (tg : Tg) (dt : TB) (di1 : TId) (tg1 : Tg) (dt1 : TB) (de : TD) (vs1 : List Nat) (env : Env') : List Dat → Mem → (List Dat → Mem → Prop) → Prop
  | [], m, Q => Q [] m
  | x :: xs, m, Q => match bind tg (.f x) env with
    | some env2 => dt env2 m fun b m1 => if b = true then di1 env2 m1 fun ys m2 => ys.length ≤ 1000 ∧ lcGo tg1 dt1 de (wipeE env2 vs1) ys m2 fun ds m3 => lc2Go tg dt di1 tg1 dt1 de vs1 env xs m3 fun es m4 => Q (ds ++ es) m4
      else lc2Go tg dt di1 tg1 dt1 de vs1 env xs m1 Q
    | none => False
theorem lc2Go.mono {tg tg1 : Tg} {dt dt1 : TB} {di1 : TId} {de : TD} {vs1 : List Nat} (ht : MonoB dt) (hi1 : MonoI di1) (ht1 : MonoB dt1) (hd : MonoD de) (env : Env') : ∀ xs m (Q Q' : List Dat → Mem → Prop), (∀ x m', Q x m' → Q' x m') → lc2Go tg dt di1 tg1 dt1 de vs1 env xs m Q → lc2Go tg dt di1 tg1 dt1 de vs1 env xs m Q'
  | [], m, Q, Q', i, h => i _ _ h
  | x :: xs, m, Q, Q', i, h => by
    unfold lc2Go at h ⊢
    split
    · rename_i e2 he
      rw [he] at h
      refine ht _ _ _ _ (fun b m1 h1 => ?_) h
      cases b with
      | true => exact hi1 _ _ _ _ (fun ys m2 h2 => ⟨h2.1, lcGo.mono ht1 hd _ _ _ _ _ (fun ds m3 h3 => lc2Go.mono ht hi1 ht1 hd env xs m3 _ _ (fun es m4 h4 => i _ _ h4) h3) h2.2⟩) h1
      | false => exact lc2Go.mono ht hi1 ht1 hd env xs m1 _ _ i h1
    · rename_i he
      rw [he] at h
      exact h
def nLc2 (tg : Tg) (dt : TB) (di1 : TId) (tg1 : Tg) (dt1 : TB) (de : TD) (vs vs1 : List Nat) (di : TId) : TN := fun env m Q => di env m fun xs m1 => xs.length ≤ 1000 ∧ lc2Go tg dt di1 tg1 dt1 de vs1 (wipeE env vs) xs m1 Q
theorem nLc2.mono {tg tg1 : Tg} {dt dt1 : TB} {di di1 : TId} {de : TD} {vs vs1 : List Nat} (hi : MonoI di) (ht : MonoB dt) (hi1 : MonoI di1) (ht1 : MonoB dt1) (hd : MonoD de) : MonoN' (nLc2 tg dt di1 tg1 dt1 de vs vs1 di) := fun env m Q Q' i h =>
  hi _ _ _ _ (fun xs m1 h1 => ⟨h1.1, lc2Go.mono ht hi1 ht1 hd _ _ _ _ _ i h1.2⟩) h
section
variable {X : Cx} {C : Ct} {B : Nw}
theorem setAll_own : ∀ {is : List Nat} {ds : List Dat} {env : Env'} {j : Nat} {y : Mo}, ds.length = is.length → (setAll is ds env)[j]? = some (some (.own y)) → j ∉ is ∧ env[j]? = some (some (.own y))
  | [], [], env, j, y, _, h => ⟨by simp, h⟩
  | i :: is, d :: ds, env, j, y, hl, h => by
    have hl : ds.length = is.length := by simpa using hl
    obtain ⟨h1, h2⟩ := setAll_own hl (show (setAll is ds (env.set i (some (.f d))))[j]? = _ from h)
    by_cases e : i = j
    · subst e
      have hlt : i < env.length := by
        have := (List.getElem?_eq_some_iff.mp h2).1
        simpa using this
      rw [List.getElem?_set_self hlt] at h2
      cases h2
    · rw [List.getElem?_set_ne e] at h2
      exact ⟨by simp only [List.mem_cons, not_or]; exact ⟨fun z => e z.symm, h1⟩, h2⟩
  | [], _ :: _, _, _, _, hl, _ => by simp at hl
  | _ :: _, [], _, _, _, hl, _ => by simp at hl
theorem bind_own {tg : Tg} {x : Lv} {env env2 : Env'} {j : Nat} {y : Mo} (h : bind tg x env = some env2) (e : env2[j]? = some (some (.own y))) : j ∉ tg.ids ∧ env[j]? = some (some (.own y)) := by
  unfold bind at h
  split at h
  · rename_i i d
    cases h
    have z := setAll_own (is := [i]) (ds := [d]) rfl (show (setAll [i] [d] env)[j]? = _ from e)
    exact z
  · rename_i is ds
    split at h
    · rename_i hl
      cases h
      exact setAll_own hl e
    · cases h
  · cases h
theorem ok_del {w : World} {K : PySem.W.Frag} {n : Nw} {m : Mem} {env : Env'} {σ : L2.St} {D : Addr} (ok : Ok C w K B n env m σ) (hG : n.G D = none) (ha : D ∉ n.al) (hB : B.H D = none) (hc : Calm (n.H D)) (ne : ∀ (i : Nat) (y : Mo) (a : Addr), env[i]? = some (some (Sl.own y)) → σ[i]? = some (some (V.ref a)) → a ≠ D) :
    Ok C w K B ⟨n.G, n.al, del n.H D⟩ env m σ :=
  ⟨del_good ok.good hG ha hc, del_le ok.base hB, ok.env.len, ok.env.fz, fun i y e => by
    obtain ⟨a, f, q⟩ := ok.env.own i y e
    refine ⟨a, f, q.ok.imp (n := n) (fun _ _ e => e) (fun _ _ e => e) fun u e2 => ?_, q.g, q.al, q.new⟩
    show del n.H D a = some u
    rw [del_ne (ne i y a e f)]; exact e2, ok.env.apart⟩
theorem le_undel {n : Nw} {D : Addr} (ha : D ∉ n.al) : Nw.le ⟨n.G, n.al, del n.H D⟩ n := by
  refine ⟨fun _ _ e => e, fun p o e _ _ => ?_, fun p e => ?_, fun _ _ => rfl, List.prefix_rfl, fun k p hk e => ?_⟩
  · have e : del n.H D p = some o := e
    by_cases h : p = D
    · subst h; rw [del_same] at e; cases e
    · rw [del_ne h] at e; exact e
  · have e : del n.H D p ≠ none := e
    by_cases h : p = D
    · subst h; rw [del_same] at e; exact absurd rfl e
    · rw [del_ne h] at e; exact e
  · have hk : n.al.length ≤ k := hk
    rw [List.getElem?_eq_none hk] at e; cases e
theorem drop_at {α : Type} {xs : List α} {i : Nat} {d : α} (hi : i < xs.length) (h : xs[i]? = some d) : xs.drop i = d :: xs.drop (i + 1) := by
  rw [List.drop_eq_getElem_cons hi]
  rw [List.getElem?_eq_getElem hi] at h
  rw [Option.some.inj h]
theorem lc2_imp {tg tg1 : Tg} {dt dt1 : TB} {de : TD} {vs vs1 : List Nat} {di di1 : TId} (hi : MonoI di) (ht : MonoB dt) (hi1 : MonoI di1) (ht1 : MonoB dt1) (hd : MonoD de) (htg : ∀ i ∈ tg.ids, i ∈ vs) (htg1 : ∀ i ∈ tg1.ids, i ∈ vs1) :
    ∀ σ H Q, lN C B X.w X.K (nLc2 tg dt di1 tg1 dt1 de vs vs1 di) σ H Q → tLc2 (lI C B X.w X.K di) (gOf X.K tg) (lB C B X.w X.K dt) (lI C B X.w X.K di1) (gOf X.K tg1) (lB C B X.w X.K dt1) (lE C B X.w X.K de) vs vs1 σ H Q := by
  rintro σ H Q ⟨n, env, m, rfl, ok, h⟩
  refine ⟨n, env, m, rfl, ok, hi _ _ _ _ (fun xs m1 h1 n1 J g1 l1 wk => ?_) h⟩
  obtain ⟨Gp, Y, wk, st⟩ := wk
  intro D hD
  have ok1 := (ok.go g1 l1).wipe vs
  obtain ⟨f1, f2⟩ := g1.free hD
  have s2 : sizeLine = 16777216 := sizeLine_eq
  have bnd : ∀ i, i < xs.length → 1000 * i + 1000 < sizeLine := fun i hi => by
    have := h1.1
    omega
  refine walk_it wk (fun i H => ∃ n2 m2 aV acc, n2.H = H ∧ n1.le n2 ∧ Good C X.w X.K n2 m2 ∧ n2.H D = some (.lst aV) ∧ n2.G D = none ∧ D ∉ n2.al ∧ FzAllN C X.w X.K n2 aV acc ∧ acc.length ≤ 1000 * i ∧ i ≤ xs.length ∧
    lc2Go tg dt di1 tg1 dt1 de vs1 (wipeE env vs) (xs.drop i) m2 (fun ds m' => ∀ n' p us, Good C X.w X.K n' m' → n.le n' → n'.H p = none → FzAllN C X.w X.K n' us (acc ++ ds) → Q (.ref p) (upd n'.H p (.lst us)))) ?_ ?_ ?_ ?_
  · exact ⟨⟨n1.G, n1.al, upd n1.H D (.lst [])⟩, m1, [], [], rfl, (Nw.le.refl n1).at hD, g1.at f1 f2, upd_same, f1, f2, .nil, Nat.le_refl _, Nat.zero_le _, h1.2⟩
  · rintro i H hi ⟨n2, m2, aV, acc, rfl, l2, g2, _⟩
    exact (st n2 m2 l2.sub g2).1
  · rintro i x H H' hi ⟨n2, m2, aV, acc, rfl, l2, g2, hD2, hG2, ha2, hz2, hl2, hi2, h2⟩ hy
    obtain ⟨n3, d, rfl, g3, l3, hd3, hz3⟩ := (st n2 m2 l2.sub g2).2 i x _ hi hy
    rw [drop_at hi hd3] at h2
    unfold lc2Go at h2
    split at h2
    · rename_i env2 hb2
      have D2 : n2.H D ≠ none := by rw [hD2]; simp
      refine bind_ok (x := .f d) hz3 (ok1.go g3 (l2.trans l3)) hb2 fun σ2 ok3 hw => ⟨?_, ?_⟩
      · rw [hw vs htg, wipe_idem]
      · refine ⟨n3, env2, m2, rfl, ok3, ht _ _ _ _ (fun b m4 h4 n4 g4 l4 => ?_) h2⟩
        have l24 := l3.trans l4
        cases b with
        | false =>
          exact ⟨n4, m4, aV, acc, rfl, l2.trans l24, g4, l24.keep D _ hD2 ha2, (l24.gnew D D2).trans hG2, l24.nal D2 ha2, FzAllN.le hz2 l24, by omega, by omega, h4⟩
        | true =>
          refine ⟨n4, env2, m4, rfl, ok3.go g4 l4, hi1 _ _ _ _ (fun ys m5 h5 n5 J1 g5 l5 wk1 => ?_) h4⟩
          obtain ⟨Gp1, Y1, wk1, st1⟩ := wk1
          obtain ⟨hy1000, h5⟩ := h5
          have l25 := l24.trans l5
          have hG5 := (l25.gnew D D2).trans hG2
          have ha5 := l25.nal D2 ha2
          have hDn : n.H D = none := Classical.byContradiction fun z => l1.there D z hD
          have hBD : B.H D = none := Classical.byContradiction fun z => ok.base.there D z hDn
          have ok5 := (ok_del ((ok3.go g4 l4).go g5 l5) hG5 ha5 hBD (Calm.lst (l25.keep D _ hD2 ha2)) (fun j y a e1 e2 z => by
            obtain ⟨q1, q2⟩ := bind_own hb2 e1
            have e3 : (wipe σ vs)[j]? = some (some (.ref a)) := by
              rw [← e2, ← wipe_out (σ := wipe σ vs) q1, ← wipe_out (σ := σ2) q1, hw tg.ids fun _ h => h]
            obtain ⟨a', f', q'⟩ := ok1.env.own j y q2
            rw [e3] at f'
            cases f'
            exact q'.ok.there (z ▸ hD))).wipe vs1
          refine walk_it wk1 (fun j H => ∃ n6 m6 bV bcc, n6.H = H ∧ Nw.le ⟨n5.G, n5.al, del n5.H D⟩ n6 ∧ Good C X.w X.K n6 m6 ∧ n6.H D = some (.lst bV) ∧ n6.G D = none ∧ D ∉ n6.al ∧ FzAllN C X.w X.K n6 bV bcc ∧ bcc.length ≤ 1000 * i + j ∧ j ≤ ys.length ∧
            lcGo tg1 dt1 de (wipeE env2 vs1) (ys.drop j) m6 (fun ds m' => lc2Go tg dt di1 tg1 dt1 de vs1 (wipeE env vs) (xs.drop (i + 1)) m' fun es m'' => ∀ n' p us, Good C X.w X.K n' m'' → n.le n' → n'.H p = none → FzAllN C X.w X.K n' us (bcc ++ (ds ++ es)) → Q (.ref p) (upd n'.H p (.lst us)))) ?_ ?_ ?_ ?_
          · refine ⟨n5, m5, aV, acc, rfl, le_undel ha5, g5, l25.keep D _ hD2 ha2, (l25.gnew D D2).trans hG2, l25.nal D2 ha2, FzAllN.le hz2 l25, by omega, Nat.zero_le _, ?_⟩
            exact h5
          · rintro j H hj ⟨n6, m6, bV, bcc, rfl, l6, g6, _⟩
            exact (st1 n6 m6 ⟨l6.g, l6.ale⟩ g6).1
          · rintro j y H H' hj ⟨n6, m6, bV, bcc, rfl, l6, g6, hD6, hG6, ha6, hz6, hl6, hj6, h6⟩ hyy
            obtain ⟨n7, e7, rfl, g7, l7, hd7, hz7⟩ := (st1 n6 m6 ⟨l6.g, l6.ale⟩ g6).2 j y _ hj hyy
            rw [drop_at hj hd7] at h6
            unfold lcGo at h6
            split at h6
            · rename_i env3 hb3
              have D6 : n6.H D ≠ none := by rw [hD6]; simp
              refine bind_ok (x := .f e7) hz7 (ok5.go g7 (l6.trans l7)) hb3 fun σ3 ok7 hw7 => ⟨?_, ?_⟩
              · rw [hw7 vs1 htg1, wipe_idem]
              · refine ⟨n7, env3, m6, rfl, ok7, ht1 _ _ _ _ (fun b m8 h8 n8 g8 l8 => ?_) h6⟩
                have l68 := l7.trans l8
                cases b with
                | false =>
                  exact ⟨n8, m8, bV, bcc, rfl, l6.trans l68, g8, l68.keep D _ hD6 ha6, (l68.gnew D D6).trans hG6, l68.nal D6 ha6, FzAllN.le hz6 l68, by omega, by omega, h8⟩
                | true =>
                  refine ⟨n8, env3, m8, rfl, ok7.go g8 l8, hd _ _ _ _ (fun z m9 h9 n9 v g9 l9 lz => ?_) h8⟩
                  have l69 := l68.trans l9
                  have e9 := l69.keep D _ hD6 ha6
                  have hG9 := (l69.gnew D D6).trans hG6
                  have ha9 := l69.nal D6 ha6
                  refine ⟨bV, e9, ?_, ?_⟩
                  · rw [hz6.length]
                    have := bnd i hi
                    omega
                  · cases z with
                    | o k => exact h9.elim
                    | f d9 =>
                      have lz : FzN C X.w X.K n9 v d9 := lz
                      refine ⟨⟨n9.G, n9.al, upd n9.H D (.lst (bV ++ [v]))⟩, m9, bV ++ [v], bcc ++ [d9], rfl, (l6.trans l69).at del_same, g9.at hG9 ha9, upd_same, hG9, ha9, ?_, by simp; omega, by omega, ?_⟩
                      · exact FzAll.append (FzAllN.le (n' := n9) hz6 l69) (.cons lz .nil)
                      · refine lcGo.mono ht1 hd _ _ _ _ _ (fun ds m10 h10 => lc2Go.mono ht hi1 ht1 hd _ _ _ _ _ (fun es m11 h11 n' p us g' l' hp hu => h11 n' p us g' l' hp ?_) h10) h9
                        rw [List.append_assoc] at hu
                        exact hu
            · exact h6.elim
          · rintro H ⟨n6, m6, bV, bcc, rfl, l6, g6, hD6, hG6, ha6, hz6, hl6, hj6, h6⟩
            rw [List.drop_length] at h6
            exact ⟨n6, m6, bV, bcc, rfl, (del_le (l2.trans l25) hD).trans l6, g6, hD6, hG6, ha6, hz6, by omega, by omega, h6⟩
    · exact h2.elim
  · rintro H ⟨n2, m2, aV, acc, rfl, l2, g2, hD2, hG2, ha2, hz2, hl2, hi2, h2⟩
    rw [List.drop_length] at h2
    have h3 := h2 ⟨n2.G, n2.al, del n2.H D⟩ D aV (del_good g2 hG2 ha2) (l1.trans (del_le l2 hD)) del_same (by rw [List.append_nil]; exact hz2)
    have : upd (del n2.H D) D (.lst aV) = n2.H := upd_del hD2
    rw [← this]; exact h3
theorem dn_comp2 {elt te iter te1 iter1 : Expr} {ifs ifs1 : List Expr} {scope : Scope} {pos : Pos} {tg tg1 : Tg} {dt dt1 : TB} {de : TD} {di di1 : TId} (own : List (Str × Nat)) (vs1 : List Nat) (hc : X.calm = true) (hN : X.N.Nodup) (hi : DI X C B te iter di) (hg : Blk X scope fun Y => TgOk Y te tg) (ht : Blk X scope fun Y => DTs Y C B ifs dt)
    (hi1 : Blk X scope fun Y => DI Y C B te1 iter1 di1) (hg1 : Blk X scope fun Y => TgOk Y te1 tg1) (ht1 : Blk X scope fun Y => DTs Y C B ifs1 dt1) (he : Blk X scope fun Y => DE Y C B elt de)
    (ok : BlkOk X.N X.env.scope scope own) (htg : ∀ i ∈ tg.ids, i ∈ own.map (·.2)) (htg1 : ∀ i ∈ tg1.ids, i ∈ vs1) (hv : ∀ i ∈ vs1, i ∈ own.map (·.2)) (hs : ∀ x, foldedSetIterable iter X.env x = pure x := by intro _; rfl) (hs1 : ∀ env x, foldedSetIterable iter1 env x = pure x := by intro _ _; rfl) :
    DN X C B (.ListComp elt [⟨te, iter, ifs, 0⟩, ⟨te1, iter1, ifs1, 0⟩] scope pos) (nLc2 tg dt di1 tg1 dt1 de (own.map (·.2)) vs1 di) :=
  ⟨nLc2.mono hi.mono (ht X.s_0 X.H_0 0 [] []).mono (hi1 X.s_0 X.H_0 0 [] []).mono (ht1 X.s_0 X.H_0 0 [] []).mono (he X.s_0 X.H_0 0 [] []).mono,
   imp (pe_lc2 hc hN hi.run ok hv (fun s H C cl fp => (hg s H C cl fp).run) (fun s H C cl fp => (ht s H C cl fp).run) (fun s H C cl fp => (hi1 s H C cl fp).run) (fun s H C cl fp => (hg1 s H C cl fp).run) (fun s H C cl fp => (ht1 s H C cl fp).run) (fun s H C cl fp => (he s H C cl fp).run) hs hs1)
     (lc2_imp hi.mono (ht X.s_0 X.H_0 0 [] []).mono (hi1 X.s_0 X.H_0 0 [] []).mono (ht1 X.s_0 X.H_0 0 [] []).mono (he X.s_0 X.H_0 0 [] []).mono htg htg1)⟩
end
end DL

set_option maxHeartbeats 1000000
namespace DL
open PySem PySem.Spec PyProof.Rows L2

section
variable {X : Cx} {C : Ct} {B : Nw} {e : Expr} {d : TD}
theorem de_dxB {k : Nat} {kx vx te iter : Expr} {ifs : List Expr} {scope : Scope} {pos : Pos} {tg : Tg} {dt : TB} {dk dv : TD} {di : TId} (own : List (Str × Nat)) (hr : Room k X.A) (hc : X.calm = true) (hN : X.N.Nodup) (hi : DI X C B te iter di) (hg : Blk X scope fun Y => TgOk Y te tg) (ht : Blk X scope fun Y => DTs Y C B ifs dt)
    (hk : Blk X scope fun Y => DE Y C B kx dk) (hv : Blk X scope fun Y => DE Y C B vx dv) (ok : BlkOk X.N X.env.scope scope own) (htg : ∀ i ∈ tg.ids, i ∈ own.map (·.2)) (hs : ∀ x, foldedSetIterable iter X.env x = pure x := by intro _; rfl) :
    DE X C B (.DictComp kx vx [⟨te, iter, ifs, 0⟩] scope pos) (dDx tg dt dk dv (own.map (·.2)) di) :=
  de_dx own hr hc hN hi hg ht hk hv (ht X.s_0 X.H_0 0 [] []).mono (hk X.s_0 X.H_0 0 [] []).mono (hv X.s_0 X.H_0 0 [] []).mono ok htg hs
end
end DL

set_option maxHeartbeats 2000000
namespace DL
open PySem PySem.Spec PyProof.Rows L2 LamX

section
variable {X : Cx} {pins : List (Addr × Obj)} {σ : L2.St} {H : Hp} {s : Shared}
end
def keyLO (is : List Int) : PyData := .tuple [.int is.length, .tuple (is.map .int)]
end DL

set_option maxHeartbeats 2000000
namespace DL
open PySem PySem.Spec PyProof.Rows L2 LamX

theorem keyLO_alike (xs : List (List Int)) : PySem.W.AllAlike (xs.map keyLO) := by
  intro d hd d' hd'
  obtain ⟨x, _, rfl⟩ := List.mem_map.mp hd
  obtain ⟨y, _, rfl⟩ := List.mem_map.mp hd'
  have h := PySem.W.alike_ints x y
  simp [keyLO, PySem.W.alike, PySem.W.alikeAll, h]
theorem keyLO_sortable (xs : List (List Int)) : PySem.W.Sortable (xs.map keyLO) := .inl fun d hd => by
  obtain ⟨x, _, rfl⟩ := List.mem_map.mp hd
  exact ⟨_, _, rfl⟩
section
variable {X : Cx} {C : Ct}
structure LamAt (X : Cx) (C : Ct) : Prop where
  ok : ∃ c P, X.env.code = .ref c ∧ TabB X.base X.mg c P ∧ (P, X.env.qual ++ "<lambda>") ∈ C.tabs ∧ ∀ p ∈ C.tabs, p.1 = P → p.2 = X.env.qual ++ "<lambda>"
theorem LamAt.nox (h : LamAt X C) : LamAt X.nox C := h.1.elim fun c q => ⟨⟨c, q⟩⟩
theorem LamAt.tr {pins : List (Addr × Obj)} {xe : Value → Shared → Prop} (h : LamAt X C) : LamAt (X.tr pins xe) C := h.1.elim fun c q => ⟨⟨c, q⟩⟩
end
end DL

set_option maxHeartbeats 2000000
namespace DL
open PySem PySem.Spec PyProof.Rows L2 LamX

section
variable {P : Program} {w : World} {K : PySem.W.Frag} {mg : Str → Option Value} {base : Heap} {C : Ct} {x qual : Str} {params : Arguments} {body : List Stmt} {scope : Scope} {f : Addr} {fd : FuncData} {N ps : List Str} {p : DSp} {k : Nat}
end

section
variable {P : Program} {w : World} {K : PySem.W.Frag} {gl bn : Str → Option Value} {CX : CXT} {k : Nat} {f a : Addr} {fd : FuncData} {x : Str} {sp : Sp} {S : Shared} {us : List Value} {is : List Int} {cs : List (Addr × Addr)}
end
end DL

set_option maxHeartbeats 1000000
namespace DL
open PySem PySem.Spec PyProof.Rows L2

def uSet (d di : TD) (z : Dat) (k : Env' → Mem → Prop) (env : Env') (m : Mem) : Prop := d env m fun x m2 => di env m2 fun i m3 => match moOf env m3 x, i with
  | some (.lst xs), .f (.int j) => match ixN xs.length j with
    | some a => k (setE x (.lst (xs.set a z)) env) (setM x (.lst (xs.set a z)) m3)
    | none => False
  | _, _ => False
theorem uSet.mono {d di : TD} {z : Dat} {k k' : Env' → Mem → Prop} (hd : MonoD d) (hi : MonoD di) (l : ∀ e m, k e m → k' e m) {env : Env'} {m : Mem} (h : uSet d di z k env m) : uSet d di z k' env m :=
  hd _ _ _ _ (fun x m2 h2 => hi _ _ _ _ (fun i m3 h3 => by
    try dsimp only at h3 ⊢
    split at h3
    · split at h3
      · exact l _ _ h3
      · exact h3
    · exact h3) h2) h
def sSet2 (de d di d2 di2 : TD) : TSd := fun D env m => de env m fun y m1 => match tupOf env m1 y with
  | some [z1, z2] => uSet d di z1 (fun e' m' => uSet d2 di2 z2 D.nx e' m') env m1
  | _ => False
section
variable {X : Cx} {C : Ct} {B : Nw} {de d di d2 di2 : TD} {e o i o2 i2 : Expr} {pos pt sp sp2 : Pos} {kt : Nat}
theorem sSet2.mono (he : MonoD de) (hd : MonoD d) (hi : MonoD di) (hd2 : MonoD d2) (hi2 : MonoD di2) : MonoS (sSet2 de d di d2 di2) := fun env m D D' l h => he _ _ _ _ (fun y m1 h1 => by
  try dsimp only at h1 ⊢
  split at h1
  · exact uSet.mono hd hi (fun e m h => uSet.mono hd2 hi2 (fun e m => l.nx e m) h) h1
  · exact h1) h
end
end DL

set_option maxHeartbeats 1000000
namespace DL
open PySem PySem.Spec PyProof.Rows L2

section
variable {X : Cx} {C : Ct} {B : Nw} {pos : Pos}
end
end DL

set_option maxHeartbeats 1000000
namespace DL
open PySem PySem.Spec PyProof.Rows L2

section
variable {X : Cx} {C : Ct} {B : Nw} {pos : Pos}
end
end DL

set_option maxHeartbeats 2000000
namespace DL
open PySem PySem.Spec PySem.W PyProof.Rows L2 LamX

section
variable {R : OpenRow} {M : Nat} {w : World} {α β : Type}
theorem obsY_cut {ex : List Fk} {fn : List DefX} {K : Frag} (a b : Nat) (h : obsY (ex.take a) (fn.take b) K = valY (fn.take b)) (h' : obsY (ex.drop a) (fn.drop b) K = valY (fn.drop b)) : obsY ex fn K = valY fn := by
  unfold obsY valY at *
  injection h with h1 h2
  injection h' with h3 h4
  have e1 : ex.all (fun g => g K) = ((ex.take a).all (fun g => g K) && (ex.drop a).all fun g => g K) := by rw [← List.all_append, List.take_append_drop]
  have e2 : fn.all (fun d => d.ok K) = ((fn.take b).all (fun d => d.ok K) && (fn.drop b).all fun d => d.ok K) := by rw [← List.all_append, List.take_append_drop]
  have e3 : fn.map (fun d => fnY K (d.wh.ad K)) = (fn.take b).map (fun d => fnY K (d.wh.ad K)) ++ (fn.drop b).map fun d => fnY K (d.wh.ad K) := by rw [← List.map_append, List.take_append_drop]
  have e4 : fn.map DefX.val = (fn.take b).map DefX.val ++ (fn.drop b).map DefX.val := by rw [← List.map_append, List.take_append_drop]
  obtain ⟨a1, a2⟩ := and2 h1
  obtain ⟨b1, b2⟩ := and2 h3
  rw [e1, e2, e3, e4, a1, a2, b1, b2, h2, h4]
  rfl
theorem RunP.cut {ex : List Fk} {fn : List DefX} {F : SharedT → Frag} (a b : Nat) (h : RunP R M w (fun s => obsY (ex.take a) (fn.take b) (F s)) (valY (fn.take b))) (h' : RunP R M w (fun s => obsY (ex.drop a) (fn.drop b) (F s)) (valY (fn.drop b))) : RunP R M w (fun s => obsY ex fn (F s)) (valY fn) :=
  RunP.imp (RunP.pair h h') fun s e => by
    injection e with e1 e2
    exact obsY_cut a b e1 e2
end
theorem obsRG_eq {n : Nat} {ex : List Fk} {fn : List DefX} {g : Addr → Option Obj} {s : Shared} (h : ∀ a, g a = s.heap.get? a) : obsRG n ex fn g = (hookR n ex fn).obs s := by
  have e : g = s.heap.get? := funext h
  rw [e] <;> rfl
end DL

set_option maxHeartbeats 2000000
namespace DL
open PySem PySem.Spec PyProof.Rows L2

section
variable {prog : Program} {w : World} {A : Around} {E : Value → Shared → Prop} {s : Shared}
end
section
variable {X : Cx} {C : Ct} {B : Nw} {e : Expr} {de : TD} {pos : Pos}
def sAsgL (is : List Nat) (de : TD) : TSd := fun D env m => de env m fun x m1 => match lstOf env m1 x with
  | some ds => if ds.length = is.length then D.nx (setAll is ds env) m1 else False
  | none => False
theorem sAsgL.mono {is : List Nat} (h : MonoD de) : MonoS (sAsgL is de) := fun env m D D' l => h _ _ _ _ fun x m1 => by
  split
  · split
    · exact l.nx _ _
    · exact id
  · exact id
end
section
variable {env : Env'} {m : Mem} {D : En} {d : TD}
end
end DL

set_option maxHeartbeats 2000000
namespace DL
open PySem PySem.Spec PyProof.Rows L2

def sDefT (d : TD) (da : TAd) : TSd := fun D env m => d env m fun x m1 => match dDct env m1 x with
  | some _ => da env m1 fun ls m2 => match moOf env m2 x, ls with
    | some (.dct kvs), [.f key, .f z] => match tKey key, tKeys kvs with
      | some k, some ns => ns.Nodup ∧ kvs.length < sizeLine ∧ ((getT kvs k).isSome = true → D.nx env m2) ∧ (getT kvs k = none → D.nx (setE x (.dct (putT kvs key k z)) env) (setM x (.dct (putT kvs key k z)) m2))
      | _, _ => False
    | _, _ => False
  | none => False
theorem sDefT.mono {d : TD} {da : TAd} (hd : MonoD d) (ha : MonoA da) : MonoS (sDefT d da) := fun env m D D' l h => hd _ _ _ _ (fun x m1 h1 => by
  split at h1
  · refine ha _ _ _ _ (fun ls m2 h2 => ?_) h1
    split at h2
    · split at h2
      · exact ⟨h2.1, h2.2.1, fun z => l.nx _ _ (h2.2.2.1 z), fun z => l.nx _ _ (h2.2.2.2 z)⟩
      · exact h2
    · exact h2
  · exact h1) h
section
variable {X : Cx} {C : Ct} {B : Nw} {k : Nat} {o e : Expr} {es : List Expr} {d : TD} {da : TAd} {apos cpos pos : Pos}
end

def dGet1 (d : TD) (da : TAd) : TD := fun env m Q => d env m fun x m1 => match dDct env m1 x with
  | some _ => da env m1 fun ls m2 => match dDct env m2 x, ls with
    | some kvs, [.f key] => match tKey key, tKeys kvs with
      | some k, some ns => ns.Nodup ∧ Q (.f ((getT kvs k).getD .non)) m2
      | _, _ => False
    | _, _ => False
  | none => False
theorem dGet1.mono {d : TD} {da : TAd} (hd : MonoD d) (ha : MonoA da) : MonoD (dGet1 d da) := fun env m Q Q' i h => hd _ _ _ _ (fun x m1 h1 => by
  split at h1
  · refine ha _ _ _ _ (fun ls m2 h2 => ?_) h1
    split at h2
    · split at h2
      · exact ⟨h2.1, i _ _ h2.2⟩
      · exact h2
    · exact h2
  · exact h1) h
section
variable {X : Cx} {C : Ct} {B : Nw} {k : Nat} {o e : Expr} {es : List Expr} {d : TD} {da : TAd} {apos cpos : Pos}
end
end DL

set_option maxHeartbeats 2000000
namespace DL
open PySem PySem.Spec PyProof.Rows L2

section
variable {prog : Program} {w : World} {A : Around} {E : Value → Shared → Prop} {s : Shared} {K : Type} [DecidableEq K]
end
abbrev TKd := Env' → Mem → (List (Dat × Dat) → Mem → Prop) → Prop
def MonoK (d : TKd) : Prop := ∀ env m (Q Q' : List (Dat × Dat) → Mem → Prop), (∀ x m', Q x m' → Q' x m') → d env m Q → d env m Q'
def lK (C : Ct) (B : Nw) (w : World) (K : PySem.W.Frag) (d : TKd) : TE := fun σ H Q => ∃ n env m, n.H = H ∧ Ok C w K B n env m σ ∧
  d env m fun kvs m' => ∀ n' p es, Good C w K n' m' → n.le n' → n'.H p = none → (p == sysModules) = false → FzEs C w K n'.al n'.G es.toList kvs → Q (.ref p) (upd n'.H p (dxo p es))
structure DK (X : Cx) (C : Ct) (B : Nw) (e : Expr) (d : TKd) : Prop where
  mono : MonoK d
  run : PE X e (lK C B X.w X.K d)
def dNewK (d : TKd) : TD := fun env m Q => d env m fun kvs m1 => Q (.f (.dct kvs)) m1
section
variable {X : Cx} {C : Ct} {B : Nw} {e : Expr} {pos : Pos}
theorem DK.de {d : TKd} (h : DK X C B e d) : DE X C B e (dNewK d) := by
  refine ⟨fun env m Q Q' i => h.mono env m _ _ fun ds m1 => i _ _, imp h.run ?_⟩
  rintro σ H Q ⟨n, env, m, rfl, ok, q⟩
  refine ⟨n, env, m, rfl, ok, h.mono _ _ _ _ (fun kvs m1 h1 n1 p es ok1 l1 hp hs hz => ?_) q⟩
  obtain ⟨ok3, l3⟩ := ok1.freeze (o := dxo p es) hp
  exact h1 _ _ ok3 (l1.trans l3) (.dct upd_same hs (fzes_le l3 hz))
end
section
variable {env : Env'} {m : Mem} {D : En} {d : TD}
end
end DL

set_option maxHeartbeats 1000000
namespace DL
open PySem PySem.Spec PyProof.Rows L2
section
variable {X : Cx} {C : Ct} {c j k : Nat} {p : DSp}
end
end DL

set_option maxHeartbeats 1000000
namespace DL
open PySem PySem.Spec PyProof.Rows L2
section
variable {X : Cx} {C : Ct} {B : Nw} {e o i : Expr} {d de di : TD} {pos apos cpos : Pos}
def dIdx1 (d di : TD) : TD := fun env m Q => d env m fun x m1 => match lstOf env m1 x with
  | some _ => di env m1 fun y m2 => match lstOf env m2 x, y with
    | some xs, .f (.int k) => match intsD xs with
      | some ns => k ∈ ns ∧ Q (.f (.int (ns.idxOf k : Nat))) m2
      | none => False
    | _, _ => False
  | none => False
theorem dIdx1.mono (hd : MonoD d) (hi : MonoD di) : MonoD (dIdx1 d di) := fun env m Q Q' l h => hd _ _ _ _ (fun x m1 h1 => by
  try dsimp only at h1 ⊢
  split at h1
  · refine hi _ _ _ _ (fun y m2 h2 => ?_) h1
    try dsimp only at h2 ⊢
    split at h2
    · split at h2
      · exact ⟨h2.1, l _ _ h2.2⟩
      · exact h2
    · exact h2
  · exact h1) h
theorem ints_vals {w : World} {K : PySem.W.Frag} {n : Nw} : ∀ {xs : List Dat} {ns : List Int} {vs : List V}, intsD xs = some ns → FzAllN C w K n vs xs → vs = ns.map V.int
  | [], _, vs, h, hz => by
    cases h
    cases hz
    rfl
  | x :: xs, ns, vs, h, hz => by
    cases x with
    | int b =>
      unfold intsD at h
      obtain ⟨ms, h1, rfl⟩ := Option.map_eq_some_iff.mp h
      cases hz with
      | cons z r =>
        have z : FzN C w K n _ (.int b) := z
        cases z
        rw [List.map_cons, ← ints_vals h1 r]
    | _ => cases h
theorem de_idx1 (ho : DE X C B o d) (hi : DE X C B i di)
    (hbase : attributeBase o "index" X.env (eval o X.env) = eval o X.env := by rfl)
    (hfew : ((backTo cpos (starEach [i] X.env)).all (fun x => !x.1) && (backToKw cpos (keywordEach [] X.env)).all (fun x => x.1.isSome)
      && decide (([i]).length + ([] : List Keyword).length + (if ([] : List Keyword).isEmpty then 0 else 1) < 30)) = true := by rfl)
    (hline : (apos.endLine == cpos.line) = true := by rfl) (hs : starEach [i] X.env = (false, eval i X.env) :: starEach [] X.env := by rfl) (hplain : (backTo cpos (starEach [] X.env)).any (·.1) = false := by rfl) :
    DE X C B (.Call (.Attribute o "index" apos) [i] [] cpos) (dIdx1 d di) := by
  refine ⟨dIdx1.mono ho.mono hi.mono, imp (pe_bm PySem.F.plainAttrs_list PySem.F.slot_list_index PySem.F.type_list_index mt_index ho.run (pa_cons hi.run pa_nil hs) hbase hfew hline hs hplain) ?_⟩
  rintro σ H Q ⟨n, env, m, rfl, ok, q⟩
  refine ⟨n, env, m, rfl, ok, ho.mono _ _ _ _ (fun x m1 h1 n1 v g1 l1 lx => ?_) q⟩
  have ok1 := ok.go g1 l1
  split at h1
  · rename_i xs0 hx0
    obtain ⟨a0, vs0, rfl, e0, _⟩ := lst_ok ok1 lx hx0
    refine ⟨.inl ⟨rfl, vs0, .inl e0⟩, n1, env, m1, rfl, ok1, hi.mono _ _ _ _ (fun y m2 h2 n2 u g2 l2 ly => ?_) h1⟩
    have ok2 := ok1.go g2 l2
    split at h2
    · rename_i xs k hx
      obtain ⟨a, vs, ea, e1, z1⟩ := lst_ok ok2 (lx.le l2) hx
      cases ea
      have ly : FzN C X.w X.K n2 u (.int k) := ly
      cases ly
      split at h2
      · rename_i ns hns
        obtain ⟨hk, h2⟩ := h2
        have ev := ints_vals hns z1
        subst ev
        have hj : ns.idxOf k < ns.length := List.idxOf_lt_length_iff.mpr hk
        refine ⟨a0, ns.map V.int, .int k, ns.idxOf k, .int k, rfl, rfl, .inl e1, rfl, ?_, ?_, ?_, ?_, ?_⟩
        · rw [List.all_eq_true]
          intro z hz
          obtain ⟨i, _, rfl⟩ := List.mem_map.mp hz
          rfl
        · rw [List.getElem?_map, List.getElem?_eq_getElem hj, List.getElem_idxOf]
          rfl
        · simp [eqV]
        · intro p z' hp hz
          rw [List.getElem?_map] at hz
          obtain ⟨i, hi, rfl⟩ := Option.map_eq_some_iff.mp hz
          have hne : i ≠ k := fun e => by
            subst e
            have hp' : p < ns.findIdx (· == i) := hp
            have := List.not_of_lt_findIdx hp'
            obtain ⟨hl, he⟩ := List.getElem?_eq_some_iff.mp hi
            simp [he] at this
          simpa [eqV] using hne
        · exact h2 n2 _ g2 (l1.trans l2) (.int _)
      · exact h2.elim
    · exact h2.elim
  · exact h1.elim
end
end DL

set_option maxHeartbeats 1000000
namespace DL
open PySem PySem.Spec PyProof.Rows
section
variable {prog : Program} {w : World} {A : Around} {E : Value → Shared → Prop} {s : Shared} {K : PySem.W.Frag} {x c L f : Addr} {h₀ : Heap} {m : Str → Option Value} {ox : Obj} {od : Option Obj} {b tb : Value}
end
end DL
namespace DL
open PySem PySem.Spec PyProof.Rows L2
def oNeI (C : Ct) (c : Nat) (cs : List Nat) (p : DSp) : Op2 := fun env m x y Q => match selfD c m x, y with
  | some s, .f d => match derI env m (.f d) with
    | some e => ((∃ t, tyN e = some t) ∨ ∃ c' ys, e = .ins c' ys ∧ c' ∈ cs ∧ C.own c' = true) ∧ p [s, d] m (fun r m' => match r with
      | .bl b => Q (.bl (!b)) m'
      | _ => False) noX
    | none => False
  | _, _ => False
section
variable {X : Cx} {C : Ct} {c j k : Nat} {p : DSp}
theorem oNeI.mono {cs : List Nat} (hp : MonoP p) : Mono2 (oNeI C c cs p) := fun env m x y Q Q' i h => by
  unfold oNeI at h ⊢
  split at h
  · split at h
    · refine ⟨h.1, hp _ _ _ _ _ _ (fun r m' z => ?_) (fun _ _ _ z => z) h.2⟩
      cases r <;> first | exact z.elim | exact i _ _ z
    · exact h.elim
  · exact h.elim
end
end DL

set_option maxHeartbeats 1000000
namespace DL
open PySem PySem.Spec PyProof.Rows PySem.W
section
variable {prog : Program} {w : World} {K : Type} [DecidableEq K] {knd : HeapKind prog w K} {A : Around} {E : Value → Shared → Prop} {s : Shared}
end
end DL

set_option maxHeartbeats 1000000
namespace DL
open PySem PySem.Spec PyProof.Rows L2
def eqE (kb : List (Dat × Dat)) (p : Dat × Dat) : Bool := match tKey p.1 with
  | some k => match getT kb k with
    | some z => eqd p.2 z
    | none => false
  | none => false
def eqT (ka kb : List (Dat × Dat)) : Bool := ka.length == kb.length && ka.all (eqE kb)
def oEqT : Op2 := fun env m x y Q => match dDct env m x, dDct env m y with
  | some ka, some kb => match tKeys ka, tKeys kb with
    | some na, some nb => na.Nodup ∧ nb.Nodup ∧ (ka.all fun p => okN 60 p.2) = true ∧ (kb.all fun p => okN 60 p.2) = true ∧ Q (.bl (eqT ka kb)) m
    | _, _ => False
  | _, _ => False
theorem oEqT.mono : Mono2 oEqT := fun env m x y Q Q' i h => by
  unfold oEqT at h ⊢
  split at h
  · split at h
    · exact ⟨h.1, h.2.1, h.2.2.1, h.2.2.2.1, i _ _ h.2.2.2.2⟩
    · exact h
  · exact h
section
variable {X : Cx} {C : Ct} {pins : List (Addr × Obj)} {s : Shared} {σ : L2.St} {n : Nw} {m : Mem}
end
end DL

set_option maxHeartbeats 1000000
namespace DL
open PySem PySem.Spec PyProof.Rows L2
section
variable {X : Cx} {C : Ct} {B : Nw} {e o o2 i : Expr} {d d2 di : TD} {pos apos bpos cpos ppos : Pos}
def sAppPop (d d2 di : TD) : TSd := fun D env m => d env m fun x m1 => match x, moOf env m1 x with
  | .o i, some (.lst _) => d2 env m1 fun y m2 => match y, moOf env m2 y with
    | .o j, some (.lst _) => di env m2 fun z m3 => match moOf env m3 (.o i), moOf env m3 (.o j), z with
      | some (.lst xs), some (.lst ys), .f (.int k) => match ys[k.toNat]? with
        | some e => i ≠ j ∧ 0 ≤ k ∧ k < 2 ^ 63 ∧ xs.length < sizeLine ∧ D.nx ((env.set j (some (.own (.lst (ys.eraseIdx k.toNat))))).set i (some (.own (.lst (xs ++ [e]))))) m3
        | none => False
      | _, _, _ => False
    | _, _ => False
  | _, _ => False
theorem sAppPop.mono (hd : MonoD d) (h2 : MonoD d2) (hi : MonoD di) : MonoS (sAppPop d d2 di) := fun env m D D' l h => hd _ _ _ _ (fun x m1 h1 => by
  try dsimp only at h1 ⊢
  split at h1
  · refine h2 _ _ _ _ (fun y m2 q2 => ?_) h1
    try dsimp only at q2 ⊢
    split at q2
    · refine hi _ _ _ _ (fun z m3 q3 => ?_) q2
      try dsimp only at q3 ⊢
      split at q3
      · split at q3
        · exact ⟨q3.1, q3.2.1, q3.2.2.1, q3.2.2.2.1, l.nx _ _ q3.2.2.2.2⟩
        · exact q3
      · exact q3
    · exact q2
  · exact h1) h
end
end DL

set_option maxHeartbeats 1000000
namespace DL
open PySem PySem.Spec PyProof.Rows L2
section
variable {X : Cx} {C : Ct} {B : Nw}
end
end DL

set_option maxHeartbeats 1000000
namespace DL
open PySem PySem.Spec PyProof.Rows L2
section
variable {X : Cx} {C : Ct} {B : Nw}
end
end DL

set_option maxHeartbeats 1000000
namespace DL
open PySem PySem.Spec PyProof.Rows L2
section
variable {X : Cx} {C : Ct} {B : Nw} {e o i : Expr} {d de di : TD} {pos : Pos}
def sAugI (d di de : TD) : TSd := fun D env m => d env m fun x m1 => di env m1 fun i m2 => match moOf env m2 x, i with
  | some (.lst xs), .f (.int k) => match ixN xs.length k with
    | some j => match xs[j]? with
      | some (.int a) => de env m2 fun y m3 => match moOf env m3 x, y with
        | some (.lst ys), .f (.int b) => ys.length = xs.length ∧ D.nx (setE x (.lst (ys.set j (.int (a + b)))) env) (setM x (.lst (ys.set j (.int (a + b)))) m3)
        | _, _ => False
      | _ => False
    | none => False
  | _, _ => False
theorem sAugI.mono (hd : MonoD d) (hi : MonoD di) (he : MonoD de) : MonoS (sAugI d di de) := fun env m D D' l h => hd _ _ _ _ (fun x m1 h1 => hi _ _ _ _ (fun i m2 h2 => by
  try dsimp only at h2 ⊢
  split at h2
  · split at h2
    · split at h2
      · refine he _ _ _ _ (fun y m3 h3 => ?_) h2
        try dsimp only at h3 ⊢
        split at h3
        · exact ⟨h3.1, l.nx _ _ h3.2⟩
        · exact h3
      · exact h2
    · exact h2
  · exact h2) h1) h
def sAugN (i : Nat) (f : Op2) (de : TD) : TSd := fun D env m => match env[i]? with
  | some (some (.f d)) => de env m fun y m1 => f env m1 (.f d) y fun z m2 => D.nx (env.set i (some (.f z))) m2
  | _ => False
theorem sAugN.mono {j : Nat} {f : Op2} (hf : Mono2 f) (he : MonoD de) : MonoS (sAugN j f de) := fun env m D D' l h => by
  unfold sAugN at h ⊢
  split at h
  · exact he _ _ _ _ (fun y m1 h1 => hf _ _ _ _ _ _ (fun z m2 => l.nx _ _) h1) h
  · exact h
end
end DL

set_option maxHeartbeats 1000000
namespace PySem.W
open PySem PySem.Spec
end PySem.W
namespace DL
open PySem PySem.Spec PyProof.Rows L2
section
variable {X : Cx} {C : Ct} {c j k : Nat} {p : DSp}
def oUnI (c : Nat) (p : DSp) : Op1 := fun env m x Q => match selfD c m x with
  | some s => p [s] m (fun r m' => match r with
    | .ins _ _ => Q r m'
    | _ => False) noX
  | none => False
theorem oUnI.mono (hp : MonoP p) : Mono1 (oUnI c p) := fun env m x Q Q' i h => by
  unfold oUnI at h ⊢
  split at h
  · refine hp _ _ _ _ _ _ (fun r m' z => ?_) (fun _ _ _ z => z) h
    cases r <;> first | exact z.elim | exact i _ _ z
  · exact h
end
end DL

set_option maxHeartbeats 1000000
namespace ZZ
open PySem PySem.Spec PyProof.Rows L2

abbrev occ (owner : Array (Option Nat)) : List Nat := owner.toList.filterMap id
theorem fm_all : ∀ l : List (Option Nat), (∀ x ∈ l, x ≠ none) → (l.filterMap id).length = l.length
  | [], _ => rfl
  | x :: l, h => by
    have ih := fm_all l fun y hy => h y (List.mem_cons_of_mem _ hy)
    cases x with
    | none => exact absurd rfl (h none List.mem_cons_self)
    | some u => simp [ih]
theorem window {owner : Array (Option Nat)} {c i : Nat} (hc : (occ owner).length ≤ c) (hi : i + (c + 1) ≤ owner.size) : ∃ k, k ≤ c ∧ oAt owner (i + k) = none := by
  cases Decidable.em (∃ k, k ≤ c ∧ oAt owner (i + k) = none) with
  | inl h => exact h
  | inr h =>
    have key : (((owner.toList.drop i).take (c + 1)).filterMap id).length = c + 1 := by
      rw [fm_all]
      · rw [List.length_take, List.length_drop, Array.length_toList]
        omega
      · intro x hx e
        subst e
        obtain ⟨k, hk⟩ := List.getElem?_of_mem hx
        have hk1 : k < c + 1 := by
          have := (List.getElem?_eq_some_iff.mp hk).1
          rw [List.length_take] at this
          omega
        rw [List.getElem?_take_of_lt hk1, List.getElem?_drop, Array.getElem?_toList] at hk
        refine h ⟨k, by omega, ?_⟩
        show owner.getD (i + k) (some 0) = none
        rw [Array.getD_eq_getD_getElem?, hk]
        rfl
    have sub : (((owner.toList.drop i).take (c + 1)).filterMap id).Sublist (occ owner) := ((List.take_sublist _ _).trans (List.drop_sublist _ _)).filterMap id
    have := sub.length_le
    omega
def leapN : Nat → Nat × Nat → Nat × Nat
  | 0, p => p
  | t + 1, p => leapN t (SetTable.leap 15 p.1 p.2)
theorem leapN_add : ∀ (a b : Nat) (p : Nat × Nat), leapN (a + b) p = leapN b (leapN a p)
  | 0, b, p => by rw [Nat.zero_add]; rfl
  | a + 1, b, p => by
    rw [Nat.succ_add]
    exact leapN_add a b _
theorem leapN_two : ∀ (t : Nat) (p : Nat × Nat), (leapN t p).2 = p.2 / 32 ^ t
  | 0, p => by simp [leapN]
  | t + 1, p => by
    show (leapN t _).2 = _
    rw [leapN_two t]
    show p.2 / 32 / 32 ^ t = _
    rw [Nat.div_div_eq_div_mul, Nat.pow_succ, Nat.mul_comm]
theorem leapN_lt : ∀ (t : Nat) (p : Nat × Nat), p.1 < 16 → (leapN t p).1 < 16
  | 0, p, h => h
  | t + 1, p, h => leapN_lt t _ (Nat.mod_lt _ (by decide))
theorem leapN_home : ∀ i : Fin 16, ∃ t, t < 7 ∧ (leapN t (i.val, 0)).1 ≤ 6 := by decide
theorem reach {h : Int} : ∃ t, t < 20 ∧ (leapN t (SetTable.bits h % 16, SetTable.bits h)).1 ≤ 6 := by
  have hb : SetTable.bits h < 2 ^ 64 := by
    unfold SetTable.bits
    have h1 := Int.emod_lt_of_pos h (show (0 : Int) < 2 ^ 64 by decide)
    have h2 := Int.emod_nonneg h (show (2 ^ 64 : Int) ≠ 0 by decide)
    omega
  have e1 := leapN_two 13 (SetTable.bits h % 16, SetTable.bits h)
  have e2 := leapN_lt 13 (SetTable.bits h % 16, SetTable.bits h) (Nat.mod_lt _ (by decide))
  generalize hp : leapN 13 (SetTable.bits h % 16, SetTable.bits h) = p at e1 e2
  have e3 : p.2 = 0 := by rw [e1]; exact Nat.div_eq_of_lt (Nat.lt_of_lt_of_le hb (by decide))
  obtain ⟨t, h1, h2⟩ := leapN_home ⟨p.1, e2⟩
  refine ⟨13 + t, by omega, ?_⟩
  rw [leapN_add, hp]
  have : p = (p.1, 0) := by rw [← e3]
  rw [this]
  exact h2
theorem free15 {owner : Array (Option Nat)} (hz : owner.size = 16) (hc : (occ owner).length ≤ 9) : ∀ (t f : Nat) (p : Nat × Nat), t < f → (leapN t p).1 ≤ 6 → ∃ j, SetTable.layClean.free 15 owner f p.1 p.2 = some j ∧ oAt owner j = none
  | t, 0, p, h, _ => absurd h (Nat.not_lt_zero _)
  | t, f + 1, p, h, hr => by
    rw [free_succ]
    cases hf : (List.range (SetTable.runEnd 15 p.1 + 1 - p.1)).find? (fun k => (oAt owner (p.1 + k)).isNone) with
    | some k =>
      have := List.find?_some hf
      exact ⟨p.1 + k, rfl, by simpa using this⟩
    | none =>
      cases t with
      | zero =>
        have hr : p.1 ≤ 6 := hr
        exfalso
        obtain ⟨k, hk, e⟩ := window (c := 9) (i := p.1) hc (by omega)
        have hn := List.find?_eq_none.mp hf k (by
          rw [List.mem_range]
          unfold SetTable.runEnd
          rw [if_pos (by omega)]
          omega)
        rw [e] at hn
        exact hn rfl
      | succ t =>
        exact free15 hz hc t f (SetTable.leap 15 p.1 p.2) (by omega) hr
def Few (m c : Nat) : Prop := ((m = 7 ∨ m = 15) ∧ c ≤ 7) ∨ (m = 31 ∧ c ≤ 31)
theorem free_ok {m c : Nat} {owner : Array (Option Nat)} (hm : Few m c) (hz : owner.size = m + 1) (hc : (occ owner).length ≤ c) (h : Int) :
    ∃ j, SetTable.layClean.free m owner (SetTable.turns m) (SetTable.bits h % (m + 1)) (SetTable.bits h) = some j ∧ oAt owner j = none := by
  have kit : MaskOk m → c ≤ m → ∃ j, SetTable.layClean.free m owner (SetTable.turns m) (SetTable.bits h % (m + 1)) (SetTable.bits h) = some j ∧ oAt owner j = none := fun hk hcm => by
    obtain ⟨k, hk1, e⟩ := window (c := c) (i := 0) hc (by omega)
    rw [Nat.zero_add] at e
    obtain ⟨K, e1, e2, _⟩ := free_find hk owner h (j := k) (by omega) e
    exact ⟨_, e1, e2⟩
  rcases hm with ⟨rfl | rfl, h7⟩ | ⟨rfl, h31⟩
  · exact kit (.inl rfl) (by omega)
  · obtain ⟨t, h1, h2⟩ := reach (h := h)
    exact free15 hz (by omega) t 30 (SetTable.bits h % 16, SetTable.bits h) (by omega) h2
  · exact kit (.inr (.inl rfl)) h31
end ZZ

set_option maxHeartbeats 1000000
namespace ZZ
open PySem PySem.Spec PyProof.Rows L2
variable {P : Program} {w : World} {A : Around} {E : Value → Shared → Prop} {s : Shared} {a b : Addr} {S T : Int → Bool} {n m : Nat} {es : Array (Int × Value)} {ep : Nat} {t : SetTable}
theorem SetS.r {h : Heap} (x : SetS w h a es ep t) (hS : ∀ k, S k = true ↔ k ∈ es.toList.map keyOf) : SetR w h a S es.size := by
  obtain ⟨⟨o, h1, h2, h3⟩, h4, h5, h6, h7, h8, h9⟩ := x
  exact ⟨o, es, ep, t, h1, h2, h3, h4, h5, hS, h6, h7, rfl, h8, h9⟩
theorem SetR.s' {h : Heap} (R : SetR w h a S n) : ∃ es ep t, SetS w h a es ep t ∧ (∀ k, S k = true ↔ k ∈ es.toList.map keyOf) ∧ es.size = n := by
  obtain ⟨o, es, ep, t, h1, h2, h3, h4, h5, hS, h6, h7, h10, h8, h9⟩ := R
  exact ⟨es, ep, t, ⟨⟨o, h1, h2, h3⟩, h4, h5, h6, h7, h8, h9⟩, hS, h10⟩
theorem state_at (x : SetS w s.heap a es ep t) {Q : (Array (Int × Value) × Nat × SetTable) → Shared → Prop} (h : Q (es, ep, t) s) : wpAny (model P w) A (setState a) Q E s := by
  obtain ⟨o, h1, h2, h3⟩ := x.ob
  exact wpAny_setState_of h1 h3 x.fits h
theorem walk_at (x : SetS w s.heap a es ep t) {Q : Array (Int × Value) → Shared → Prop} (hw : w.params.followText "set-order" = true ∨ (t.led && t.plain) = true ∨ es.size ≤ 1) (h : ∀ l : Array (Int × Value), l.toList.Perm es.toList → Q l s) :
    wpAny (model P w) A (setWalk a) Q E s := by
  unfold setWalk
  refine wpAny_bind (state_at x ?_)
  dsimp only
  refine wpAny_bind (wpAny_byText ?_)
  cases hb : w.params.followText "set-order" with
  | true =>
    simp only [if_true]
    refine wpAny_bind (wpAny_askSetting (wpAny_pure ?_))
    exact h _ (pick_perm _ _)
  | false =>
    have hl : t.led = true := x.led.resolve_left (by rw [hb]; exact Bool.false_ne_true)
    have hd : (!t.plain && decide (es.size > 1)) = false := by
      rcases hw with z | z | z
      · rw [hb] at z; cases z
      · rw [Bool.and_eq_true] at z
        rw [z.2]; rfl
      · rw [decide_eq_false (by omega), Bool.and_false]
    refine wp_if_neg Bool.false_ne_true ?_
    refine wp_if_neg (fun z => ?_) ?_
    · have z : (!t.plain && decide (es.size > 1)) = true := z
      rw [hd] at z
      cases z
    refine wpAny_bind (m := if (!t.led && decide (es.size > 1)) = true then unsupported "set:maker-not-led" else pure ()) ?_
    rw [hl]
    exact wpAny_pure (wpAny_pure (h es (List.Perm.refl _)))
end ZZ

set_option maxHeartbeats 1000000
namespace ZZ
open PySem PySem.Spec PyProof.Rows L2
variable {P : Program} {w : World} {A : Around} {E : Value → Shared → Prop} {s : Shared} {a b r : Addr} {S T : Int → Bool} {n m : Nat} {es : Array (Int × Value)} {ep : Nat} {t : SetTable}
end ZZ

set_option maxHeartbeats 1000000
namespace ZZ
open PySem PySem.Spec PyProof.Rows L2
variable {P : Program} {w : World} {A : Around} {E : Value → Shared → Prop} {s : Shared} {a b r : Addr} {S T : Int → Bool} {n m : Nat} {es : Array (Int × Value)} {ep : Nat} {t : SetTable}
abbrev newO (w : World) : Obj := { cls := .type "set", dict := none, data := .set #[] 0 (.fresh 0 0 (!w.params.followText "set-order")) }
end ZZ

set_option maxHeartbeats 1000000
namespace ZZ
open PySem PySem.Spec PyProof.Rows L2
variable {P : Program} {w : World} {A : Around} {E : Value → Shared → Prop} {s : Shared} {a b r : Addr} {S T : Int → Bool} {n m : Nat} {es eb : Array (Int × Value)} {ep pb : Nat} {t tb : SetTable}
end ZZ

set_option maxHeartbeats 1000000
namespace ZZ
open PySem PySem.Spec PyProof.Rows L2
variable {P : Program} {w : World} {A : Around} {E : Value → Shared → Prop} {s : Shared} {a b r : Addr} {S T : Int → Bool} {n m : Nat} {es eb : Array (Int × Value)} {ep pb : Nat} {t tb : SetTable}
end ZZ

set_option maxHeartbeats 3200000
namespace ZZ
open PySem PySem.Spec PyProof.Rows L2
section
variable {P : Program} {w : World} {A : Around} {E : Value → Shared → Prop} {S : Shared}
open AutoSeq1 MeetsSeq MeetsSeq2 MeetsSeq3 SeqRoads2 in
open AutoSeq1 MeetsSeq MeetsSeq2 MeetsSeq3 SeqRoads2 in
end
end ZZ

set_option maxHeartbeats 1000000
namespace DL
open PySem PySem.Spec PyProof.Rows L2 ZZ
section
variable {X : Cx}
def sameL (L M : List Int) : Bool := L.all (fun j => decide (j ∈ M)) && M.all fun j => decide (j ∈ L)
end
abbrev TZ := Env' → Mem → (List Int → Mem → Prop) → Prop
def MonoZ (d : TZ) : Prop := ∀ env m (Q Q' : List Int → Mem → Prop), (∀ x m', Q x m' → Q' x m') → d env m Q → d env m Q'
def zSet (d : TD) : TZ := fun env m Q => d env m fun x m1 => match seqOf env m1 x with
  | some xs => match intsD xs with
    | some ns => ns.length ≤ 4000 ∧ Q ns m1
    | none => False
  | none => False
def zOp (f : List Int → List Int → List Int) (d u : TZ) : TZ := fun env m Q => d env m fun L m1 => u env m1 fun M m2 => L.length ≤ 11 ∧ Q (f L M) m2
def dEqZ (g : Bool → Bool) (d u : TZ) : TD := fun env m Q => d env m fun L m1 => u env m1 fun M m2 => Q (.f (.bl (g (sameL L M)))) m2
theorem zSet.mono {d : TD} (h : MonoD d) : MonoZ (zSet d) := fun env m Q Q' i => h _ _ _ _ fun x m1 h1 => by
  split at h1
  · split at h1
    · exact ⟨h1.1, i _ _ h1.2⟩
    · exact h1
  · exact h1
theorem zOp.mono {f} {d u : TZ} (h : MonoZ d) (h' : MonoZ u) : MonoZ (zOp f d u) := fun env m Q Q' i => h _ _ _ _ fun L m1 h1 => h' _ _ _ _ (fun M m2 h2 => ⟨h2.1, i _ _ h2.2⟩) h1
section
variable {X : Cx} {C : Ct} {B : Nw} {a b e : Expr} {d : TD} {da db : TZ} {p pos : Pos}
theorem dEqZ.mono {g : Bool → Bool} (ha : MonoZ da) (hb : MonoZ db) : MonoD (dEqZ g da db) := fun env m Q Q' i => ha _ _ _ _ fun L m1 => hb _ _ _ _ fun M m2 => i _ _
end
end DL

set_option maxHeartbeats 1000000
namespace DL
open PySem PySem.Spec PyProof.Rows L2
abbrev TPk := Env' → Mem → (List Pk → Mem → Prop) → Prop
def MonoPk (d : TPk) : Prop := ∀ env m (Q Q' : List Pk → Mem → Prop), (∀ x m', Q x m' → Q' x m') → d env m Q → d env m Q'
section
variable (C : Ct) (w : World) (K : PySem.W.Frag)
end
section
variable {C : Ct} {w : World} {K : PySem.W.Frag} {n n1 n' n'' : Nw} {env : Env'} {σ : L2.St}
theorem PkOk.back {v x} (h : PkOk C w K n1 n' env σ v x) (l : n.le n1) : PkOk C w K n n' env σ v x := by
  cases x with
  | slot i => exact h
  | new xs => obtain ⟨p, e, o⟩ := h; exact ⟨p, e, o.ok, o.g, o.al, l.base o.new⟩
theorem PksOk.back {vs xs} (h : PksOk C w K n1 n' env σ vs xs) (l : n.le n1) : PksOk C w K n n' env σ vs xs := by
  induction h with
  | nil => exact .nil
  | cons a _ ih => exact .cons (a.back l) ih
end
def sPick (j : Nat) (dp : TPk) (di : TD) : TSd := fun D env m => dp env m fun ps m1 => ps.length ≤ sizeLine ∧ di env m1 fun x m2 => match x with
  | .f (.int k) => match ixN ps.length k with
    | some t => match ps[t]? with
      | some (.slot i) => match env[i]? with
        | some (some (.own (.lst xs))) => D.nx ((env.set i none).set j (some (.own (.lst xs)))) m2
        | _ => False
      | some (.new xs) => D.nx (env.set j (some (.own (.lst xs)))) m2
      | none => False
    | none => False
  | _ => False
section
variable {X : Cx} {C : Ct} {B : Nw} {e o i : Expr} {es : List Expr} {d : TPk} {dn : TN} {di : TD} {pos : Pos}
theorem EnvOk.drop {w : World} {K : PySem.W.Frag} {n : Nw} {env : Env'} {σ : L2.St} (h : EnvOk C w K B n env σ) (i : Nat) : EnvOk C w K B n (env.set i none) σ := by
  have back : ∀ {j : Nat} {y : Sl}, (env.set i none)[j]? = some (some y) → env[j]? = some (some y) ∧ i ≠ j := by
    intro j y e
    by_cases hj : i = j
    · subst hj
      by_cases hl : i < env.length
      · rw [List.getElem?_set_self hl] at e; cases e
      · rw [List.getElem?_eq_none (by simpa using hl)] at e; cases e
    · rw [List.getElem?_set_ne hj] at e; exact ⟨e, hj⟩
  exact ⟨by simp [h.len], fun j d e => h.fz j d (back e).1, fun j x e => h.own j x (back e).1, fun j k x y a e1 e2 f1 f2 => h.apart j k x y a (back e1).1 (back e2).1 f1 f2⟩
theorem sPick.mono {j : Nat} (hd : MonoPk d) (hi : MonoD di) : MonoS (sPick j d di) := fun env m D D' l h => hd _ _ _ _ (fun ps m1 h1 => ⟨h1.1, hi _ _ _ _ (fun x m2 h2 => by
  try dsimp only at h2 ⊢
  split at h2
  · split at h2
    · split at h2
      · split at h2
        · exact l.nx _ _ h2
        · exact h2
      · exact l.nx _ _ h2
      · exact h2
    · exact h2
  · exact h2) h1.2⟩) h
end
end DL

set_option maxHeartbeats 1000000
namespace ZZ
open PySem PySem.W PySem.Calls PyProof.Rows PySem.SeqAt
section
variable {prog : Program} {w : World} {A : Around} {E : Value → Shared → Prop} {s : Shared}
end
end ZZ

set_option maxHeartbeats 1000000
namespace DL
open PySem PySem.Spec PyProof.Rows L2
def tupOk (ds : List Dat) : Prop := PySem.W.AllAlike (ds.map py) ∧ (∀ d ∈ ds, ∃ xs, d = .tup xs) ∧ ds.all (okR 30) = true
open PySem.W in
section
variable {X : Cx} {C : Ct}
end
end DL

set_option maxHeartbeats 1000000
namespace DL
open PySem PySem.Spec PyProof.Rows L2
def oMinT : OpN := fun env m xs Q => match xs with
  | [x] => match lstOf env m x with
    | some (d :: r) => tupOk (d :: r) ∧ ∀ z ∈ d :: r, py z = PySem.W.minD (py d) (r.map py) → Q z m
    | _ => False
  | _ => False
theorem oMinT.mono : MonoN oMinT := fun env m xs Q Q' i => by
  unfold oMinT
  split
  · split
    · exact fun h => ⟨h.1, fun z hz e => i _ _ (h.2 z hz e)⟩
    · exact id
  · exact id
section
variable {X : Cx} {C : Ct}
end
end DL
namespace DL
open PySem PySem.Spec PyProof.Rows L2
def oIsB (f : Bool → Bool) : Op2 := fun env m x y Q => match x, y with
  | .f (.bl a), .f (.bl b) => Q (.bl (f (decide (a = b)))) m
  | _, _ => False
theorem oIsB.mono {f : Bool → Bool} : Mono2 (oIsB f) := fun env m x y Q Q' i => by
  unfold oIsB
  split
  · exact i _ _
  · exact id
section
variable {X : Cx} {C : Ct}
end
end DL
namespace DL
open PySem PySem.Spec PyProof.Rows L2
theorem FnOk.toG {P : Program} {w : World} {K : PySem.W.Frag} {mg : Str → Option Value} {base : Heap} {CX : CXT} {k : Nat} {f : Addr} {fd : FuncData} {ps : List Str} {sp : Sp} (F : FnOk P w K mg base CX k f fd ps sp) : FnG P w K mg base CX k f fd ps sp := ⟨F.len, fun A outer s H args us vs Q E hr => F.run A outer s H args us vs Q E hr.room⟩
end DL

set_option maxHeartbeats 1000000
namespace ZZ
open PySem PySem.Spec PyProof.Rows L2
variable {P : Program} {w : World} {A : Around} {E : Value → Shared → Prop} {s : Shared} {a b r : Addr} {S T : Int → Bool} {n m : Nat} {es eb er : Array (Int × Value)} {ep pb pr : Nat} {t tb tr : SetTable}
end ZZ
namespace ZZ
open PySem PySem.Spec PyProof.Rows L2
variable {P : Program} {w : World} {A : Around} {E : Value → Shared → Prop} {s : Shared} {a b r : Addr} {S T : Int → Bool} {n m : Nat} {es eb er : Array (Int × Value)} {ep pb pr : Nat} {t tb tr : SetTable}
end ZZ
namespace ZZ
open PySem PySem.Spec PyProof.Rows L2
variable {P : Program} {w : World} {A : Around} {E : Value → Shared → Prop} {s : Shared} {a b r : Addr} {S T : Int → Bool} {n m : Nat} {es eb er : Array (Int × Value)} {ep pb pr : Nat} {t tb tr : SetTable}
end ZZ

set_option maxHeartbeats 1000000
namespace DL
open PySem PySem.Spec PyProof.Rows L2 ZZ
section
variable {X : Cx} {C : Ct} {B : Nw} {a b e : Expr} {d : TD} {da db : TZ} {p pos : Pos}
def zOr (d u : TZ) : TZ := fun env m Q => d env m fun L m1 => u env m1 fun M m2 => L.length + M.length ≤ 11 ∧ Q (L ++ M) m2
theorem zOr.mono {d u : TZ} (h : MonoZ d) (h' : MonoZ u) : MonoZ (zOr d u) := fun env m Q Q' i => h _ _ _ _ fun L m1 h1 => h' _ _ _ _ (fun M m2 h2 => ⟨h2.1, i _ _ h2.2⟩) h1
end
end DL

set_option maxHeartbeats 1000000
namespace DL
open PySem PySem.Spec PyProof.Rows L2
section
variable {X : Cx} {C : Ct} {B : Nw}
end
end DL

set_option maxHeartbeats 1000000
namespace DL
open PySem PySem.Spec PyProof.Rows L2
def oLeT : Op2 := fun env m x y Q => match x, y with
  | .f a, .f b => (PySem.W.alike (py a) (py b) = true ∧ py a ≠ .none ∧ okR 30 a = true ∧ okR 30 b = true) ∧ Q (.bl (!PySem.W.dataLt (py b) (py a))) m
  | _, _ => False
theorem oLeT.mono : Mono2 oLeT := fun env m x y Q Q' i => by
  unfold oLeT
  split
  · exact fun h => ⟨h.1, i _ _ h.2⟩
  · exact id
section
variable {X : Cx} {C : Ct}
end
end DL

set_option maxHeartbeats 1000000
namespace DL
open PySem PySem.Spec PyProof.Rows L2
def dGetI (d : TD) (da : TAd) : TD := fun env m Q => d env m fun x m1 => match iDct env m1 x with
  | some _ => da env m1 fun ls m2 => match iDct env m2 x, ls with
    | some kvs, [.f (.int k), .f z] => (kvs.map (·.1)).Nodup ∧ Q (.f ((getI kvs k).getD z)) m2
    | _, _ => False
  | none => False
theorem dGetI.mono {d : TD} {da : TAd} (hd : MonoD d) (ha : MonoA da) : MonoD (dGetI d da) := fun env m Q Q' i h => hd _ _ _ _ (fun x m1 h1 => by
  split at h1
  · refine ha _ _ _ _ (fun ls m2 h2 => ?_) h1
    split at h2
    · exact ⟨h2.1, i _ _ h2.2⟩
    · exact h2
  · exact h1) h
section
variable {X : Cx} {C : Ct} {B : Nw} {k : Nat} {o e : Expr} {es : List Expr} {d : TD} {da : TAd} {apos cpos : Pos}
end
end DL

set_option maxHeartbeats 1000000
namespace DL
open PySem PySem.Spec PyProof.Rows L2
section
variable {X : Cx} {C : Ct} {B : Nw} {pos : Pos}
end
end DL

set_option maxHeartbeats 1000000
namespace DL
open PySem PySem.Spec PyProof.Rows L2

theorem lc_map {i : Nat} {de : TD} {env : Env'} {f : Dat → Dat} : ∀ {xs : List Dat} {m : Mem} {Q : List Dat → Mem → Prop}, (∀ x ∈ xs, ∀ Q : QL, Q (.f (f x)) m → de (env.set i (some (.f x))) m Q) → Q (xs.map f) m → lcGo (.nm i) dYes de env xs m Q
  | [], m, Q, _, h => h
  | x :: xs, m, Q, hd, h => by
    unfold lcGo
    refine hd x (by simp) _ ?_
    exact lc_map (Q := fun ds m' => Q (f x :: ds) m') (fun y hy => hd y (by simp [hy])) h
theorem lc_filter {i : Nat} {dt : TB} {de : TD} {env : Env'} {f : Dat → Dat} {g : Dat → Bool} : ∀ {xs : List Dat} {m : Mem} {Q : List Dat → Mem → Prop}, (∀ x ∈ xs, ∀ Q : Bool → Mem → Prop, Q (g x) m → dt (env.set i (some (.f x))) m Q) → (∀ x ∈ xs, g x = true → ∀ Q : QL, Q (.f (f x)) m → de (env.set i (some (.f x))) m Q) →
    Q ((xs.filter g).map f) m → lcGo (.nm i) dt de env xs m Q
  | [], m, Q, _, _, h => h
  | x :: xs, m, Q, ht, hd, h => by
    unfold lcGo
    refine ht x (by simp) _ ?_
    cases hg : g x with
    | true =>
      rw [if_pos rfl]
      refine hd x (by simp) hg _ ?_
      refine lc_filter (g := g) (f := f) (Q := fun ds m' => Q (f x :: ds) m') (fun y hy => ht y (by simp [hy])) (fun y hy => hd y (by simp [hy])) ?_
      rw [List.filter_cons_of_pos hg] at h
      exact h
    | false =>
      rw [if_neg (by decide)]
      refine lc_filter (g := g) (f := f) (fun y hy => ht y (by simp [hy])) (fun y hy => hd y (by simp [hy])) ?_
      rw [List.filter_cons_of_neg (by simp [hg])] at h
      exact h
theorem all_int {k : Nat} : ∀ ns : List Int, (ns.map Dat.int).all (okN k) = true
  | [] => rfl
  | n :: ns => by
    have h : okN k (.int n) = true := by cases k <;> rfl
    rw [List.map_cons, List.all_cons, h, all_int ns]
    rfl
theorem all_intR {k : Nat} : ∀ ns : List Int, (∀ n ∈ ns, n.natAbs.log2 < 1920) → (ns.map Dat.int).all (okR k) = true
  | [], _ => rfl
  | n :: ns, h => by
    have h1 : okR k (.int n) = true := by
      have := h n (by simp)
      cases k <;> exact decide_eq_true this
    rw [List.map_cons, List.all_cons, h1, all_intR ns fun x hx => h x (by simp [hx])]
    rfl
theorem der_ok60 {k : Nat} {env : Env'} {m : Mem} {a : Dat} (h : okN k a = true) : der env m (.f a) = some a := by
  cases a <;> first | rfl | (cases k <;> cases h)
theorem oIn_l {f : Bool → Bool} {env : Env'} {m : Mem} {a : Dat} {bs : List Dat} {Q : QD} (ha : okN 60 a = true) (hb : bs.all (okN 59) = true) (h : Q (.bl (f (bs.any fun b => eqd b a))) m) : oIn f env m (.f a) (.f (.lst bs)) Q := by
  unfold oIn
  rw [der_ok60 ha]
  exact ⟨ha, hb, h⟩
theorem oIn_o {f : Bool → Bool} {env : Env'} {m : Mem} {a : Dat} {i : Nat} {bs : List Dat} {Q : QD} (hi : env[i]? = some (some (.own (.lst bs)))) (ha : okN 60 a = true) (hb : bs.all (okN 59) = true) (h : Q (.bl (f (bs.any fun b => eqd b a))) m) : oIn f env m (.f a) (.o i) Q := by
  unfold oIn
  have e : seqOf env m (.o i) = some bs := by
    unfold seqOf der
    simp only [hi]
    rfl
  rw [der_ok60 ha, e]
  exact ⟨ha, hb, h⟩
theorem oEq_l {f : Bool → Bool} {env : Env'} {m : Mem} {a b : Dat} {Q : QD} (ha : okN 60 a = true) (hb : okN 60 b = true) (h : Q (.bl (f (eqd a b))) m) : oEq f env m (.f a) (.f b) Q := by
  unfold oEq
  rw [der_ok60 ha, der_ok60 hb]
  exact ⟨ha, hb, h⟩
theorem ixN_nat {n j : Nat} (h : j < n) : ixN n (j : Int) = some j := by
  unfold ixN
  rw [if_pos (by omega), if_pos (by omega)]
  simp
theorem atI0 {α : Type} (a : α) (l : List α) : atI (a :: l) 0 = some a := by
  unfold atI ixN
  rw [if_pos (by decide), if_pos (by simp only [List.length_cons]; omega)]
  rfl
theorem atI1 {α : Type} (a b : α) (l : List α) : atI (a :: b :: l) 1 = some b := by
  unfold atI ixN
  rw [if_pos (by decide), if_pos (by simp only [List.length_cons]; omega)]
  rfl
theorem atI2 {α : Type} (a b c : α) (l : List α) : atI (a :: b :: c :: l) 2 = some c := by
  unfold atI ixN
  rw [if_pos (by decide), if_pos (by simp only [List.length_cons]; omega)]
  rfl
theorem atI_nat {α : Type} {l : List α} {i : Nat} {a : α} (h : l[i]? = some a) : atI l (i : Int) = some a := by
  unfold atI
  rw [ixN_nat (List.getElem?_eq_some_iff.mp h).1]
  exact h
theorem atI_int {α : Type} {l : List α} {i : Int} (h0 : 0 ≤ i) (h1 : i < l.length) : ∃ a, atI l i = some a ∧ l[i.toNat]? = some a := by
  have hl : i.toNat < l.length := by omega
  refine ⟨l[i.toNat], ?_, List.getElem?_eq_getElem hl⟩
  have := atI_nat (l := l) (i := i.toNat) (List.getElem?_eq_getElem hl)
  rw [show ((i.toNat : Nat) : Int) = i by omega] at this
  exact this
theorem log2_lt {n k : Nat} (hk : 0 < k) (h : n < 2 ^ k) : n.log2 < k := by
  by_cases h0 : n = 0
  · subst h0; simpa using hk
  · exact (Nat.log2_lt h0).mpr h
end DL

set_option maxHeartbeats 1000000
namespace DL
open PySem PySem.Spec PyProof.Rows L2

def Ev (d : TD) (env : Env') (m : Mem) (v : Lv) : Prop := ∀ Q : QL, Q v m → d env m Q
def EvB (d : TB) (env : Env') (m : Mem) (b : Bool) : Prop := ∀ Q : Bool → Mem → Prop, Q b m → d env m Q
def EvA (d : TAd) (env : Env') (m : Mem) (vs : List Lv) : Prop := ∀ Q : List Lv → Mem → Prop, Q vs m → d env m Q
def EvN (d : TN) (env : Env') (m : Mem) (xs : List Dat) : Prop := ∀ Q : List Dat → Mem → Prop, Q xs m → d env m Q
def EvI (d : TId) (env : Env') (m : Mem) (xs : List Dat) : Prop := ∀ Q : List Dat → Mem → Prop, Q xs m → d env m Q
def EvO (d : TOd) (env : Env') (m : Mem) (i : Option Int) : Prop := ∀ Q : Option Int → Mem → Prop, Q i m → d env m Q
def Ev1 (f : Op1) (env : Env') (m : Mem) (x : Lv) (z : Dat) : Prop := ∀ Q : QD, Q z m → f env m x Q
def Ev2 (f : Op2) (env : Env') (m : Mem) (x y : Lv) (z : Dat) : Prop := ∀ Q : QD, Q z m → f env m x y Q
section
variable {env : Env'} {m : Mem} {d da db : TD} {v x y : Lv} {z : Dat} {b : Bool}
theorem Ev.use (h : Ev d env m v) {Q : QL} (q : Q v m) : d env m Q := h Q q
theorem Ev.eq {w : Lv} (h : Ev d env m v) (e : v = w) : Ev d env m w := e ▸ h
theorem EvB.eq {p : TB} {c : Bool} (h : EvB p env m b) (e : b = c) : EvB p env m c := e ▸ h
theorem EvN.eq {p : TN} {xs ys : List Dat} (h : EvN p env m xs) (e : xs = ys) : EvN p env m ys := e ▸ h
theorem EvI.eq {p : TId} {xs ys : List Dat} (h : EvI p env m xs) (e : xs = ys) : EvI p env m ys := e ▸ h
theorem ev_c {a : Dat} : Ev (dC a) env m (.f a) := fun _ q => q
theorem ev_v {i : Nat} {a : Dat} (e : env[i]? = some (some (.f a)) := by rfl) : Ev (dVar i) env m (.f a) := fun Q q => by unfold dVar; rw [e]; exact q
theorem ev_o {i : Nat} {a : Mo} (e : env[i]? = some (some (.own a)) := by rfl) : Ev (dVar i) env m (.o i) := fun Q q => by unfold dVar; rw [e]; exact q
theorem ev_bin {f : Op2} (ha : Ev da env m x) (hb : Ev db env m y) (hf : Ev2 f env m x y z) : Ev (dBin f da db) env m (.f z) := fun Q q => ha _ (hb _ (hf _ q))
theorem ev_un {f : Op1} (ha : Ev da env m x) (hf : Ev1 f env m x z) : Ev (dUn f da) env m (.f z) := fun Q q => ha _ (hf _ q)
theorem ev_n {f : OpN} {da : TAd} {xs : List Lv} (ha : EvA da env m xs) (hf : EvM f env m xs z) : Ev (dN f da) env m (.f z) := fun Q q => ha _ (hf _ q)
theorem eva_nil : EvA dNil env m [] := fun _ q => q
theorem eva_cons {r : TAd} {xs : List Lv} (h : Ev d env m x) (hr : EvA r env m xs) : EvA (dCons d r) env m (x :: xs) := fun Q q => h _ (hr _ q)
theorem ev_new {p : TN} {xs : List Dat} (h : EvN p env m xs) : Ev (dNew p) env m (.f (.lst xs)) := fun Q q => h _ q
theorem evn_lst {r : TAd} {ls : List Lv} {xs : List Dat} (h : EvA r env m ls) (e : frs ls = some xs) (hl : xs.length ≤ sizeLine) : EvN (nLst r) env m xs := fun Q q => h _ (by simp only [e]; exact ⟨hl, q⟩)
theorem evn_cat {xs ys : List Dat} (ha : Ev da env m x) (hb : Ev db env m y) (ea : lstOf env m x = some xs) (eb : lstOf env m y = some ys) (hl : xs.length + ys.length ≤ sizeLine) : EvN (nCat da db) env m (xs ++ ys) := fun Q q => ha _ (hb _ (by
  simp only [ea, eb]; exact ⟨hl, q⟩))
theorem evn_list {xs : List Dat} (ha : Ev da env m x) (ea : seqOf env m x = some xs) : EvN (nList da) env m xs := fun Q q => ha _ (by
  simp only [ea]; exact q)
theorem evn_sort {xs : List Dat} (ha : Ev da env m x) (ea : seqOf env m x = some xs) (hs : sortOk xs) : EvN (nSort da) env m (sortD xs) := fun Q q => ha _ (by
  simp only [ea]; exact ⟨hs, q⟩)
theorem evb_tst (h : Ev d env m (.f (.bl b))) : EvB (dTst d) env m b := fun Q q => h _ q
theorem evb_not {p : TB} (h : EvB p env m b) : EvB (dNot p) env m (!b) := fun Q q => h _ q
theorem evb_and {p q : TB} {c : Bool} (h : EvB p env m b) (h2 : b = true → EvB q env m c) : EvB (dAnd p q) env m (b && c) := fun Q k => h _ (by
  cases b with
  | true => exact h2 rfl _ k
  | false => exact k)
theorem evb_or {p q : TB} {c : Bool} (h : EvB p env m b) (h2 : b = false → EvB q env m c) : EvB (dOr p q) env m (b || c) := fun Q k => h _ (by
  cases b with
  | false => exact h2 rfl _ k
  | true => exact k)
theorem ev_and {c : Bool} (h : Ev da env m (.f (.bl b))) (h2 : b = true → Ev db env m (.f (.bl c))) : Ev (dAndV da db) env m (.f (.bl (b && c))) := fun Q k => h _ (by
  cases b with
  | true => exact h2 rfl _ k
  | false => exact k)
theorem ev_if {p : TB} {u w : Dat} (h : EvB p env m b) (h1 : b = true → Ev da env m (.f u)) (h2 : b = false → Ev db env m (.f w)) : Ev (dIf p da db) env m (.f (if b = true then u else w)) := fun Q k => h _ (by
  cases b with
  | true => exact h1 rfl _ k
  | false => exact h2 rfl _ k)
theorem e2_add {i j : Int} : Ev2 oAdd env m (.f (.int i)) (.f (.int j)) (.int (i + j)) := fun Q q => q
theorem e2_addT {xs ys : List Dat} (h : xs.length + ys.length ≤ sizeLine) : Ev2 oAdd env m (.f (.tup xs)) (.f (.tup ys)) (.tup (xs ++ ys)) := fun Q q => ⟨h, q⟩
theorem e2_i0 {g : Int → Int → Dat} {i j : Int} : Ev2 (oI0 g) env m (.f (.int i)) (.f (.int j)) (g i j) := fun Q q => ⟨trivial, q⟩
theorem e1_u {g : Int → Int} {i : Int} : Ev1 (oU g) env m (.f (.int i)) (.int (g i)) := fun Q q => q
theorem e2_eq {f : Bool → Bool} {x y : Lv} {a c : Dat} (ea : der env m x = some a) (ec : der env m y = some c) (ha : okN 60 a = true) (hc : okN 60 c = true) : Ev2 (oEq f) env m x y (.bl (f (eqd a c))) := fun Q q => by
  unfold oEq; rw [ea, ec]; exact ⟨ha, hc, q⟩
theorem e2_in {f : Bool → Bool} {x y : Lv} {a : Dat} {bs : List Dat} (ea : der env m x = some a) (ec : seqOf env m y = some bs) (ha : okN 60 a = true) (hb : bs.all (okN 59) = true) : Ev2 (oIn f) env m x y (.bl (f (bs.any fun b => eqd b a))) := fun Q q => by
  unfold oIn; rw [ea, ec]; exact ⟨ha, hb, q⟩
theorem e2_isn {f : Bool → Bool} {x : Lv} : Ev2 (oIsN f) env m x (.f .non) (.bl (f (isN x))) := fun Q q => q
theorem e2_ix {x : Lv} {xs : List Dat} {i : Int} {z : Dat} (ex : seqOf env m x = some xs) (h : atI xs i = some z) : Ev2 oIx env m x (.f (.int i)) z := fun Q q => by
  unfold seqOf at ex
  unfold oIx
  split at ex
  · rename_i ys e; cases ex; rw [e]; simp only [h]; exact q
  · rename_i ys e; cases ex; rw [e]; simp only [h]; exact q
  · cases ex
theorem em_tup {ls : List Lv} {xs : List Dat} (e : frs ls = some xs) (hl : xs.length ≤ sizeLine) : EvM oTup env m ls (.tup xs) := fun Q q => by
  unfold oTup; rw [e]; exact ⟨hl, q⟩
theorem em_len {x : Lv} {xs : List Dat} (e : seqOf env m x = some xs) : EvM oLen env m [x] (.int xs.length) := fun Q q => by
  unfold seqOf at e
  unfold oLen
  split at e
  · rename_i ys e2; cases e; simp only [e2]; exact q
  · rename_i ys e2; cases e; simp only [e2]; exact q
  · cases e
theorem em_bs {f : List Bool → Bool} {x : Lv} {xs : List Dat} {bs : List Bool} (e : lstOf env m x = some xs) (eb : bools xs = some bs) : EvM (oBs f) env m [x] (.bl (f bs)) := fun Q q => by
  unfold oBs
  simp only [e, eb]; exact q
theorem bools_map {α : Type} (g : α → Bool) : ∀ xs : List α, bools (xs.map fun x => .bl (g x)) = some (xs.map g)
  | [] => rfl
  | x :: xs => by
    have h := bools_map g xs
    rw [List.map_cons, bools, h]; rfl
theorem intsD_map {α : Type} (g : α → Int) : ∀ xs : List α, intsD (xs.map fun x => .int (g x)) = some (xs.map g)
  | [] => rfl
  | x :: xs => by
    have h := intsD_map g xs
    rw [List.map_cons, intsD, h]; rfl
theorem ev_call {p : DSp} {EX : QXe} {da : TAd} {ls : List Lv} {ds : List Dat} {r : Dat} (ha : EvA da env m ls) (e : frs ls = some ds) (h : ∀ (Q : QD) (E : QX), Q r m → p ds m Q E) : Ev (dCall p EX da) env m (.f r) := fun Q q => ha _ (by
  simp only [e]; exact h _ _ q)
theorem evi_lst {xs : List Dat} (h : Ev d env m (.f (.lst xs))) : EvI (iVal d) env m xs := fun Q q => h _ q
theorem evi_tup {xs : List Dat} (h : Ev d env m (.f (.tup xs))) : EvI (iVal d) env m xs := fun Q q => h _ q
theorem evi_rg1 {j : Int} (h : Ev d env m (.f (.int j))) (h1 : -(2 ^ 62) ≤ j) (h2 : j < 2 ^ 62) : EvI (iRg1 d) env m ((List.range j.toNat).map fun i => .int (i : Nat)) := fun Q q => h _ ⟨h1, h2, by
  unfold rangeD; simpa using q⟩
theorem evi_rg1n {j : Nat} (h : Ev d env m (.f (.int j))) (h2 : j < 2 ^ 62) : EvI (iRg1 d) env m ((List.range j).map fun i => .int (i : Nat)) := by
  have := evi_rg1 h (by omega) (by omega)
  simpa using this
theorem evi_rg2 {i j : Int} (h : Ev da env m (.f (.int i))) (h' : Ev db env m (.f (.int j))) (hb : -(2 ^ 62) ≤ i ∧ i < 2 ^ 62 ∧ -(2 ^ 62) ≤ j ∧ j < 2 ^ 62) : EvI (iRg2 da db) env m (rangeD i (j - i).toNat) := fun Q q => h _ (h' _ ⟨hb, q⟩)
theorem enumD_map {α : Type} (g : α → Dat) : ∀ (k : Nat) (xs : List α), enumD k (xs.map g) = (xs.zipIdx k).map fun p => .tup [.int (p.2 : Nat), g p.1]
  | _, [] => rfl
  | k, x :: xs => by rw [List.map_cons, enumD, enumD_map g (k + 1) xs]; rfl
theorem evi_enum {x : List Dat} (h : Ev d env m (.f (.lst x)) ∨ Ev d env m (.f (.tup x))) : EvI (iEnumD d) env m (enumD 0 x) := fun Q q => by
  rcases h with h | h <;> exact h _ q
theorem lcGo_map {α : Type} {tg : Tg} {g : α → Dat} {de : TD} {env : Env'} {f : α → Dat} : ∀ {xs : List α} {m : Mem} {Q : List Dat → Mem → Prop}, (∀ x ∈ xs, ∃ env2, bind tg (.f (g x)) env = some env2 ∧ Ev de env2 m (.f (f x))) → Q (xs.map f) m → lcGo tg dYes de env (xs.map g) m Q
  | [], m, Q, _, h => h
  | x :: xs, m, Q, hd, h => by
    obtain ⟨env2, e, h1⟩ := hd x List.mem_cons_self
    rw [List.map_cons]
    unfold lcGo
    rw [e]
    exact h1 _ (lcGo_map (Q := fun ds m' => Q (f x :: ds) m') (fun y hy => hd y (List.mem_cons_of_mem _ hy)) h)
theorem lcGo_filter {α : Type} {tg : Tg} {g : α → Dat} {dt : TB} {de : TD} {env : Env'} {t : α → Bool} {f : α → Dat} : ∀ {xs : List α} {m : Mem} {Q : List Dat → Mem → Prop},
    (∀ x ∈ xs, ∃ env2, bind tg (.f (g x)) env = some env2 ∧ EvB dt env2 m (t x) ∧ (t x = true → Ev de env2 m (.f (f x)))) → Q ((xs.filter t).map f) m → lcGo tg dt de env (xs.map g) m Q
  | [], m, Q, _, h => h
  | x :: xs, m, Q, hd, h => by
    obtain ⟨env2, e, h1, h2⟩ := hd x List.mem_cons_self
    rw [List.map_cons]
    unfold lcGo
    rw [e]
    refine h1 _ ?_
    cases ht : t x with
    | true =>
      rw [if_pos rfl]
      refine h2 ht _ ?_
      refine lcGo_filter (t := t) (f := f) (Q := fun ds m' => Q (f x :: ds) m') (fun y hy => hd y (List.mem_cons_of_mem _ hy)) ?_
      rw [List.filter_cons_of_pos ht] at h
      exact h
    | false =>
      rw [if_neg (by decide)]
      refine lcGo_filter (t := t) (f := f) (fun y hy => hd y (List.mem_cons_of_mem _ hy)) ?_
      rw [List.filter_cons_of_neg (by simp [ht])] at h
      exact h
theorem evn_lc {α : Type} {tg : Tg} {g f : α → Dat} {de : TD} {vs : List Nat} {di : TId} {xs : List α} {ys : List Dat} (hi : EvI di env m ys) (e : ys = xs.map g) (hl : xs.length ≤ sizeLine)
    (h : ∀ x ∈ xs, ∃ env2, bind tg (.f (g x)) (wipeE env vs) = some env2 ∧ Ev de env2 m (.f (f x))) : EvN (nLc tg dYes de vs di) env m (xs.map f) := fun Q q => hi _ (by
  subst e
  exact ⟨by simpa using hl, lcGo_map h q⟩)
theorem evn_lcf {α : Type} {tg : Tg} {g f : α → Dat} {t : α → Bool} {dt : TB} {de : TD} {vs : List Nat} {di : TId} {xs : List α} {ys : List Dat} (hi : EvI di env m ys) (e : ys = xs.map g) (hl : xs.length ≤ sizeLine)
    (h : ∀ x ∈ xs, ∃ env2, bind tg (.f (g x)) (wipeE env vs) = some env2 ∧ EvB dt env2 m (t x) ∧ (t x = true → Ev de env2 m (.f (f x)))) : EvN (nLc tg dt de vs di) env m ((xs.filter t).map f) := fun Q q => hi _ (by
  subst e
  exact ⟨by simpa using hl, lcGo_filter h q⟩)
theorem evo_no : EvO dNo env m none := fun _ q => q
theorem evo_p {i : Int} (h : Ev d env m (.f (.int i))) : EvO (dPart d) env m (some i) := fun Q q => h _ q
theorem ev_slL {lo hi : TOd} {a c : Option Int} {xs : List Dat} (h : Ev d env m x) (hl : EvO lo env m a) (hh : EvO hi env m c) (e : der env m x = some (.lst xs)) : Ev (dSl d lo hi) env m (.f (.lst (cutD xs a c))) := fun Q q => h _ (hl _ (hh _ (by
  simp only [e]; exact q)))
end
section
variable {D : En} {env : Env'} {m : Mem} {d : TD} {v : Lv} {a : Dat}
theorem st_seq {s t : TSd} (h : s { D with nx := t D } env m) : sSeq s t D env m := h
theorem st_set {i : Nat} (h : Ev d env m (.f a)) (k : D.nx (env.set i (some (.f a))) m) : sAsg (.nm i) d D env m := h _ k
theorem st_setT {is : List Nat} {as : List Dat} (h : Ev d env m (.f (.tup as))) (hl : as.length = is.length) (k : D.nx (setAll is as env) m) : sAsg (.tp is) d D env m := h _ (by
  show match (if as.length = is.length then some (setAll is as env) else none) with | some env2 => D.nx env2 m | none => False
  rw [if_pos hl]; exact k)
theorem st_ret (h : Ev d env m (.f a)) (k : D.rt a m) : sRet d D env m := h _ k
theorem st_if {c : TB} {s t : TSd} {b : Bool} (h : EvB c env m b) (k1 : b = true → s D env m) (k2 : b = false → t D env m) : sIf c s t D env m := h _ (by
  cases b with
  | true => exact k1 rfl
  | false => exact k2 rfl)
theorem st_ifT {c : TB} {s t : TSd} (h : EvB c env m true) (k : s D env m) : sIf c s t D env m := h _ k
theorem st_ifF {c : TB} {s t : TSd} (h : EvB c env m false) (k : t D env m) : sIf c s t D env m := h _ k
theorem st_app {i : Nat} {xs : List Dat} {de : TD} {z : Dat} (e : env[i]? = some (some (.own (.lst xs)))) (h : Ev de env m (.f z)) (hl : xs.length < sizeLine) (k : D.nx (env.set i (some (.own (.lst (xs ++ [z]))))) m) : sApp (dVar i) de D env m := by
  unfold sApp
  refine ev_o e _ ?_
  have em : moOf env m (.o i) = some (.lst xs) := by unfold moOf; simp only [e]
  simp only [em]
  refine h _ ?_
  simp only [em]
  exact ⟨hl, k⟩
theorem st_par {i j : Nat} {d1 d2 : TD} {a b : Dat} (h1 : Ev d1 env m (.f a)) (h2 : Ev d2 env m (.f b)) (k : D.nx ((env.set i (some (.f a))).set j (some (.f b))) m) : sPar i j d1 d2 D env m := h1 _ (h2 _ k)
end
end DL

set_option maxHeartbeats 1000000
namespace DL.S
open PySem PySem.Spec PyProof.Rows L2 DL
def fi_size : Nat → Option Nat := fiOf ft_size
def fi_pairs : Nat → Option Nat := fiOf ft_pairs
def rd_law_deck (C : Ct)  (EX : QXe) : TSd :=
  (sSeq (sAsg (.nm 1) (dNew (nLc (.nm 2) dYes (dN (oN1 fAbs) (dCons (dVar 2) dNil)) [2] (iVal (dVar 0)))))
  (sRet (dShr (nLst (dCons (dShr (nLc (.nm 2) (dTst (dBin oGe (dVar 2) (dBin oPow (dC (.int 10)) (dC (.int 18))))) (dVar 2) [2] (iVal (dVar 1)))) (dCons (dNew (nCat (dVar 1) (dNew (nLst (dCons (dBin oAdd (dN oLen (dCons (dVar 1) dNil)) (dC (.int 5))) dNil))))) (dCons (dC (.int 0)) dNil)))))))
def rd_law_next (C : Ct)  (EX : QXe) : TSd :=
  (sSeq (sWhile (dTst (dBin (oEq not) (dBin oIx (dVar 0) (dC (.int 0))) (dNew (nLst dNil))))
  (sSeq (sAsg (.nm 5) (dBin oIx (dBin oIx (dVar 0) (dC (.int 0))) (dC (.int 0))))
  (sSeq (sIf (dTst (dBin oGt (dVar 5) (dC (.int 0))))
  (sSeq (sSetI (dBin oFdiv (dVar 5) (dVar 1)) (dBin oIx (dVar 0) (dC (.int 0))) (dC (.int 0)))
  (sRet (dBin oMod (dN (oN1 fInt) (dCons (dVar 5) dNil)) (dVar 1))))
  sNext)
  (sPop0 (dBin oIx (dVar 0) (dC (.int 0)))))))
  (sSeq (sSetI (dBin oAdd (dBin oIx (dVar 0) (dC (.int 2))) (dC (.int 1))) (dVar 0) (dC (.int 2)))
  (sSeq (sAsg (.nm 2) (dBin oIx (dVar 0) (dC (.int 2))))
  (sSeq (sAsg (.nm 3) (dBin oMod (dN (oN1 fInt) (dCons (dBin oIx (dBin oIx (dVar 0) (dC (.int 1))) (dBin oMod (dN (oN1 fInt) (dCons (dVar 2) dNil)) (dN oLen (dCons (dBin oIx (dVar 0) (dC (.int 1))) dNil)))) dNil)) (dC (.int 2147483629))))
  (sSeq (sAsg (.nm 4) (dBin oMod (dN (oN1 fInt) (dCons (dBin oAdd (dBin oAdd (dBin oMul (dVar 3) (dBin oAdd (dC (.int 50331)) (dBin oMul (dC (.int 68111)) (dVar 2)))) (dBin oMul (dBin oMul (dC (.int 41287)) (dVar 2)) (dVar 2))) (dC (.int 19))) dNil)) (dC (.int 2147483587))))
  (sRet (dBin oMod (dBin oFdiv (dBin oMod (dN (oN1 fInt) (dCons (dBin oMul (dVar 4) (dVar 4)) dNil)) (dC (.int 2147483579))) (dC (.int 16))) (dVar 1))))))))
def rd_law_pairs (C : Ct)  (EX : QXe) : TSd :=
  (sSeq (sAsg (.nm 1) (dNew (nLst dNil)))
  (sSeq (sFor (.nm 2) (iRg1 (dVar 0))
  (sAsg (.nm 1) (dNew (nCat (dVar 1) (dNew (nLc (.nm 3) dYes (dN oTup (dCons (dVar 3) (dCons (dVar 2) dNil))) [3] (iRg1 (dVar 2))))))))
  (sRet (dVar 1))))
def rd_law_net (C : Ct) (p_law_next : DSp) (p_law_pairs : DSp) (EX : QXe) : TSd :=
  (sSeq (sAsg (.nm 2) (dBin oIx (dNew (nLst (dCons (dBin oAdd (dC (.int 1)) (dCall p_law_next EX0 (dCons (dVar 0) (dCons (dC (.int 7)) dNil)))) (dCons (dC (.int 4)) (dCons (dC (.int 5)) (dCons (dC (.int 7)) dNil)))))) (dCall p_law_next EX0 (dCons (dVar 0) (dCons (dC (.int 4)) dNil)))))
  (sSeq (sPar3N 3 4 5 (dCall p_law_pairs EX0 (dCons (dVar 2) dNil)) (dCall p_law_next EX0 (dCons (dVar 0) (dCons (dC (.int 4)) dNil))) (nLst dNil))
  (sSeq (sIf (dAnd (dTst (dBin (oEq id) (dVar 4) (dC (.int 0)))) (dTst (dBin oGt (dVar 2) (dC (.int 2)))))
  (sSetN 5 (nCat (dNew (nLc (.nm 6) dYes (dN oTup (dCons (dVar 6) (dCons (dBin oAdd (dVar 6) (dC (.int 1))) dNil))) [6] (iRg1 (dBin oSub (dVar 2) (dC (.int 1)))))) (dNew (nLst (dCons (dN oTup (dCons (dC (.int 0)) (dCons (dBin oSub (dVar 2) (dC (.int 1))) dNil))) dNil)))))
  sNext)
  (sSeq (sIf (dTst (dBin (oEq id) (dVar 4) (dC (.int 1))))
  (sSetN 5 (nLc (.nm 6) dYes (dN oTup (dCons (dCall p_law_next EX0 (dCons (dVar 0) (dCons (dVar 6) dNil))) (dCons (dVar 6) dNil))) [6] (iRg2 (dC (.int 1)) (dVar 2))))
  sNext)
  (sSeq (sFor (.nm 6) (iRg1 (dBin oMul (dBin oIx (dNew (nLst (dCons (dVar 1) (dCons (dCall p_law_next EX0 (dCons (dVar 0) (dCons (dBin oAdd (dVar 1) (dC (.int 1))) dNil))) dNil)))) (dCall p_law_next EX0 (dCons (dVar 0) (dCons (dC (.int 2)) dNil)))) (dN (oN1 fInt) (dCons (dBin oGt (dVar 2) (dC (.int 1))) dNil))))
  (sSeq (sAsg (.nm 7) (dBin oIx (dVar 3) (dCall p_law_next EX0 (dCons (dVar 0) (dCons (dN oLen (dCons (dVar 3) dNil)) dNil)))))
  (sIf (dTst (dBin (oIn not) (dVar 7) (dVar 5)))
  (sApp (dVar 5) (dVar 7))
  sNext)))
  (sKeep 5 (sRet (dN oTup (dCons (dVar 2) (dCons (dNew (nSort (dSl (dVar 5) dNo (dPart (dVar 1))))) dNil))))))))))
def rd_is_whole (C : Ct)  (EX : QXe) : TSd :=
  (sRet (dAndV (dN (oIsi C) (dCons (dVar 0) (dCons (dC (.ty "int")) dNil))) (dNotV (dN (oIsi C) (dCons (dVar 0) (dCons (dC (.ty "bool")) dNil))))))
def rd_is_below (C : Ct) (p_is_whole : DSp) (EX : QXe) : TSd :=
  (sRet (dAndV (dCall p_is_whole EX0 (dCons (dVar 0) dNil)) (dChain oLe oLt (dC (.int 0)) (dVar 0) (dVar 1))))
def rd_is_pair (C : Ct)  (EX : QXe) : TSd :=
  (sRet (dAndV (dN (oIsi C) (dCons (dVar 0) (dCons (dC (.ty "tuple")) dNil))) (dBin (oEq id) (dN oLen (dCons (dVar 0) dNil)) (dC (.int 2)))))
def rd_is_link (C : Ct) (p_is_pair : DSp) (p_is_below : DSp) (EX : QXe) : TSd :=
  (sSeq (sIf (dOr (dNot (dTst (dCall p_is_pair EX0 (dCons (dVar 0) dNil)))) (dOr (dNot (dTst (dCall p_is_below EX0 (dCons (dBin oIx (dVar 0) (dC (.int 0))) (dCons (dVar 1) dNil))))) (dNot (dTst (dCall p_is_below EX0 (dCons (dBin oIx (dVar 0) (dC (.int 1))) (dCons (dVar 1) dNil)))))))
  (sRet (dC (.bl false)))
  sNext)
  (sRet (dBin (oEq not) (dBin oIx (dVar 0) (dC (.int 0))) (dBin oIx (dVar 0) (dC (.int 1))))))
def rd_net_error (C : Ct) (p_is_whole : DSp) (p_is_link : DSp) (EX : QXe) : TSd :=
  (sSeq (sIf (dOr (dNot (dTst (dCall p_is_whole EX0 (dCons (dVar 0) dNil)))) (dNot (dTst (dChain oLe oLe (dC (.int 1)) (dVar 0) (dC (.int 7))))))
  (sRet (dN oTup (dCons (dC .non) (dCons (dC (.str "nodes")) dNil))))
  sNext)
  (sSeq (sIf (dOr (dNot (dTst (dN (oIsi C) (dCons (dVar 1) (dCons (dC (.ty "tuple")) dNil))))) (dTst (dBin oGt (dN oLen (dCons (dVar 1) dNil)) (dC (.int 8)))))
  (sRet (dN oTup (dCons (dC .non) (dCons (dC (.str "links")) dNil))))
  sNext)
  (sSeq (sFor (.tp [2, 3]) (iEnumD (dVar 1))
  (sSeq (sIf (dNot (dTst (dCall p_is_link EX0 (dCons (dVar 3) (dCons (dVar 0) dNil)))))
  (sRet (dN oTup (dCons (dVar 2) (dCons (dC (.str "link")) dNil))))
  sNext)
  (sIf (dTst (dBin (oIn id) (dNew (nSort (dVar 3))) (dNew (nLc (.nm 4) dYes (dNew (nSort (dVar 4))) [4] (iVal (dSl (dVar 1) dNo (dPart (dVar 2))))))))
  (sRet (dN oTup (dCons (dVar 2) (dCons (dC (.str "again")) dNil))))
  sNext)))
  (sRet (dC .non)))))
def rd_Net_init (C : Ct) (p_net_error : DSp) (EX : QXe) : TSd :=
  (sSeq (sAsg (.nm 3) (dCall p_net_error EX0 (dCons (dVar 1) (dCons (dVar 2) dNil))))
  (sSeq (sIf (dTst (dBin (oIsN not) (dVar 3) (dC .non)))
  (sRaise (mOwn 2 1 (dCons (dVar 3) dNil)) EX)
  sNext)
  (sSeq (sFldD fi_size (dVar 0) (dVar 1))
  (sFldD fi_pairs (dVar 0) (dN oTuple (dCons (dNew (nSort (dNew (nLc (.nm 4) dYes (dN oTup (dCons (dN (oIs minI fun ns => 0 < ns.length) (dCons (dVar 4) dNil)) (dCons (dN (oIs maxI fun ns => 0 < ns.length) (dCons (dVar 4) dNil)) dNil))) [4] (iVal (dVar 2)))))) dNil))))))
end DL.S

set_option maxHeartbeats 1000000
namespace DL.S
open PySem PySem.Spec PyProof.Rows L2 DL

def Dk (c : Nat) (tl m : Mem) : Prop := ∃ (rest cells : List Int) (t : Nat), m = [.lst (rest.map Dat.int), .lst [.obj 0, .lst (cells.map Dat.int), .int t]] ++ tl ∧ t ≤ c ∧ cells ≠ [] ∧ cells.length ≤ 100
theorem Dk.mono {c d : Nat} {tl m : Mem} (h : Dk c tl m) (e : c ≤ d) : Dk d tl m := by
  obtain ⟨rest, cells, t, h1, h2, h3⟩ := h
  exact ⟨rest, cells, t, h1, Nat.le_trans h2 e, h3⟩
def noE : List Dat → Mem → Nat → List Dat → Mem → Prop := fun _ _ _ _ _ => False
def lim : Nat := 2 ^ 40
def p_next : DSp := pRel 2 (fun ds m => ∃ (many : Int) (c : Nat) (tl : Mem), ds = [.obj 1, .int many] ∧ 0 < many ∧ many < 2 ^ 40 ∧ Dk c tl m ∧ c < lim)
  (fun ds m r m' => ∃ (many i : Int), ds = [.obj 1, .int many] ∧ r = .int i ∧ 0 ≤ i ∧ i < many ∧ ∀ c tl, Dk c tl m → Dk (c + 1) tl m') noE
theorem okR1 (k : Nat) (i : Int) : okN k (.int i) = true := by cases k <;> rfl
theorem law_next (C : Ct) : ∀ ds m (Q : QD) (E : QX), p_next ds m Q E → rd_law_next C (fun c xs _ m => E c xs m) { nx := fun _ m => Q .non m, rt := Q } (env0 6 ds) m := by
  rintro ds m Q E ⟨_, ⟨many, c, tl, rfl, h0, h1, ⟨rest, cells, t, rfl, ht, hc, h100⟩, hlim⟩, hQ, _⟩
  have hl : many.natAbs.log2 < 9000 := Nat.lt_of_lt_of_le (log2_lt (k := 40) (by decide) (by omega)) (by decide)
  have e0 : env0 6 [.obj 1, .int many] = [some (.f (.obj 1)), some (.f (.int many)), none, none, none, none] := rfl
  rw [e0]
  unfold rd_law_next
  have loop : ∀ (cont : Env' → Mem → Prop) (bk ct : Env' → Mem → Prop) (rest : List Int) (x : Option Sl), (∀ m', (∃ rest' : List Int, m' = [Mo.lst (rest'.map Dat.int), .lst [.obj 0, .lst (cells.map Dat.int), .int t]] ++ tl) → ∀ i, 0 ≤ i → i < many → Q (.int i) m') → (∀ x, cont [some (.f (.obj 1)), some (.f (.int many)), none, none, none, x] ([Mo.lst [], .lst [.obj 0, .lst (cells.map Dat.int), .int t]] ++ tl)) →
    whGo (dTst (dBin (oEq not) (dBin oIx (dVar 0) (dC (.int 0))) (dNew (nLst dNil))))
    (sSeq (sAsg (.nm 5) (dBin oIx (dBin oIx (dVar 0) (dC (.int 0))) (dC (.int 0))))
  (sSeq (sIf (dTst (dBin oGt (dVar 5) (dC (.int 0))))
  (sSeq (sSetI (dBin oFdiv (dVar 5) (dVar 1)) (dBin oIx (dVar 0) (dC (.int 0))) (dC (.int 0)))
  (sRet (dBin oMod (dN (oN1 fInt) (dCons (dVar 5) dNil)) (dVar 1))))
  sNext)
  (sPop0 (dBin oIx (dVar 0) (dC (.int 0))))))
    { nx := cont, rt := Q, bk := bk, ct := ct } (rest.length + 1) [some (.f (.obj 1)), some (.f (.int many)), none, none, none, x] ([.lst (rest.map Dat.int), .lst [.obj 0, .lst (cells.map Dat.int), .int t]] ++ tl) := by
    intro cont bk ct rest
    induction rest with
    | nil =>
      intro x hq hc
      unfold whGo
      simp [dTst, dBin, dVar, dC, oIx, der, moD, atI, ixN, dNew, nLst, dNil, frs, oEq, okN, eqd, eqds]
      exact hc x
    | cons r rest ih =>
      intro x hq hc
      unfold whGo
      simp [dTst, dBin, dVar, dC, oIx, der, moD, atI, ixN, dNew, nLst, dNil, frs, oEq, okN, eqd, eqds, okR1, all_int, sSeq, sAsg, bind, sIf, oI0, oI, sSetI, sRet, dN, dCons, oN1, fInt, sNext, sPop0, moOf, setE, setM, CDivW, h0, hl]
      by_cases hr : 0 < r
      · rw [if_pos hr]
        exact hq _ ⟨(r / many) :: rest, rfl⟩ _ (Int.emod_nonneg _ (by omega)) (Int.emod_lt_of_pos _ h0)
      · rw [if_neg hr]
        exact ih _ hq hc
  refine ⟨rest.length + 1, ?_⟩
  have post : ∀ (rest' : List Int) (t' : Nat), t' ≤ t + 1 → ∀ c' tl', Dk c' tl' ([Mo.lst (rest.map Dat.int), .lst [.obj 0, .lst (cells.map Dat.int), .int t]] ++ tl) → Dk (c' + 1) tl' ([Mo.lst (rest'.map Dat.int), .lst [.obj 0, .lst (cells.map Dat.int), .int t']] ++ tl) := by
    rintro rest' t' h c' tl' ⟨r2, c2, t2, e, h2, h3, h4⟩
    simp at e
    obtain ⟨e1, ⟨e2, e3⟩, e4⟩ := e
    subst e4
    exact ⟨rest', cells, t', rfl, by omega, hc, h100⟩
  refine loop _ _ _ rest none (fun m' ⟨rest', e⟩ i h2 h3 => hQ _ _ ⟨many, i, rfl, rfl, h2, h3, ?_⟩) fun x => ?_
  · subst e
    exact post rest' t (by omega)
  · have hcl : 0 < cells.length := Nat.pos_of_ne_zero (fun h => hc (List.length_eq_zero_iff.mp h))
    obtain ⟨y, hy, hy2⟩ := atI_int (l := cells.map Dat.int) (i := ((t : Int) + 1) % (cells.length : Int)) (Int.emod_nonneg _ (by omega)) (by rw [List.length_map]; exact Int.emod_lt_of_pos _ (by omega))
    obtain ⟨v, rfl⟩ : ∃ v, y = .int v := by
      rw [List.getElem?_map] at hy2
      cases q : cells[(((t : Int) + 1) % (cells.length : Int)).toNat]? with
      | none => rw [q] at hy2; cases hy2
      | some v => rw [q] at hy2; exact ⟨v, (Option.some.inj hy2).symm⟩
    have ht2 : (t : Int) < 2 ^ 40 := by
      have : lim = 2 ^ 40 := rfl
      omega
    have m1 : CMul 68111 ((t : Int) + 1) := .inl ⟨by decide, by decide⟩
    have m2 : CMul 41287 ((t : Int) + 1) := .inl ⟨by decide, by decide⟩
    have m3 : CMul (41287 * ((t : Int) + 1)) ((t : Int) + 1) := .inr ⟨by omega, by omega⟩
    have m4 : ∀ z : Int, CMul (v % 2147483629) z := fun z => .inl ⟨by have := Int.emod_nonneg v (show (2147483629 : Int) ≠ 0 by decide); omega, by have := Int.emod_lt_of_pos v (show (0 : Int) < 2147483629 by decide); omega⟩
    have m5 : ∀ a z : Int, CMul (a % 2147483587) z := fun a z => .inl ⟨by have := Int.emod_nonneg a (show (2147483587 : Int) ≠ 0 by decide); omega, by have := Int.emod_lt_of_pos a (show (0 : Int) < 2147483587 by decide); omega⟩
    have m6 : ∀ z : Int, CDivW z 16 := fun z => ⟨by decide, by decide⟩
    simp [dBin, dVar, dC, oIx, der, moD, atI0, atI1, atI2, hy, sSeq, sAsg, bind, oI0, oI, sSetI, sRet, dN, dCons, dNil, oN1, fInt, moOf, setE, setM, oAdd, oLen, ixN, m1, m2, m3, m4, m5, m6, h0, hcl]
    exact hQ _ _ ⟨many, _, rfl, rfl, Int.emod_nonneg _ (by omega), Int.emod_lt_of_pos _ h0, post [] (t + 1) (by omega)⟩
end DL.S

set_option maxHeartbeats 1000000
namespace DL.S
open PySem PySem.Spec PyProof.Rows L2 DL

def p_deck : DSp := pRel 1 (fun ds m => ∃ ns : List Int, ds = [.lst (ns.map Dat.int)] ∧ ns.length ≤ 63 ∧ m = []) (fun ds m r m' => r = .obj 1 ∧ Dk 0 [] m') noE
def absI (i : Int) : Int := if i < 0 then -i else i
theorem law_deck (C : Ct) : ∀ ds m (Q : QD) (E : QX), p_deck ds m Q E → rd_law_deck C (fun c xs _ m => E c xs m) { nx := fun _ m => Q .non m, rt := Q } (env0 3 ds) m := by
  rintro ds m Q E ⟨_, ⟨ns, rfl, hn, rfl⟩, hQ, _⟩
  have e0 : env0 3 [.lst (ns.map Dat.int)] = [some (.f (.lst (ns.map Dat.int))), none, none] := rfl
  rw [e0]
  unfold rd_law_deck
  have s1 : 100 ≤ sizeLine := sz (by decide)
  show (ns.map Dat.int).length ≤ sizeLine ∧ lcGo _ _ _ _ _ _ _
  refine ⟨by rw [List.length_map]; omega, lc_map (f := fun d => match d with | .int i => .int (absI i) | d => d) (fun x hx Q h => ?_) ?_⟩
  · obtain ⟨i, _, rfl⟩ := List.mem_map.mp hx
    exact h
  have e1 : (ns.map Dat.int).map (fun d => match d with | .int i => .int (absI i) | d => d) = (ns.map absI).map Dat.int := by
    rw [List.map_map, List.map_map]; rfl
  rw [e1]
  show ((ns.map absI).map Dat.int).length ≤ sizeLine ∧ lcGo _ _ _ _ _ _ _
  refine ⟨by rw [List.length_map, List.length_map]; omega, lc_filter (f := id) (g := fun d => match d with | .int i => decide ((10 : Int) ^ 18 ≤ i) | _ => false) (fun x hx Q h => ?_) (fun x hx _ Q h => h) ?_⟩
  · obtain ⟨i, _, rfl⟩ := List.mem_map.mp hx
    exact ⟨⟨by decide, by decide, by decide⟩, trivial, h⟩
  have e2 : (((ns.map absI).map Dat.int).filter (fun d => match d with | .int i => decide ((10 : Int) ^ 18 ≤ i) | _ => false)).map id = ((ns.map absI).filter fun i => decide ((10 : Int) ^ 18 ≤ i)).map Dat.int := by
    rw [List.map_id, List.filter_map]; rfl
  rw [e2]
  simp [dNew, nCat, dVar, lstOf, der, nLst, dN, oLen, dCons, dNil, oAdd, dBin, dC, frs, dShr]
  refine ⟨by omega, by omega, by omega, hQ _ _ ⟨rfl, ?_⟩⟩
  refine ⟨(ns.map absI).filter fun i => decide ((10 : Int) ^ 18 ≤ i), ns.map absI ++ [(ns.length : Int) + 5], 0, ?_, Nat.le_refl _, by simp, by simp; omega⟩
  simp
end DL.S

set_option maxHeartbeats 1000000
namespace DL.S
open PySem PySem.Spec PyProof.Rows L2 DL

theorem good_tup {k : Nat} {xs : List Dat} (h : good k (.tup xs) = true) : ∃ j, k = j + 1 ∧ xs.length ≤ 10000 ∧ ∀ x ∈ xs, good j x = true := by
  cases k with
  | zero => cases h
  | succ j =>
    rw [good, Bool.and_eq_true] at h
    exact ⟨j, rfl, of_decide_eq_true h.1, List.all_eq_true.mp h.2⟩
def p_same (k : Nat) : DSp := pRel 2 (fun ds m => ∃ d, ds = [d, d] ∧ good k d = true) (fun ds m r m' => r = .bl true ∧ m' = m) noE
theorem intOkN (k : Nat) (i : Int) : okN k (.int i) = true := by cases k <;> rfl
theorem eqd_int (i j : Int) : eqd (.int i) (.int j) = (i == j) := by simp [eqd]
theorem eqd_str (i j : Str) : eqd (.str i) (.str j) = (i == j) := by simp [eqd]
theorem call_is {p : DSp} {EX : QXe} {da : TAd} {env : Env'} {m : Mem} {Q : QL} (xs : List Lv) (ds : List Dat) (ha : ∀ Q : List Lv → Mem → Prop, Q xs m → da env m Q) (hf : frs xs = some ds) (h : p ds m (fun d m2 => Q (.f d) m2) fun c ys m2 => EX c ys env m2) : dCall p EX da env m Q := by
  refine ha _ ?_
  rw [hf]
  exact h
theorem bools_map : ∀ bs : List Bool, bools (bs.map Dat.bl) = some bs
  | [] => rfl
  | b :: bs => by
    show (bools (bs.map Dat.bl)).map (b :: ·) = some (b :: bs)
    rw [bools_map bs]; rfl
end DL.S

set_option maxHeartbeats 1000000
namespace K02
open PySem PySem.Spec PyProof.Rows L2 DL DL.S

def isInt : Dat → Bool
  | .int _ => true
  | _ => false
def below (b : Int) : Dat → Bool
  | .int i => decide (0 ≤ i) && decide (i < b)
  | _ => false
def isPair : Dat → Bool
  | .tup xs => decide (xs.length = 2)
  | _ => false
def linkB (n : Int) : Dat → Bool
  | .tup [.int a, .int b] => (decide (0 ≤ a) && decide (a < n)) && ((decide (0 ≤ b) && decide (b < n)) && decide (a ≠ b))
  | _ => false
theorem q_bl {Q : QD} {a b : Bool} {m : Mem} (h : Q (.bl a) m) (e : b = a) : Q (.bl b) m := e ▸ h
def p_whole : DSp := pRel 1 (fun ds m => ∃ d, ds = [d] ∧ plain d = true) (fun ds m r m' => ∃ d, ds = [d] ∧ r = .bl (isInt d) ∧ m' = m) noE
def p_below : DSp := pRel 2 (fun ds m => ∃ d b, ds = [d, .int b] ∧ plain d = true) (fun ds m r m' => ∃ d b, ds = [d, .int b] ∧ r = .bl (below b d) ∧ m' = m) noE
def p_pair : DSp := pRel 1 (fun ds m => ∃ d, ds = [d] ∧ plain d = true) (fun ds m r m' => ∃ d, ds = [d] ∧ r = .bl (isPair d) ∧ m' = m) noE
def p_link : DSp := pRel 2 (fun ds m => ∃ d n, ds = [d, .int n] ∧ plain d = true ∧ ∀ xs, d = .tup xs → ∀ x ∈ xs, plain x = true) (fun ds m r m' => ∃ d n, ds = [d, .int n] ∧ r = .bl (linkB n d) ∧ m' = m) noE
theorem good_plain {k : Nat} {d : Dat} (h : good k d = true) : plain d = true := by
  cases d <;> first | rfl | (cases k <;> cases h)
theorem law_is_whole (C : Ct) : ∀ ds m (Q : QD) (E : QX), p_whole ds m Q E → rd_is_whole C (fun c xs _ m => E c xs m) { nx := fun _ m => Q .non m, rt := Q } (env0 1 ds) m := by
  rintro ds m Q E ⟨_, ⟨d, rfl, hd⟩, hQ, _⟩
  have hQ' : Q (.bl (isInt d)) m := hQ _ _ ⟨d, rfl, rfl, rfl⟩
  have e0 : env0 1 [d] = [some (.f d)] := rfl
  rw [e0]
  unfold rd_is_whole
  cases d <;> first
    | (simp [sRet, dAndV, dNotV, dN, oIsi, dCons, dVar, dC, dNil, derI, der, isaD, isa1, tyN, isT]; exact hQ')
    | cases hd
theorem call_whole {da : TAd} {env : Env'} {m : Mem} {Q : QL} (d : Dat) (hd : plain d = true) (ha : ∀ Q : List Lv → Mem → Prop, Q [.f d] m → da env m Q) (h : Q (.f (.bl (isInt d))) m) : dCall p_whole EX0 da env m Q :=
  call_is [.f d] [d] ha rfl ⟨rfl, ⟨d, rfl, hd⟩, fun r m' ⟨d', e1, e2, e3⟩ => by cases e1; subst e2 e3; exact h, fun _ _ _ q => q.elim⟩
theorem call_below {da : TAd} {env : Env'} {m : Mem} {Q : QL} (d : Dat) (b : Int) (hd : plain d = true) (ha : ∀ Q : List Lv → Mem → Prop, Q [.f d, .f (.int b)] m → da env m Q) (h : Q (.f (.bl (below b d))) m) : dCall p_below EX0 da env m Q :=
  call_is [.f d, .f (.int b)] [d, .int b] ha rfl ⟨rfl, ⟨d, b, rfl, hd⟩, fun r m' ⟨d', b', e1, e2, e3⟩ => by cases e1; subst e2 e3; exact h, fun _ _ _ q => q.elim⟩
theorem call_pair {da : TAd} {env : Env'} {m : Mem} {Q : QL} (d : Dat) (hd : plain d = true) (ha : ∀ Q : List Lv → Mem → Prop, Q [.f d] m → da env m Q) (h : Q (.f (.bl (isPair d))) m) : dCall p_pair EX0 da env m Q :=
  call_is [.f d] [d] ha rfl ⟨rfl, ⟨d, rfl, hd⟩, fun r m' ⟨d', e1, e2, e3⟩ => by cases e1; subst e2 e3; exact h, fun _ _ _ q => q.elim⟩
theorem call_link {da : TAd} {env : Env'} {m : Mem} {Q : QL} (d : Dat) (n : Int) (hd : plain d = true) (hx : ∀ xs, d = .tup xs → ∀ x ∈ xs, plain x = true) (ha : ∀ Q : List Lv → Mem → Prop, Q [.f d, .f (.int n)] m → da env m Q) (h : Q (.f (.bl (linkB n d))) m) : dCall p_link EX0 da env m Q :=
  call_is [.f d, .f (.int n)] [d, .int n] ha rfl ⟨rfl, ⟨d, n, rfl, hd, hx⟩, fun r m' ⟨d', b', e1, e2, e3⟩ => by cases e1; subst e2 e3; exact h, fun _ _ _ q => q.elim⟩
theorem law_is_below (C : Ct) : ∀ ds m (Q : QD) (E : QX), p_below ds m Q E → rd_is_below C p_whole (fun c xs _ m => E c xs m) { nx := fun _ m => Q .non m, rt := Q } (env0 2 ds) m := by
  rintro ds m Q E ⟨_, ⟨d, b, rfl, hd⟩, hQ, _⟩
  have hQ' : Q (.bl (below b d)) m := hQ _ _ ⟨d, b, rfl, rfl, rfl⟩
  have e0 : env0 2 [d, .int b] = [some (.f d), some (.f (.int b))] := rfl
  rw [e0]
  unfold rd_is_below sRet dAndV
  refine call_whole d hd (fun Q h => h) ?_
  cases d with
  | int i =>
    simp [isInt, dChain, dVar, dC, oI0, oI]
    by_cases h1 : 0 ≤ i
    · simp only [h1, decide_true]
      exact q_bl hQ' (by simp [below, h1])
    · simp only [h1, decide_false]
      exact q_bl hQ' (by simp [below, h1])
  | _ => first
    | (cases hd; done)
    | exact hQ'
theorem law_is_pair (C : Ct) : ∀ ds m (Q : QD) (E : QX), p_pair ds m Q E → rd_is_pair C (fun c xs _ m => E c xs m) { nx := fun _ m => Q .non m, rt := Q } (env0 1 ds) m := by
  rintro ds m Q E ⟨_, ⟨d, rfl, hd⟩, hQ, _⟩
  have hQ' : Q (.bl (isPair d)) m := hQ _ _ ⟨d, rfl, rfl, rfl⟩
  have e0 : env0 1 [d] = [some (.f d)] := rfl
  rw [e0]
  unfold rd_is_pair
  cases d with
  | tup xs =>
    simp [sRet, dAndV, dNotV, dN, oIsi, dCons, dVar, dC, dNil, derI, der, isaD, isa1, tyN, isT, dBin, oEq, oLen, eqd_int, intOkN]
    refine q_bl hQ' ?_
    rw [isPair, Bool.eq_iff_iff, beq_iff_eq, decide_eq_true_iff]
    omega
  | _ => first
    | (cases hd; done)
    | (simp [sRet, dAndV, dNotV, dN, oIsi, dCons, dVar, dC, dNil, derI, der, isaD, isa1, tyN, isT]; exact hQ')
theorem law_is_link (C : Ct) : ∀ ds m (Q : QD) (E : QX), p_link ds m Q E → rd_is_link C p_pair p_below (fun c xs _ m => E c xs m) { nx := fun _ m => Q .non m, rt := Q } (env0 2 ds) m := by
  rintro ds m Q E ⟨_, ⟨d, n, rfl, hd, hx⟩, hQ, _⟩
  have hQ' : Q (.bl (linkB n d)) m := hQ _ _ ⟨d, n, rfl, rfl, rfl⟩
  have e0 : env0 2 [d, .int n] = [some (.f d), some (.f (.int n))] := rfl
  rw [e0]
  unfold rd_is_link sSeq sIf dOr dNot dTst
  refine call_pair d hd (fun Q h => h) ?_
  by_cases hp : isPair d = true
  · cases d with
    | tup xs =>
      match xs, hp with
      | [a, b], _ =>
        have hp2 : isPair (.tup [a, b]) = true := rfl
        have ha := hx _ rfl a (by simp)
        have hb := hx _ rfl b (by simp)
        simp [hp2]
        refine call_below a n ha (fun Q h => by simp [dCons, dNil, dBin, dVar, dC, oIx, der, atI0, atI1]; exact h) ?_
        by_cases h1 : below n a = true
        · simp [h1]
          refine call_below b n hb (fun Q h => by simp [dCons, dNil, dBin, dVar, dC, oIx, der, atI0, atI1]; exact h) ?_
          by_cases h2 : below n b = true
          · simp [h2, sNext, sRet, dBin, dVar, dC, oIx, der, atI0, atI1]
            cases a with
            | int i =>
              cases b with
              | int j =>
                simp [der, oEq, intOkN, eqd_int]
                rw [below, Bool.and_eq_true, decide_eq_true_iff, decide_eq_true_iff] at h1 h2
                refine q_bl hQ' ?_
                simp only [linkB, h1, h2, decide_true, Bool.and_self, Bool.true_and]
                by_cases e : i = j
                · simp [e]
                · simp [e]
              | _ => cases h2
            | _ => cases h1
          · simp [h2, sRet, dC]
            refine q_bl hQ' ?_
            rw [Bool.not_eq_true] at h2
            cases b with
            | int j =>
              rw [below] at h2
              cases a <;> first | rfl | (rw [linkB, h2]; simp)
            | _ => cases a <;> rfl
        · simp [h1, sRet, dC]
          refine q_bl hQ' ?_
          rw [Bool.not_eq_true] at h1
          cases a with
          | int i =>
            rw [below] at h1
            cases b <;> first | rfl | (rw [linkB, h1]; simp)
          | _ => rfl
    | _ => cases hp
  · simp [hp, sRet, dC]
    refine q_bl hQ' ?_
    cases d with
    | tup xs =>
      match xs, hp with
      | [], _ => rfl
      | [a], _ => cases a <;> rfl
      | [a, b], hp => exact absurd rfl hp
      | a :: b :: c :: r, _ => cases a <;> first | rfl | (cases b <;> rfl)
    | _ => rfl
end K02

set_option maxHeartbeats 1000000
namespace DL
open PySem PySem.Spec PyProof.Rows L2
theorem sortD_ints (ns : List Int) : sortD (ns.map Dat.int) = (ns.mergeSort fun a b => decide (a ≤ b)).map Dat.int := by
  unfold sortD
  refine (List.map_mergeSort (r := fun a b => decide (a ≤ b)) (s := PySem.W.dataLe false py) (f := Dat.int) (l := ns) fun a _ b _ => ?_).symm
  have e := congrFun (congrFun (PySem.W.dataLe_int (β := Int) id) a) b
  exact e.symm
theorem sort2 (a b : Int) : [a, b].mergeSort (fun a b => decide (a ≤ b)) = [min a b, max a b] := by
  by_cases h : a ≤ b
  · rw [Int.min_eq_left h, Int.max_eq_right h]
    simp [List.mergeSort, List.MergeSort.Internal.splitInTwo, List.merge, h]
  · rw [Int.min_eq_right (by omega), Int.max_eq_left (by omega)]
    simp [List.mergeSort, List.MergeSort.Internal.splitInTwo, List.merge, h]
theorem sortOk_ints {ns : List Int} (h : ∀ n ∈ ns, n.natAbs.log2 < 1920) : sortOk (ns.map Dat.int) := by
  refine ⟨?_, ?_, all_intR ns h⟩
  · rw [List.map_map]
    exact PySem.W.AllAlike.of fun _ _ => by simp [py, PySem.W.alike]
  · rw [List.map_map]
    exact PySem.W.Sortable.others fun _ => ⟨by simp [py], by simp [py]⟩
end DL

set_option maxHeartbeats 1000000
namespace K02
open PySem PySem.Spec PyProof.Rows L2 DL DL.S

def nrm : Dat → Dat
  | .tup [.int a, .int b] => .lst [.int (min a b), .int (max a b)]
  | d => d
def errGo (n : Int) : List Dat → Nat → List Dat → Dat
  | _, _, [] => .non
  | seen, k, x :: xs => if linkB n x = true then (if (seen.any fun s => eqd s (nrm x)) = true then .tup [.int k, .str "again"] else errGo n (seen ++ [nrm x]) (k + 1) xs) else .tup [.int k, .str "link"]
def errL (n : Int) : Dat → Dat
  | .tup xs => if xs.length ≤ 8 then errGo n [] 0 xs else .tup [.non, .str "links"]
  | _ => .tup [.non, .str "links"]
def errD (nd ld : Dat) : Dat := match nd with
  | .int n => if 1 ≤ n ∧ n ≤ 7 then errL n ld else .tup [.non, .str "nodes"]
  | _ => .tup [.non, .str "nodes"]
def p_err : DSp := pRel 2 (fun ds m => ∃ nd ld, ds = [nd, ld] ∧ plain nd = true ∧ good 5 ld = true) (fun ds m r m' => ∃ nd ld, ds = [nd, ld] ∧ r = errD nd ld ∧ m' = m) noE
theorem link_is {n : Int} {d : Dat} (h : linkB n d = true) : ∃ a b, d = .tup [.int a, .int b] ∧ 0 ≤ a ∧ a < n ∧ 0 ≤ b ∧ b < n ∧ a ≠ b := by
  cases d with
  | tup xs =>
    match xs, h with
    | [.int a, .int b], h =>
      simp [linkB] at h
      exact ⟨a, b, rfl, h.1.1, h.1.2, h.2.1.1, h.2.1.2, h.2.2⟩
  | _ => cases h
theorem small {i : Int} (h : 0 ≤ i) (h7 : i ≤ 1000000) : i.natAbs.log2 < 1920 := Nat.lt_of_lt_of_le (log2_lt (k := 20) (by decide) (by omega)) (by decide)
theorem sort_link {n : Int} {d : Dat} (hn : n ≤ 7) (h : linkB n d = true) : ∃ xs, d = .tup xs ∧ sortOk xs ∧ Dat.lst (sortD xs) = nrm d ∧ okN 5 (nrm d) = true := by
  obtain ⟨a, b, rfl, h1, h2, h3, h4, h5⟩ := link_is h
  have e : [Dat.int a, .int b] = [a, b].map Dat.int := rfl
  refine ⟨_, rfl, ?_, ?_, ?_⟩
  · rw [e]
    refine sortOk_ints fun x hx => ?_
    rcases List.mem_cons.mp hx with rfl | hx
    · exact small h1 (by omega)
    · rw [List.mem_singleton.mp hx]
      exact small h3 (by omega)
  · rw [e, sortD_ints, sort2]; rfl
  · rfl
theorem cut_pre {α : Type} (xs ys : List α) : DL.cutD (xs ++ ys) none (some (xs.length : Int)) = xs := by
  unfold DL.cutD
  rw [HT.sIx_none, HT.sIx_nat, List.drop_zero, Nat.sub_zero, List.length_append, Nat.min_eq_left (by omega), List.take_left']
  rfl
theorem ne_step {D : En} {n : Int} {x : Dat} {done rest : List Dat} {x2 x3 : Option Sl} {m : Mem} (hn : n ≤ 7) (hd : ∀ d ∈ done, linkB n d = true) (h8 : done.length + rest.length ≤ 8) (gx : good 4 x = true)
    (q1 : linkB n x = false → D.rt (.tup [.int (done.length : Nat), .str "link"]) m) (q2 : linkB n x = true → ((done.map nrm).any fun s => eqd s (nrm x)) = true → D.rt (.tup [.int (done.length : Nat), .str "again"]) m)
    (q3 : linkB n x = true → ((done.map nrm).any fun s => eqd s (nrm x)) = false → D.nx [some (.f (.int n)), some (.f (.tup (done ++ rest))), some (.f (.int (done.length : Nat))), some (.f x), none] m) :
    (sSeq (sIf (dNot (dTst (dCall p_link EX0 (dCons (dVar 3) (dCons (dVar 0) dNil)))))
  (sRet (dN oTup (dCons (dVar 2) (dCons (dC (.str "link")) dNil))))
  sNext)
  (sIf (dTst (dBin (oIn id) (dNew (nSort (dVar 3))) (dNew (nLc (.nm 4) dYes (dNew (nSort (dVar 4))) [4] (iVal (dSl (dVar 1) dNo (dPart (dVar 2))))))))
  (sRet (dN oTup (dCons (dVar 2) (dCons (dC (.str "again")) dNil))))
  sNext)) D [some (.f (.int n)), some (.f (.tup (done ++ rest))), some (.f (.int (done.length : Nat))), some (.f x), none] m := by
  have s1 : 10000 ≤ sizeLine := sz (by decide)
  have s2 : 2 ≤ sizeLine := sz (by decide)
  unfold sSeq sIf dNot dTst
  refine call_link x n (good_plain gx) (fun xs e y hy => ?_) (fun Q h => h) ?_
  · subst e
    obtain ⟨j, hj, _, h⟩ := good_tup gx
    exact good_plain (h y hy)
  cases hl : linkB n x with
  | false =>
    simp [sRet, dN, oTup, dCons, dVar, dC, dNil, DL.frs, s2]
    exact q1 hl
  | true =>
    obtain ⟨xs, rfl, o1, o2, o3⟩ := sort_link hn hl
    simp [sNext, dBin, dNew, nSort, dVar, seqOf, der]
    refine ⟨o1, ?_⟩
    simp [nLc, iVal, dSl, dNo, dPart, dVar, der, cut_pre, wipeE]
    refine ⟨by omega, lc_map (f := nrm) (fun y hy Q h => ?_) ?_⟩
    · obtain ⟨ys, rfl, p1, p2, p3⟩ := sort_link hn (hd y hy)
      show sortOk ys ∧ Q (.f (.lst (sortD ys))) m
      rw [p2]
      exact ⟨p1, h⟩
    · rw [o2]
      have hall : (done.map nrm).all (okN 59) = true := by
        rw [List.all_eq_true]
        intro y hy
        obtain ⟨z, hz, rfl⟩ := List.mem_map.mp hy
        obtain ⟨ys, rfl, p1, p2, p3⟩ := sort_link hn (hd z hz)
        obtain ⟨a, b, e, _⟩ := link_is (hd _ hz)
        rw [e]; rfl
      have h60 : okN 60 (nrm (.tup xs)) = true := by
        obtain ⟨a, b, e, _⟩ := link_is hl
        rw [e]; rfl
      refine oIn_l h60 hall ?_
      cases ha : (done.map nrm).any fun s => eqd s (nrm (.tup xs)) with
      | false =>
        have q := q3 hl ha
        simp only [id]
        rw [if_neg (by decide)]
        exact q
      | true =>
        have q := q2 hl ha
        simp only [id]
        rw [if_pos trivial]
        simp [sRet, dN, oTup, dCons, dVar, dC, dNil, DL.frs, s2]
        exact q
theorem ne_loop {D : En} {n : Int} (hn : n ≤ 7) : ∀ (rest done : List Dat) (x2 x3 : Option Sl) (m : Mem), (∀ d ∈ done, linkB n d = true) → done.length + rest.length ≤ 8 → (∀ d ∈ rest, good 4 d = true) → (errGo n (done.map nrm) done.length rest ≠ .non → D.rt (errGo n (done.map nrm) done.length rest) m) →
    (errGo n (done.map nrm) done.length rest = .non → ∀ env, D.nx env m) →
    forGo (.tp [2, 3]) (sSeq (sIf (dNot (dTst (dCall p_link EX0 (dCons (dVar 3) (dCons (dVar 0) dNil)))))
  (sRet (dN oTup (dCons (dVar 2) (dCons (dC (.str "link")) dNil))))
  sNext)
  (sIf (dTst (dBin (oIn id) (dNew (nSort (dVar 3))) (dNew (nLc (.nm 4) dYes (dNew (nSort (dVar 4))) [4] (iVal (dSl (dVar 1) dNo (dPart (dVar 2))))))))
  (sRet (dN oTup (dCons (dVar 2) (dCons (dC (.str "again")) dNil))))
  sNext)) D (enumD done.length rest) [some (.f (.int n)), some (.f (.tup (done ++ rest))), x2, x3, none] m
  | [], done, x2, x3, m, _, _, _, _, hQ => hQ rfl _
  | x :: rest, done, x2, x3, m, hd, h8, hg, hR, hQ => by
    have gx := hg x (by simp)
    unfold enumD forGo
    have hb : DL.bind (.tp [2, 3]) (.f (.tup [.int (done.length : Nat), x])) [some (.f (.int n)), some (.f (.tup (done ++ x :: rest))), x2, x3, none] = some [some (.f (.int n)), some (.f (.tup (done ++ x :: rest))), some (.f (.int (done.length : Nat))), some (.f x), none] := by simp [DL.bind, setAll]
    rw [hb]
    refine ne_step (x2 := x2) (x3 := x3) hn hd (rest := x :: rest) h8 gx (fun h => ?_) (fun h h' => ?_) fun h h' => ?_
    · have e : errGo n (done.map nrm) done.length (x :: rest) = .tup [.int (done.length : Nat), .str "link"] := by
        rw [errGo, h, if_neg (by decide)]
      rw [e] at hR
      exact hR (by simp)
    · have e : errGo n (done.map nrm) done.length (x :: rest) = .tup [.int (done.length : Nat), .str "again"] := by
        rw [errGo, h, if_pos rfl, if_pos h']
      rw [e] at hR
      exact hR (by simp)
    · have e : errGo n (done.map nrm) done.length (x :: rest) = errGo n ((done ++ [x]).map nrm) (done ++ [x]).length rest := by
        rw [errGo, h, if_pos rfl, if_neg (by rw [h']; decide), List.map_append, List.length_append]
        rfl
      rw [e] at hR hQ
      have := ne_loop (D := D) hn rest (done ++ [x]) (some (.f (.int (done.length : Nat)))) (some (.f x)) m (fun d hd' => by
        rcases List.mem_append.mp hd' with q | q
        · exact hd d q
        · rw [List.mem_singleton.mp q]; exact h) (by simp; simp at h8; omega) (fun d hd' => hg d (by simp [hd'])) hR hQ
      rw [List.length_append, List.append_assoc] at this
      exact this
theorem law_net_error (C : Ct) : ∀ ds m (Q : QD) (E : QX), p_err ds m Q E → rd_net_error C p_whole p_link (fun c xs _ m => E c xs m) { nx := fun _ m => Q .non m, rt := Q } (env0 5 ds) m := by
  rintro ds m Q E ⟨_, ⟨nd, ld, rfl, hn, hl⟩, hQ, _⟩
  have hQ' : Q (errD nd ld) m := hQ _ _ ⟨nd, ld, rfl, rfl, rfl⟩
  have s2 : 2 ≤ sizeLine := sz (by decide)
  have e0 : env0 5 [nd, ld] = [some (.f nd), some (.f ld), none, none, none] := rfl
  rw [e0]
  unfold rd_net_error
  have bad : ∀ {D : En} {env : Env'}, D.rt (.tup [.non, .str "nodes"]) m → sRet (dN oTup (dCons (dC .non) (dCons (dC (.str "nodes")) dNil))) D env m := fun h => by
    simp [sRet, dN, oTup, dCons, dC, dNil, DL.frs, s2]; exact h
  have bad2 : ∀ {D : En} {env : Env'}, D.rt (.tup [.non, .str "links"]) m → sRet (dN oTup (dCons (dC .non) (dCons (dC (.str "links")) dNil))) D env m := fun h => by
    simp [sRet, dN, oTup, dCons, dC, dNil, DL.frs, s2]; exact h
  unfold sSeq
  generalize hF : (sFor _ _ _) = F
  unfold sIf dOr dNot dTst
  refine call_whole nd hn (fun Q h => h) ?_
  cases nd with
  | int n =>
    by_cases h1 : 1 ≤ n
    · by_cases h7 : n ≤ 7
      · have hQ2 : Q (errL n ld) m := by
          have e : errD (.int n) ld = errL n ld := if_pos ⟨h1, h7⟩
          rw [e] at hQ'; exact hQ'
        simp [isInt, dChain, dVar, dC, oI0, oI, h1, h7, sNext]
        cases ld with
        | tup xs =>
          simp [dN, oIsi, dCons, dVar, dC, dNil, derI, der, isaD, isa1, tyN, isT, dBin, oLen, oI0, oI]
          by_cases h8 : xs.length ≤ 8
          · rw [if_neg (by omega)]
            rw [show errL n (.tup xs) = errGo n [] 0 xs from if_pos h8] at hQ2
            obtain ⟨j, hj, _, hx⟩ := good_tup hl
            have hj' : j = 4 := by omega
            subst hj'
            subst hF
            have := ne_loop (D := { nx := fun env m => sRet (dC .non) { nx := fun x m => Q .non m, rt := Q } env m, rt := Q }) h7 xs [] none none m (by simp) (by simpa using h8) hx (fun _ => hQ2) (fun e env => by
              have hQ3 : Q (errGo n [] 0 xs) m := hQ2
              rw [show errGo n [] 0 xs = .non from e] at hQ3
              exact hQ3)
            exact this
          · rw [if_pos (by omega)]
            rw [show errL n (.tup xs) = .tup [.non, .str "links"] from if_neg h8] at hQ2
            exact bad2 hQ2
        | _ => first
          | (cases hl; done)
          | (simp [dN, oIsi, dCons, dVar, dC, dNil, derI, der, isaD, isa1, tyN, isT]; exact bad2 hQ2)
      · have e : errD (.int n) ld = .tup [.non, .str "nodes"] := if_neg (by omega)
        rw [e] at hQ'
        simp [isInt, dChain, dVar, dC, oI0, oI, h1, h7]
        exact bad hQ'
    · have e : errD (.int n) ld = .tup [.non, .str "nodes"] := if_neg (by omega)
      rw [e] at hQ'
      simp [isInt, dChain, dVar, dC, oI0, oI, h1]
      exact bad hQ'
  | _ =>
    simp [isInt]
    exact bad hQ'
end K02

set_option maxHeartbeats 1000000
namespace DL
open PySem PySem.Spec PyProof.Rows L2
theorem pT.mono {γ : Type} {n args pre res} : MonoP (pT (γ := γ) n args pre res) := fun ds m Q Q' E E' i j ⟨h1, g, h2, h3, h4⟩ => ⟨h1, g, h2, h3, i _ _ h4⟩
section
variable {env : Env'} {m : Mem} {d : TD} {da : TAd} {x : Lv} {s : Dat} {ls : List Lv} {ds : List Dat} {EX : QXe} {γ : Type} {n c : Nat} {args : γ → List Dat} {pre : γ → Prop} {res : γ → Dat}
theorem ev_fn (ha : EvA da env m ls) (g : γ) (e : frs ls = some (args g)) (hn : (args g).length = n) (hp : pre g) : Ev (dCall (pT n args pre res) EX da) env m (.f (res g)) :=
  ev_call ha e fun Q E q => ⟨hn, g, rfl, hp, q⟩
theorem ev_me {p : DSp} {r : Dat} (ho : Ev d env m x) (hs : selfD c m x = some s) (ha : EvA da env m ls) (e : frs ls = some ds) (h : ∀ (Q : QD) (E : QX), Q r m → p (s :: ds) m Q E) : Ev (dMeth c p EX d da) env m (.f r) := fun Q q => ho _ (by
  simp only [hs]
  exact ha _ (by simp only [e]; exact h _ _ q))
theorem ev_prT (ho : Ev d env m x) (hs : selfD c m x = some s) (g : γ) (eg : [s] = args g) (hn : (args g).length = n) (hp : pre g) : Ev (dProp c (pT n args pre res) d) env m (.f (res g)) := fun Q q => ho _ (by
  simp only [hs]
  exact ⟨by rw [eg]; exact hn, g, eg, hp, q⟩)
theorem em_lenT {i : γ → Int} (hs : selfD c m x = some s) (g : γ) (eg : [s] = args g) (hn : (args g).length = n) (hp : pre g) (h0 : 0 ≤ i g) (h1 : i g < 2 ^ 63) : EvM (oLenI c (pT n args pre fun g => .int (i g))) env m [x] (.int (i g)) := fun Q q => by
  unfold oLenI
  simp only [hs]
  exact ⟨by rw [eg]; exact hn, g, eg, hp, ⟨h0, h1⟩, q⟩
end
section
variable {D : En} {env : Env'} {m : Mem} {da : TAd} {ls : List Lv} {n : Nat}
theorem rangeD_succ (k : Int) (r : Nat) : rangeD k (r + 1) = .int k :: rangeD (k + 1) r := by
  unfold rangeD
  rw [List.range_succ_eq_map, List.map_cons, List.map_map]
  congr 1
  · simp
  · refine List.map_congr_left fun a _ => ?_
    simp; omega
theorem lenSet_ev {d : TD} {x : Lv} {ns : List Int} (h : Ev d env m x) (e : seqOf env m x = some (ns.map Dat.int)) (hl : ns.length ≤ 4000) : Ev (dLenSet d) env m (.f (.int (dist ns : Nat))) := fun Q q => h _ (by
  have e2 := intsD_map (fun i : Int => i) ns
  simp only [e]
  have e3 : intsD (ns.map Dat.int) = some ns := by simpa using e2
  simp only [e3]
  exact ⟨hl, q⟩)
theorem evn_lcI {tg : Tg} {dt : TB} {de : TD} {vs : List Nat} {di : TId} {xs : List Dat} {Q : List Dat → Mem → Prop} (hi : EvI di env m xs) (hl : xs.length ≤ sizeLine) (h : lcGo tg dt de (wipeE env vs) xs m Q) : nLc tg dt de vs di env m Q := hi _ ⟨hl, h⟩
end
end DL

set_option maxHeartbeats 1000000
namespace K02
open PySem PySem.Spec PyProof.Rows L2 DL DL.S

def isOrd (n : Nat) (d : Dat) : Prop := ∃ a b : Nat, d = .tup [.int a, .int b] ∧ a < b ∧ b < n
theorem isOrd.mono {n k : Nat} {d : Dat} (h : isOrd n d) (e : n ≤ k) : isOrd k d := by
  obtain ⟨a, b, h1, h2, h3⟩ := h
  exact ⟨a, b, h1, h2, by omega⟩
def pairsF : Nat → List Dat
  | 0 => []
  | k + 1 => pairsF k ++ (rangeD 0 k).map fun d => .tup [d, .int k]
theorem pairs_ord : ∀ k d, d ∈ pairsF k → isOrd k d
  | 0, d, h => by cases h
  | k + 1, d, h => by
    rcases List.mem_append.mp h with h | h
    · exact (pairs_ord k d h).mono (by omega)
    · obtain ⟨x, hx, rfl⟩ := List.mem_map.mp h
      obtain ⟨i, hi, rfl⟩ := List.mem_map.mp hx
      exact ⟨i, k, by simp, List.mem_range.mp hi, by omega⟩
theorem rangeD_len (k : Int) (r : Nat) : (rangeD k r).length = r := by simp [rangeD]
theorem pairs_len : ∀ k, (pairsF k).length ≤ k * k
  | 0 => Nat.le_refl _
  | k + 1 => by
    have := pairs_len k
    have e : (k + 1) * (k + 1) = k * k + k + k + 1 := by rw [Nat.mul_add, Nat.add_mul]; omega
    rw [pairsF, List.length_append, List.length_map, rangeD_len, e]
    omega
theorem pairs_ne {k : Nat} (h : 1 < k) : 0 < (pairsF k).length := by
  obtain ⟨j, rfl⟩ : ∃ j, k = j + 2 := ⟨k - 2, by omega⟩
  rw [pairsF, List.length_append, List.length_map, rangeD_len]
  omega
def p_pairs : DSp := pRel 1 (fun ds m => ∃ n : Nat, ds = [.int n] ∧ n ≤ 8) (fun ds m r m' => ∃ n : Nat, ds = [.int n] ∧ r = .lst (pairsF n) ∧ m' = m) noE
theorem pairs_step (C : Ct) {D : En} {n : Int} {k : Nat} {m : Mem} {x3 : Option Sl} (hk : k ≤ 8) (h : D.nx [some (.f (.int n)), some (.f (.lst (pairsF (k + 1)))), some (.f (.int k)), none] m) :
    (sAsg (.nm 1) (dNew (nCat (dVar 1) (dNew (nLc (.nm 3) dYes (dN oTup (dCons (dVar 3) (dCons (dVar 2) dNil))) [3] (iRg1 (dVar 2))))))) D [some (.f (.int n)), some (.f (.lst (pairsF k))), some (.f (.int k)), none] m := by
  have s2 : 100 ≤ sizeLine := sz (by decide)
  have hp := pairs_len k
  have hkk : k * k ≤ 64 := Nat.mul_le_mul hk hk
  simp [sAsg, dNew, nCat, dVar, lstOf, der, nLc, iRg1, DL.bind, wipeE]
  refine ⟨by omega, by have := rangeD_len 0 k; omega, lc_map (f := fun d => .tup [d, .int k]) (fun x hx Q h => ?_) ?_⟩
  · obtain ⟨i, hi, rfl⟩ := List.mem_map.mp hx
    simp [dN, oTup, dCons, dVar, dNil, DL.frs]
    have s2' : 2 ≤ sizeLine := by omega
    simp at h
    exact ⟨s2', h⟩
  · have hr := rangeD_len 0 k
    simp [hr]
    first
      | exact h
      | exact ⟨by omega, h⟩
theorem law_law_pairs (C : Ct) : ∀ ds m (Q : QD) (E : QX), p_pairs ds m Q E → rd_law_pairs C (fun c xs _ m => E c xs m) { nx := fun _ m => Q .non m, rt := Q } (env0 4 ds) m := by
  rintro ds m Q E ⟨_, ⟨n, rfl, hn⟩, hQ, _⟩
  have hQ' : Q (.lst (pairsF n)) m := hQ _ _ ⟨n, rfl, rfl, rfl⟩
  have e0 : env0 4 [.int n] = [some (.f (.int n)), none, none, none] := rfl
  rw [e0]
  unfold rd_law_pairs
  have loop : ∀ (r k : Nat) (x2 : Option Sl), k + r = n → ∀ D : En, (∀ x2, D.nx [some (.f (.int n)), some (.f (.lst (pairsF n))), x2, none] m) →
      forGo (.nm 2) (sAsg (.nm 1) (dNew (nCat (dVar 1) (dNew (nLc (.nm 3) dYes (dN oTup (dCons (dVar 3) (dCons (dVar 2) dNil))) [3] (iRg1 (dVar 2))))))) D (rangeD k r) [some (.f (.int n)), some (.f (.lst (pairsF k))), x2, none] m := by
    intro r
    induction r with
    | zero =>
      intro k x2 e D hD
      rw [Nat.add_zero] at e
      subst e
      exact hD _
    | succ r ih =>
      intro k x2 e D hD
      rw [rangeD_succ]
      unfold forGo
      have hb : DL.bind (.nm 2) (.f (.int k)) [some (.f (.int n)), some (.f (.lst (pairsF k))), x2, none] = some [some (.f (.int n)), some (.f (.lst (pairsF k))), some (.f (.int k)), none] := by simp [DL.bind]
      rw [hb]
      refine pairs_step (x3 := none) C (by omega) ?_
      exact ih (k + 1) _ (by omega) D hD
  have := loop n 0 none (by omega)
  unfold sSeq sAsg dNew nLst dNil sFor iRg1
  simp [DL.bind, DL.frs, dVar]
  first
    | exact ⟨by omega, by omega, this _ fun x2 => hQ'⟩
    | exact ⟨by omega, this _ fun x2 => hQ'⟩
end K02

set_option maxHeartbeats 1000000
namespace K02
open PySem PySem.Spec PyProof.Rows L2 DL DL.S

theorem call_next {da : TAd} {env : Env'} {m : Mem} {Q : QL} {tl : Mem} {c : Nat} (many : Int) (h0 : 0 < many) (h1 : many < 2 ^ 40) (hd : Dk c tl m) (hc : c < lim) (ha : ∀ Q : List Lv → Mem → Prop, Q [.f (.obj 1), .f (.int many)] m → da env m Q)
    (h : ∀ i m', 0 ≤ i → i < many → Dk (c + 1) tl m' → Q (.f (.int i)) m') : dCall p_next EX0 da env m Q :=
  call_is [.f (.obj 1), .f (.int many)] [.obj 1, .int many] ha rfl ⟨rfl, ⟨many, c, tl, rfl, h0, h1, hd, hc⟩, fun r m' ⟨many', i, e1, e2, e3, e4, e5⟩ => by
    cases e1; subst e2; exact h i m' e3 e4 (e5 c tl hd), fun _ _ _ q => q.elim⟩
theorem v_f {i : Nat} {env : Env'} {m : Mem} {Q : QL} {d : Dat} (e : env[i]? = some (some (.f d))) (h : Q (.f d) m) : dVar i env m Q := by
  unfold dVar; rw [e]; exact h
theorem v_o {i : Nat} {env : Env'} {m : Mem} {Q : QL} {o : Mo} (e : env[i]? = some (some (.own o))) (h : Q (.o i) m) : dVar i env m Q := by
  unfold dVar; rw [e]; exact h
def pr (p : Int × Int) : Dat := .tup [.int p.1, .int p.2]
theorem sortOk_pairs {ps : List (Int × Int)} (h : ∀ p ∈ ps, p.1.natAbs.log2 < 1920 ∧ p.2.natAbs.log2 < 1920) : sortOk (ps.map pr) := by
  refine ⟨?_, ?_, ?_⟩
  · rw [List.map_map]
    exact PySem.W.AllAlike.of fun _ _ => by simp [pr, py, DL.pys, PySem.W.alike, PySem.W.alikeAll]
  · rw [List.map_map]
    exact PySem.W.Sortable.tuples fun p => ⟨.int p.1, [.int p.2], by simp [pr, py, DL.pys]⟩
  · rw [List.all_eq_true]
    intro d hd
    obtain ⟨p, hp, rfl⟩ := List.mem_map.mp hd
    simp [pr, okR, (h p hp).1, (h p hp).2, sizeLine_eq]
theorem ord_pairs {n : Nat} : ∀ {xs : List Dat}, (∀ x ∈ xs, isOrd n x) → ∃ ps : List (Int × Int), xs = ps.map pr ∧ ∀ p ∈ ps, 0 ≤ p.1 ∧ p.1 < p.2 ∧ p.2 < n
  | [], _ => ⟨[], rfl, by simp⟩
  | x :: xs, h => by
    obtain ⟨ps, rfl, hp⟩ := ord_pairs (n := n) (xs := xs) fun y hy => h y (by simp [hy])
    obtain ⟨a, b, rfl, h1, h2⟩ := h x (by simp)
    refine ⟨((a : Int), (b : Int)) :: ps, rfl, fun p hp' => ?_⟩
    rcases List.mem_cons.mp hp' with rfl | q
    · exact ⟨by simp, by simpa using h1, by simpa using h2⟩
    · exact hp p q
theorem sortOk_ord {n : Nat} (hn : n ≤ 7) {xs : List Dat} (h : ∀ x ∈ xs, isOrd n x) : sortOk xs := by
  obtain ⟨ps, rfl, hp⟩ := ord_pairs h
  refine sortOk_pairs fun p hp' => ?_
  obtain ⟨h1, h2, h3⟩ := hp p hp'
  exact ⟨small h1 (by omega), small (by omega) (by omega)⟩
theorem cutD_mem {xs : List Dat} {lo hi : Option Int} {x : Dat} (h : x ∈ DL.cutD xs lo hi) : x ∈ xs := List.mem_of_mem_drop (List.mem_of_mem_take h)
theorem cutD_len (xs : List Dat) (lo hi : Option Int) : (DL.cutD xs lo hi).length ≤ xs.length := by
  unfold DL.cutD
  rw [List.length_take, List.length_drop]
  omega
theorem cut_le (xs : List Dat) (k : Nat) : (DL.cutD xs none (some (k : Int))).length ≤ k := by
  unfold DL.cutD
  rw [HT.sIx_none, HT.sIx_nat, List.length_take, Nat.sub_zero]
  omega
theorem pGh.mono {γ : Type} {n pre post} : MonoP (pGh (γ := γ) n pre post) := fun ds m Q Q' E E' i j ⟨h1, g, h2, h3⟩ => ⟨h1, g, h2, fun r m' q => i _ _ (h3 r m' q)⟩
theorem call_pairs {da : TAd} {env : Env'} {m : Mem} {Q : QL} (n : Nat) (hn : n ≤ 7) (ha : ∀ Q : List Lv → Mem → Prop, Q [.f (.int n)] m → da env m Q) (h : Q (.f (.lst (pairsF n))) m) : dCall p_pairs EX0 da env m Q :=
  call_is [.f (.int n)] [.int n] ha rfl ⟨rfl, ⟨n, rfl, by omega⟩, fun r m' ⟨n', e1, e2, e3⟩ => by
    have : n' = n := by simp at e1; omega
    subst this e2 e3; exact h, fun _ _ _ q => q.elim⟩
theorem ord_ok {n k : Nat} {d : Dat} (h : isOrd n d) : okN (k + 1) d = true := by
  obtain ⟨a, b, rfl, _⟩ := h
  rw [okN]; simp [okR1]
end K02

set_option maxHeartbeats 1000000
namespace K02
open PySem PySem.Spec PyProof.Rows L2 DL DL.S

theorem seq_i {a b : TSd} {D : En} {env : Env'} {m : Mem} (h : a { D with nx := fun env m => b D env m } env m) : sSeq a b D env m := h
theorem c_i {d : Dat} {env : Env'} {m : Mem} {Q : QL} (h : Q (.f d) m) : dC d env m Q := h
end K02

set_option maxHeartbeats 1000000
namespace K02
open PySem PySem.Spec PyProof.Rows L2 DL DL.S

def shOk : Nat → Dat → Bool
  | k + 1, .tup xs => xs.all (shOk k)
  | k + 1, .lst xs => xs.all (shOk k)
  | _, d => PyData.strOk (py d).shown
end K02

set_option maxHeartbeats 1000000
namespace K02
open PySem PySem.Spec PyProof.Rows L2 DL DL.S

def el (d : Dat) : Bool := (good 4 d && okR 30 d) && ((py d).leavesShort 40 && (decide ((py d).bulk ≤ 100) && shOk 10 d))
end K02

set_option maxHeartbeats 1000000
namespace K02
open PySem PySem.Spec PyProof.Rows L2 DL DL.S

end K02

set_option maxHeartbeats 1000000
namespace K02
open PySem PySem.Spec PyProof.Rows L2 DL DL.S
theorem minI2 (i j : Int) : minI [i, j] = min i j := rfl
theorem maxI2 (i j : Int) : maxI [i, j] = max i j := rfl

theorem errGo_non {n : Int} : ∀ {xs : List Dat} {seen : List Dat} {k : Nat}, errGo n seen k xs = .non → ∀ x ∈ xs, linkB n x = true
  | [], _, _, _, x, hx => by cases hx
  | y :: ys, seen, k, h, x, hx => by
    rw [errGo] at h
    by_cases hl : linkB n y = true
    · rw [if_pos hl] at h
      split at h
      · cases h
      · rcases List.mem_cons.mp hx with rfl | q
        · exact hl
        · exact errGo_non h x q
    · rw [if_neg hl] at h; cases h
theorem errD_non {nd ld : Dat} (h : errD nd ld = .non) : ∃ n xs, nd = .int n ∧ ld = .tup xs ∧ 1 ≤ n ∧ n ≤ 7 ∧ xs.length ≤ 8 ∧ ∀ x ∈ xs, linkB n x = true := by
  cases nd with
  | int n =>
    by_cases hn : 1 ≤ n ∧ n ≤ 7
    · rw [errD, if_pos hn] at h
      cases ld with
      | tup xs =>
        by_cases h8 : xs.length ≤ 8
        · rw [errL, if_pos h8] at h
          exact ⟨n, xs, rfl, rfl, hn.1, hn.2, h8, errGo_non h⟩
        · rw [errL, if_neg h8] at h; cases h
      | _ => simp [errL] at h
    · rw [errD, if_neg hn] at h; cases h
  | _ => simp [errD] at h
def ends : Dat → Dat
  | .tup [.int a, .int b] => .tup [.int (min a b), .int (max a b)]
  | d => d
theorem link_ord {n : Int} {d : Dat} (hn : n ≤ 7) (h : linkB n d = true) : isOrd 7 (ends d) := by
  obtain ⟨a, b, rfl, h1, h2, h3, h4, h5⟩ := link_is h
  refine ⟨(min a b).toNat, (max a b).toNat, ?_, by omega, by omega⟩
  rw [ends, show (((min a b).toNat : Nat) : Int) = min a b by omega, show (((max a b).toNat : Nat) : Int) = max a b by omega]
theorem call_err {da : TAd} {env : Env'} {m : Mem} {Q : QL} {nd ld : Dat} (hn : plain nd = true) (hl : good 5 ld = true) (ha : ∀ Q : List Lv → Mem → Prop, Q [.f nd, .f ld] m → da env m Q) (h : Q (.f (errD nd ld)) m) : dCall p_err EX0 da env m Q :=
  call_is [.f nd, .f ld] [nd, ld] ha rfl ⟨rfl, ⟨nd, ld, rfl, hn, hl⟩, fun r m' ⟨a, b, e1, e2, e3⟩ => by cases e1; subst e2 e3; exact h, fun _ _ _ q => q.elim⟩
end K02

set_option maxHeartbeats 1000000
namespace DL.S
open PySem PySem.Spec PyProof.Rows L2 DL
end DL.S

set_option maxHeartbeats 1000000
namespace K02
open PySem PySem.Spec PyProof.Rows L2 DL DL.S

def lk (p : Lk) : Dat := .tup [.int p.1, .int p.2]
theorem sortD_lk (ps : List Lk) : sortD (ps.map lk) = (ps.mergeSort Lk.le).map lk := by
  unfold sortD
  refine (List.map_mergeSort (r := Lk.le) (s := PySem.W.dataLe false py) (f := lk) (l := ps) fun a _ b _ => ?_).symm
  have e := congrFun (congrFun (PySem.W.dataLe_ii (β := Lk) (fun p => (p.1 : Int)) (fun p => (p.2 : Int))) a) b
  have e2 : PySem.W.dataLe false py (lk a) (lk b) = decide ((a.1 : Int) < b.1 ∨ ((a.1 : Int) = b.1 ∧ (a.2 : Int) ≤ b.2)) := e
  rw [e2]
  unfold Lk.le
  refine decide_eq_decide.mpr ?_
  omega
theorem Lk.lt_of {p q : Lk} (h : Lk.le p q = true) (ne : p ≠ q) : Lk.lt p q := by
  unfold Lk.le at h
  simp only [decide_eq_true_eq] at h
  rcases h with h | ⟨h1, h2⟩
  · exact .inl h
  · refine .inr ⟨h1, ?_⟩
    rcases Nat.lt_or_ge p.2 q.2 with z | z
    · exact z
    · exact absurd (Prod.ext h1 (Nat.le_antisymm h2 z)) ne
theorem lk_inj {p q : Lk} (h : lk p = lk q) : p = q := by
  unfold lk at h
  simp at h
  exact Prod.ext (by omega) (by omega)
structure Fnd (n : Nat) (xs : List Dat) : Prop where
  ord : ∀ x ∈ xs, isOrd n x
  nd : xs.Nodup
theorem Fnd.snoc {n : Nat} {xs : List Dat} {d : Dat} (h : Fnd n xs) (hd : isOrd n d) (hm : d ∉ xs) : Fnd n (xs ++ [d]) :=
  ⟨fun x hx => by
    rcases List.mem_append.mp hx with q | q
    · exact h.ord x q
    · rw [List.mem_singleton.mp q]; exact hd, List.nodup_append.mpr ⟨h.nd, List.pairwise_singleton _ _, fun a ha b hb e => by
    rw [List.mem_singleton.mp hb] at e; exact hm (e ▸ ha)⟩⟩
theorem Fnd.cut {n : Nat} {xs : List Dat} (h : Fnd n xs) (k : Int) : Fnd n (cutD xs none (some k)) :=
  ⟨fun x hx => h.ord x (cutD_mem hx), by
    unfold DL.cutD
    exact (h.nd.sublist (List.drop_sublist _ _)).sublist (List.take_sublist _ _)⟩
theorem ord_refl {n : Nat} {d : Dat} (h : isOrd n d) : eqd d d = true := by
  obtain ⟨a, b, rfl, _, _⟩ := h
  simp [eqd, eqds]
theorem ord_lks {n : Nat} : ∀ {xs : List Dat}, (∀ x ∈ xs, isOrd n x) → ∃ ps : List Lk, xs = ps.map lk ∧ ∀ p ∈ ps, p.1 < p.2 ∧ p.2 < n
  | [], _ => ⟨[], rfl, by simp⟩
  | x :: xs, h => by
    obtain ⟨ps, rfl, hp⟩ := ord_lks (n := n) (xs := xs) fun y hy => h y (by simp [hy])
    obtain ⟨a, b, rfl, h1, h2⟩ := h x (by simp)
    refine ⟨(a, b) :: ps, rfl, fun p hp' => ?_⟩
    rcases List.mem_cons.mp hp' with rfl | q
    · exact ⟨h1, h2⟩
    · exact hp p q
theorem net_of {n : Nat} {xs : List Dat} (n1 : 1 ≤ n) (n7 : n ≤ 7) (h : Fnd n xs) (hl : xs.length ≤ 8) : ∃ ps, sortD xs = ps.map lk ∧ NetOk n ps := by
  obtain ⟨ps, rfl, hp⟩ := ord_lks h.ord
  refine ⟨ps.mergeSort Lk.le, sortD_lk ps, n1, n7, ?_, fun p hq => hp p ((List.mergeSort_perm ps _).mem_iff.mp hq), ?_⟩
  · rw [List.length_mergeSort]; simpa using hl
  · have s := List.pairwise_mergeSort (le := Lk.le) Lk.le_trans Lk.le_total ps
    have nd : (ps.mergeSort Lk.le).Nodup := (List.mergeSort_perm ps _).nodup_iff.mpr (List.Pairwise.of_map (R := fun a b => a ≠ b) lk (fun a b hne e => hne (congrArg lk e)) h.nd)
    exact (s.and nd).imp fun z => Lk.lt_of z.1 z.2
def ring1 (d : Dat) : Dat := match d with
  | .int i => .tup [.int i, .int (i + 1)]
  | d => d
theorem ring_nodup (n : Nat) (h : 2 < n) : ((rangeD 0 (n - 1)).map ring1 ++ [Dat.tup [Dat.int 0, Dat.int ((n : Int) - 1)]]).Nodup := by
  have e : (rangeD 0 (n - 1)).map ring1 ++ [Dat.tup [Dat.int 0, Dat.int ((n : Int) - 1)]] = ((List.range (n - 1)).map (fun i => (i, i + 1)) ++ [(0, n - 1)]).map lk := by
    unfold rangeD
    rw [List.map_append, List.map_map, List.map_map]
    congr 1
    · refine List.map_congr_left fun i _ => ?_
      simp [ring1, lk]
    · simp [lk]; omega
  rw [e]
  refine List.Pairwise.map lk (R := fun a b => a ≠ b) (fun a b hne e => hne (lk_inj e)) ?_
  refine List.nodup_append.mpr ⟨List.Pairwise.map _ (R := fun a b => a ≠ b) (fun a b hne e => hne (by simpa using congrArg Prod.fst e)) List.nodup_range, List.pairwise_singleton _ _, fun a ha b hb e => ?_⟩
  obtain ⟨i, hi, rfl⟩ := List.mem_map.mp ha
  rw [List.mem_singleton.mp hb] at e
  simp at e
  omega
end K02

set_option maxHeartbeats 1000000
namespace K02
open PySem PySem.Spec PyProof.Rows L2 DL DL.S

def p_initS : DSp := pRel 3 (fun ds m => ∃ m0 nd ld, ds = [.obj m0.length, nd, ld] ∧ m = m0 ++ [.ins 3 []] ∧ plain nd = true ∧ good 5 ld = true)
  (fun ds m r m' => ∃ (m0 : Mem) (n : Int) (xs : List Dat), ds = [.obj m0.length, .int n, .tup xs] ∧ m = m0 ++ [.ins 3 []] ∧ errD (.int n) (.tup xs) = .non ∧ r = .non ∧ m' = m0 ++ [.ins 3 [.int n, .tup (sortD (xs.map ends))]])
  (fun ds m c xs m' => ∃ m0 nd ld, ds = [.obj m0.length, nd, ld] ∧ m = m0 ++ [.ins 3 []] ∧ errD nd ld ≠ .non ∧ c = 2 ∧ xs = [errD nd ld] ∧ m' = m)
theorem law_Net_initS (C : Ct) : ∀ ds m (Q : QD) (E : QX), p_initS ds m Q E → rd_Net_init C p_err (fun c xs _ m => E c xs m) { nx := fun _ m => Q .non m, rt := Q } (env0 5 ds) m := by
  rintro ds m Q E ⟨_, ⟨m0, nd, ld, rfl, rfl, hn, hl⟩, hQ, hE⟩
  have s2 : 1000 ≤ sizeLine := sz (by decide)
  have e0 : env0 5 [.obj m0.length, nd, ld] = [some (.f (.obj m0.length)), some (.f nd), some (.f ld), none, none] := rfl
  rw [e0]
  unfold rd_Net_init
  refine seq_i ?_
  unfold sAsg
  refine call_err hn hl (fun Q h => h) ?_
  simp only [DL.bind, List.set]
  have hge : (m0 ++ [Mo.ins 3 []])[m0.length]? = some (.ins 3 []) := by simp
  refine seq_i ?_
  by_cases he : errD nd ld = .non
  · have q := hQ .non
    obtain ⟨n, xs, rfl, rfl, n1, n7, h8, hx'⟩ := errD_non he
    rw [he]
    simp [sIf, dTst, dBin, oIsN, dVar, dC, sNext]
    rw [if_pos (show isN (.f .non) = true from rfl)]
    refine seq_i ?_
    have f0 : fi_size 3 = some 0 := rfl
    have f1 : fi_pairs 3 = some 1 := rfl
    have set_last : ∀ o : Mo, (m0 ++ [Mo.ins 3 []]).set m0.length o = m0 ++ [o] := fun o => by simp
    have hge2 : ∀ o : Mo, (m0 ++ [o])[m0.length]? = some o := fun o => by simp
    have set_last2 : ∀ o o' : Mo, (m0 ++ [o]).set m0.length o' = m0 ++ [o'] := fun o o' => by simp
    simp only [sFldD]
    refine v_f rfl (v_f rfl ?_)
    simp only [moOf, hge2, f0, setM, setE, set_last2]
    rw [if_neg (by simp)]
    refine ⟨rfl, ?_⟩
    simp only [sFldD, dN, dCons, dNew, nSort, nLc, iVal]
    refine v_f rfl ?_
    refine ⟨by omega, lc_map (f := ends) (fun x hx Q h => ?_) ?_⟩
    · obtain ⟨a, b, rfl, _⟩ := link_is (hx' x hx)
      simp [wipeE, dN, dCons, oIs, seqOf, der, intsD, minI2, maxI2, dVar, dNil, DL.frs, oTup]
      simp [ends] at h
      exact ⟨by omega, h⟩
    · have ho : ∀ y ∈ xs.map ends, isOrd 7 y := fun y hy => by
        obtain ⟨x, hx, rfl⟩ := List.mem_map.mp hy
        exact link_ord n7 (hx' x hx)
      simp only [seqOf, der]
      refine ⟨sortOk_ord (Nat.le_refl _) ho, ?_⟩
      simp only [dNil, oTuple, seqOf, der]
      refine v_f rfl ?_
      simp only [moOf, hge2, f1, setM, setE, set_last2]
      rw [if_neg (by simp)]
      exact ⟨rfl, hQ _ _ ⟨m0, n, xs, rfl, rfl, he, rfl, rfl⟩⟩
  · have q := hE 2 [errD nd ld] _ ⟨m0, nd, ld, rfl, rfl, he, rfl, rfl, rfl⟩
    have hb : isN (.f (errD nd ld)) = false := by
      cases hd : errD nd ld <;> first | rfl | exact absurd hd he
    unfold sIf dTst
    simp only [dBin]
    refine v_f rfl (c_i ?_)
    simp only [oIsN, hb]
    rw [if_pos (by decide)]
    simp only [sRaise, mOwn, dCons]
    refine v_f rfl ?_
    simp only [dNil, DL.frs]
    exact ⟨rfl, q⟩

def netD (n : Nat) (ps : List Lk) : Dat := .ins 3 [.int n, .tup (ps.map lk)]
section
variable {n : Nat} {ps : List Lk}
theorem good_lk {k : Nat} {p : Lk} (h1 : p.1 < 100) (h2 : p.2 < 100) : good (k + 2) (lk p) = true := by
  unfold lk
  rw [good]
  have a : (p.1 : Int).natAbs.log2 < 1920 := small (by omega) (by omega)
  have b : (p.2 : Int).natAbs.log2 < 1920 := small (by omega) (by omega)
  have a' : p.1.log2 < 1920 := a
  have b' : p.2.log2 < 1920 := b
  simp [good, a', b']
theorem NetOk.good5 (h : NetOk n ps) : good 5 (.tup (ps.map lk)) = true := by
  have h7 := h.n7
  have h8 := h.l8
  rw [good, Bool.and_eq_true, List.all_eq_true]
  refine ⟨decide_eq_true (by simp; omega), fun x hx => ?_⟩
  obtain ⟨p, hp, rfl⟩ := List.mem_map.mp hx
  have := h.ord p hp
  exact good_lk (by omega) (by omega)
theorem ends_lk {p : Lk} (h : p.1 < p.2) : ends (lk p) = lk p := by
  unfold lk ends
  simp only [Dat.tup.injEq, List.cons.injEq, Dat.int.injEq, and_true]
  omega
theorem sort_lks (h : NetOk n ps) : sortD ((ps.map lk).map ends) = ps.map lk := by
  have e : (ps.map lk).map ends = ps.map lk := by
    rw [List.map_map]
    exact List.map_congr_left fun p hp => ends_lk (h.ord p hp).1
  rw [e, sortD_lk]
  congr 1
  refine List.mergeSort_of_pairwise (h.asc.imp fun {p q} z => ?_)
  unfold Lk.le
  rcases z with z | ⟨z1, z2⟩
  · exact decide_eq_true (.inl z)
  · exact decide_eq_true (.inr ⟨z1, Nat.le_of_lt z2⟩)
theorem nrm_lk {p : Lk} (h : p.1 < p.2) : nrm (lk p) = .lst [.int p.1, .int p.2] := by
  unfold lk nrm
  simp only [Dat.lst.injEq, List.cons.injEq, Dat.int.injEq, and_true]
  omega
theorem link_lk {p : Lk} (h1 : p.1 < p.2) (h2 : p.2 < n) : linkB n (lk p) = true := by
  unfold lk linkB
  simp
  omega
theorem errGo_asc : ∀ (rest done : List Lk) (k : Nat), (∀ p ∈ done ++ rest, p.1 < p.2 ∧ p.2 < n) → (done ++ rest).Pairwise Lk.lt → errGo n (done.map fun p => nrm (lk p)) k (rest.map lk) = .non
  | [], _, _, _, _ => by simp [errGo]
  | p :: rest, done, k, ho, ha => by
    have hp := ho p (by simp)
    rw [List.map_cons, errGo, if_pos (link_lk hp.1 hp.2), if_neg]
    · have e : (done.map fun p => nrm (lk p)) ++ [nrm (lk p)] = (done ++ [p]).map fun p => nrm (lk p) := by simp
      rw [e]
      exact errGo_asc rest (done ++ [p]) (k + 1) (by simpa using ho) (by simpa using ha)
    · rw [List.any_map, List.any_eq_true]
      rintro ⟨q, hq, he⟩
      have hq' := ho q (by simp [hq])
      have lt : Lk.lt q p := (List.pairwise_append.mp ha).2.2 q hq p (by simp)
      have he' : eqd (nrm (lk q)) (nrm (lk p)) = true := he
      rw [nrm_lk hq'.1, nrm_lk hp.1] at he'
      simp [eqd, eqds] at he'
      unfold Lk.lt at lt
      omega
theorem err_lks (h : NetOk n ps) : errD (.int n) (.tup (ps.map lk)) = .non := by
  have n1 := h.n1
  have n7 := h.n7
  show (if (1 : Int) ≤ n ∧ (n : Int) ≤ 7 then errL n (.tup (ps.map lk)) else _) = _
  rw [if_pos (by omega)]
  show (if (ps.map lk).length ≤ 8 then errGo n [] 0 (ps.map lk) else _) = _
  rw [if_pos (by simpa using h.l8)]
  exact errGo_asc ps [] 0 (by simpa using h.ord) (by simpa using h.asc)
theorem ev_net {env : Env'} {m : Mem} {da : TAd} {EX : QXe} (h : NetOk n ps) (hb : belM m.length m = true) (ha : EvA da env m [.f (.int n), .f (.tup (ps.map lk))]) : Ev (dMakeF 3 2 p_initS EX da) env m (.f (netD n ps)) := fun Q q => ha _ (by
  have n7 := h.n7
  show p_initS [.obj m.length, .int n, .tup (ps.map lk)] (m ++ [.ins 3 []]) _ _
  refine ⟨rfl, ⟨m, _, _, rfl, rfl, ?_, h.good5⟩, ?_, ?_⟩
  · show plain (.int n) = true
    rfl
  · rintro r m' ⟨m0, n', xs, e1, e2, e3, rfl, rfl⟩
    have e4 : m0 = m := by
      have := congrArg (fun l => l.dropLast) e2
      simpa using this.symm
    subst e4
    have e5 : n' = (n : Int) := by simp at e1; omega
    have e6 : xs = ps.map lk := by simp at e1; exact e1.2.symm
    subst e5 e6
    rw [sort_lks h]
    refine ⟨rfl, m0, _, rfl, rfl, rfl, hb, ?_, q⟩
    have z : ∀ qs : List Lk, bels m0.length (qs.map lk) = true := fun qs => by
      induction qs with
      | nil => rfl
      | cons p qs ih => rw [List.map_cons, bels, ih]; rfl
    simp [bels, bel, z]
  · rintro c xs m' ⟨m0, nd, ld, e1, e2, e3, _⟩
    have e5 : nd = .int n := by simp at e1; exact e1.2.1.symm
    have e6 : ld = .tup (ps.map lk) := by simp at e1; exact e1.2.2.symm
    subst e5 e6
    exact absurd (err_lks h) e3)
end
end K02

set_option maxHeartbeats 1000000
namespace DL.S
open PySem PySem.Spec PyProof.Rows L2 DL K02

theorem vd_small : ((List.range 300).all fun i => vd 0 0 (.int (i : Nat)) && vd 0 0 (.int (-(i : Nat)))) = true := by decide +kernel
theorem Vd.nat {k B : Nat} {i : Nat} (h : i < 300) : Vd k B (.int i) := by
  have := List.all_eq_true.mp vd_small i (List.mem_range.mpr h)
  rw [Bool.and_eq_true] at this
  exact (vd_iff.mp this.1).up (Nat.zero_le _) (Nat.zero_le _)
theorem Vd.i {k B : Nat} {i : Int} (h0 : -300 < i) (h1 : i < 300) : Vd k B (.int i) := by
  by_cases h : 0 ≤ i
  · have := Vd.nat (k := k) (B := B) (i := i.toNat) (by omega)
    rwa [show ((i.toNat : Nat) : Int) = i by omega] at this
  · have := List.all_eq_true.mp vd_small (-i).toNat (List.mem_range.mpr (by omega))
    rw [Bool.and_eq_true, show (-(((-i).toNat : Nat) : Int)) = i by omega] at this
    exact (vd_iff.mp this.2).up (Nat.zero_le _) (Nat.zero_le _)
theorem Vd.plain {k B : Nat} {d : Dat} (h : Vd k B d) : plain d = true := good_plain h.good
end DL.S

set_option maxHeartbeats 1000000
namespace DL.S
open PySem PySem.Spec PyProof.Rows L2 DL
def rd_Net_len (C : Ct)  (EX : QXe) : TSd :=
  (sRet (dN oLen (dCons (dFld fi_pairs (dVar 0)) dNil)))
def rd_law_outage (C : Ct) (p_law_next : DSp) (EX : QXe) : TSd :=
  (sSeq (sAsg (.nm 2) (dBin oAdd (dC (.int 2)) (dCall p_law_next EX0 (dCons (dVar 0) (dCons (dC (.int 4)) dNil)))))
  (sRet (dN oTuple (dCons (dNew (nLc (.nm 3) (dTst (dBin (oEq id) (dCall p_law_next EX0 (dCons (dVar 0) (dCons (dVar 2) dNil))) (dC (.int 0)))) (dVar 3) [3] (iRg1 (dVar 1)))) dNil))))
end DL.S

set_option maxHeartbeats 1000000
namespace DL.S
open PySem PySem.Spec PyProof.Rows L2 DL K02
local macro_rules | `(tactic| walk_at "ev") => `(tactic| repeat' (first
  | exact ev_c | exact ev_v rfl | exact ev_o rfl | exact eva_nil | exact e2_i0 | exact e2_add | exact e1_u | exact e2_isn | exact evo_no | exact sz (Nat.le_of_ble_eq_true rfl)
  | ((with_reducible show DL.frs _ = some _); exact rfl)
  | apply ev_bin | apply ev_un | apply ev_n | apply eva_cons | apply ev_new | apply evn_lst | apply em_tup | apply evo_p))

theorem ev_below {env : Env'} {m : Mem} {da : TAd} {x : Dat} {b : Int} (hx : plain x = true) (ha : EvA da env m [.f x, .f (.int b)]) : Ev (dCall p_below EX0 da) env m (.f (.bl (below b x))) :=
  ev_call ha rfl fun Q E q => ⟨rfl, ⟨x, b, rfl, hx⟩, fun r m' ⟨d, b', e1, e2, e3⟩ => by cases e1; subst e2 e3; exact q, fun _ _ _ z => z.elim⟩
end DL.S

set_option maxHeartbeats 1000000
namespace DL
open PySem PySem.Spec PyProof.Rows L2
theorem ev_fld {env : Env'} {m : Mem} {d : TD} {x : Lv} {fi : Nat → Option Nat} {c k : Nat} {xs : List Dat} {y : Dat} (h : Ev d env m x) (e : insOf env m x = some (c, xs)) (e1 : fi c = some k) (e2 : xs[k]? = some y) : Ev (dFld fi d) env m (.f y) := fun Q q => h _ (by
  simp only [e, e1, e2]; exact q)
end DL
namespace DL.S
open PySem PySem.Spec PyProof.Rows L2 DL K02

def p_nlen : DSp := pT 1 (fun g : Nat × List Lk => [netD g.1 g.2]) (fun _ => True) (fun g => .int g.2.length)
theorem law_Net_len (C : Ct) : ∀ ds m (Q : QD) (E : QX), p_nlen ds m Q E → rd_Net_len C (fun c xs _ m => E c xs m) { nx := fun _ m => Q .non m, rt := Q } (env0 1 ds) m := by
  rintro _ m Q E ⟨_, ⟨n, ps⟩, rfl, _, hq⟩
  refine st_ret (ev_n (eva_cons (ev_fld (ev_v rfl) rfl (show fi_pairs 3 = some 1 from rfl) rfl) eva_nil) (em_len (xs := ps.map lk) rfl)) ?_
  rw [List.length_map]
  exact hq
theorem em_nlen {env : Env'} {m : Mem} {n : Nat} {ps : List Lk} (h : ps.length ≤ 8) : EvM (oLenI 3 p_nlen) env m [.f (netD n ps)] (.int ps.length) :=
  em_lenT (i := fun g : Nat × List Lk => (g.2.length : Int)) rfl (n, ps) rfl rfl trivial (by show (0 : Int) ≤ (ps.length : Int); omega) (by show (ps.length : Int) < 2 ^ 63; omega)
def p_out : DSp := pGh (γ := Nat × Mem × Nat) 2 (fun g ds m => ds = [.obj 1, .int g.2.2] ∧ g.2.2 ≤ 10 ∧ Dk g.1 g.2.1 m ∧ g.1 + 20 < lim)
  (fun g ds m r m' => ∃ o, r = outD o ∧ OutOk g.2.2 o ∧ Dk (g.1 + 11) g.2.1 m')
theorem out_go {tl : Mem} {many : Nat} {few : Int} {x1 : Option Sl} (h0 : 0 < few) (h1 : few < 100) : ∀ (r k : Nat) (x3 : Option Sl) (m : Mem) (c : Nat) (Q : List Dat → Mem → Prop), Dk c tl m → c + r < lim → k + r = many →
    (∀ (o : List Nat) m', o.Pairwise (· < ·) → (∀ l ∈ o, k ≤ l ∧ l < many) → Dk (c + r) tl m' → Q (o.map fun l : Nat => .int (l : Nat)) m') →
    lcGo (.nm 3) (dTst (dBin (oEq id) (dCall p_next EX0 (dCons (dVar 0) (dCons (dVar 2) dNil))) (dC (.int 0)))) (dVar 3) [some (.f (.obj 1)), x1, some (.f (.int few)), x3] (rangeD k r) m Q
  | 0, k, x3, m, c, Q, hd, hc, hk, h => h [] m List.Pairwise.nil (by simp) hd
  | r + 1, k, x3, m, c, Q, hd, hc, hk, h => by
    rw [rangeD_succ]
    unfold lcGo
    have hb : DL.bind (.nm 3) (.f (.int k)) [some (.f (.obj 1)), x1, some (.f (.int few)), x3] = some [some (.f (.obj 1)), x1, some (.f (.int few)), some (.f (.int k))] := by simp [DL.bind]
    rw [hb]
    dsimp only
    unfold dTst
    simp only [dBin]
    refine call_next few h0 (by omega) hd (by omega) (eva_cons (ev_v rfl) (eva_cons (ev_v rfl) eva_nil)) fun i m1 i0 i1 hd1 => ?_
    refine ev_c _ ?_
    refine oEq_l (okR1 _ _) rfl ?_
    show (if id (eqd (.int i) (.int 0)) = true then _ else _)
    split
    · refine ev_v rfl _ ?_
      dsimp only
      refine out_go (many := many) h0 h1 r (k + 1) x3 m1 (c + 1) _ hd1 (by omega) (by omega) fun o m' ho hl hd' => ?_
      refine h (k :: o) m' (List.Pairwise.cons (fun l hlm => by have := (hl l hlm).1; omega) ho) (fun l hlm => ?_) (by rw [show c + (r + 1) = c + 1 + r by omega]; exact hd')
      rcases List.mem_cons.mp hlm with rfl | q
      · omega
      · have := hl l q; omega
    · refine out_go (many := many) h0 h1 r (k + 1) x3 m1 (c + 1) _ hd1 (by omega) (by omega) fun o m' ho hl hd' => ?_
      exact h o m' ho (fun l hlm => by have := hl l hlm; omega) (by rw [show c + (r + 1) = c + 1 + r by omega]; exact hd')
theorem law_law_outage (C : Ct) : ∀ ds m (Q : QD) (E : QX), p_out ds m Q E → rd_law_outage C p_next (fun c xs _ m => E c xs m) { nx := fun _ m => Q .non m, rt := Q } (env0 4 ds) m := by
  rintro ds m Q E ⟨_, ⟨c, tl, many⟩, ⟨rfl, h10, hd, hc⟩, hQ⟩
  have h10 : many ≤ 10 := h10
  have hc : c + 20 < lim := hc
  have hlim : lim = 2 ^ 40 := rfl
  show rd_law_outage C p_next _ _ [some (.f (.obj 1)), some (.f (.int many)), none, none] m
  unfold rd_law_outage
  refine st_seq ?_
  unfold sAsg
  simp only [dBin]
  refine ev_c _ ?_
  refine call_next 4 (by omega) (by omega) hd (by omega) (eva_cons (ev_v rfl) (eva_cons ev_c eva_nil)) fun i m1 i0 i1 hd1 => ?_
  refine e2_add _ ?_
  simp only [DL.bind, List.set]
  unfold sRet
  simp only [dN, dCons, dNew]
  have hl : (many : Int) < 2 ^ 62 := by omega
  refine evn_lcI (xs := rangeD 0 many) (by
    have z := evi_rg1n (env := [some (Sl.f (.obj 1)), some (.f (.int many)), some (.f (.int (2 + i))), none]) (m := m1) (ev_v (i := 1) rfl) (by omega)
    have e : (List.range many).map (fun i => Dat.int (i : Nat)) = rangeD 0 many := by unfold rangeD; simp
    rw [e] at z
    exact z) (by unfold rangeD; simp; exact sz (by omega)) ?_
  refine out_go (many := many) (by omega) (by omega) many 0 none m1 (c + 1) _ hd1 (by omega) (by omega) fun o m' ho hl hd' => ?_
  simp only [dNil, oTuple, seqOf, der]
  exact hQ _ _ ⟨o, rfl, ⟨ho, fun l hlm => (hl l hlm).2⟩, hd'.mono (by show c + 1 + many ≤ c + 11; omega)⟩
end DL.S

set_option maxHeartbeats 1000000
namespace DL.S
open PySem PySem.Spec PyProof.Rows L2 DL K02

theorem step_dd (xs : List Int) (v : Int) : step_dedup xs v = if (xs.any (· == v)) = true then xs else xs ++ [v] := rfl
theorem first_len (ns : List Int) : ∀ i, i ≤ ns.length → (firstMet (fun i => ns.getD i 0) i).length = i → firstMet (fun i => ns.getD i 0) i = ns.take i ∧ (ns.take i).Nodup
  | 0, _, _ => ⟨rfl, by simp⟩
  | i + 1, hi, h => by
    have le := firstMet_length_le (fun i => ns.getD i 0) i
    rw [firstMet_succ, step_dd] at h ⊢
    by_cases ha : ((firstMet (fun i => ns.getD i 0) i).any (· == ns.getD i 0)) = true
    · rw [if_pos ha] at h; omega
    · rw [if_neg ha] at h ⊢
      have h' : (firstMet (fun i => ns.getD i 0) i).length = i := by simp at h; exact h
      obtain ⟨e, nd⟩ := first_len ns i (by omega) h'
      have lt : i < ns.length := by omega
      have e1 : ns.getD i 0 = ns[i] := by rw [List.getD_eq_getElem?_getD, List.getElem?_eq_getElem lt]; rfl
      have e2 : ns.take (i + 1) = ns.take i ++ [ns[i]] := by rw [List.take_add_one, List.getElem?_eq_getElem lt]; rfl
      rw [e] at ha ⊢
      rw [e2, e1]
      refine ⟨rfl, List.nodup_append.mpr ⟨nd, List.pairwise_singleton _ _, fun a ha' b hb hab => ?_⟩⟩
      rw [List.mem_singleton.mp hb] at hab
      refine ha (List.any_eq_true.mpr ⟨a, ha', ?_⟩)
      rw [e1, hab]; simp
theorem dist_iff (ns : List Int) : dist ns = ns.length ↔ ns.Nodup := by
  unfold dist
  constructor
  · intro h
    have := (first_len ns ns.length (Nat.le_refl _) h).2
    rwa [List.take_length] at this
  · intro h
    rw [RZ.firstMet_nodup h ns.length (Nat.le_refl _), List.take_length]
end DL.S

set_option maxHeartbeats 1000000
namespace DL.S
open PySem PySem.Spec PyProof.Rows L2 DL K02
theorem OutOk.item {many k B : Nat} {o : List Nat} (h : OutOk many o) (h8 : many ≤ 8) : ∀ x ∈ o.map (fun l : Nat => Dat.int (l : Nat)), Vd k B x := fun x hx => by
  obtain ⟨l, hl, rfl⟩ := List.mem_map.mp hx
  have := h.lt l hl
  exact Vd.nat (by omega)
theorem OutOk.vd {many : Nat} {o : List Nat} (h : OutOk many o) (h8 : many ≤ 8) : Vd 1 10 (outD o) :=
  Vd.tup (B := 0) (L := 8) (h.item h8) (by simp; have := h.len; omega) (by omega) (by omega)
end DL.S

set_option maxHeartbeats 1000000
namespace DL
open PySem PySem.Spec PyProof.Rows L2
theorem sq_set {i : Nat} {d : TD} {u : TSd} {a : Dat} {D : En} {env : Env'} {m : Mem} (h : Ev d env m (.f a)) (k : u D (env.set i (some (.f a))) m) : sSeq (sAsg (.nm i) d) u D env m := h _ k
theorem sq_setT {is : List Nat} {d : TD} {u : TSd} {as : List Dat} {D : En} {env : Env'} {m : Mem} (h : Ev d env m (.f (.tup as))) (hl : as.length = is.length) (k : u D (setAll is as env) m) : sSeq (sAsg (.tp is) d) u D env m :=
  st_seq (st_setT h hl k)
theorem sq_asg {tg : Tg} {de : TD} {u : TSd} {D : En} {env : Env'} {m : Mem} (h : de env m fun x m1 => match bind tg x env with | some env2 => u D env2 m1 | none => False) : sSeq (sAsg tg de) u D env m := h
theorem sq_for {tg : Tg} {di : TId} {tb u : TSd} {D : En} {env : Env'} {m : Mem} (h : di env m fun xs m1 => forGo tg tb { D with nx := u D } xs env m1) : sSeq (sFor tg di tb) u D env m := h
theorem sq_next {u : TSd} {D : En} {env : Env'} {m : Mem} (h : u D env m) : sNext { D with nx := u D } env m := h
theorem for_rg {tb : TSd} {D : En} {i : Nat} (I : Nat → Env' → Mem → Prop) : ∀ (r : Nat) (k : Nat) (env : Env') (m : Mem), I k env m →
    (∀ j env m, I j env m → k ≤ j → j < k + r → ∀ D' : En, (∀ env m, I (j + 1) env m → D'.nx env m) → (∀ env m, I (j + 1) env m → D'.ct env m) → (∀ d m, D.rt d m → D'.rt d m) → (∀ env m, D.nx env m → D'.bk env m) → tb D' (env.set i (some (.f (.int (j : Nat))))) m) →
    (∀ env m, I (k + r) env m → D.nx env m) → forGo (.nm i) tb D (rangeD k r) env m
  | 0, k, env, m, h0, _, hq => hq _ _ h0
  | r + 1, k, env, m, h0, hs, hq => by
    rw [rangeD_succ]
    unfold forGo
    show tb _ (env.set i (some (.f (.int (k : Nat))))) m
    have go : ∀ env m, I (k + 1) env m → forGo (.nm i) tb D (rangeD ((k : Int) + 1) r) env m := fun env m h => by
      have z := for_rg (tb := tb) (D := D) (i := i) I r (k + 1) env m h (fun j env m hj h1 h2 D' a b c d => hs j env m hj (by omega) (by omega) D' a b c d) (fun env m h => hq env m (by rw [show k + (r + 1) = k + 1 + r by omega]; exact h))
      rw [show (((k + 1 : Nat) : Nat) : Int) = (k : Int) + 1 by omega] at z
      exact z
    exact hs k env m h0 (Nat.le_refl _) (by omega) _ go go (fun _ _ h => h) fun _ _ h => h
end DL
namespace DL.S
open PySem PySem.Spec PyProof.Rows L2 DL K02
theorem bels_ints (k : Nat) : ∀ ns : List Int, bels k (ns.map Dat.int) = true
  | [] => rfl
  | n :: ns => by rw [List.map_cons, bels, bels_ints k ns]; rfl
theorem dk_bel {c : Nat} {m : Mem} (h : Dk c [] m) : belM m.length m = true := by
  obtain ⟨rest, cells, t, rfl, _⟩ := h
  simp [belM, bels_ints, bels, DL.bel]
section
variable {da : TAd} {env : Env'} {m tl : Mem} {Q : QL} {c : Nat}
theorem call_deck {is : List Int} (hl : is.length ≤ 63) (hm : m = []) (ha : EvA da env m [.f (.lst (is.map Dat.int))]) (h : ∀ m', Dk 0 [] m' → Q (.f (.obj 1)) m') : dCall p_deck EX0 da env m Q := by
  subst hm
  exact call_is [.f (.lst (is.map Dat.int))] [.lst (is.map Dat.int)] ha rfl ⟨rfl, ⟨is, rfl, hl, rfl⟩, fun r m1 ⟨e, hd⟩ => by subst e; exact h m1 hd, fun _ _ _ q => q.elim⟩
theorem call_out {many : Nat} (h10 : many ≤ 10) (hd : Dk c tl m) (hc : c + 20 < lim) (ha : EvA da env m [.f (.obj 1), .f (.int many)])
    (h : ∀ o m', OutOk many o → Dk (c + 11) tl m' → Q (.f (outD o)) m') : dCall p_out EX0 da env m Q :=
  call_is [.f (.obj 1), .f (.int many)] [.obj 1, .int many] ha rfl ⟨rfl, (c, tl, many), ⟨rfl, h10, hd, hc⟩, fun r m' ⟨o, e, h1, h2⟩ => by subst e; exact h o m' h1 h2⟩
theorem ev_same {k : Nat} {d : Dat} (hd : good k d = true) (ha : EvA da env m [.f d, .f d]) : Ev (dCall (p_same k) EX0 da) env m (.f (.bl true)) :=
  ev_call ha rfl fun Q E q => ⟨rfl, ⟨d, rfl, hd⟩, fun r m' ⟨e2, e3⟩ => by subst e2 e3; exact q, fun _ _ _ q => q.elim⟩
end
end DL.S
namespace DL
open PySem PySem.Spec PyProof.Rows L2 DL.S K02
theorem for_mem {tb : TSd} {D : En} {i : Nat} (I : Env' → Mem → Prop) : ∀ {xs : List Dat} {env : Env'} {m : Mem}, I env m →
    (∀ x ∈ xs, ∀ env m, I env m → ∀ D' : En, (∀ env m, I env m → D'.nx env m) → (∀ env m, I env m → D'.ct env m) → (∀ d m, D.rt d m → D'.rt d m) → (∀ env m, D.nx env m → D'.bk env m) → tb D' (env.set i (some (.f x))) m) →
    (∀ env m, I env m → D.nx env m) → forGo (.nm i) tb D xs env m
  | [], env, m, h0, _, hq => hq _ _ h0
  | x :: xs, env, m, h0, hs, hq => by
    unfold forGo
    show tb _ (env.set i (some (.f x))) m
    have go : ∀ env m, I env m → forGo (.nm i) tb D xs env m := fun env m h => for_mem I h (fun y hy => hs y (List.mem_cons_of_mem _ hy)) hq
    exact hs x List.mem_cons_self env m h0 _ go go (fun _ _ h => h) fun _ _ h => h
end DL

set_option maxHeartbeats 1000000
namespace K02
open PySem PySem.Spec PyProof.Rows L2 DL DL.S

def lkb (q : Lk × Bool) : Dat := if q.2 = true then .tup [.int q.1.2, .int q.1.1] else lk q.1
structure MixOk (n : Nat) (qs : List (Lk × Bool)) : Prop where
  n1 : 1 ≤ n
  n7 : n ≤ 7
  l8 : qs.length ≤ 8
  ord : ∀ q ∈ qs, q.1.1 < q.1.2 ∧ q.1.2 < n
  nd : (qs.map (·.1)).Nodup
section
variable {n : Nat} {qs : List (Lk × Bool)}
theorem good_lkb {q : Lk × Bool} (h1 : q.1.1 < 300) (h2 : q.1.2 < 300) : Vd 1 4 (lkb q) := by
  unfold lkb
  split
  · exact Vd.tup (B := 0) (L := 2) (fun x hx => by
      simp only [List.mem_cons, List.not_mem_nil, or_false] at hx
      rcases hx with rfl | rfl
      · exact Vd.nat h2
      · exact Vd.nat h1) (by simp) (by omega) (by omega)
  · exact Vd.tup (B := 0) (L := 2) (fun x hx => by
      simp only [List.mem_cons, List.not_mem_nil, or_false] at hx
      rcases hx with rfl | rfl
      · exact Vd.nat h1
      · exact Vd.nat h2) (by simp) (by omega) (by omega)
theorem MixOk.vd (h : MixOk n qs) : Vd 2 60 (.tup (qs.map lkb)) := by
  have n7 := h.n7
  refine Vd.tup (B := 4) (L := 8) (fun x hx => ?_) (by simpa using h.l8) (by omega) (by omega)
  obtain ⟨q, hq, rfl⟩ := List.mem_map.mp hx
  have := h.ord q hq
  exact good_lkb (q := q) (by omega) (by omega)
end
theorem lt_irrefl {p : Lk} : ¬ Lk.lt p p := by unfold Lk.lt; omega
theorem lt_asymm {p q : Lk} (h : Lk.lt p q) (h' : Lk.lt q p) : False := by unfold Lk.lt at *; omega
theorem le_antisymm {p q : Lk} (h : Lk.le p q = true) (h' : Lk.le q p = true) : p = q := by
  unfold Lk.le at *
  simp only [decide_eq_true_eq] at *
  exact Prod.ext (by omega) (by omega)
end K02

set_option maxHeartbeats 1000000
namespace DL.S
open PySem PySem.Spec PyProof.Rows L2 DL
def rd_Net_nodes (C : Ct)  (EX : QXe) : TSd :=
  (sRet (dFld fi_size (dVar 0)))
def rd_Net_at (C : Ct)  (EX : QXe) : TSd :=
  (sRet (dN oTuple (dCons (dNew (nLc (.tp [2, 3]) (dTst (dBin (oIn id) (dVar 1) (dVar 3))) (dVar 2) [2, 3] (iEnumD (dFld fi_pairs (dVar 0))))) dNil)))
def rd_Net_far (C : Ct)  (EX : QXe) : TSd :=
  (sSeq (sAsg (.tp [3, 4]) (dBin oIx (dFld fi_pairs (dVar 0)) (dVar 1)))
  (sRet (dIf (dTst (dBin (oEq id) (dVar 2) (dVar 3))) (dVar 4) (dVar 3))))
end DL.S

set_option maxHeartbeats 1000000
namespace DL
open PySem PySem.Spec PyProof.Rows L2
end DL
namespace DL.S
open PySem PySem.Spec PyProof.Rows L2 DL K02

def p_nnodes : DSp := pT 1 (fun g : Nat × List Lk => [netD g.1 g.2]) (fun _ => True) (fun g => .int g.1)
theorem law_Net_nodes (C : Ct) : ∀ ds m (Q : QD) (E : QX), p_nnodes ds m Q E → rd_Net_nodes C (fun c xs _ m => E c xs m) { nx := fun _ m => Q .non m, rt := Q } (env0 1 ds) m := by
  rintro _ m Q E ⟨_, ⟨n, ps⟩, rfl, _, hq⟩
  exact st_ret (ev_fld (ev_v rfl) rfl (show fi_size 3 = some 0 from rfl) rfl) hq
theorem eqd_ii (a b : Int) : eqd (.int a) (.int b) = decide (a = b) := by
  rw [eqd_int]
  by_cases h : a = b <;> simp [h]
def p_nat : DSp := pT 2 (fun g : (Nat × List Lk) × Int => [netD g.1.1 g.1.2, .int g.2]) (fun g => g.1.2.length ≤ 8) (fun g => .tup ((atL g.1.2 g.2).map fun k : Nat => .int (k : Nat)))
theorem law_Net_at (C : Ct) : ∀ ds m (Q : QD) (E : QX), p_nat ds m Q E → rd_Net_at C (fun c xs _ m => E c xs m) { nx := fun _ m => Q .non m, rt := Q } (env0 4 ds) m := by
  rintro _ m Q E ⟨_, ⟨⟨n, ps⟩, i⟩, rfl, h8, hq⟩
  have h8 : ps.length ≤ 8 := h8
  show rd_Net_at C _ _ [some (.f (netD n ps)), some (.f (.int i)), none, none] m
  unfold rd_Net_at
  have e1 : EvN (nLc (.tp [2, 3]) (dTst (dBin (oIn id) (dVar 1) (dVar 3))) (dVar 2) [2, 3] (iEnumD (dFld fi_pairs (dVar 0)))) [some (.f (netD n ps)), some (.f (.int i)), none, none] m ((atL ps i).map fun k : Nat => .int (k : Nat)) := by
    have := evn_lcf (env := [some (.f (netD n ps)), some (.f (.int i)), none, none]) (m := m) (tg := .tp [2, 3]) (dt := dTst (dBin (oIn id) (dVar 1) (dVar 3))) (de := dVar 2) (vs := [2, 3]) (di := iEnumD (dFld fi_pairs (dVar 0)))
      (xs := ps.zipIdx) (g := fun p => .tup [.int (p.2 : Nat), lk p.1]) (f := fun p => .int (p.2 : Nat)) (t := fun p => decide ((p.1.1 : Int) = i ∨ (p.1.2 : Int) = i))
      (evi_enum (.inr (ev_fld (ev_v rfl) rfl (show fi_pairs 3 = some 1 from rfl) rfl))) (enumD_map lk 0 ps) (by simp; exact sz (by omega)) (fun p hp => ⟨_, rfl, ?_, fun _ => ev_v rfl⟩)
    · refine this.eq ?_
      unfold atL
      rw [List.map_map]
      rfl
    · refine (evb_tst (ev_bin (ev_v rfl) (ev_v rfl) (e2_in (f := id) (bs := [.int p.1.1, .int p.1.2]) rfl rfl (okR1 _ _) rfl))).eq ?_
      simp [eqd_ii]
  exact st_ret (ev_n (eva_cons (ev_new e1) eva_nil) (fun Q q => by simp only [oTuple, seqOf, der]; exact q)) hq
def farL (ps : List Lk) (k : Nat) (i : Int) : Int := if i = ((ps.getD k (0, 0)).1 : Int) then (ps.getD k (0, 0)).2 else (ps.getD k (0, 0)).1
def p_nfar : DSp := pT 3 (fun g : (Nat × List Lk) × Nat × Int => [netD g.1.1 g.1.2, .int g.2.1, .int g.2.2]) (fun g => g.2.1 < g.1.2.length) (fun g => .int (farL g.1.2 g.2.1 g.2.2))
theorem law_Net_far (C : Ct) : ∀ ds m (Q : QD) (E : QX), p_nfar ds m Q E → rd_Net_far C (fun c xs _ m => E c xs m) { nx := fun _ m => Q .non m, rt := Q } (env0 5 ds) m := by
  rintro _ m Q E ⟨_, ⟨⟨n, ps⟩, k, i⟩, rfl, hk, hq⟩
  have hk : k < ps.length := hk
  show rd_Net_far C _ _ [some (.f (netD n ps)), some (.f (.int k)), some (.f (.int i)), none, none] m
  have eg : ps.getD k (0, 0) = ps[k] := by rw [List.getD_eq_getElem?_getD, List.getElem?_eq_getElem hk]; rfl
  have ek : atI (ps.map lk) k = some (lk ps[k]) := by
    refine DL.atI_nat ?_
    rw [List.getElem?_map, List.getElem?_eq_getElem hk]; rfl
  have hq : Q (.int (if i = (ps[k].1 : Int) then ps[k].2 else ps[k].1)) m := by
    have e : farL ps k i = if i = (ps[k].1 : Int) then (ps[k].2 : Int) else ps[k].1 := by unfold farL; rw [eg]
    rw [← e]; exact hq
  generalize ps[k] = p at ek hq
  refine sq_setT (as := [.int p.1, .int p.2]) (ev_bin (ev_fld (ev_v rfl) rfl (show fi_pairs 3 = some 1 from rfl) rfl) (ev_v rfl) (e2_ix (xs := ps.map lk) rfl ek)) rfl ?_
  show sRet _ _ [some (.f (netD n ps)), some (.f (.int k)), some (.f (.int i)), some (.f (.int p.1)), some (.f (.int p.2))] m
  refine st_ret ((ev_if (u := .int p.2) (w := .int p.1) (evb_tst (ev_bin (ev_v rfl) (ev_v rfl) (e2_eq (f := id) rfl rfl (okR1 _ _) (okR1 _ _)))) (fun _ => ev_v rfl) (fun _ => ev_v rfl))) ?_
  rw [eqd_ii]
  have e : (if (id (decide (i = (p.1 : Int)))) = true then Dat.int p.2 else .int p.1) = .int (if i = (p.1 : Int) then p.2 else p.1) := by
    by_cases z : i = (p.1 : Int) <;> simp [z]
  rw [e]
  exact hq
def inOk (C : Ct) (d : Dat) : Prop := good 5 d = true ∨ ∃ c xs, d = .ins c xs ∧ C.own c = true ∧ C.isaB c "tuple" = some false
theorem inOk.pl {C : Ct} {d : Dat} (h : inOk C d) : isPl C d := h.imp good_plain id
theorem inOk.items {C : Ct} {d : Dat} (h : inOk C d) : ∀ xs, d = .tup xs → ∀ x ∈ xs, plain x = true := fun xs e x hx => by
  subst e
  rcases h with h | ⟨c, ys, e, _⟩
  · rw [good, Bool.and_eq_true, List.all_eq_true] at h
    exact good_plain (h.2 x hx)
  · cases e
end DL.S

set_option maxHeartbeats 1000000
namespace DL.S
open PySem PySem.Spec PyProof.Rows L2 DL
def fi_ground : Nat → Option Nat := fiOf ft_ground
def fi_goal : Nat → Option Nat := fiOf ft_goal
def fi_width : Nat → Option Nat := fiOf ft_width
def fi_told : Nat → Option Nat := fiOf ft_told
def fi_turns : Nat → Option Nat := fiOf ft_turns
def rd_is_key (C : Ct) (p_is_below : DSp) (p_Net_nodes : DSp) (p_Net_len : DSp) (p_Net_at : DSp) (EX : QXe) : TSd :=
  (sSeq (sIf (dOr (dNot (dTst (dN (oIsi C) (dCons (dVar 3) (dCons (dC (.ty "tuple")) dNil))))) (dOr (dTst (dBin (oEq not) (dN oLen (dCons (dVar 3) dNil)) (dC (.int 3)))) (dOr (dNot (dTst (dCall p_is_below EX0 (dCons (dBin oIx (dVar 3) (dC (.int 0))) (dCons (dProp 3 p_Net_nodes (dVar 0)) dNil))))) (dTst (dBin (oEq id) (dBin oIx (dVar 3) (dC (.int 0))) (dVar 1))))))
  (sRet (dC (.bl false)))
  sNext)
  (sSeq (sAsg (.tp [4, 5, 6]) (dVar 3))
  (sSeq (sIf (dNot (dTst (dCall p_is_below EX0 (dCons (dVar 6) (dCons (dVar 2) dNil)))))
  (sRet (dC (.bl false)))
  sNext)
  (sRet (dIf (dTst (dBin (oIsN id) (dVar 5) (dC .non))) (dBin (oEq id) (dVar 6) (dC (.int 0))) (dAndV (dCall p_is_below EX0 (dCons (dVar 5) (dCons (dN (oLenI 3 p_Net_len) (dCons (dVar 0) dNil)) dNil))) (dBin (oIn id) (dVar 5) (dMeth 3 p_Net_at EX0 (dVar 0) (dCons (dVar 4) dNil)))))))))
def rd_is_row (C : Ct) (p_is_pair : DSp) (p_is_below : DSp) (p_Net_len : DSp) (p_Net_at : DSp) (EX : QXe) : TSd :=
  (sSeq (sIf (dOr (dNot (dTst (dN (oIsi C) (dCons (dVar 3) (dCons (dC (.ty "tuple")) dNil))))) (dNot (dTst (dN (oBs fun bs => bs.all id) (dCons (dNew (nLc (.nm 7) dYes (dCall p_is_pair EX0 (dCons (dVar 7) dNil)) [7] (iVal (dVar 3)))) dNil)))))
  (sRet (dC (.bl false)))
  sNext)
  (sSeq (sIf (dNot (dTst (dN (oBs fun bs => bs.all id) (dCons (dNew (nLc (.tp [5, 6]) dYes (dAndV (dCall p_is_below EX0 (dCons (dVar 5) (dCons (dN (oLenI 3 p_Net_len) (dCons (dVar 0) dNil)) dNil))) (dCall p_is_below EX0 (dCons (dVar 6) (dCons (dVar 2) dNil)))) [5, 6] (iVal (dVar 3)))) dNil))))
  (sRet (dC (.bl false)))
  sNext)
  (sSeq (sAsg (.nm 4) (dNew (nLc (.tp [5, 6]) dYes (dVar 5) [5, 6] (iVal (dVar 3)))))
  (sRet (dAndV (dBin (oEq id) (dLenSet (dVar 4)) (dN oLen (dCons (dVar 4) dNil))) (dN (oBs fun bs => bs.all id) (dCons (dNew (nLc (.nm 5) dYes (dBin (oIn id) (dVar 5) (dMeth 3 p_Net_at EX0 (dVar 0) (dCons (dVar 1) dNil))) [5] (iVal (dVar 4)))) dNil)))))))
def rd_book_error (C : Ct) (p_is_pair : DSp) (p_is_key : DSp) (p_is_row : DSp) (EX : QXe) : TSd :=
  (sSeq (sIf (dNot (dTst (dN (oIsi C) (dCons (dVar 3) (dCons (dC (.ty "tuple")) dNil)))))
  (sRet (dN oTup (dCons (dC .non) (dCons (dC (.str "rows")) dNil))))
  sNext)
  (sSeq (sSetN 4 (nLst dNil))
  (sSeq (sFor (.tp [5, 6]) (iEnumD (dVar 3))
  (sSeq (sIf (dOr (dNot (dTst (dCall p_is_pair EX0 (dCons (dVar 6) dNil)))) (dNot (dTst (dCall p_is_key EX0 (dCons (dVar 0) (dCons (dVar 1) (dCons (dVar 2) (dCons (dBin oIx (dVar 6) (dC (.int 0))) dNil))))))))
  (sRet (dN oTup (dCons (dVar 5) (dCons (dC (.str "key")) dNil))))
  sNext)
  (sSeq (sIf (dTst (dBin (oIn id) (dBin oIx (dVar 6) (dC (.int 0))) (dVar 4)))
  (sRet (dN oTup (dCons (dVar 5) (dCons (dC (.str "again")) dNil))))
  sNext)
  (sSeq (sIf (dNot (dTst (dCall p_is_row EX0 (dCons (dVar 0) (dCons (dBin oIx (dBin oIx (dVar 6) (dC (.int 0))) (dC (.int 0))) (dCons (dVar 2) (dCons (dBin oIx (dVar 6) (dC (.int 1))) dNil)))))))
  (sRet (dN oTup (dCons (dVar 5) (dCons (dC (.str "row")) dNil))))
  sNext)
  (sApp (dVar 4) (dBin oIx (dVar 6) (dC (.int 0))))))))
  (sRet (dC .non)))))
def rd_keys_of (C : Ct)  (p_Net_nodes : DSp) (p_Net_at : DSp) (EX : QXe) : TSd :=
  (sSeq (sSetN 3 (nLst dNil))
  (sSeq (sFor (.nm 4) (iRg1 (dProp 3 p_Net_nodes (dVar 0)))
  (sIf (dTst (dBin (oEq not) (dVar 4) (dVar 1)))
  (sSeq (sApp (dVar 3) (dN oTup (dCons (dVar 4) (dCons (dC .non) (dCons (dC (.int 0)) dNil)))))
  (sExt (dVar 3) (dNew (nLc2 (.nm 5) dYes (iRg1 (dVar 2)) (.nm 6) dYes (dN oTup (dCons (dVar 4) (dCons (dVar 5) (dCons (dVar 6) dNil)))) [5, 6] [6] (iVal (dMeth 3 p_Net_at EX0 (dVar 0) (dCons (dVar 4) dNil)))))))
  sNext))
  (sKeep 3 (sRet (dVar 3)))))
def rd_Book_init (C : Ct) (p_book_error : DSp) (EX : QXe) : TSd :=
  (sSeq (sAsg (.nm 5) (dCall p_book_error EX0 (dCons (dVar 1) (dCons (dVar 2) (dCons (dVar 3) (dCons (dVar 4) dNil))))))
  (sSeq (sIf (dTst (dBin (oIsN not) (dVar 5) (dC .non)))
  (sRaise (mOwn 5 1 (dCons (dVar 5) dNil)) EX)
  sNext)
  (sSeq (sFldD fi_ground (dVar 0) (dVar 1))
  (sSeq (sFldD fi_goal (dVar 0) (dVar 2))
  (sSeq (sFldD fi_width (dVar 0) (dVar 3))
  (sSeq (sFldD fi_told (dVar 0) (dDx (.tp [6, 7]) (dTst (dBin (oEq not) (dVar 7) (dN oTup dNil))) (dVar 6) (dVar 7) [6, 7] (iVal (dVar 4))))
  (sFldD fi_turns (dVar 0) (dNew (nLc2 (.tp [6, 7]) dYes (iVal (dVar 7)) (.nm 8) dYes (dVar 8) [6, 7, 8] [8] (iVal (dVar 4)))))))))))
def rd_Book_net (C : Ct)  (EX : QXe) : TSd :=
  (sRet (dFld fi_ground (dVar 0)))
def rd_Book_target (C : Ct)  (EX : QXe) : TSd :=
  (sRet (dFld fi_goal (dVar 0)))
def rd_Book_row_at (C : Ct)  (EX : QXe) : TSd :=
  (sRet (dGetT (dFld fi_told (dVar 0)) (dCons (dVar 1) (dCons (dN oTup dNil) dNil))))
def rd_next_stop (C : Ct)  (p_Book_row_at : DSp) (p_Net_far : DSp) (p_Book_net : DSp) (EX : QXe) : TSd :=
  (sSeq (sFor (.tp [3, 4]) (iVal (dMeth 22 p_Book_row_at EX0 (dVar 0) (dCons (dVar 1) dNil)))
  (sIf (dTst (dBin (oIn not) (dVar 3) (dVar 2)))
  (sRet (dN oTup (dCons (dMeth 3 p_Net_far EX0 (dProp 22 p_Book_net (dVar 0)) (dCons (dVar 3) (dCons (dBin oIx (dVar 1) (dC (.int 0))) dNil))) (dCons (dVar 3) (dCons (dVar 4) dNil)))))
  sNext))
  (sRet (dC .non)))
def rd_walked (C : Ct) (p_next_stop : DSp) (p_Book_target : DSp) (EX : QXe) : TSd :=
  (sSeq (sSetN 3 (nLst (dCons (dN oTup (dCons (dVar 1) (dCons (dC .non) (dCons (dC (.int 0)) dNil)))) dNil)))
  (sSeq (sWhile (dTst (dBin (oEq not) (dBin oIx (dBin oIx (dVar 3) (dUn (oU fun i => -i) (dC (.int 1)))) (dC (.int 0))) (dProp 22 p_Book_target (dVar 0))))
  (sSeq (sAsg (.nm 4) (dCall p_next_stop EX0 (dCons (dVar 0) (dCons (dBin oIx (dVar 3) (dUn (oU fun i => -i) (dC (.int 1)))) (dCons (dVar 2) dNil)))))
  (sSeq (sIf (dTst (dBin (oIsN id) (dVar 4) (dC .non)))
  (sKeep 3 (sRet (dN oTup (dCons (dN oTuple (dCons (dVar 3) dNil)) (dCons (dC (.str "lost")) dNil)))))
  sNext)
  (sSeq (sApp (dVar 3) (dVar 4))
  (sIf (dTst (dBin (oIn id) (dVar 4) (dSl (dVar 3) dNo (dPart (dUn (oU fun i => -i) (dC (.int 1)))))))
  (sKeep 3 (sRet (dN oTup (dCons (dN oTuple (dCons (dVar 3) dNil)) (dCons (dC (.str "round")) dNil)))))
  sNext)))))
  (sKeep 3 (sRet (dN oTup (dCons (dN oTuple (dCons (dVar 3) dNil)) (dCons (dC (.str "home")) dNil)))))))
def rd_fate (C : Ct) (p_walked : DSp) (EX : QXe) : TSd :=
  (sRet (dBin oIx (dCall p_walked EX0 (dCons (dVar 0) (dCons (dVar 1) (dCons (dVar 2) dNil)))) (dC (.int 1))))
end DL.S

set_option maxHeartbeats 1000000
namespace DL.S
open PySem PySem.Spec PyProof.Rows L2 DL
end DL.S

set_option maxHeartbeats 1000000
namespace DL.S
open PySem PySem.Spec PyProof.Rows L2 DL
end DL.S

set_option maxHeartbeats 1000000
namespace DL.S
open PySem PySem.Spec PyProof.Rows L2 DL
def rd_law_labels (C : Ct)  (EX : QXe) : TSd :=
  (sSeq (sAsg (.nm 3) (dNew (nLstRg (rRg1 (dVar 0)))))
  (sSeq (sFor (.nm 4) (iRg1 (dN oLen (dCons (dVar 1) dNil)))
  (sIf (dTst (dBin (oIn not) (dVar 4) (dVar 2)))
  (sSeq (sAsg (.tp [5, 6]) (dN oTup (dCons (dBin oIx (dVar 3) (dBin oIx (dBin oIx (dVar 1) (dVar 4)) (dC (.int 0)))) (dCons (dBin oIx (dVar 3) (dBin oIx (dBin oIx (dVar 1) (dVar 4)) (dC (.int 1)))) dNil))))
  (sAsg (.nm 3) (dNew (nLc (.nm 7) dYes (dBin oIx (dNew (nLst (dCons (dVar 7) (dCons (dN (oI2 fun i j => if j < i then j else i) (dCons (dVar 5) (dCons (dVar 6) dNil))) dNil)))) (dN (oN1 fInt) (dCons (dBin (oIn id) (dVar 7) (dN oTup (dCons (dVar 5) (dCons (dVar 6) dNil)))) dNil))) [7] (iVal (dVar 3))))))
  sNext))
  (sRet (dVar 3))))
end DL.S

set_option maxHeartbeats 1000000
namespace DL.S
open PySem PySem.Spec PyProof.Rows L2 DL
end DL.S

set_option maxHeartbeats 1000000
namespace DL.S
open PySem PySem.Spec PyProof.Rows L2 DL
end DL.S

set_option maxHeartbeats 1000000
namespace DL.S
open PySem PySem.Spec PyProof.Rows L2 DL
end DL.S

set_option maxHeartbeats 1000000
namespace DL.S
open PySem PySem.Spec PyProof.Rows L2 DL
end DL.S

set_option maxHeartbeats 1000000
namespace DL.S
open PySem PySem.Spec PyProof.Rows L2 DL
def rd_Book_turning (C : Ct) (p_keys_of : DSp) (p_Book_init : DSp) (p_Net_at : DSp) (EX : QXe) : TSd :=
  (sSeq (sSetN 3 (nLst dNil))
  (sSeq (sFor (.tp [4, 5, 6]) (iVal (dCall p_keys_of EX0 (dCons (dVar 1) (dCons (dVar 2) (dCons (dC (.int 1)) dNil)))))
  (sSeq (sAsg (.nm 7) (dNew (nList (dMeth 3 p_Net_at EX0 (dVar 1) (dCons (dVar 4) dNil)))))
  (sSeq (sIf (dTst (dBin (oIsN not) (dVar 5) (dC .non)))
  (sSeq (sAsg (.nm 8) (dBin oAdd (dIdx1 (dVar 7) (dVar 5)) (dC (.int 1))))
  (sAsg (.nm 7) (dBin oAdd (dSl (dVar 7) (dPart (dVar 8)) dNo) (dSl (dVar 7) dNo (dPart (dVar 8))))))
  sNext)
  (sApp (dVar 3) (dN oTup (dCons (dN oTup (dCons (dVar 4) (dCons (dVar 5) (dCons (dVar 6) dNil)))) (dCons (dN oTuple (dCons (dNew (nLc (.nm 9) dYes (dN oTup (dCons (dVar 9) (dCons (dC (.int 0)) dNil))) [9] (iVal (dVar 7)))) dNil)) dNil)))))))
  (sKeep 3 (sRet (dMakeV 0 22 5 p_Book_init EX0 (dCons (dVar 1) (dCons (dVar 2) (dCons (dC (.int 1)) (dCons (dN oTuple (dCons (dVar 3) dNil)) dNil)))))))))
end DL.S

set_option maxHeartbeats 1000000
namespace DL.S
open PySem PySem.Spec PyProof.Rows L2 DL
end DL.S

set_option maxHeartbeats 1000000
namespace DL.S
open PySem PySem.Spec PyProof.Rows L2 DL
end DL.S

set_option maxHeartbeats 1000000
namespace DL.S
open PySem PySem.Spec PyProof.Rows L2 DL
end DL.S

set_option maxHeartbeats 1000000
namespace DL.S
open PySem PySem.Spec PyProof.Rows L2 DL
end DL.S

set_option maxHeartbeats 1000000
namespace DL.S
open PySem PySem.Spec PyProof.Rows L2 DL
end DL.S

set_option maxHeartbeats 2000000
namespace K27
open PySem PySem.Spec PyProof.Rows L2 DL DL.S
structure Txt (K : PySem.W.Frag) (mg : Str → Option Value) (C : Ct) : Prop where
  ns : NoSys K
  ct : CtOk C K
  f_abs : mg "abs" = none
  f_all : mg "all" = none
  f_bool : mg "bool" = none
  f_enumerate : mg "enumerate" = none
  f_int : mg "int" = none
  f_isinstance : mg "isinstance" = none
  f_len : mg "len" = none
  f_list : mg "list" = none
  f_max : mg "max" = none
  f_min : mg "min" = none
  f_range : mg "range" = none
  f_set : mg "set" = none
  f_sorted : mg "sorted" = none
  f_tuple : mg "tuple" = none
  c_MAX_LINKS : ∃ t, mg "MAX_LINKS" = some (.int 8 t)
  c_MAX_NODES : ∃ t, mg "MAX_NODES" = some (.int 7 t)
  k_Book : mg "Book" = some (.ref (C.addr 22))
  fl_goal : FiOk K C "goal" fi_goal
  fl_ground : FiOk K C "ground" fi_ground
  fl_pairs : FiOk K C "pairs" fi_pairs
  fl_size : FiOk K C "size" fi_size
  fl_told : FiOk K C "told" fi_told
  fl_turns : FiOk K C "turns" fi_turns
  fl_width : FiOk K C "width" fi_width
section
variable {P : Program} {w : World} {K : PySem.W.Frag} {mg : Str → Option Value} {base : Heap} {C : Ct}
theorem sc_Net_len : FnScope ["self"] ["self"] (defScope st_Net_len) := ⟨rfl, rfl, rfl, by decide +kernel, rfl, by decide +kernel, by decide +kernel⟩
theorem wk_Net_len (T : Txt K mg C) {K0 : Nat} {f : Addr} {fd : FuncData} {p : DSp} (mono : MonoP p) (len : ∀ ds m Q E, p ds m Q E → ds.length = 1)
    (F : FunD K "__len__" "Net.__len__" (defArgs st_Net_len) (defBody st_Net_len) (defScope st_Net_len) [] [] f fd)
    (law : ∀ ds m (Q : QD) (E : QX), p ds m Q E → rd_Net_len C  (fun c xs _ m => E c xs m) { nx := fun _ m => Q .non m, rt := Q } (env0 1 ds) m) : DF P w K mg base C (K0 + 1) f fd ["self"] p := by
  refine df_of (k := K0) (d := rd_Net_len C ) F sc_Net_len mono len ?_ law
  intro cdv A outer s H E B EX hr tk
  exact (dss_one (ds_ret (de_b call_lenD T.f_len boot_len (da_cons (de_fld T.fl_pairs (de_var 0) rfl) da_nil))))

theorem sc_law_deck : FnScope ["_law_script", "_law_cells", "_law_number"] ["_law_script"] (defScope st_law_deck) := ⟨rfl, rfl, rfl, by decide +kernel, rfl, by decide +kernel, by decide +kernel⟩
theorem wk_law_deck (T : Txt K mg C) {K0 : Nat} {f : Addr} {fd : FuncData} {p : DSp} (mono : MonoP p) (len : ∀ ds m Q E, p ds m Q E → ds.length = 1)
    (F : FunD K "_law_deck" "_law_deck" (defArgs st_law_deck) (defBody st_law_deck) (defScope st_law_deck) [] [] f fd)
    (law : ∀ ds m (Q : QD) (E : QX), p ds m Q E → rd_law_deck C  (fun c xs _ m => E c xs m) { nx := fun _ m => Q .non m, rt := Q } (env0 3 ds) m) : DF P w K mg base C (K0 + 1) f fd ["_law_script"] p := by
  refine df_of (k := K0) (d := rd_law_deck C ) F sc_law_deck mono len ?_ law
  intro cdv A outer s H E B EX hr tk
  exact (dss_cons (ds_setC [("_law_number", 2)] rfl sc_law_deck.nd (di_val (de_var 0)) (fun _ _ _ _ _ => (tg_v sc_law_deck.nd)) (fun _ _ _ _ _ => dts_nil) (fun _ _ _ _ _ => (de_b call_absD T.f_abs boot_abs (da_cons (de_var 2) da_nil))) (blkB_ok (by kernel_rfl)) (by decide))
  (dss_one (ds_ret (DN.shr (dn_lst (da_cons (DN.shr (dn_comp [("_law_number", 2)] rfl sc_law_deck.nd (di_val (de_var 1)) (fun _ _ _ _ _ => (tg_v sc_law_deck.nd)) (fun _ _ _ _ _ => (dts_one (dt_cmp op_geD (de_var 2) (de_bin op_powD de_int de_int)))) (fun _ _ _ _ _ => (de_var 2)) (blkB_ok (by kernel_rfl)) (by decide))) (da_cons (DN.de (dn_cat (de_var 1) (DN.de (dn_lst (da_cons (de_bin op_addD (de_b call_lenD T.f_len boot_len (da_cons (de_var 1) da_nil)) de_int) da_nil))))) (da_cons de_int da_nil))))))))

theorem sc_law_next : FnScope ["_law_deck_here", "_law_many", "_law_turn", "_law_number", "_law_mixed", "_law_rest"] ["_law_deck_here", "_law_many"] (defScope st_law_next) := ⟨rfl, rfl, rfl, by decide +kernel, rfl, by decide +kernel, by decide +kernel⟩
theorem wk_law_next (T : Txt K mg C) {K0 : Nat} {f : Addr} {fd : FuncData} {p : DSp} (mono : MonoP p) (len : ∀ ds m Q E, p ds m Q E → ds.length = 2)
    (F : FunD K "_law_next" "_law_next" (defArgs st_law_next) (defBody st_law_next) (defScope st_law_next) [] [] f fd)
    (law : ∀ ds m (Q : QD) (E : QX), p ds m Q E → rd_law_next C  (fun c xs _ m => E c xs m) { nx := fun _ m => Q .non m, rt := Q } (env0 6 ds) m) : DF P w K mg base C (K0 + 1) f fd ["_law_deck_here", "_law_many"] p := by
  refine df_of (k := K0) (d := rd_law_next C ) F sc_law_next mono len ?_ law
  intro cdv A outer s H E B EX hr tk
  exact (dss_cons (ds_while (passes_of rfl) (dt_cmp (op_neR hr) (de_ix ix_D (de_var 0) de_int) (DN.de (dn_lst da_nil))) (dss_cons (ds_setV sc_law_next.nd (de_ix ix_D (de_ix ix_D (de_var 0) de_int) de_int))
  (dss_cons (ds_if (dt_cmp op_gtD (de_var 5) de_int) (dss_cons (ds_setI (de_bin op_fdivWD (de_var 5) (de_var 1)) (de_ix ix_D (de_var 0) de_int) de_int)
  (dss_one (ds_ret (de_bin op_modD (de_t call_intD T.f_int boot_int (da_cons (de_var 5) da_nil)) (de_var 1))))) dss_nil)
  (dss_one (ds_pop0 (de_ix ix_D (de_var 0) de_int))))))
  (dss_cons (ds_setI (de_bin op_addD (de_ix ix_D (de_var 0) de_int) de_int) (de_var 0) de_int)
  (dss_cons (ds_setV sc_law_next.nd (de_ix ix_D (de_var 0) de_int))
  (dss_cons (ds_setV sc_law_next.nd (de_bin op_modD (de_t call_intD T.f_int boot_int (da_cons (de_ix ix_D (de_ix ix_D (de_var 0) de_int) (de_bin op_modD (de_t call_intD T.f_int boot_int (da_cons (de_var 2) da_nil)) (de_b call_lenD T.f_len boot_len (da_cons (de_ix ix_D (de_var 0) de_int) da_nil)))) da_nil)) de_int))
  (dss_cons (ds_setV sc_law_next.nd (de_bin op_modD (de_t call_intD T.f_int boot_int (da_cons (de_bin op_addD (de_bin op_addD (de_bin op_mulD (de_var 3) (de_bin op_addD de_int (de_bin op_mulD de_int (de_var 2)))) (de_bin op_mulD (de_bin op_mulD de_int (de_var 2)) (de_var 2))) de_int) da_nil)) de_int))
  (dss_one (ds_ret (de_bin op_modD (de_bin op_fdivWD (de_bin op_modD (de_t call_intD T.f_int boot_int (da_cons (de_bin op_mulD (de_var 4) (de_var 4)) da_nil)) de_int) de_int) (de_var 1)))))))))

theorem sc_law_pairs : FnScope ["_law_nodes", "_law_found", "_law_other", "_law_one"] ["_law_nodes"] (defScope st_law_pairs) := ⟨rfl, rfl, rfl, by decide +kernel, rfl, by decide +kernel, by decide +kernel⟩
theorem wk_law_pairs (T : Txt K mg C) {K0 : Nat} {f : Addr} {fd : FuncData} {p : DSp} (mono : MonoP p) (len : ∀ ds m Q E, p ds m Q E → ds.length = 1)
    (F : FunD K "_law_pairs" "_law_pairs" (defArgs st_law_pairs) (defBody st_law_pairs) (defScope st_law_pairs) [] [] f fd)
    (law : ∀ ds m (Q : QD) (E : QX), p ds m Q E → rd_law_pairs C  (fun c xs _ m => E c xs m) { nx := fun _ m => Q .non m, rt := Q } (env0 4 ds) m) : DF P w K mg base C (K0 + 1) f fd ["_law_nodes"] p := by
  refine df_of (k := K0) (d := rd_law_pairs C ) F sc_law_pairs mono len ?_ law
  intro cdv A outer s H E B EX hr tk
  exact (dss_cons (ds_setV sc_law_pairs.nd (DN.de (dn_lst da_nil)))
  (dss_cons (ds_for (passes_of rfl) rfl (di_range1 rfl T.f_range (de_var 0)) (tg_v sc_law_pairs.nd) (dss_one (ds_setV sc_law_pairs.nd (DN.de (dn_cat (de_var 1) (DN.de (dn_comp [("_law_one", 3)] rfl sc_law_pairs.nd (di_range1 rfl T.f_range (de_var 2)) (fun _ _ _ _ _ => (tg_v sc_law_pairs.nd)) (fun _ _ _ _ _ => dts_nil) (fun _ _ _ _ _ => (de_tup (da_cons (de_var 3) (da_cons (de_var 2) da_nil)))) (blkB_ok (by kernel_rfl)) (by decide))))))))
  (dss_one (ds_ret (de_var 1)))))

theorem sc_law_net : FnScope ["_law_deck_here", "_law_most", "_law_nodes", "_law_pairs_here", "_law_kind", "_law_found", "_law_k", "_law_pair"] ["_law_deck_here", "_law_most"] (defScope st_law_net) := ⟨rfl, rfl, rfl, by decide +kernel, rfl, by decide +kernel, by decide +kernel⟩
theorem wk_law_net (T : Txt K mg C) {K0 : Nat} {f : Addr} {fd : FuncData} {p_law_next : DSp} {k_law_next : Nat} {p_law_pairs : DSp} {k_law_pairs : Nat} {p : DSp} (mono : MonoP p) (len : ∀ ds m Q E, p ds m Q E → ds.length = 2) (c_law_next : FnC P w K mg base C "_law_next" k_law_next ["_law_deck_here", "_law_many"] p_law_next) (h_law_next : k_law_next ≤ K0) (c_law_pairs : FnC P w K mg base C "_law_pairs" k_law_pairs ["_law_nodes"] p_law_pairs) (h_law_pairs : k_law_pairs ≤ K0)
    (F : FunD K "_law_net" "_law_net" (defArgs st_law_net) (defBody st_law_net) (defScope st_law_net) [] [] f fd)
    (law : ∀ ds m (Q : QD) (E : QX), p ds m Q E → rd_law_net C p_law_next p_law_pairs (fun c xs _ m => E c xs m) { nx := fun _ m => Q .non m, rt := Q } (env0 8 ds) m) : DF P w K mg base C (K0 + 1) f fd ["_law_deck_here", "_law_most"] p := by
  refine df_of (k := K0) (d := rd_law_net C p_law_next p_law_pairs) F sc_law_net mono len ?_ law
  intro cdv A outer s H E B EX hr tk
  exact (dss_cons (ds_setV sc_law_net.nd (de_ix ix_D (DN.de (dn_lst (da_cons (de_bin op_addD de_int (de_fn c_law_next hr (by omega) (da_cons (de_var 0) (da_cons de_int da_nil)) passD0)) (da_cons de_int (da_cons de_int (da_cons de_int da_nil)))))) (de_fn c_law_next hr (by omega) (da_cons (de_var 0) (da_cons de_int da_nil)) passD0)))
  (dss_cons (ds_par3N rfl sc_law_net.nd rfl rfl rfl (by decide) (by decide) (by decide) rfl rfl rfl (de_fn c_law_pairs hr (by omega) (da_cons (de_var 2) da_nil) passD0) (de_fn c_law_next hr (by omega) (da_cons (de_var 0) (da_cons de_int da_nil)) passD0) (dn_lst da_nil) (by rfl))
  (dss_cons (ds_if (DW.dt (dw_and (dt_cmp (op_eqR hr) (de_var 4) de_int) (dw_and1 (dt_cmp op_gtD (de_var 2) de_int)))) (dss_one (ds_setNV sc_law_net.nd (dn_cat (DN.de (dn_comp [("_law_k", 6)] rfl sc_law_net.nd (di_range1 rfl T.f_range (de_bin op_subD (de_var 2) de_int)) (fun _ _ _ _ _ => (tg_v sc_law_net.nd)) (fun _ _ _ _ _ => dts_nil) (fun _ _ _ _ _ => (de_tup (da_cons (de_var 6) (da_cons (de_bin op_addD (de_var 6) de_int) da_nil)))) (blkB_ok (by kernel_rfl)) (by decide))) (DN.de (dn_lst (da_cons (de_tup (da_cons de_int (da_cons (de_bin op_subD (de_var 2) de_int) da_nil))) da_nil)))))) dss_nil)
  (dss_cons (ds_if (dt_cmp (op_eqR hr) (de_var 4) de_int) (dss_one (ds_setCN [("_law_k", 6)] rfl sc_law_net.nd (di_range2 rfl T.f_range de_int (de_var 2)) (fun _ _ _ _ _ => (tg_v sc_law_net.nd)) (fun _ _ _ _ _ => dts_nil) (fun _ _ _ _ _ => (de_tup (da_cons (de_fn c_law_next hr (by omega) (da_cons (de_var 0) (da_cons (de_var 6) da_nil)) passD0) (da_cons (de_var 6) da_nil)))) (blkB_ok (by kernel_rfl)) (by decide))) dss_nil)
  (dss_cons (ds_for (passes_of rfl) rfl (di_range1 rfl T.f_range (de_bin op_mulD (de_ix ix_D (DN.de (dn_lst (da_cons (de_var 1) (da_cons (de_fn c_law_next hr (by omega) (da_cons (de_var 0) (da_cons (de_bin op_addD (de_var 1) de_int) da_nil)) passD0) da_nil)))) (de_fn c_law_next hr (by omega) (da_cons (de_var 0) (da_cons de_int da_nil)) passD0)) (de_t call_intD T.f_int boot_int (da_cons (de_cmp op_gtD (de_var 2) de_int) da_nil)))) (tg_v sc_law_net.nd) (dss_cons (ds_setV sc_law_net.nd (de_ix ix_D (de_var 3) (de_fn c_law_next hr (by omega) (da_cons (de_var 0) (da_cons (de_b call_lenD T.f_len boot_len (da_cons (de_var 3) da_nil)) da_nil)) passD0)))
  (dss_one (ds_if (dt_cmp (op_ninR hr) (de_var 7) (de_var 5)) (dss_one (ds_app (de_var 5) (de_var 7))) dss_nil))))
  (dss_one (ds_keep 5 (ds_ret (de_tup (da_cons (de_var 2) (da_cons (DN.de (dn_sortedR hr T.ns T.f_sorted (de_sl (de_var 5) do_none (do_some (de_var 1))))) da_nil)))))))))))

theorem sc_law_outage : FnScope ["_law_deck_here", "_law_many", "_law_few", "_law_link"] ["_law_deck_here", "_law_many"] (defScope st_law_outage) := ⟨rfl, rfl, rfl, by decide +kernel, rfl, by decide +kernel, by decide +kernel⟩
theorem wk_law_outage (T : Txt K mg C) {K0 : Nat} {f : Addr} {fd : FuncData} {p_law_next : DSp} {k_law_next : Nat} {p : DSp} (mono : MonoP p) (len : ∀ ds m Q E, p ds m Q E → ds.length = 2) (c_law_next : FnC P w K mg base C "_law_next" k_law_next ["_law_deck_here", "_law_many"] p_law_next) (h_law_next : k_law_next ≤ K0)
    (F : FunD K "_law_outage" "_law_outage" (defArgs st_law_outage) (defBody st_law_outage) (defScope st_law_outage) [] [] f fd)
    (law : ∀ ds m (Q : QD) (E : QX), p ds m Q E → rd_law_outage C p_law_next (fun c xs _ m => E c xs m) { nx := fun _ m => Q .non m, rt := Q } (env0 4 ds) m) : DF P w K mg base C (K0 + 1) f fd ["_law_deck_here", "_law_many"] p := by
  refine df_of (k := K0) (d := rd_law_outage C p_law_next) F sc_law_outage mono len ?_ law
  intro cdv A outer s H E B EX hr tk
  exact (dss_cons (ds_setV sc_law_outage.nd (de_bin op_addD de_int (de_fn c_law_next hr (by omega) (da_cons (de_var 0) (da_cons de_int da_nil)) passD0)))
  (dss_one (ds_ret (de_t call_tupleD T.f_tuple boot_tuple (da_cons (DN.de (dn_comp [("_law_link", 3)] rfl sc_law_outage.nd (di_range1 rfl T.f_range (de_var 1)) (fun _ _ _ _ _ => (tg_v sc_law_outage.nd)) (fun _ _ _ _ _ => (dts_one (dt_cmp (op_eqR hr) (de_fn c_law_next hr (by omega) (da_cons (de_var 0) (da_cons (de_var 2) da_nil)) passD0) de_int))) (fun _ _ _ _ _ => (de_var 3)) (blkB_ok (by kernel_rfl)) (by decide))) da_nil)))))

theorem sc_law_labels : FnScope ["_law_nodes", "_law_links", "_law_outage_here", "_law_found", "_law_k", "_law_one", "_law_other", "_law_label"] ["_law_nodes", "_law_links", "_law_outage_here"] (defScope st_law_labels) := ⟨rfl, rfl, rfl, by decide +kernel, rfl, by decide +kernel, by decide +kernel⟩
theorem wk_law_labels (T : Txt K mg C) {K0 : Nat} {f : Addr} {fd : FuncData} {p : DSp} (mono : MonoP p) (len : ∀ ds m Q E, p ds m Q E → ds.length = 3)
    (F : FunD K "_law_labels" "_law_labels" (defArgs st_law_labels) (defBody st_law_labels) (defScope st_law_labels) [] [] f fd)
    (law : ∀ ds m (Q : QD) (E : QX), p ds m Q E → rd_law_labels C  (fun c xs _ m => E c xs m) { nx := fun _ m => Q .non m, rt := Q } (env0 8 ds) m) : DF P w K mg base C (K0 + 1) f fd ["_law_nodes", "_law_links", "_law_outage_here"] p := by
  refine df_of (k := K0) (d := rd_law_labels C ) F sc_law_labels mono len ?_ law
  intro cdv A outer s H E B EX hr tk
  exact (dss_cons (ds_setV sc_law_labels.nd (DN.de (dn_lstRg T.f_list (dr_1 T.f_range (de_var 0)))))
  (dss_cons (ds_for (passes_of rfl) rfl (di_range1 rfl T.f_range (de_b call_lenD T.f_len boot_len (da_cons (de_var 1) da_nil))) (tg_v sc_law_labels.nd) (dss_one (ds_if (dt_cmp (op_ninR hr) (de_var 4) (de_var 2)) (dss_cons (ds_asg (de_tup (da_cons (de_ix ix_D (de_var 3) (de_ix ix_D (de_ix ix_D (de_var 1) (de_var 4)) de_int)) (da_cons (de_ix ix_D (de_var 3) (de_ix ix_D (de_ix ix_D (de_var 1) (de_var 4)) de_int)) da_nil))) (tg_tp rfl (tgs_v sc_law_labels.nd (tgs_v sc_law_labels.nd tgs_nil))))
  (dss_one (ds_setC [("_law_label", 7)] rfl sc_law_labels.nd (di_val (de_var 3)) (fun _ _ _ _ _ => (tg_v sc_law_labels.nd)) (fun _ _ _ _ _ => dts_nil) (fun _ _ _ _ _ => (de_ix ix_D (DN.de (dn_lst (da_cons (de_var 7) (da_cons (de_b (call_min2D rfl) T.f_min boot_min (da_cons (de_var 5) (da_cons (de_var 6) da_nil))) da_nil)))) (de_t call_intD T.f_int boot_int (da_cons (de_cmp (op_inR hr) (de_var 7) (de_tup (da_cons (de_var 5) (da_cons (de_var 6) da_nil)))) da_nil)))) (blkB_ok (by kernel_rfl)) (by decide)))) dss_nil)))
  (dss_one (ds_ret (de_var 3)))))

theorem sc_law_thinned : FnScope ["_law_nodes", "_law_links", "_law_outage_here", "_law_found", "_law_k", "_law_labels_here"] ["_law_nodes", "_law_links", "_law_outage_here"] (defScope st_law_thinned) := ⟨rfl, rfl, rfl, by decide +kernel, rfl, by decide +kernel, by decide +kernel⟩
def rd_law_thinned (C : Ct) (p_law_labels : DSp) (EX : QXe) : TSd :=
  (sSeq (sAsg (.nm 3) (dVar 2))
  (sSeq (sFor (.nm 4) (iRg1 (dN oLen (dCons (dVar 1) dNil)))
  (sSeq (sAsg (.nm 5) (dCall p_law_labels EX0 (dCons (dVar 0) (dCons (dVar 1) (dCons (dBin oAdd (dVar 3) (dTupRg (rRg2 (dVar 4) (dN oLen (dCons (dVar 1) dNil))))) dNil)))))
  (sIf (dAnd (dTst (dBin (oIn not) (dVar 4) (dVar 3))) (dTst (dBin (oEq id) (dBin oIx (dVar 5) (dBin oIx (dBin oIx (dVar 1) (dVar 4)) (dC (.int 0)))) (dBin oIx (dVar 5) (dBin oIx (dBin oIx (dVar 1) (dVar 4)) (dC (.int 1)))))))
  (sAsg (.nm 3) (dN oTuple (dCons (dNew (nSort (dBin oAdd (dVar 3) (dN oTup (dCons (dVar 4) dNil))))) dNil)))
  sNext)))
  (sRet (dVar 3))))
theorem wk_law_thinned (T : Txt K mg C) {K0 : Nat} {f : Addr} {fd : FuncData} {p_law_labels : DSp} {k_law_labels : Nat} {p : DSp} (mono : MonoP p) (len : ∀ ds m Q E, p ds m Q E → ds.length = 3) (c_law_labels : FnC P w K mg base C "_law_labels" k_law_labels ["_law_nodes", "_law_links", "_law_outage_here"] p_law_labels) (h_law_labels : k_law_labels ≤ K0)
    (F : FunD K "_law_thinned" "_law_thinned" (defArgs st_law_thinned) (defBody st_law_thinned) (defScope st_law_thinned) [] [] f fd)
    (law : ∀ ds m (Q : QD) (E : QX), p ds m Q E → rd_law_thinned C p_law_labels (fun c xs _ m => E c xs m) { nx := fun _ m => Q .non m, rt := Q } (env0 6 ds) m) : DF P w K mg base C (K0 + 1) f fd ["_law_nodes", "_law_links", "_law_outage_here"] p := by
  refine df_of (k := K0) (d := rd_law_thinned C p_law_labels) F sc_law_thinned mono len ?_ law
  intro cdv A outer s H E B EX hr tk
  exact (dss_cons (ds_setV sc_law_thinned.nd (de_var 2))
  (dss_cons (ds_for (passes_of rfl) rfl (di_range1 rfl T.f_range (de_b call_lenD T.f_len boot_len (da_cons (de_var 1) da_nil))) (tg_v sc_law_thinned.nd) (dss_cons (ds_setV sc_law_thinned.nd (de_fn c_law_labels hr (by omega) (da_cons (de_var 0) (da_cons (de_var 1) (da_cons (de_bin op_addD (de_var 3) (de_tupRg T.f_tuple (dr_2 T.f_range (de_var 4) (de_b call_lenD T.f_len boot_len (da_cons (de_var 1) da_nil))))) da_nil))) passD0))
  (dss_one (ds_if (DW.dt (dw_and (dt_cmp (op_ninR hr) (de_var 4) (de_var 3)) (dw_and1 (dt_cmp (op_eqR hr) (de_ix ix_D (de_var 5) (de_ix ix_D (de_ix ix_D (de_var 1) (de_var 4)) de_int)) (de_ix ix_D (de_var 5) (de_ix ix_D (de_ix ix_D (de_var 1) (de_var 4)) de_int)))))) (dss_one (ds_setV sc_law_thinned.nd (de_t call_tupleD T.f_tuple boot_tuple (da_cons (DN.de (dn_sortedR hr T.ns T.f_sorted (de_bin op_addD (de_var 3) (de_tup (da_cons (de_var 4) da_nil))))) da_nil)))) dss_nil))))
  (dss_one (ds_ret (de_var 3)))))

theorem sc_is_pair : FnScope ["value"] ["value"] (defScope st_is_pair) := ⟨rfl, rfl, rfl, by decide +kernel, rfl, by decide +kernel, by decide +kernel⟩
theorem wk_is_pair (T : Txt K mg C) {K0 : Nat} {f : Addr} {fd : FuncData} {p : DSp} (mono : MonoP p) (len : ∀ ds m Q E, p ds m Q E → ds.length = 1)
    (F : FunD K "is_pair" "is_pair" (defArgs st_is_pair) (defBody st_is_pair) (defScope st_is_pair) [] [] f fd)
    (law : ∀ ds m (Q : QD) (E : QX), p ds m Q E → rd_is_pair C  (fun c xs _ m => E c xs m) { nx := fun _ m => Q .non m, rt := Q } (env0 1 ds) m) : DF P w K mg base C (K0 + 1) f fd ["value"] p := by
  refine df_of (k := K0) (d := rd_is_pair C ) F sc_is_pair mono len ?_ law
  intro cdv A outer s H E B EX hr tk
  exact (dss_one (ds_ret (de_and (de_b (call_isiD T.ct) T.f_isinstance boot_isinstance (da_cons (de_var 0) (da_cons (de_tyN T.f_tuple boot_tuple) da_nil))) (de_one (de_cmp (op_eqR hr) (de_b call_lenD T.f_len boot_len (da_cons (de_var 0) da_nil)) de_int)))))

theorem sc_is_whole : FnScope ["value"] ["value"] (defScope st_is_whole) := ⟨rfl, rfl, rfl, by decide +kernel, rfl, by decide +kernel, by decide +kernel⟩
theorem wk_is_whole (T : Txt K mg C) {K0 : Nat} {f : Addr} {fd : FuncData} {p : DSp} (mono : MonoP p) (len : ∀ ds m Q E, p ds m Q E → ds.length = 1)
    (F : FunD K "is_whole" "is_whole" (defArgs st_is_whole) (defBody st_is_whole) (defScope st_is_whole) [] [] f fd)
    (law : ∀ ds m (Q : QD) (E : QX), p ds m Q E → rd_is_whole C  (fun c xs _ m => E c xs m) { nx := fun _ m => Q .non m, rt := Q } (env0 1 ds) m) : DF P w K mg base C (K0 + 1) f fd ["value"] p := by
  refine df_of (k := K0) (d := rd_is_whole C ) F sc_is_whole mono len ?_ law
  intro cdv A outer s H E B EX hr tk
  exact (dss_one (ds_ret (de_and (de_b (call_isiD T.ct) T.f_isinstance boot_isinstance (da_cons (de_var 0) (da_cons (de_tyN T.f_int boot_int) da_nil))) (de_one (de_not (de_b (call_isiD T.ct) T.f_isinstance boot_isinstance (da_cons (de_var 0) (da_cons (de_tyN T.f_bool boot_bool) da_nil))))))))

theorem sc_is_below : FnScope ["value", "bound"] ["value", "bound"] (defScope st_is_below) := ⟨rfl, rfl, rfl, by decide +kernel, rfl, by decide +kernel, by decide +kernel⟩
theorem wk_is_below (T : Txt K mg C) {K0 : Nat} {f : Addr} {fd : FuncData} {p_is_whole : DSp} {k_is_whole : Nat} {p : DSp} (mono : MonoP p) (len : ∀ ds m Q E, p ds m Q E → ds.length = 2) (c_is_whole : FnC P w K mg base C "is_whole" k_is_whole ["value"] p_is_whole) (h_is_whole : k_is_whole ≤ K0)
    (F : FunD K "is_below" "is_below" (defArgs st_is_below) (defBody st_is_below) (defScope st_is_below) [] [] f fd)
    (law : ∀ ds m (Q : QD) (E : QX), p ds m Q E → rd_is_below C p_is_whole (fun c xs _ m => E c xs m) { nx := fun _ m => Q .non m, rt := Q } (env0 2 ds) m) : DF P w K mg base C (K0 + 1) f fd ["value", "bound"] p := by
  refine df_of (k := K0) (d := rd_is_below C p_is_whole) F sc_is_below mono len ?_ law
  intro cdv A outer s H E B EX hr tk
  exact (dss_one (ds_ret (de_and (de_fn c_is_whole hr (by omega) (da_cons (de_var 0) da_nil) passD0) (de_one (de_chain op_leD op_ltD de_int (de_var 0) (de_var 1))))))

theorem sc_Net_nodes : FnScope ["self"] ["self"] (defScope st_Net_nodes) := ⟨rfl, rfl, rfl, by decide +kernel, rfl, by decide +kernel, by decide +kernel⟩
theorem wk_Net_nodes (T : Txt K mg C) {K0 : Nat} {f : Addr} {fd : FuncData} {p : DSp} (mono : MonoP p) (len : ∀ ds m Q E, p ds m Q E → ds.length = 1)
    (F : FunD K "nodes" "Net.nodes" (defArgs st_Net_nodes) (defBody st_Net_nodes) (defScope st_Net_nodes) [] [] f fd)
    (law : ∀ ds m (Q : QD) (E : QX), p ds m Q E → rd_Net_nodes C  (fun c xs _ m => E c xs m) { nx := fun _ m => Q .non m, rt := Q } (env0 1 ds) m) : DF P w K mg base C (K0 + 1) f fd ["self"] p := by
  refine df_of (k := K0) (d := rd_Net_nodes C ) F sc_Net_nodes mono len ?_ law
  intro cdv A outer s H E B EX hr tk
  exact (dss_one (ds_ret (de_fld T.fl_size (de_var 0) rfl)))

theorem sc_Net_at : FnScope ["self", "node", "index", "link"] ["self", "node"] (defScope st_Net_at) := ⟨rfl, rfl, rfl, by decide +kernel, rfl, by decide +kernel, by decide +kernel⟩
theorem wk_Net_at (T : Txt K mg C) {K0 : Nat} {f : Addr} {fd : FuncData} {p : DSp} (mono : MonoP p) (len : ∀ ds m Q E, p ds m Q E → ds.length = 2)
    (F : FunD K "at" "Net.at" (defArgs st_Net_at) (defBody st_Net_at) (defScope st_Net_at) [] [] f fd)
    (law : ∀ ds m (Q : QD) (E : QX), p ds m Q E → rd_Net_at C  (fun c xs _ m => E c xs m) { nx := fun _ m => Q .non m, rt := Q } (env0 4 ds) m) : DF P w K mg base C (K0 + 1) f fd ["self", "node"] p := by
  refine df_of (k := K0) (d := rd_Net_at C ) F sc_Net_at mono len ?_ law
  intro cdv A outer s H E B EX hr tk
  exact (dss_one (ds_ret (de_t call_tupleD T.f_tuple boot_tuple (da_cons (DN.de (dn_comp [("index", 2), ("link", 3)] rfl sc_Net_at.nd (di_enum rfl T.f_enumerate (de_fld T.fl_pairs (de_var 0) rfl)) (fun _ _ _ _ _ => (tg_tp rfl (tgs_v sc_Net_at.nd (tgs_v sc_Net_at.nd tgs_nil)))) (fun _ _ _ _ _ => (dts_one (dt_cmp (op_inR hr) (de_var 1) (de_var 3)))) (fun _ _ _ _ _ => (de_var 2)) (blkB_ok (by kernel_rfl)) (by decide))) da_nil))))

theorem sc_is_key : FnScope ["net", "target", "marks", "value", "node", "came", "mark"] ["net", "target", "marks", "value"] (defScope st_is_key) := ⟨rfl, rfl, rfl, by decide +kernel, rfl, by decide +kernel, by decide +kernel⟩
theorem wk_is_key (T : Txt K mg C) {K0 : Nat} {f : Addr} {fd : FuncData} {p_is_below : DSp} {k_is_below : Nat} {p_Net_nodes : DSp} {k_Net_nodes : Nat} {p_Net_len : DSp} {k_Net_len : Nat} {p_Net_at : DSp} {k_Net_at : Nat} {p : DSp} (mono : MonoP p) (len : ∀ ds m Q E, p ds m Q E → ds.length = 4) (c_is_below : FnC P w K mg base C "is_below" k_is_below ["value", "bound"] p_is_below) (h_is_below : k_is_below ≤ K0) (r_Net_nodes : PrC P w K mg base C 3 "nodes" k_Net_nodes p_Net_nodes) (h_Net_nodes : k_Net_nodes + 1 ≤ K0) (d_Net_len : DunC P w K mg base C 3 "__len__" k_Net_len p_Net_len) (h_Net_len : k_Net_len + 2 ≤ K0) (e_Net_at : MeC P w K mg base C 3 "Net" "at" k_Net_at ["self", "node"] p_Net_at) (h_Net_at : k_Net_at ≤ K0)
    (F : FunD K "is_key" "is_key" (defArgs st_is_key) (defBody st_is_key) (defScope st_is_key) [] [] f fd)
    (law : ∀ ds m (Q : QD) (E : QX), p ds m Q E → rd_is_key C p_is_below p_Net_nodes p_Net_len p_Net_at (fun c xs _ m => E c xs m) { nx := fun _ m => Q .non m, rt := Q } (env0 7 ds) m) : DF P w K mg base C (K0 + 1) f fd ["net", "target", "marks", "value"] p := by
  refine df_of (k := K0) (d := rd_is_key C p_is_below p_Net_nodes p_Net_len p_Net_at) F sc_is_key mono len ?_ law
  intro cdv A outer s H E B EX hr tk
  exact (dss_cons (ds_if (DW.dt (dw_or (dt_not (dt_val (de_b (call_isiD T.ct) T.f_isinstance boot_isinstance (da_cons (de_var 3) (da_cons (de_tyN T.f_tuple boot_tuple) da_nil))))) (dw_or (dt_cmp (op_neR hr) (de_b call_lenD T.f_len boot_len (da_cons (de_var 3) da_nil)) de_int) (dw_or (dt_not (dt_val (de_fn c_is_below hr (by omega) (da_cons (de_ix ix_D (de_var 3) de_int) (da_cons (de_prop r_Net_nodes (de_var 0) hr (by omega)) da_nil)) passD0))) (dw_or1 (dt_cmp (op_eqR hr) (de_ix ix_D (de_var 3) de_int) (de_var 1))))))) (dss_one (ds_ret de_bl)) dss_nil)
  (dss_cons (ds_asg (de_var 3) (tg_tp rfl (tgs_v sc_is_key.nd (tgs_v sc_is_key.nd (tgs_v sc_is_key.nd tgs_nil)))))
  (dss_cons (ds_if (dt_not (dt_val (de_fn c_is_below hr (by omega) (da_cons (de_var 6) (da_cons (de_var 2) da_nil)) passD0))) (dss_one (ds_ret de_bl)) dss_nil)
  (dss_one (ds_ret (de_ifExp (dt_cmp op_isNd (de_var 5) de_non) (de_cmp (op_eqR hr) (de_var 6) de_int) (de_and (de_fn c_is_below hr (by omega) (da_cons (de_var 5) (da_cons (de_b (call_lenI d_Net_len hr (by omega)) T.f_len boot_len (da_cons (de_var 0) da_nil)) da_nil)) passD0) (de_one (de_cmp (op_inR hr) (de_var 5) (de_meth e_Net_at (de_var 0) hr (by omega) (da_cons (de_var 4) da_nil) passD0))))))))))

theorem sc_is_row : FnScope ["net", "node", "marks", "value", "links", "link", "mark", "turn"] ["net", "node", "marks", "value"] (defScope st_is_row) := ⟨rfl, rfl, rfl, by decide +kernel, rfl, by decide +kernel, by decide +kernel⟩
theorem wk_is_row (T : Txt K mg C) {K0 : Nat} {f : Addr} {fd : FuncData} {p_is_pair : DSp} {k_is_pair : Nat} {p_is_below : DSp} {k_is_below : Nat} {p_Net_len : DSp} {k_Net_len : Nat} {p_Net_at : DSp} {k_Net_at : Nat} {p : DSp} (mono : MonoP p) (len : ∀ ds m Q E, p ds m Q E → ds.length = 4) (c_is_pair : FnC P w K mg base C "is_pair" k_is_pair ["value"] p_is_pair) (h_is_pair : k_is_pair ≤ K0) (c_is_below : FnC P w K mg base C "is_below" k_is_below ["value", "bound"] p_is_below) (h_is_below : k_is_below ≤ K0) (d_Net_len : DunC P w K mg base C 3 "__len__" k_Net_len p_Net_len) (h_Net_len : k_Net_len + 2 ≤ K0) (e_Net_at : MeC P w K mg base C 3 "Net" "at" k_Net_at ["self", "node"] p_Net_at) (h_Net_at : k_Net_at ≤ K0)
    (F : FunD K "is_row" "is_row" (defArgs st_is_row) (defBody st_is_row) (defScope st_is_row) [] [] f fd)
    (law : ∀ ds m (Q : QD) (E : QX), p ds m Q E → rd_is_row C p_is_pair p_is_below p_Net_len p_Net_at (fun c xs _ m => E c xs m) { nx := fun _ m => Q .non m, rt := Q } (env0 8 ds) m) : DF P w K mg base C (K0 + 1) f fd ["net", "node", "marks", "value"] p := by
  refine df_of (k := K0) (d := rd_is_row C p_is_pair p_is_below p_Net_len p_Net_at) F sc_is_row mono len ?_ law
  intro cdv A outer s H E B EX hr tk
  exact (dss_cons (ds_if (DW.dt (dw_or (dt_not (dt_val (de_b (call_isiD T.ct) T.f_isinstance boot_isinstance (da_cons (de_var 3) (da_cons (de_tyN T.f_tuple boot_tuple) da_nil))))) (dw_or1 (dt_not (dt_val (de_b (call_allD rfl) T.f_all boot_all (da_cons (DN.de (dn_comp [("turn", 7)] rfl sc_is_row.nd (di_val (de_var 3)) (fun _ _ _ _ _ => (tg_v sc_is_row.nd)) (fun _ _ _ _ _ => dts_nil) (fun _ _ _ _ _ => (de_fn c_is_pair hr (by omega) (da_cons (de_var 7) da_nil) passD0)) (blkB_ok (by kernel_rfl)) (by decide))) da_nil))))))) (dss_one (ds_ret de_bl)) dss_nil)
  (dss_cons (ds_if (dt_not (dt_val (de_b (call_allD rfl) T.f_all boot_all (da_cons (DN.de (dn_comp [("link", 5), ("mark", 6)] rfl sc_is_row.nd (di_val (de_var 3)) (fun _ _ _ _ _ => (tg_tp rfl (tgs_v sc_is_row.nd (tgs_v sc_is_row.nd tgs_nil)))) (fun _ _ _ _ _ => dts_nil) (fun _ _ _ _ _ => (de_and (de_fn c_is_below hr (by omega) (da_cons (de_var 5) (da_cons (de_b (call_lenI d_Net_len hr (by omega)) T.f_len boot_len (da_cons (de_var 0) da_nil)) da_nil)) passD0) (de_one (de_fn c_is_below hr (by omega) (da_cons (de_var 6) (da_cons (de_var 2) da_nil)) passD0)))) (blkB_ok (by kernel_rfl)) (by decide))) da_nil)))) (dss_one (ds_ret de_bl)) dss_nil)
  (dss_cons (ds_setC [("link", 5), ("mark", 6)] rfl sc_is_row.nd (di_val (de_var 3)) (fun _ _ _ _ _ => (tg_tp rfl (tgs_v sc_is_row.nd (tgs_v sc_is_row.nd tgs_nil)))) (fun _ _ _ _ _ => dts_nil) (fun _ _ _ _ _ => (de_var 5)) (blkB_ok (by kernel_rfl)) (by decide))
  (dss_one (ds_ret (de_and (de_cmp (op_eqR hr) (de_lenSet T.f_len T.f_set (de_var 4)) (de_b call_lenD T.f_len boot_len (da_cons (de_var 4) da_nil))) (de_one (de_b (call_allD rfl) T.f_all boot_all (da_cons (DN.de (dn_comp [("link", 5)] rfl sc_is_row.nd (di_val (de_var 4)) (fun _ _ _ _ _ => (tg_v sc_is_row.nd)) (fun _ _ _ _ _ => dts_nil) (fun _ _ _ _ _ => (de_cmp (op_inR hr) (de_var 5) (de_meth e_Net_at (de_var 0) hr (by omega) (da_cons (de_var 1) da_nil) passD0))) (blkB_ok (by kernel_rfl)) (by decide))) da_nil)))))))))

theorem sc_book_error : FnScope ["net", "target", "marks", "rows", "seen", "index", "pair"] ["net", "target", "marks", "rows"] (defScope st_book_error) := ⟨rfl, rfl, rfl, by decide +kernel, rfl, by decide +kernel, by decide +kernel⟩
theorem wk_book_error (T : Txt K mg C) {K0 : Nat} {f : Addr} {fd : FuncData} {p_is_pair : DSp} {k_is_pair : Nat} {p_is_key : DSp} {k_is_key : Nat} {p_is_row : DSp} {k_is_row : Nat} {p : DSp} (mono : MonoP p) (len : ∀ ds m Q E, p ds m Q E → ds.length = 4) (c_is_pair : FnC P w K mg base C "is_pair" k_is_pair ["value"] p_is_pair) (h_is_pair : k_is_pair ≤ K0) (c_is_key : FnC P w K mg base C "is_key" k_is_key ["net", "target", "marks", "value"] p_is_key) (h_is_key : k_is_key ≤ K0) (c_is_row : FnC P w K mg base C "is_row" k_is_row ["net", "node", "marks", "value"] p_is_row) (h_is_row : k_is_row ≤ K0)
    (F : FunD K "book_error" "book_error" (defArgs st_book_error) (defBody st_book_error) (defScope st_book_error) [] [] f fd)
    (law : ∀ ds m (Q : QD) (E : QX), p ds m Q E → rd_book_error C p_is_pair p_is_key p_is_row (fun c xs _ m => E c xs m) { nx := fun _ m => Q .non m, rt := Q } (env0 7 ds) m) : DF P w K mg base C (K0 + 1) f fd ["net", "target", "marks", "rows"] p := by
  refine df_of (k := K0) (d := rd_book_error C p_is_pair p_is_key p_is_row) F sc_book_error mono len ?_ law
  intro cdv A outer s H E B EX hr tk
  exact (dss_cons (ds_if (dt_not (dt_val (de_b (call_isiD T.ct) T.f_isinstance boot_isinstance (da_cons (de_var 3) (da_cons (de_tyN T.f_tuple boot_tuple) da_nil))))) (dss_one (ds_ret (de_tup (da_cons de_non (da_cons de_str da_nil))))) dss_nil)
  (dss_cons (ds_setNV sc_book_error.nd (dn_lst da_nil))
  (dss_cons (ds_for (passes_of rfl) rfl (di_enum rfl T.f_enumerate (de_var 3)) (tg_tp rfl (tgs_v sc_book_error.nd (tgs_v sc_book_error.nd tgs_nil))) (dss_cons (ds_if (DW.dt (dw_or (dt_not (dt_val (de_fn c_is_pair hr (by omega) (da_cons (de_var 6) da_nil) passD0))) (dw_or1 (dt_not (dt_val (de_fn c_is_key hr (by omega) (da_cons (de_var 0) (da_cons (de_var 1) (da_cons (de_var 2) (da_cons (de_ix ix_D (de_var 6) de_int) da_nil)))) passD0)))))) (dss_one (ds_ret (de_tup (da_cons (de_var 5) (da_cons de_str da_nil))))) dss_nil)
  (dss_cons (ds_if (dt_cmp (op_inR hr) (de_ix ix_D (de_var 6) de_int) (de_var 4)) (dss_one (ds_ret (de_tup (da_cons (de_var 5) (da_cons de_str da_nil))))) dss_nil)
  (dss_cons (ds_if (dt_not (dt_val (de_fn c_is_row hr (by omega) (da_cons (de_var 0) (da_cons (de_ix ix_D (de_ix ix_D (de_var 6) de_int) de_int) (da_cons (de_var 2) (da_cons (de_ix ix_D (de_var 6) de_int) da_nil)))) passD0))) (dss_one (ds_ret (de_tup (da_cons (de_var 5) (da_cons de_str da_nil))))) dss_nil)
  (dss_one (ds_app (de_var 4) (de_ix ix_D (de_var 6) de_int)))))))
  (dss_one (ds_ret de_non)))))

theorem sc_Book_init : FnScope ["self", "net", "target", "marks", "rows", "error", "key", "row", "turn"] ["self", "net", "target", "marks", "rows"] (defScope st_Book_init) := ⟨rfl, rfl, rfl, by decide +kernel, rfl, by decide +kernel, by decide +kernel⟩
theorem wk_Book_init (T : Txt K mg C) {K0 : Nat} {f : Addr} {fd : FuncData} {p_book_error : DSp} {k_book_error : Nat} {p : DSp} (mono : MonoP p) (len : ∀ ds m Q E, p ds m Q E → ds.length = 5) (c_book_error : FnC P w K mg base C "book_error" k_book_error ["net", "target", "marks", "rows"] p_book_error) (h_book_error : k_book_error ≤ K0) (x_BadBook : XcC P w K mg base C "BadBook" 5 ["error"]) (h_BadBook : 2 ≤ K0)
    (F : FunD K "__init__" "Book.__init__" (defArgs st_Book_init) (defBody st_Book_init) (defScope st_Book_init) [] [] f fd)
    (law : ∀ ds m (Q : QD) (E : QX), p ds m Q E → rd_Book_init C p_book_error (fun c xs _ m => E c xs m) { nx := fun _ m => Q .non m, rt := Q } (env0 9 ds) m) : DF P w K mg base C (K0 + 1) f fd ["self", "net", "target", "marks", "rows"] p := by
  refine df_of (k := K0) (d := rd_Book_init C p_book_error) F sc_Book_init mono len ?_ law
  intro cdv A outer s H E B EX hr tk
  exact (dss_cons (ds_setV sc_Book_init.nd (de_fn c_book_error hr (by omega) (da_cons (de_var 1) (da_cons (de_var 2) (da_cons (de_var 3) (da_cons (de_var 4) da_nil)))) passD0))
  (dss_cons (ds_if (dt_cmp op_notNd (de_var 5) de_non) (dss_one (ds_raise rfl tk (dm_x x_BadBook hr (by omega) (da_cons (de_var 5) da_nil)))) dss_nil)
  (dss_cons (ds_fld T.fl_ground (de_var 0) (de_var 1))
  (dss_cons (ds_fld T.fl_goal (de_var 0) (de_var 2))
  (dss_cons (ds_fld T.fl_width (de_var 0) (de_var 3))
  (dss_cons (ds_fld T.fl_told (de_var 0) (de_dxB [("key", 6), ("row", 7)] hr rfl sc_Book_init.nd (di_val (de_var 4)) (fun _ _ _ _ _ => (tg_tp rfl (tgs_v sc_Book_init.nd (tgs_v sc_Book_init.nd tgs_nil)))) (fun _ _ _ _ _ => (dts_one (dt_cmp (op_neR hr) (de_var 7) (de_tup da_nil)))) (fun _ _ _ _ _ => (de_var 6)) (fun _ _ _ _ _ => (de_var 7)) (blkB_ok (by kernel_rfl)) (by decide)))
  (dss_one (ds_fld T.fl_turns (de_var 0) (DN.de (dn_comp2 [("key", 6), ("row", 7), ("turn", 8)] [8] rfl sc_Book_init.nd (di_val (de_var 4)) (fun _ _ _ _ _ => (tg_tp rfl (tgs_v sc_Book_init.nd (tgs_v sc_Book_init.nd tgs_nil)))) (fun _ _ _ _ _ => dts_nil) (fun _ _ _ _ _ => (di_val (de_var 7))) (fun _ _ _ _ _ => (tg_v sc_Book_init.nd)) (fun _ _ _ _ _ => dts_nil) (fun _ _ _ _ _ => (de_var 8)) (blkB_ok (by kernel_rfl)) (by decide) (by decide) (by decide)))))))))))

theorem sc_keys_of : FnScope ["net", "target", "marks", "found", "node", "came", "mark"] ["net", "target", "marks"] (defScope st_keys_of) := ⟨rfl, rfl, rfl, by decide +kernel, rfl, by decide +kernel, by decide +kernel⟩
theorem wk_keys_of (T : Txt K mg C) {K0 : Nat} {f : Addr} {fd : FuncData} {p_Net_nodes : DSp} {k_Net_nodes : Nat} {p_Net_at : DSp} {k_Net_at : Nat} {p : DSp} (mono : MonoP p) (len : ∀ ds m Q E, p ds m Q E → ds.length = 3) (r_Net_nodes : PrC P w K mg base C 3 "nodes" k_Net_nodes p_Net_nodes) (h_Net_nodes : k_Net_nodes + 1 ≤ K0) (e_Net_at : MeC P w K mg base C 3 "Net" "at" k_Net_at ["self", "node"] p_Net_at) (h_Net_at : k_Net_at ≤ K0)
    (F : FunD K "keys_of" "keys_of" (defArgs st_keys_of) (defBody st_keys_of) (defScope st_keys_of) [] [] f fd)
    (law : ∀ ds m (Q : QD) (E : QX), p ds m Q E → rd_keys_of C  p_Net_nodes p_Net_at (fun c xs _ m => E c xs m) { nx := fun _ m => Q .non m, rt := Q } (env0 7 ds) m) : DF P w K mg base C (K0 + 1) f fd ["net", "target", "marks"] p := by
  refine df_of (k := K0) (d := rd_keys_of C  p_Net_nodes p_Net_at) F sc_keys_of mono len ?_ law
  intro cdv A outer s H E B EX hr tk
  exact (dss_cons (ds_setNV sc_keys_of.nd (dn_lst da_nil))
  (dss_cons (ds_for (passes_of rfl) rfl (di_range1 rfl T.f_range (de_prop r_Net_nodes (de_var 0) hr (by omega))) (tg_v sc_keys_of.nd) (dss_one (ds_if (dt_cmp (op_neR hr) (de_var 4) (de_var 1)) (dss_cons (ds_app (de_var 3) (de_tup (da_cons (de_var 4) (da_cons de_non (da_cons de_int da_nil)))))
  (dss_one (ds_ext (de_var 3) (DN.de (dn_comp2 [("came", 5), ("mark", 6)] [6] rfl sc_keys_of.nd (di_val (de_meth e_Net_at (de_var 0) hr (by omega) (da_cons (de_var 4) da_nil) passD0)) (fun _ _ _ _ _ => (tg_v sc_keys_of.nd)) (fun _ _ _ _ _ => dts_nil) (fun _ _ _ _ _ => (di_range1 rfl T.f_range (de_var 2))) (fun _ _ _ _ _ => (tg_v sc_keys_of.nd)) (fun _ _ _ _ _ => dts_nil) (fun _ _ _ _ _ => (de_tup (da_cons (de_var 4) (da_cons (de_var 5) (da_cons (de_var 6) da_nil))))) (blkB_ok (by kernel_rfl)) (by decide) (by decide) (by decide)))))) dss_nil)))
  (dss_one (ds_keep 3 (ds_ret (de_var 3))))))

theorem sc_Book_turning : FnScope ["cls", "net", "target", "rows", "node", "came", "mark", "links", "place", "link"] ["cls", "net", "target"] (defScope st_Book_turning) := ⟨rfl, rfl, rfl, by decide +kernel, rfl, by decide +kernel, by decide +kernel⟩
theorem wk_Book_turning (T : Txt K mg C) {K0 : Nat} {f : Addr} {fd : FuncData} {p_keys_of : DSp} {k_keys_of : Nat} {p_Book_init : DSp} {k_Book : Nat} {p_Net_at : DSp} {k_Net_at : Nat} {p : DSp} (mono : MonoP p) (len : ∀ ds m Q E, p ds m Q E → ds.length = 3) (c_keys_of : FnC P w K mg base C "keys_of" k_keys_of ["net", "target", "marks"] p_keys_of) (h_keys_of : k_keys_of ≤ K0) (m_Book : MkC P w K mg base C "Book" 22 5 k_Book ["self", "net", "target", "marks", "rows"] p_Book_init) (h_Book : k_Book + 1 ≤ K0) (e_Net_at : MeC P w K mg base C 3 "Net" "at" k_Net_at ["self", "node"] p_Net_at) (h_Net_at : k_Net_at ≤ K0)
    (F : FunD K "turning" "Book.turning" (defArgs st_Book_turning) (defBody st_Book_turning) (defScope st_Book_turning) [] [] f fd)
    (law : ∀ ds m (Q : QD) (E : QX), p ds m Q E → rd_Book_turning C p_keys_of p_Book_init p_Net_at (fun c xs _ m => E c xs m) { nx := fun _ m => Q .non m, rt := Q } (env0 10 ds) m) : DF P w K mg base C (K0 + 1) f fd ["cls", "net", "target"] p := by
  refine df_of (k := K0) (d := rd_Book_turning C p_keys_of p_Book_init p_Net_at) F sc_Book_turning mono len ?_ law
  intro cdv A outer s H E B EX hr tk
  exact (dss_cons (ds_setNV sc_Book_turning.nd (dn_lst da_nil))
  (dss_cons (ds_for (passes_of rfl) rfl (di_val (de_fn c_keys_of hr (by omega) (da_cons (de_var 1) (da_cons (de_var 2) (da_cons de_int da_nil))) passD0)) (tg_tp rfl (tgs_v sc_Book_turning.nd (tgs_v sc_Book_turning.nd (tgs_v sc_Book_turning.nd tgs_nil)))) (dss_cons (ds_setV sc_Book_turning.nd (DN.de (dn_list rfl T.f_list boot_list (de_meth e_Net_at (de_var 1) hr (by omega) (da_cons (de_var 4) da_nil) passD0))))
  (dss_cons (ds_if (dt_cmp op_notNd (de_var 5) de_non) (dss_cons (ds_setV sc_Book_turning.nd (de_bin op_addD (de_idx1 (de_var 7) (de_var 5)) de_int))
  (dss_one (ds_setV sc_Book_turning.nd (de_bin op_addD (de_sl (de_var 7) (do_some (de_var 8)) do_none) (de_sl (de_var 7) do_none (do_some (de_var 8))))))) dss_nil)
  (dss_one (ds_app (de_var 3) (de_tup (da_cons (de_tup (da_cons (de_var 4) (da_cons (de_var 5) (da_cons (de_var 6) da_nil)))) (da_cons (de_t call_tupleD T.f_tuple boot_tuple (da_cons (DN.de (dn_comp [("link", 9)] rfl sc_Book_turning.nd (di_val (de_var 7)) (fun _ _ _ _ _ => (tg_v sc_Book_turning.nd)) (fun _ _ _ _ _ => dts_nil) (fun _ _ _ _ _ => (de_tup (da_cons (de_var 9) (da_cons de_int da_nil)))) (blkB_ok (by kernel_rfl)) (by decide))) da_nil)) da_nil))))))))
  (dss_one (ds_keep 3 (ds_ret (de_mkV m_Book hr (by omega) (da_cons (de_var 1) (da_cons (de_var 2) (da_cons de_int (da_cons (de_t call_tupleD T.f_tuple boot_tuple (da_cons (de_var 3) da_nil)) da_nil)))) passD0))))))

theorem sc_is_link : FnScope ["value", "nodes"] ["value", "nodes"] (defScope st_is_link) := ⟨rfl, rfl, rfl, by decide +kernel, rfl, by decide +kernel, by decide +kernel⟩
theorem wk_is_link (T : Txt K mg C) {K0 : Nat} {f : Addr} {fd : FuncData} {p_is_pair : DSp} {k_is_pair : Nat} {p_is_below : DSp} {k_is_below : Nat} {p : DSp} (mono : MonoP p) (len : ∀ ds m Q E, p ds m Q E → ds.length = 2) (c_is_pair : FnC P w K mg base C "is_pair" k_is_pair ["value"] p_is_pair) (h_is_pair : k_is_pair ≤ K0) (c_is_below : FnC P w K mg base C "is_below" k_is_below ["value", "bound"] p_is_below) (h_is_below : k_is_below ≤ K0)
    (F : FunD K "is_link" "is_link" (defArgs st_is_link) (defBody st_is_link) (defScope st_is_link) [] [] f fd)
    (law : ∀ ds m (Q : QD) (E : QX), p ds m Q E → rd_is_link C p_is_pair p_is_below (fun c xs _ m => E c xs m) { nx := fun _ m => Q .non m, rt := Q } (env0 2 ds) m) : DF P w K mg base C (K0 + 1) f fd ["value", "nodes"] p := by
  refine df_of (k := K0) (d := rd_is_link C p_is_pair p_is_below) F sc_is_link mono len ?_ law
  intro cdv A outer s H E B EX hr tk
  exact (dss_cons (ds_if (DW.dt (dw_or (dt_not (dt_val (de_fn c_is_pair hr (by omega) (da_cons (de_var 0) da_nil) passD0))) (dw_or (dt_not (dt_val (de_fn c_is_below hr (by omega) (da_cons (de_ix ix_D (de_var 0) de_int) (da_cons (de_var 1) da_nil)) passD0))) (dw_or1 (dt_not (dt_val (de_fn c_is_below hr (by omega) (da_cons (de_ix ix_D (de_var 0) de_int) (da_cons (de_var 1) da_nil)) passD0))))))) (dss_one (ds_ret de_bl)) dss_nil)
  (dss_one (ds_ret (de_cmp (op_neR hr) (de_ix ix_D (de_var 0) de_int) (de_ix ix_D (de_var 0) de_int)))))

theorem sc_net_error : FnScope ["nodes", "links", "index", "link", "other"] ["nodes", "links"] (defScope st_net_error) := ⟨rfl, rfl, rfl, by decide +kernel, rfl, by decide +kernel, by decide +kernel⟩
theorem wk_net_error (T : Txt K mg C) {K0 : Nat} {f : Addr} {fd : FuncData} {p_is_whole : DSp} {k_is_whole : Nat} {p_is_link : DSp} {k_is_link : Nat} {p : DSp} (mono : MonoP p) (len : ∀ ds m Q E, p ds m Q E → ds.length = 2) (c_is_whole : FnC P w K mg base C "is_whole" k_is_whole ["value"] p_is_whole) (h_is_whole : k_is_whole ≤ K0) (c_is_link : FnC P w K mg base C "is_link" k_is_link ["value", "nodes"] p_is_link) (h_is_link : k_is_link ≤ K0)
    (F : FunD K "net_error" "net_error" (defArgs st_net_error) (defBody st_net_error) (defScope st_net_error) [] [] f fd)
    (law : ∀ ds m (Q : QD) (E : QX), p ds m Q E → rd_net_error C p_is_whole p_is_link (fun c xs _ m => E c xs m) { nx := fun _ m => Q .non m, rt := Q } (env0 5 ds) m) : DF P w K mg base C (K0 + 1) f fd ["nodes", "links"] p := by
  refine df_of (k := K0) (d := rd_net_error C p_is_whole p_is_link) F sc_net_error mono len ?_ law
  intro cdv A outer s H E B EX hr tk
  exact (dss_cons (ds_if (DW.dt (dw_or (dt_not (dt_val (de_fn c_is_whole hr (by omega) (da_cons (de_var 0) da_nil) passD0))) (dw_or1 (dt_not (dt_chain op_leD op_leD de_int (de_var 0) (de_gInt T.c_MAX_NODES)))))) (dss_one (ds_ret (de_tup (da_cons de_non (da_cons de_str da_nil))))) dss_nil)
  (dss_cons (ds_if (DW.dt (dw_or (dt_not (dt_val (de_b (call_isiD T.ct) T.f_isinstance boot_isinstance (da_cons (de_var 1) (da_cons (de_tyN T.f_tuple boot_tuple) da_nil))))) (dw_or1 (dt_cmp op_gtD (de_b call_lenD T.f_len boot_len (da_cons (de_var 1) da_nil)) (de_gInt T.c_MAX_LINKS))))) (dss_one (ds_ret (de_tup (da_cons de_non (da_cons de_str da_nil))))) dss_nil)
  (dss_cons (ds_for (passes_of rfl) rfl (di_enum rfl T.f_enumerate (de_var 1)) (tg_tp rfl (tgs_v sc_net_error.nd (tgs_v sc_net_error.nd tgs_nil))) (dss_cons (ds_if (dt_not (dt_val (de_fn c_is_link hr (by omega) (da_cons (de_var 3) (da_cons (de_var 0) da_nil)) passD0))) (dss_one (ds_ret (de_tup (da_cons (de_var 2) (da_cons de_str da_nil))))) dss_nil)
  (dss_one (ds_if (dt_cmp (op_inR hr) (DN.de (dn_sortedR hr T.ns T.f_sorted (de_var 3))) (DN.de (dn_comp [("other", 4)] rfl sc_net_error.nd (di_val (de_sl (de_var 1) do_none (do_some (de_var 2)))) (fun _ _ _ _ _ => (tg_v sc_net_error.nd)) (fun _ _ _ _ _ => dts_nil) (fun _ _ _ _ _ => (DN.de (dn_sortedR hr T.ns T.f_sorted (de_var 4)))) (blkB_ok (by kernel_rfl)) (by decide)))) (dss_one (ds_ret (de_tup (da_cons (de_var 2) (da_cons de_str da_nil))))) dss_nil))))
  (dss_one (ds_ret de_non)))))

theorem sc_Net_init : FnScope ["self", "nodes", "links", "error", "link"] ["self", "nodes", "links"] (defScope st_Net_init) := ⟨rfl, rfl, rfl, by decide +kernel, rfl, by decide +kernel, by decide +kernel⟩
theorem wk_Net_init (T : Txt K mg C) {K0 : Nat} {f : Addr} {fd : FuncData} {p_net_error : DSp} {k_net_error : Nat} {p : DSp} (mono : MonoP p) (len : ∀ ds m Q E, p ds m Q E → ds.length = 3) (c_net_error : FnC P w K mg base C "net_error" k_net_error ["nodes", "links"] p_net_error) (h_net_error : k_net_error ≤ K0) (x_BadNet : XcC P w K mg base C "BadNet" 2 ["error"]) (h_BadNet : 2 ≤ K0)
    (F : FunD K "__init__" "Net.__init__" (defArgs st_Net_init) (defBody st_Net_init) (defScope st_Net_init) [] [] f fd)
    (law : ∀ ds m (Q : QD) (E : QX), p ds m Q E → rd_Net_init C p_net_error (fun c xs _ m => E c xs m) { nx := fun _ m => Q .non m, rt := Q } (env0 5 ds) m) : DF P w K mg base C (K0 + 1) f fd ["self", "nodes", "links"] p := by
  refine df_of (k := K0) (d := rd_Net_init C p_net_error) F sc_Net_init mono len ?_ law
  intro cdv A outer s H E B EX hr tk
  exact (dss_cons (ds_setV sc_Net_init.nd (de_fn c_net_error hr (by omega) (da_cons (de_var 1) (da_cons (de_var 2) da_nil)) passD0))
  (dss_cons (ds_if (dt_cmp op_notNd (de_var 3) de_non) (dss_one (ds_raise rfl tk (dm_x x_BadNet hr (by omega) (da_cons (de_var 3) da_nil)))) dss_nil)
  (dss_cons (ds_fld T.fl_size (de_var 0) (de_var 1))
  (dss_one (ds_fld T.fl_pairs (de_var 0) (de_t call_tupleD T.f_tuple boot_tuple (da_cons (DN.de (dn_sortedR hr T.ns T.f_sorted (DN.de (dn_comp [("link", 4)] rfl sc_Net_init.nd (di_val (de_var 2)) (fun _ _ _ _ _ => (tg_v sc_Net_init.nd)) (fun _ _ _ _ _ => dts_nil) (fun _ _ _ _ _ => (de_tup (da_cons (de_b (call_minD rfl) T.f_min boot_min (da_cons (de_var 4) da_nil)) (da_cons (de_b (call_maxD rfl) T.f_max boot_max (da_cons (de_var 4) da_nil)) da_nil)))) (blkB_ok (by kernel_rfl)) (by decide))))) da_nil)))))))

theorem sc_Book_target : FnScope ["self"] ["self"] (defScope st_Book_target) := ⟨rfl, rfl, rfl, by decide +kernel, rfl, by decide +kernel, by decide +kernel⟩
theorem wk_Book_target (T : Txt K mg C) {K0 : Nat} {f : Addr} {fd : FuncData} {p : DSp} (mono : MonoP p) (len : ∀ ds m Q E, p ds m Q E → ds.length = 1)
    (F : FunD K "target" "Book.target" (defArgs st_Book_target) (defBody st_Book_target) (defScope st_Book_target) [] [] f fd)
    (law : ∀ ds m (Q : QD) (E : QX), p ds m Q E → rd_Book_target C  (fun c xs _ m => E c xs m) { nx := fun _ m => Q .non m, rt := Q } (env0 1 ds) m) : DF P w K mg base C (K0 + 1) f fd ["self"] p := by
  refine df_of (k := K0) (d := rd_Book_target C ) F sc_Book_target mono len ?_ law
  intro cdv A outer s H E B EX hr tk
  exact (dss_one (ds_ret (de_fld T.fl_goal (de_var 0) rfl)))

theorem sc_Book_net : FnScope ["self"] ["self"] (defScope st_Book_net) := ⟨rfl, rfl, rfl, by decide +kernel, rfl, by decide +kernel, by decide +kernel⟩
theorem wk_Book_net (T : Txt K mg C) {K0 : Nat} {f : Addr} {fd : FuncData} {p : DSp} (mono : MonoP p) (len : ∀ ds m Q E, p ds m Q E → ds.length = 1)
    (F : FunD K "net" "Book.net" (defArgs st_Book_net) (defBody st_Book_net) (defScope st_Book_net) [] [] f fd)
    (law : ∀ ds m (Q : QD) (E : QX), p ds m Q E → rd_Book_net C  (fun c xs _ m => E c xs m) { nx := fun _ m => Q .non m, rt := Q } (env0 1 ds) m) : DF P w K mg base C (K0 + 1) f fd ["self"] p := by
  refine df_of (k := K0) (d := rd_Book_net C ) F sc_Book_net mono len ?_ law
  intro cdv A outer s H E B EX hr tk
  exact (dss_one (ds_ret (de_fld T.fl_ground (de_var 0) rfl)))

theorem sc_Book_row_at : FnScope ["self", "key"] ["self", "key"] (defScope st_Book_row_at) := ⟨rfl, rfl, rfl, by decide +kernel, rfl, by decide +kernel, by decide +kernel⟩
theorem wk_Book_row_at (T : Txt K mg C) {K0 : Nat} {f : Addr} {fd : FuncData} {p : DSp} (mono : MonoP p) (len : ∀ ds m Q E, p ds m Q E → ds.length = 2)
    (F : FunD K "row_at" "Book.row_at" (defArgs st_Book_row_at) (defBody st_Book_row_at) (defScope st_Book_row_at) [] [] f fd)
    (law : ∀ ds m (Q : QD) (E : QX), p ds m Q E → rd_Book_row_at C  (fun c xs _ m => E c xs m) { nx := fun _ m => Q .non m, rt := Q } (env0 2 ds) m) : DF P w K mg base C (K0 + 1) f fd ["self", "key"] p := by
  refine df_of (k := K0) (d := rd_Book_row_at C ) F sc_Book_row_at mono len ?_ law
  intro cdv A outer s H E B EX hr tk
  exact (dss_one (ds_ret (de_getT hr (de_fld T.fl_told (de_var 0) rfl) (da_cons (de_var 1) (da_cons (de_tup da_nil) da_nil)))))

theorem sc_Net_far : FnScope ["self", "link", "node", "one", "other"] ["self", "link", "node"] (defScope st_Net_far) := ⟨rfl, rfl, rfl, by decide +kernel, rfl, by decide +kernel, by decide +kernel⟩
theorem wk_Net_far (T : Txt K mg C) {K0 : Nat} {f : Addr} {fd : FuncData} {p : DSp} (mono : MonoP p) (len : ∀ ds m Q E, p ds m Q E → ds.length = 3)
    (F : FunD K "far" "Net.far" (defArgs st_Net_far) (defBody st_Net_far) (defScope st_Net_far) [] [] f fd)
    (law : ∀ ds m (Q : QD) (E : QX), p ds m Q E → rd_Net_far C  (fun c xs _ m => E c xs m) { nx := fun _ m => Q .non m, rt := Q } (env0 5 ds) m) : DF P w K mg base C (K0 + 1) f fd ["self", "link", "node"] p := by
  refine df_of (k := K0) (d := rd_Net_far C ) F sc_Net_far mono len ?_ law
  intro cdv A outer s H E B EX hr tk
  exact (dss_cons (ds_asg (de_ix ix_D (de_fld T.fl_pairs (de_var 0) rfl) (de_var 1)) (tg_tp rfl (tgs_v sc_Net_far.nd (tgs_v sc_Net_far.nd tgs_nil))))
  (dss_one (ds_ret (de_ifExp (dt_cmp (op_eqR hr) (de_var 2) (de_var 3)) (de_var 4) (de_var 3)))))

theorem sc_next_stop : FnScope ["book", "stop", "outage", "link", "mark"] ["book", "stop", "outage"] (defScope st_next_stop) := ⟨rfl, rfl, rfl, by decide +kernel, rfl, by decide +kernel, by decide +kernel⟩
theorem wk_next_stop (T : Txt K mg C) {K0 : Nat} {f : Addr} {fd : FuncData} {p_Book_row_at : DSp} {k_Book_row_at : Nat} {p_Net_far : DSp} {k_Net_far : Nat} {p_Book_net : DSp} {k_Book_net : Nat} {p : DSp} (mono : MonoP p) (len : ∀ ds m Q E, p ds m Q E → ds.length = 3) (e_Book_row_at : MeC P w K mg base C 22 "Book" "row_at" k_Book_row_at ["self", "key"] p_Book_row_at) (h_Book_row_at : k_Book_row_at ≤ K0) (e_Net_far : MeC P w K mg base C 3 "Net" "far" k_Net_far ["self", "link", "node"] p_Net_far) (h_Net_far : k_Net_far ≤ K0) (r_Book_net : PrC P w K mg base C 22 "net" k_Book_net p_Book_net) (h_Book_net : k_Book_net + 1 ≤ K0)
    (F : FunD K "next_stop" "next_stop" (defArgs st_next_stop) (defBody st_next_stop) (defScope st_next_stop) [] [] f fd)
    (law : ∀ ds m (Q : QD) (E : QX), p ds m Q E → rd_next_stop C  p_Book_row_at p_Net_far p_Book_net (fun c xs _ m => E c xs m) { nx := fun _ m => Q .non m, rt := Q } (env0 5 ds) m) : DF P w K mg base C (K0 + 1) f fd ["book", "stop", "outage"] p := by
  refine df_of (k := K0) (d := rd_next_stop C  p_Book_row_at p_Net_far p_Book_net) F sc_next_stop mono len ?_ law
  intro cdv A outer s H E B EX hr tk
  exact (dss_cons (ds_for (passes_of rfl) rfl (di_val (de_meth e_Book_row_at (de_var 0) hr (by omega) (da_cons (de_var 1) da_nil) passD0)) (tg_tp rfl (tgs_v sc_next_stop.nd (tgs_v sc_next_stop.nd tgs_nil))) (dss_one (ds_if (dt_cmp (op_ninR hr) (de_var 3) (de_var 2)) (dss_one (ds_ret (de_tup (da_cons (de_meth e_Net_far (de_prop r_Book_net (de_var 0) hr (by omega)) hr (by omega) (da_cons (de_var 3) (da_cons (de_ix ix_D (de_var 1) de_int) da_nil)) passD0) (da_cons (de_var 3) (da_cons (de_var 4) da_nil)))))) dss_nil)))
  (dss_one (ds_ret de_non)))

theorem sc_walked : FnScope ["book", "start", "outage", "found", "stop"] ["book", "start", "outage"] (defScope st_walked) := ⟨rfl, rfl, rfl, by decide +kernel, rfl, by decide +kernel, by decide +kernel⟩
theorem wk_walked (T : Txt K mg C) {K0 : Nat} {f : Addr} {fd : FuncData} {p_next_stop : DSp} {k_next_stop : Nat} {p_Book_target : DSp} {k_Book_target : Nat} {p : DSp} (mono : MonoP p) (len : ∀ ds m Q E, p ds m Q E → ds.length = 3) (c_next_stop : FnC P w K mg base C "next_stop" k_next_stop ["book", "stop", "outage"] p_next_stop) (h_next_stop : k_next_stop ≤ K0) (r_Book_target : PrC P w K mg base C 22 "target" k_Book_target p_Book_target) (h_Book_target : k_Book_target + 1 ≤ K0)
    (F : FunD K "walked" "walked" (defArgs st_walked) (defBody st_walked) (defScope st_walked) [] [] f fd)
    (law : ∀ ds m (Q : QD) (E : QX), p ds m Q E → rd_walked C p_next_stop p_Book_target (fun c xs _ m => E c xs m) { nx := fun _ m => Q .non m, rt := Q } (env0 5 ds) m) : DF P w K mg base C (K0 + 1) f fd ["book", "start", "outage"] p := by
  refine df_of (k := K0) (d := rd_walked C p_next_stop p_Book_target) F sc_walked mono len ?_ law
  intro cdv A outer s H E B EX hr tk
  exact (dss_cons (ds_setNV sc_walked.nd (dn_lst (da_cons (de_tup (da_cons (de_var 1) (da_cons de_non (da_cons de_int da_nil)))) da_nil)))
  (dss_cons (ds_while (passes_of rfl) (dt_cmp (op_neR hr) (de_ix ix_D (de_ix ix_D (de_var 3) (de_un un_negD de_int)) de_int) (de_prop r_Book_target (de_var 0) hr (by omega))) (dss_cons (ds_setV sc_walked.nd (de_fn c_next_stop hr (by omega) (da_cons (de_var 0) (da_cons (de_ix ix_D (de_var 3) (de_un un_negD de_int)) (da_cons (de_var 2) da_nil))) passD0))
  (dss_cons (ds_if (dt_cmp op_isNd (de_var 4) de_non) (dss_one (ds_keep 3 (ds_ret (de_tup (da_cons (de_t call_tupleD T.f_tuple boot_tuple (da_cons (de_var 3) da_nil)) (da_cons de_str da_nil)))))) dss_nil)
  (dss_cons (ds_app (de_var 3) (de_var 4))
  (dss_one (ds_if (dt_cmp (op_inR hr) (de_var 4) (de_sl (de_var 3) do_none (do_some (de_un un_negD de_int)))) (dss_one (ds_keep 3 (ds_ret (de_tup (da_cons (de_t call_tupleD T.f_tuple boot_tuple (da_cons (de_var 3) da_nil)) (da_cons de_str da_nil)))))) dss_nil))))))
  (dss_one (ds_keep 3 (ds_ret (de_tup (da_cons (de_t call_tupleD T.f_tuple boot_tuple (da_cons (de_var 3) da_nil)) (da_cons de_str da_nil))))))))

theorem sc_fate : FnScope ["book", "start", "outage"] ["book", "start", "outage"] (defScope st_fate) := ⟨rfl, rfl, rfl, by decide +kernel, rfl, by decide +kernel, by decide +kernel⟩
theorem wk_fate (T : Txt K mg C) {K0 : Nat} {f : Addr} {fd : FuncData} {p_walked : DSp} {k_walked : Nat} {p : DSp} (mono : MonoP p) (len : ∀ ds m Q E, p ds m Q E → ds.length = 3) (c_walked : FnC P w K mg base C "walked" k_walked ["book", "start", "outage"] p_walked) (h_walked : k_walked ≤ K0)
    (F : FunD K "fate" "fate" (defArgs st_fate) (defBody st_fate) (defScope st_fate) [] [] f fd)
    (law : ∀ ds m (Q : QD) (E : QX), p ds m Q E → rd_fate C p_walked (fun c xs _ m => E c xs m) { nx := fun _ m => Q .non m, rt := Q } (env0 3 ds) m) : DF P w K mg base C (K0 + 1) f fd ["book", "start", "outage"] p := by
  refine df_of (k := K0) (d := rd_fate C p_walked) F sc_fate mono len ?_ law
  intro cdv A outer s H E B EX hr tk
  exact (dss_one (ds_ret (de_ix ix_D (de_fn c_walked hr (by omega) (da_cons (de_var 0) (da_cons (de_var 1) (da_cons (de_var 2) da_nil))) passD0) de_int)))

theorem sc_law_right : FnScope ["_law_nodes", "_law_links", "_law_target", "_law_outage_here", "_law_calm", "_law_book", "_law_labels_here", "_law_start", "_law_found", "_law_own", "_law_k"] ["_law_nodes", "_law_links", "_law_target", "_law_outage_here", "_law_calm"] (defScope st_law_right) := ⟨rfl, rfl, rfl, by decide +kernel, rfl, by decide +kernel, by decide +kernel⟩
def rd_law_right (C : Ct) (p_law_labels : DSp) (p_fate : DSp) (p_Net_init : DSp) (p_Book_turning : DSp) (EX : QXe) : TSd :=
  (sSeq (sPar 5 6 (dCm 22 p_Book_turning EX0 (dCons (dMakeF 3 2 p_Net_init EX0 (dCons (dVar 0) (dCons (dN oTuple (dCons (dVar 1) dNil)) dNil))) (dCons (dVar 2) dNil))) (dCall p_law_labels EX0 (dCons (dVar 0) (dCons (dVar 1) (dCons (dVar 3) dNil)))))
  (sSeq (sFor (.nm 7) (iRg1 (dVar 0))
  (sSeq (sAsg (.nm 8) (dCall p_fate EX0 (dCons (dVar 5) (dCons (dVar 7) (dCons (dVar 3) dNil)))))
  (sSeq (sAsg (.nm 9) (dNew (nLc (.nm 10) (dAnd (dTst (dBin (oIn id) (dVar 7) (dBin oIx (dVar 1) (dVar 10)))) (dTst (dBin (oIn not) (dVar 10) (dVar 3)))) (dVar 10) [10] (iRg1 (dN oLen (dCons (dVar 1) dNil))))))
  (sSeq (sIf (dTst (dBin (oEq not) (dBin (oEq id) (dVar 8) (dC (.str "lost"))) (dAndV (dBin (oEq id) (dVar 9) (dNew (nLst dNil))) (dBin (oEq not) (dVar 7) (dVar 2)))))
  (sRet (dC (.bl false)))
  sNext)
  (sSeq (sIf (dAnd (dTst (dBin (oEq id) (dVar 8) (dC (.str "home")))) (dTst (dBin (oEq not) (dBin oIx (dVar 6) (dVar 7)) (dBin oIx (dVar 6) (dVar 2)))))
  (sRet (dC (.bl false)))
  sNext)
  (sIf (dAnd (dTst (dVar 4)) (dAnd (dTst (dBin (oEq not) (dVar 8) (dC (.str "home")))) (dTst (dBin (oEq id) (dBin oIx (dVar 6) (dVar 7)) (dBin oIx (dVar 6) (dVar 2))))))
  (sRet (dC (.bl false)))
  sNext))))))
  (sRet (dC (.bl true)))))
theorem wk_law_right (T : Txt K mg C) {K0 : Nat} {f : Addr} {fd : FuncData} {p_law_labels : DSp} {k_law_labels : Nat} {p_fate : DSp} {k_fate : Nat} {p_Net_init : DSp} {k_Net : Nat} {p_Book_turning : DSp} {k_Book_turning : Nat} {p : DSp} (mono : MonoP p) (len : ∀ ds m Q E, p ds m Q E → ds.length = 5) (c_law_labels : FnC P w K mg base C "_law_labels" k_law_labels ["_law_nodes", "_law_links", "_law_outage_here"] p_law_labels) (h_law_labels : k_law_labels ≤ K0) (c_fate : FnC P w K mg base C "fate" k_fate ["book", "start", "outage"] p_fate) (h_fate : k_fate ≤ K0) (m_Net : MkC P w K mg base C "Net" 3 2 k_Net ["self", "nodes", "links"] p_Net_init) (h_Net : k_Net + 1 ≤ K0) (z_Book_turning : CmC P w K mg base C 22 "turning" k_Book_turning p_Book_turning) (h_Book_turning : k_Book_turning ≤ K0)
    (F : FunD K "_law_right" "_law_right" (defArgs st_law_right) (defBody st_law_right) (defScope st_law_right) [] [] f fd)
    (law : ∀ ds m (Q : QD) (E : QX), p ds m Q E → rd_law_right C p_law_labels p_fate p_Net_init p_Book_turning (fun c xs _ m => E c xs m) { nx := fun _ m => Q .non m, rt := Q } (env0 11 ds) m) : DF P w K mg base C (K0 + 1) f fd ["_law_nodes", "_law_links", "_law_target", "_law_outage_here", "_law_calm"] p := by
  refine df_of (k := K0) (d := rd_law_right C p_law_labels p_fate p_Net_init p_Book_turning) F sc_law_right mono len ?_ law
  intro cdv A outer s H E B EX hr tk
  exact (dss_cons (ds_par rfl sc_law_right.nd rfl rfl (by decide) rfl rfl (de_cm z_Book_turning (de_gCls T.k_Book) hr (by omega) (da_cons (de_mk m_Net rfl hr (by omega) (da_cons (de_var 0) (da_cons (de_t call_tupleD T.f_tuple boot_tuple (da_cons (de_var 1) da_nil)) da_nil)) passD0) (da_cons (de_var 2) da_nil)) passD0) (de_fn c_law_labels hr (by omega) (da_cons (de_var 0) (da_cons (de_var 1) (da_cons (de_var 3) da_nil))) passD0) (by rfl))
  (dss_cons (ds_for (passes_of rfl) rfl (di_range1 rfl T.f_range (de_var 0)) (tg_v sc_law_right.nd) (dss_cons (ds_setV sc_law_right.nd (de_fn c_fate hr (by omega) (da_cons (de_var 5) (da_cons (de_var 7) (da_cons (de_var 3) da_nil))) passD0))
  (dss_cons (ds_setC [("_law_k", 10)] rfl sc_law_right.nd (di_range1 rfl T.f_range (de_b call_lenD T.f_len boot_len (da_cons (de_var 1) da_nil))) (fun _ _ _ _ _ => (tg_v sc_law_right.nd)) (fun _ _ _ _ _ => (dts_one (DW.dt (dw_and (dt_cmp (op_inR hr) (de_var 7) (de_ix ix_D (de_var 1) (de_var 10))) (dw_and1 (dt_cmp (op_ninR hr) (de_var 10) (de_var 3))))))) (fun _ _ _ _ _ => (de_var 10)) (blkB_ok (by kernel_rfl)) (by decide))
  (dss_cons (ds_if (dt_cmp (op_neR hr) (de_cmp (op_eqR hr) (de_var 8) de_str) (de_and (de_cmp (op_eqR hr) (de_var 9) (DN.de (dn_lst da_nil))) (de_one (de_cmp (op_neR hr) (de_var 7) (de_var 2))))) (dss_one (ds_ret de_bl)) dss_nil)
  (dss_cons (ds_if (DW.dt (dw_and (dt_cmp (op_eqR hr) (de_var 8) de_str) (dw_and1 (dt_cmp (op_neR hr) (de_ix ix_D (de_var 6) (de_var 7)) (de_ix ix_D (de_var 6) (de_var 2)))))) (dss_one (ds_ret de_bl)) dss_nil)
  (dss_one (ds_if (DW.dt (dw_and (dt_val (de_var 4)) (dw_and (dt_cmp (op_neR hr) (de_var 8) de_str) (dw_and1 (dt_cmp (op_eqR hr) (de_ix ix_D (de_var 6) (de_var 7)) (de_ix ix_D (de_var 6) (de_var 2))))))) (dss_one (ds_ret de_bl)) dss_nil)))))))
  (dss_one (ds_ret de_bl))))

theorem sc_law : FnScope ["_law_script", "_law_deck_here", "_law_turn", "_law_nodes", "_law_links", "_law_outage_here", "_law_target", "_law_many", "_law_ring", "_law_broken", "_law_k"] ["_law_script"] (defScope st_law) := ⟨rfl, rfl, rfl, by decide +kernel, rfl, by decide +kernel, by decide +kernel⟩
def rd_law (C : Ct) (p_law_deck : DSp) (p_law_net : DSp) (p_law_outage : DSp) (p_law_right : DSp) (p_law_thinned : DSp) (p_law_next : DSp) (EX : QXe) : TSd :=
  (sSeq (sAsg (.nm 1) (dCall p_law_deck EX0 (dCons (dVar 0) dNil)))
  (sSeq (sFor (.nm 2) (iRg1 (dC (.int 3)))
  (sSeq (sAsg (.tp [3, 4]) (dCall p_law_net EX0 (dCons (dVar 1) (dCons (dC (.int 8)) dNil))))
  (sSeq (sAsg (.nm 5) (dCall p_law_outage EX0 (dCons (dVar 1) (dCons (dN oLen (dCons (dVar 4) dNil)) dNil))))
  (sSeq (sFor (.nm 6) (iRg1 (dVar 3))
  (sSeq (sIf (dNot (dTst (dCall p_law_right EX0 (dCons (dVar 3) (dCons (dVar 4) (dCons (dVar 6) (dCons (dVar 5) (dCons (dC (.bl false)) dNil))))))))
  (sRet (dC (.bl false)))
  sNext)
  (sSeq (sIf (dNot (dTst (dCall p_law_right EX0 (dCons (dVar 3) (dCons (dVar 4) (dCons (dVar 6) (dCons (dCall p_law_thinned EX0 (dCons (dVar 3) (dCons (dVar 4) (dCons (dVar 5) dNil)))) (dCons (dC (.bl true)) dNil))))))))
  (sRet (dC (.bl false)))
  sNext)
  (sIf (dNot (dTst (dCall p_law_right EX0 (dCons (dVar 3) (dCons (dVar 4) (dCons (dVar 6) (dCons (dCall p_law_thinned EX0 (dCons (dVar 3) (dCons (dVar 4) (dCons (dN oTup dNil) dNil)))) (dCons (dC (.bl true)) dNil))))))))
  (sRet (dC (.bl false)))
  sNext))))
  (sSeq (sAsg (.nm 7) (dBin oAdd (dC (.int 3)) (dCall p_law_next EX0 (dCons (dVar 1) (dCons (dC (.int 5)) dNil)))))
  (sSeq (sAsg (.nm 8) (dNew (nCat (dNew (nLst (dCons (dN oTup (dCons (dC (.int 0)) (dCons (dC (.int 1)) dNil))) (dCons (dN oTup (dCons (dC (.int 0)) (dCons (dBin oSub (dVar 7) (dC (.int 1))) dNil))) dNil)))) (dNew (nLc (.nm 10) dYes (dN oTup (dCons (dVar 10) (dCons (dBin oAdd (dVar 10) (dC (.int 1))) dNil))) [10] (iRg2 (dC (.int 1)) (dBin oSub (dVar 7) (dC (.int 1)))))))))
  (sFor (.nm 9) (iVal (dNew (nLst (dCons (dN oTup dNil) (dCons (dCall p_law_outage EX0 (dCons (dVar 1) (dCons (dVar 7) dNil))) (dCons (dN oTup (dCons (dCall p_law_next EX0 (dCons (dVar 1) (dCons (dVar 7) dNil))) dNil)) dNil))))))
  (sSeq (sAsg (.nm 3) (dBin oAdd (dVar 7) (dCall p_law_next EX0 (dCons (dVar 1) (dCons (dBin oSub (dC (.int 8)) (dVar 7)) dNil)))))
  (sIf (dNot (dTst (dCall p_law_right EX0 (dCons (dVar 3) (dCons (dVar 8) (dCons (dCall p_law_next EX0 (dCons (dVar 1) (dCons (dVar 3) dNil))) (dCons (dVar 9) (dCons (dC (.bl true)) dNil))))))))
  (sRet (dC (.bl false)))
  sNext)))))))))
  (sRet (dC (.bl true)))))
theorem wk_law (T : Txt K mg C) {K0 : Nat} {f : Addr} {fd : FuncData} {p_law_deck : DSp} {k_law_deck : Nat} {p_law_net : DSp} {k_law_net : Nat} {p_law_outage : DSp} {k_law_outage : Nat} {p_law_right : DSp} {k_law_right : Nat} {p_law_thinned : DSp} {k_law_thinned : Nat} {p_law_next : DSp} {k_law_next : Nat} {p : DSp} (mono : MonoP p) (len : ∀ ds m Q E, p ds m Q E → ds.length = 1) (c_law_deck : FnC P w K mg base C "_law_deck" k_law_deck ["_law_script"] p_law_deck) (h_law_deck : k_law_deck ≤ K0) (c_law_net : FnC P w K mg base C "_law_net" k_law_net ["_law_deck_here", "_law_most"] p_law_net) (h_law_net : k_law_net ≤ K0) (c_law_outage : FnC P w K mg base C "_law_outage" k_law_outage ["_law_deck_here", "_law_many"] p_law_outage) (h_law_outage : k_law_outage ≤ K0) (c_law_right : FnC P w K mg base C "_law_right" k_law_right ["_law_nodes", "_law_links", "_law_target", "_law_outage_here", "_law_calm"] p_law_right) (h_law_right : k_law_right ≤ K0) (c_law_thinned : FnC P w K mg base C "_law_thinned" k_law_thinned ["_law_nodes", "_law_links", "_law_outage_here"] p_law_thinned) (h_law_thinned : k_law_thinned ≤ K0) (c_law_next : FnC P w K mg base C "_law_next" k_law_next ["_law_deck_here", "_law_many"] p_law_next) (h_law_next : k_law_next ≤ K0)
    (F : FunD K "law" "law" (defArgs st_law) (defBody st_law) (defScope st_law) [] [] f fd)
    (law : ∀ ds m (Q : QD) (E : QX), p ds m Q E → rd_law C p_law_deck p_law_net p_law_outage p_law_right p_law_thinned p_law_next (fun c xs _ m => E c xs m) { nx := fun _ m => Q .non m, rt := Q } (env0 11 ds) m) : DF P w K mg base C (K0 + 1) f fd ["_law_script"] p := by
  refine df_of (k := K0) (d := rd_law C p_law_deck p_law_net p_law_outage p_law_right p_law_thinned p_law_next) F sc_law mono len ?_ law
  intro cdv A outer s H E B EX hr tk
  exact (dss_cons (ds_setV sc_law.nd (de_fn c_law_deck hr (by omega) (da_cons (de_var 0) da_nil) passD0))
  (dss_cons (ds_for (passes_of rfl) rfl (di_range1 rfl T.f_range de_int) (tg_v sc_law.nd) (dss_cons (ds_asg (de_fn c_law_net hr (by omega) (da_cons (de_var 1) (da_cons de_int da_nil)) passD0) (tg_tp rfl (tgs_v sc_law.nd (tgs_v sc_law.nd tgs_nil))))
  (dss_cons (ds_setV sc_law.nd (de_fn c_law_outage hr (by omega) (da_cons (de_var 1) (da_cons (de_b call_lenD T.f_len boot_len (da_cons (de_var 4) da_nil)) da_nil)) passD0))
  (dss_cons (ds_for (passes_of rfl) rfl (di_range1 rfl T.f_range (de_var 3)) (tg_v sc_law.nd) (dss_cons (ds_if (dt_not (dt_val (de_fn c_law_right hr (by omega) (da_cons (de_var 3) (da_cons (de_var 4) (da_cons (de_var 6) (da_cons (de_var 5) (da_cons de_bl da_nil))))) passD0))) (dss_one (ds_ret de_bl)) dss_nil)
  (dss_cons (ds_if (dt_not (dt_val (de_fn c_law_right hr (by omega) (da_cons (de_var 3) (da_cons (de_var 4) (da_cons (de_var 6) (da_cons (de_fn c_law_thinned hr (by omega) (da_cons (de_var 3) (da_cons (de_var 4) (da_cons (de_var 5) da_nil))) passD0) (da_cons de_bl da_nil))))) passD0))) (dss_one (ds_ret de_bl)) dss_nil)
  (dss_one (ds_if (dt_not (dt_val (de_fn c_law_right hr (by omega) (da_cons (de_var 3) (da_cons (de_var 4) (da_cons (de_var 6) (da_cons (de_fn c_law_thinned hr (by omega) (da_cons (de_var 3) (da_cons (de_var 4) (da_cons (de_tup da_nil) da_nil))) passD0) (da_cons de_bl da_nil))))) passD0))) (dss_one (ds_ret de_bl)) dss_nil)))))
  (dss_cons (ds_setV sc_law.nd (de_bin op_addD de_int (de_fn c_law_next hr (by omega) (da_cons (de_var 1) (da_cons de_int da_nil)) passD0)))
  (dss_cons (ds_setV sc_law.nd (DN.de (dn_cat (DN.de (dn_lst (da_cons (de_tup (da_cons de_int (da_cons de_int da_nil))) (da_cons (de_tup (da_cons de_int (da_cons (de_bin op_subD (de_var 7) de_int) da_nil))) da_nil)))) (DN.de (dn_comp [("_law_k", 10)] rfl sc_law.nd (di_range2 rfl T.f_range de_int (de_bin op_subD (de_var 7) de_int)) (fun _ _ _ _ _ => (tg_v sc_law.nd)) (fun _ _ _ _ _ => dts_nil) (fun _ _ _ _ _ => (de_tup (da_cons (de_var 10) (da_cons (de_bin op_addD (de_var 10) de_int) da_nil)))) (blkB_ok (by kernel_rfl)) (by decide))))))
  (dss_one (ds_for (passes_of rfl) rfl (di_val (DN.de (dn_lst (da_cons (de_tup da_nil) (da_cons (de_fn c_law_outage hr (by omega) (da_cons (de_var 1) (da_cons (de_var 7) da_nil)) passD0) (da_cons (de_tup (da_cons (de_fn c_law_next hr (by omega) (da_cons (de_var 1) (da_cons (de_var 7) da_nil)) passD0) da_nil)) da_nil)))))) (tg_v sc_law.nd) (dss_cons (ds_setV sc_law.nd (de_bin op_addD (de_var 7) (de_fn c_law_next hr (by omega) (da_cons (de_var 1) (da_cons (de_bin op_subD de_int (de_var 7)) da_nil)) passD0)))
  (dss_one (ds_if (dt_not (dt_val (de_fn c_law_right hr (by omega) (da_cons (de_var 3) (da_cons (de_var 8) (da_cons (de_fn c_law_next hr (by omega) (da_cons (de_var 1) (da_cons (de_var 3) da_nil)) passD0) (da_cons (de_var 9) (da_cons de_bl da_nil))))) passD0))) (dss_one (ds_ret de_bl)) dss_nil)))))))))))
  (dss_one (ds_ret de_bl))))

end
end K27

set_option maxHeartbeats 1000000
namespace DL
open PySem PySem.Spec PyProof.Rows L2
section
variable {env : Env'} {m : Mem} {d da db : TD} {x y : Lv}
theorem ev_getT {da : TAd} {key z : Dat} {kvs : List (Dat × Dat)} {k : NestedKey} {ns : List NestedKey} (h : Ev d env m x) (ha : EvA da env m [.f key, .f z]) (e : dDct env m x = some kvs) (hk : tKey key = some k) (hn : tKeys kvs = some ns) (nd : ns.Nodup) : Ev (dGetT d da) env m (.f ((getT kvs k).getD z)) := fun Q q => h _ (by
  simp only [e]
  refine ha _ ?_
  simp only [e, hk, hn]
  exact ⟨nd, q⟩)
theorem st_ext {i : Nat} {xs ys : List Dat} {de : TD} {D : En} (e : env[i]? = some (some (.own (.lst xs)))) (h : Ev de env m (.f (.lst ys))) (hl : xs.length + ys.length ≤ sizeLine) (k : D.nx (env.set i (some (.own (.lst (xs ++ ys))))) m) : sExt (dVar i) de D env m := by
  unfold sExt
  refine ev_o e _ ?_
  have em : moOf env m (.o i) = some (.lst xs) := by unfold moOf; simp only [e]
  simp only [em]
  refine h _ ?_
  simp only [em, lstOf, der]
  exact ⟨hl, k⟩
end
theorem lc2_flat {α β : Type} {tg tg1 : Tg} {g : α → Dat} {g1 : α → β → Dat} {di1 : TId} {de : TD} {vs1 : List Nat} {env : Env'} {ys : α → List β} {f : α → β → Dat} : ∀ {xs : List α} {m : Mem} {Q : List Dat → Mem → Prop},
    (∀ x ∈ xs, ∃ env2, bind tg (.f (g x)) env = some env2 ∧ EvI di1 env2 m ((ys x).map (g1 x)) ∧ (ys x).length ≤ 1000 ∧ ∀ y ∈ ys x, ∃ env3, bind tg1 (.f (g1 x y)) (wipeE env2 vs1) = some env3 ∧ Ev de env3 m (.f (f x y))) →
    Q (xs.flatMap fun x => (ys x).map (f x)) m → lc2Go tg dYes di1 tg1 dYes de vs1 env (xs.map g) m Q
  | [], m, Q, _, h => h
  | x :: xs, m, Q, hd, h => by
    obtain ⟨env2, e, h1, hl, h2⟩ := hd x List.mem_cons_self
    rw [List.map_cons]
    unfold lc2Go
    simp only [e, dYes]
    rw [if_pos True.intro]
    refine h1 _ ?_
    refine ⟨by simpa using hl, ?_⟩
    refine lcGo_map h2 ?_
    exact lc2_flat (Q := fun ds m' => Q ((ys x).map (f x) ++ ds) m') (fun y hy => hd y (List.mem_cons_of_mem _ hy)) (by rw [List.flatMap_cons] at h; exact h)
theorem evn_lc2 {α β : Type} {env : Env'} {m : Mem} {tg tg1 : Tg} {g : α → Dat} {g1 : α → β → Dat} {di di1 : TId} {de : TD} {vs vs1 : List Nat} {ys : α → List β} {f : α → β → Dat} {xs : List α} {zs : List Dat} (hi : EvI di env m zs) (e : zs = xs.map g) (hl : xs.length ≤ 1000)
    (h : ∀ x ∈ xs, ∃ env2, bind tg (.f (g x)) (wipeE env vs) = some env2 ∧ EvI di1 env2 m ((ys x).map (g1 x)) ∧ (ys x).length ≤ 1000 ∧ ∀ y ∈ ys x, ∃ env3, bind tg1 (.f (g1 x y)) (wipeE env2 vs1) = some env3 ∧ Ev de env3 m (.f (f x y))) :
    EvN (nLc2 tg dYes di1 tg1 dYes de vs vs1 di) env m (xs.flatMap fun x => (ys x).map (f x)) := fun Q q => hi _ (by
  subst e
  exact ⟨by simpa using hl, lc2_flat h q⟩)
end DL
namespace DL.S
open PySem PySem.Spec PyProof.Rows L2 DL K02

def cameD : Option Nat → Dat
  | none => .non
  | some c => .int c
def keyD (k : Bk) : Dat := .tup [.int k.1, cameD k.2.1, .int k.2.2]
def tnD (t : Tn) : Dat := .tup [.int t.1, .int t.2]
def rowD (r : List Tn) : Dat := .tup (r.map tnD)
def prD (p : Bk × List Tn) : Dat := .tup [keyD p.1, rowD p.2]
def toldD (rs : Rws) : List (Dat × Dat) := rs.map fun p => (keyD p.1, rowD p.2)
def fullR (rs : Rws) : Rws := rs.filter fun p => decide (p.2 ≠ [])
def bookD (n : Nat) (ps : List Lk) (t mk : Nat) (rs : Rws) : Dat := .ins 22 [netD n ps, .int t, .int mk, .dct (toldD (fullR rs)), .lst ((rs.flatMap (·.2)).map tnD)]
def cameN : Option Nat → NestedKey
  | none => .none
  | some c => .num c
def keyK (k : Bk) : NestedKey := .tup [.num k.1, cameN k.2.1, .num k.2.2]
theorem keyK_inj {k q : Bk} (h : keyK k = keyK q) : k = q := by
  obtain ⟨a, b, c⟩ := k
  obtain ⟨a', b', c'⟩ := q
  unfold keyK at h
  injection h with h
  injection h with h1 h
  injection h with h2 h
  injection h with h3 _
  injection h1 with h1
  injection h3 with h3
  have h1 : (a : Int) = a' := h1
  have h3 : (c : Int) = c' := h3
  obtain rfl : a = a' := by omega
  obtain rfl : c = c' := by omega
  cases b <;> cases b' <;> simp [cameN] at h2 <;> first | rfl | (have : (_ : Nat) = _ := Int.ofNat.inj h2; simp [this])
theorem tKey_key (k : Bk) : tKey (keyD k) = some (keyK k) := by
  obtain ⟨a, b, c⟩ := k
  cases b <;> simp [tKey, keyD, cameD, isTupK, keyN, keyNs, keyK, cameN, NestedKey.depth, NestedKey.depthAll]
def rowOf (rs : Rws) (k : Bk) : Option (List Tn) := (rs.find? fun p => decide (p.1 = k)).map (·.2)
theorem getT_told (k : Bk) : ∀ rs : Rws, getT (toldD rs) (keyK k) = (rowOf rs k).map rowD
  | [] => rfl
  | p :: rs => by
    have ih := getT_told k rs
    unfold toldD at ih ⊢
    unfold getT rowOf at ih ⊢
    rw [List.map_cons, List.find?_cons, List.find?_cons]
    by_cases e : p.1 = k
    · subst e
      simp [tKey_key]
    · have e2 : ¬ keyK p.1 = keyK k := fun z => e (keyK_inj z)
      simp only [tKey_key, Option.some.injEq, e2, decide_false, e]
      exact ih
theorem tKeys_told : ∀ rs : Rws, tKeys (toldD rs) = some (rs.map fun p => keyK p.1)
  | [] => rfl
  | p :: rs => by
    have ih := tKeys_told rs
    unfold toldD at ih ⊢
    rw [List.map_cons, tKeys, tKey_key, ih]
    rfl
theorem keys_nd {rs : Rws} (h : (rs.map (·.1)).Nodup) : (rs.map fun p => keyK p.1).Nodup := by
  have : (rs.map fun p => keyK p.1) = (rs.map (·.1)).map keyK := by rw [List.map_map]; rfl
  rw [this]
  exact List.Pairwise.map keyK (fun a b hab e => hab (keyK_inj e)) h
theorem full_nd {rs : Rws} (h : (rs.map (·.1)).Nodup) : ((fullR rs).map (·.1)).Nodup := h.sublist (List.Sublist.map _ List.filter_sublist)
theorem rowOf_none {rs : Rws} {k : Bk} (h : k ∉ rs.map (·.1)) : rowOf rs k = none := by
  unfold rowOf
  rw [List.find?_eq_none.mpr, Option.map_none]
  intro p hp e
  exact h (List.mem_map.mpr ⟨p, hp, of_decide_eq_true e⟩)
theorem rowOf_mem {rs : Rws} {k : Bk} {r : List Tn} (h : rowOf rs k = some r) : (k, r) ∈ rs := by
  unfold rowOf at h
  obtain ⟨p, hp, rfl⟩ := Option.map_eq_some_iff.mp h
  have := List.find?_some hp
  have e : p.1 = k := of_decide_eq_true this
  subst e
  exact List.mem_of_find?_eq_some hp
def rowAt (rs : Rws) (k : Bk) : List Tn := (rowOf rs k).getD []
theorem rowAt_full {rs : Rws} (nd : (rs.map (·.1)).Nodup) (k : Bk) : rowAt (fullR rs) k = rowAt rs k := by
  induction rs with
  | nil => rfl
  | cons p rs ih =>
    rw [List.map_cons, List.nodup_cons] at nd
    have ih := ih nd.2
    unfold rowAt rowOf fullR at ih ⊢
    by_cases e : p.2 = []
    · rw [List.filter_cons_of_neg (by simp [e])]
      by_cases ek : p.1 = k
      · rw [List.find?_cons_of_pos (by simpa using ek)]
        have : (List.filter (fun p => decide (p.2 ≠ [])) rs).find? (fun p => decide (p.1 = k)) = none := by
          rw [List.find?_eq_none]
          intro q hq z
          have hq := (List.mem_filter.mp hq).1
          exact nd.1 (List.mem_map.mpr ⟨q, hq, by rw [ek]; exact of_decide_eq_true z⟩)
        rw [this]
        simp [e]
      · rw [List.find?_cons_of_neg (by simpa using ek)]
        exact ih
    · rw [List.filter_cons_of_pos (by simp [e])]
      by_cases ek : p.1 = k
      · rw [List.find?_cons_of_pos (by simpa using ek), List.find?_cons_of_pos (by simpa using ek)]
      · rw [List.find?_cons_of_neg (by simpa using ek), List.find?_cons_of_neg (by simpa using ek)]
        exact ih
theorem getD_row (o : Option (List Tn)) : (o.map rowD).getD (.tup []) = rowD (o.getD []) := by cases o <;> rfl
theorem putT_new {rs : Rws} {k : Bk} {r : List Tn} (h : k ∉ rs.map (·.1)) : putT (toldD rs) (keyD k) (keyK k) (rowD r) = toldD (rs ++ [(k, r)]) := by
  unfold putT
  rw [getT_told, rowOf_none h]
  simp [toldD]
end DL.S

set_option maxHeartbeats 1000000
namespace DL.S
open PySem PySem.Spec PyProof.Rows L2 DL K02

def farN (p : Lk) (v : Nat) : Nat := if v = p.1 then p.2 else p.1
def opn (ps : List Lk) (o : List Nat) (v : Nat) : List (Lk × Nat) := ps.zipIdx.filter fun q => decide (q.1.1 = v ∨ q.1.2 = v) && !decide (q.2 ∈ o)
def adj (ps : List Lk) (o : List Nat) (v : Nat) : List Nat := ((opn ps o v).map fun q => farN q.1 v).mergeSort fun a b => decide (a ≤ b)
section
variable (n : Nat) (A : Nat → List Nat) (g : Nat)
end
section
variable {n : Nat} {A : Nat → List Nat} {g : Nat}
theorem lev_succ (k v : Nat) : lev n A g (k + 1) v = match lev n A g k v with
    | some d => some d
    | none => if ((List.range n).any fun u => decide (lev n A g k u = some k) && decide (v ∈ A u)) = true then some (k + 1) else none := rfl
theorem lev_le {k v d : Nat} (h : lev n A g k v = some d) : d ≤ k := by
  induction k generalizing d with
  | zero =>
    unfold lev at h
    split at h
    · cases h; exact Nat.le_refl _
    · cases h
  | succ k ih =>
    unfold lev at h
    split at h
    · cases h; have := ih ‹_›; omega
    · split at h
      · cases h; exact Nat.le_refl _
      · cases h
theorem lev_up {k v d : Nat} (h : lev n A g k v = some d) : lev n A g (k + 1) v = some d := by
  unfold lev
  rw [h]
theorem lev_ups {k j v d : Nat} (h : lev n A g k v = some d) : lev n A g (k + j) v = some d := by
  induction j with
  | zero => exact h
  | succ j ih => exact lev_up ih
theorem lev_at {k v d : Nat} (h : lev n A g k v = some d) : lev n A g d v = some d := by
  induction k generalizing d with
  | zero =>
    have := lev_le h
    have e : d = 0 := by omega
    subst e; exact h
  | succ k ih =>
    have h' := h
    unfold lev at h
    split at h
    · cases h; exact ih ‹_›
    · split at h
      · cases h; exact h'
      · cases h
theorem Mid.old {k w d : Nat} {acc : List Nat} {kn : List (Nat × Nat)} {more : List Nat} (h : Mid n A g k acc kn more) (hw : getN kn w = some d) : Mid n A g k (acc ++ [w]) kn more := by
  refine ⟨fun v => ?_, h.get, h.nd, h.lt, h.ml⟩
  rw [List.mem_append, List.mem_singleton, h.mem]
  constructor
  · exact fun ⟨a, b⟩ => ⟨.inl a, b⟩
  · rintro ⟨a | rfl, b⟩
    · exact ⟨a, b⟩
    · have := h.get v
      rw [hw, b] at this
      by_cases z : v ∈ more
      · exact ⟨((h.mem v).mp z).1, b⟩
      · simp [z] at this
structure Rnd (n : Nat) (A : Nat → List Nat) (g k : Nat) (kn : List (Nat × Nat)) (E : List Nat) : Prop where
  mem : ∀ v, v ∈ E ↔ lev n A g k v = some k
  get : ∀ v, getN kn v = lev n A g k v
  nd : (kn.map (·.1)).Nodup
  lt : ∀ p ∈ kn, p.1 < n ∧ p.2 ≤ n
  el : E.length ≤ kn.length
theorem Rnd.start (hg : g < n) : Rnd n A g 0 [(g, 0)] [g] := by
  refine ⟨fun v => ?_, fun v => ?_, by simp, fun p hp => ?_, by simp⟩
  · unfold lev
    rw [List.mem_singleton]
    by_cases e : v = g <;> simp [e]
  · unfold lev
    by_cases e : v = g
    · simp [getN, e]
    · have e' : ¬ g = v := fun z => e z.symm
      simp [getN, e, e']
  · rw [List.mem_singleton.mp hp]; exact ⟨hg, Nat.zero_le _⟩
theorem Rnd.next {k : Nat} {kn kn' : List (Nat × Nat)} {E more : List Nat} (h : Rnd n A g k kn E) (hE : ∀ u ∈ E, u < n) (m : Mid n A g k (E.flatMap A) kn' more) : Rnd n A g (k + 1) kn' more := by
  have key : ∀ v, lev n A g k v = none → (v ∈ more ↔ lev n A g (k + 1) v = some (k + 1)) := fun v e => by
    rw [m.mem, lev_succ, e]
    dsimp only
    have : v ∈ E.flatMap A ↔ ((List.range n).any fun u => decide (lev n A g k u = some k) && decide (v ∈ A u)) = true := by
      rw [List.mem_flatMap, List.any_eq_true]
      constructor
      · rintro ⟨u, hu, hv⟩
        exact ⟨u, List.mem_range.mpr (hE u hu), by rw [Bool.and_eq_true, decide_eq_true_iff, decide_eq_true_iff]; exact ⟨(h.mem u).mp hu, hv⟩⟩
      · rintro ⟨u, hu, hc⟩
        rw [Bool.and_eq_true, decide_eq_true_iff, decide_eq_true_iff] at hc
        exact ⟨u, (h.mem u).mpr hc.1, hc.2⟩
    rw [this]
    by_cases z : ((List.range n).any fun u => decide (lev n A g k u = some k) && decide (v ∈ A u)) = true
    · simp [z]
    · rw [if_neg z]
      simp [z]
  refine ⟨fun v => ?_, fun v => ?_, m.nd, m.lt, m.ml⟩
  · cases e : lev n A g k v with
    | none => exact key v e
    | some d =>
      rw [m.mem, e, lev_up e]
      have := lev_le e
      constructor
      · rintro ⟨_, z⟩; cases z
      · intro z; cases z; omega
  · rw [m.get v]
    cases e : lev n A g k v with
    | some d => exact (lev_up e).symm
    | none =>
      dsimp only
      by_cases z : v ∈ more
      · rw [if_pos z, (key v e).mp z]
      · rw [if_neg z]
        cases e2 : lev n A g (k + 1) v with
        | none => rfl
        | some d =>
          have hd := lev_le e2
          have hd2 : d = k + 1 := by
            by_cases q : d ≤ k
            · have := lev_at e2
              have := lev_ups (j := k - d) this
              rw [show d + (k - d) = k by omega, e] at this
              cases this
            · omega
          subst hd2
          exact absurd ((key v e).mpr e2) z
end
end DL.S

set_option maxHeartbeats 1000000
namespace DL.S
open PySem PySem.Spec PyProof.Rows L2 DL K02

def natsD (ns : List Nat) : List Dat := ns.map fun k : Nat => .int (k : Nat)
theorem nat_sort (ns : List Nat) : sortD (natsD ns) = natsD (ns.mergeSort fun a b => decide (a ≤ b)) := by
  have e : natsD ns = (ns.map fun k : Nat => (k : Int)).map Dat.int := by rw [List.map_map]; rfl
  rw [e, sortD_ints]
  have e2 := List.map_mergeSort (r := fun a b : Nat => decide (a ≤ b)) (s := fun a b : Int => decide (a ≤ b)) (f := fun k : Nat => (k : Int)) (l := ns) fun a _ b _ => decide_eq_decide.mpr (by omega)
  rw [← e2, List.map_map]; rfl
theorem okN_nats {k : Nat} (ns : List Nat) : (natsD ns).all (okN k) = true := by
  rw [List.all_eq_true]
  intro x hx
  obtain ⟨p, _, rfl⟩ := List.mem_map.mp hx
  exact okR1 _ _
theorem any_nats (ns : List Nat) (k : Nat) : ((natsD ns).any fun b => eqd b (.int (k : Nat))) = decide (k ∈ ns) := by
  rw [Bool.eq_iff_iff, List.any_eq_true, decide_eq_true_iff]
  constructor
  · rintro ⟨x, hx, he⟩
    obtain ⟨j, hj, rfl⟩ := List.mem_map.mp hx
    rw [eqd_ii, decide_eq_true_iff] at he
    have : j = k := by omega
    exact this ▸ hj
  · intro h
    exact ⟨_, List.mem_map.mpr ⟨k, h, rfl⟩, by rw [eqd_ii]; simp⟩
theorem far_cast {ps : List Lk} {k v : Nat} {p : Lk} (h : ps[k]? = some p) : farL ps k (v : Int) = (farN p v : Nat) := by
  have eg : ps.getD k (0, 0) = p := by rw [List.getD_eq_getElem?_getD, h]; rfl
  unfold farL farN
  rw [eg]
  by_cases e : v = p.1
  · rw [if_pos (by omega), if_pos e]
  · rw [if_neg (by omega), if_neg e]
theorem small_nats {ns : List Nat} (h : ∀ k ∈ ns, k < 1000) : sortOk (natsD ns) := by
  have e : natsD ns = (ns.map fun k : Nat => (k : Int)).map Dat.int := by rw [natsD, List.map_map]; rfl
  rw [e]
  refine sortOk_ints fun i hi => ?_
  obtain ⟨k, hk, rfl⟩ := List.mem_map.mp hi
  have := h k hk
  exact small (by omega) (by omega)
def knD (kn : List (Nat × Nat)) : List (Int × Dat) := kn.map fun p => ((p.1 : Int), .int (p.2 : Nat))
theorem getI_kn (kn : List (Nat × Nat)) (v : Nat) : getI (knD kn) (v : Int) = (getN kn v).map fun d => .int (d : Nat) := by
  induction kn with
  | nil => rfl
  | cons p kn ih =>
    by_cases e : p.1 = v
    · have e' : (p.1 : Int) = v := by omega
      simp [knD, getI, getN, List.find?_cons, e, e']
    · have e' : ¬ (p.1 : Int) = v := by omega
      have a : getI (knD (p :: kn)) (v : Int) = getI (knD kn) v := by simp [knD, getI, List.find?_cons, e']
      have b : getN (p :: kn) v = getN kn v := by simp [getN, List.find?_cons, e]
      rw [a, b, ih]
theorem iDct_f {env : Env'} {m : Mem} {ks : List (Int × Dat)} : iDct env m (.f (.dct (asDct ks))) = some ks := by
  unfold iDct der
  exact intKeys_as ks
section
variable {n g k : Nat} {A : Nat → List Nat} {ps : List Lk} {o : List Nat} {m : Mem} {x4 : Option Sl}
end
end DL.S

set_option maxHeartbeats 1000000
namespace DL
open PySem PySem.Spec PyProof.Rows L2
theorem sq_ifF {c : TB} {s u : TSd} {D : En} {env : Env'} {m : Mem} (h : EvB c env m false) (k : u D env m) : sSeq (sIf c s sNext) u D env m := h _ k
theorem sq_ifT {c : TB} {s t u : TSd} {D : En} {env : Env'} {m : Mem} (h : EvB c env m true) (k : s { D with nx := u D } env m) : sSeq (sIf c s t) u D env m := h _ k
end DL
namespace DL.S
open PySem PySem.Spec PyProof.Rows L2 DL K02

theorem atL_len (ps : List Lk) (v : Int) : (atL ps v).length ≤ ps.length := by
  unfold atL
  rw [List.length_map]
  have := List.length_filter_le (fun p : Lk × Nat => decide ((p.1.1 : Int) = v ∨ (p.1.2 : Int) = v)) ps.zipIdx
  rwa [List.length_zipIdx] at this
theorem okR2 {k : Nat} (a b c : Dat) (ha : okN k a = true) (hb : okN k b = true) (hc : okN k c = true) : okN (k + 1) (.tup [a, b, c]) = true := by
  simp [okN, ha, hb, hc]
theorem okN_key (j : Nat) (k : Bk) : okN (j + 1) (keyD k) = true := by
  obtain ⟨a, b, c⟩ := k
  refine okR2 _ _ _ (okR1 _ _) ?_ (okR1 _ _)
  cases b
  · cases j <;> rfl
  · exact okR1 _ _
theorem eqd_key (k q : Bk) : eqd (keyD k) (keyD q) = decide (k = q) := by
  obtain ⟨a, b, c⟩ := k
  obtain ⟨a', b', c'⟩ := q
  rw [Bool.eq_iff_iff]
  cases b <;> cases b' <;> simp [keyD, cameD, eqd, eqds] <;> omega
theorem any_keys (ks : List Bk) (k : Bk) : ((ks.map keyD).any fun b => eqd b (keyD k)) = decide (k ∈ ks) := by
  rw [Bool.eq_iff_iff, List.any_eq_true, decide_eq_true_iff]
  constructor
  · rintro ⟨x, hx, he⟩
    obtain ⟨j, hj, rfl⟩ := List.mem_map.mp hx
    rw [eqd_key, decide_eq_true_iff] at he
    exact he ▸ hj
  · intro h
    exact ⟨_, List.mem_map.mpr ⟨k, h, rfl⟩, by rw [eqd_key]; simp⟩
theorem okN_keys (ks : List Bk) : (ks.map keyD).all (okN 59) = true := by
  rw [List.all_eq_true]
  intro x hx
  obtain ⟨k, _, rfl⟩ := List.mem_map.mp hx
  exact okN_key 58 k
section
variable {env : Env'} {m : Mem} {da : TAd} {d : TD} {n : Nat} {ps : List Lk}
theorem ev_nnodes (h : Ev d env m (.f (netD n ps))) : Ev (dProp 3 p_nnodes d) env m (.f (.int n)) := ev_prT h rfl (n, ps) rfl rfl trivial
theorem ev_nlenB (h8 : ps.length ≤ 8) (h : Ev d env m (.f (netD n ps))) : Ev (dN (oLenI 3 p_nlen) (dCons d dNil)) env m (.f (.int ps.length)) := ev_n (eva_cons h eva_nil) (em_nlen h8)
theorem ev_natB {v : Nat} (h8 : ps.length ≤ 8) (h : Ev d env m (.f (netD n ps))) (ha : EvA da env m [.f (.int v)]) : Ev (dMeth 3 p_nat EX0 d da) env m (.f (.tup (natsD (atL ps v)))) :=
  ev_me h rfl ha rfl fun Q E q => ⟨rfl, ((n, ps), (v : Int)), rfl, h8, q⟩
theorem below_nat {a b : Nat} : below (b : Int) (.int a) = decide (a < b) := by
  show (decide (0 ≤ (a : Int)) && decide ((a : Int) < b)) = _
  rw [Bool.eq_iff_iff]
  simp
theorem ev_belowN {a b : Nat} (ha : EvA da env m [.f (.int a), .f (.int b)]) : Ev (dCall p_below EX0 da) env m (.f (.bl (decide (a < b)))) :=
  (ev_below (x := .int a) (b := b) rfl ha).eq (by rw [below_nat])
end
def p_iskey : DSp := pT 4 (fun g : BkG × Bk => [netD g.1.1.1 g.1.1.2, .int g.1.2.1, .int g.1.2.2, keyD g.2]) (fun g => g.1.1.2.length ≤ 8 ∧ KeyOk g.1.1.1 g.1.1.2 g.1.2.1 g.1.2.2 g.2) (fun _ => .bl true)
theorem law_is_key (C : Ct) : ∀ ds m (Q : QD) (E : QX), p_iskey ds m Q E → rd_is_key C p_below p_nnodes p_nlen p_nat (fun c xs _ m => E c xs m) { nx := fun _ m => Q .non m, rt := Q } (env0 7 ds) m := by
  rintro _ m Q E ⟨_, ⟨⟨⟨n, ps⟩, t, mk⟩, ⟨v, b, j⟩⟩, rfl, ⟨h8, h⟩, hq⟩
  have h8 : ps.length ≤ 8 := h8
  have h : KeyOk n ps t mk (v, b, j) := h
  have hq : Q (.bl true) m := hq
  have h1 : v < n := h.lt
  have h2 : v ≠ t := h.ne
  have h3 : j < mk := h.mkl
  show rd_is_key C p_below p_nnodes p_nlen p_nat _ _ [some (.f (netD n ps)), some (.f (.int t)), some (.f (.int mk)), some (.f (.tup [.int v, cameD b, .int j])), none, none, none] m
  unfold rd_is_key
  have e0 : ∀ {env : Env'} (e : env[3]? = some (some (.f (.tup [.int v, cameD b, .int j])))), Ev (dBin oIx (dVar 3) (dC (.int 0))) env m (.f (.int v)) := fun e => ev_bin (ev_v e) ev_c (e2_ix (xs := [.int v, cameD b, .int j]) rfl (atI0 _ _))
  refine sq_ifF (EvB.eq (evb_or (evb_not (evb_tst (ev_n (eva_cons (ev_v rfl) (eva_cons ev_c eva_nil)) (isi_tup rfl)))) fun _ => evb_or (evb_tst (ev_bin (ev_n (eva_cons (ev_v rfl) eva_nil) (em_len (xs := [.int v, cameD b, .int j]) rfl)) ev_c (e2_eq (f := not) (a := .int 3) (c := .int 3) rfl rfl (okR1 _ _) (okR1 _ _)))) fun _ =>
    evb_or (evb_not (evb_tst (ev_belowN (eva_cons (e0 rfl) (eva_cons (ev_nnodes (ev_v rfl)) eva_nil))))) fun _ => evb_tst (ev_bin (e0 rfl) (ev_v rfl) (e2_eq (f := id) (a := .int v) (c := .int t) rfl rfl (okR1 _ _) (okR1 _ _)))) ?_) ?_
  · rw [eqd_ii]
    have : ¬ (v : Int) = t := by omega
    simp [h1, this, isTup, eqd]
  refine sq_setT (as := [.int v, cameD b, .int j]) (ev_v rfl) rfl ?_
  show (sSeq _ _) _ [some (.f (netD n ps)), some (.f (.int t)), some (.f (.int mk)), some (.f (.tup [.int v, cameD b, .int j])), some (.f (.int v)), some (.f (cameD b)), some (.f (.int j))] m
  refine sq_ifF (EvB.eq (evb_not (evb_tst (ev_belowN (a := j) (b := mk) (eva_cons (ev_v rfl) (eva_cons (ev_v rfl) eva_nil))))) (by simp [h3])) ?_
  refine st_ret (a := .bl true) ?_ hq
  cases b with
  | none =>
    have hj : j = 0 := h.zero rfl
    subst hj
    exact (ev_if (u := .bl true) (w := .bl true) (b := true) (evb_tst (ev_bin (ev_v rfl) ev_c e2_isn)) (fun _ => (ev_bin (ev_v rfl) ev_c (e2_eq (f := id) (a := .int 0) (c := .int 0) rfl rfl (okR1 _ _) (okR1 _ _))).eq (by simp [eqd])) (fun z => by cases z)).eq rfl
  | some c =>
    have hc : c ∈ atL ps (v : Int) := h.came c rfl
    refine (ev_if (u := .bl true) (w := .bl true) (b := false) (evb_tst (ev_bin (ev_v rfl) ev_c e2_isn)) (fun z => by cases z) (fun _ => ?_)).eq rfl
    refine (ev_and (ev_belowN (a := c) (b := ps.length) (eva_cons (ev_v rfl) (eva_cons (ev_nlenB h8 (ev_v rfl)) eva_nil))) fun _ => ev_bin (ev_v rfl) (ev_natB (v := v) h8 (ev_v rfl) (eva_cons (ev_v rfl) eva_nil)) (e2_in (f := id) (a := .int c) (bs := natsD (atL ps v)) rfl rfl (okR1 _ _) (okN_nats _))).eq ?_
    rw [any_nats]
    have := atL_lt hc
    simp [hc, this]
def p_isrow : DSp := pT 4 (fun g : BkG × List Tn => [netD g.1.1.1 g.1.1.2, .int g.1.2.1, .int g.1.2.2, rowD g.2]) (fun g => g.1.1.2.length ≤ 8 ∧ RowOk g.1.1.2 g.1.2.1 g.1.2.2 g.2) (fun _ => .bl true)
theorem ev_pairB {env : Env'} {m : Mem} {da : TAd} {x : Dat} (hx : plain x = true) (ha : EvA da env m [.f x]) : Ev (dCall p_pair EX0 da) env m (.f (.bl (isPair x))) :=
  ev_call ha rfl fun Q E q => ⟨rfl, ⟨x, rfl, hx⟩, fun r m' ⟨d, e1, e2, e3⟩ => by cases e1; subst e2 e3; exact q, fun _ _ _ z => z.elim⟩
theorem all_map {α : Type} {f : α → Bool} {xs : List α} (h : ∀ x ∈ xs, f x = true) : (xs.map f).all id = true := by
  rw [List.all_eq_true]
  intro b hb
  obtain ⟨x, hx, rfl⟩ := List.mem_map.mp hb
  exact h x hx
theorem law_is_row (C : Ct) : ∀ ds m (Q : QD) (E : QX), p_isrow ds m Q E → rd_is_row C p_pair p_below p_nlen p_nat (fun c xs _ m => E c xs m) { nx := fun _ m => Q .non m, rt := Q } (env0 8 ds) m := by
  rintro _ m Q E ⟨_, ⟨⟨⟨n, ps⟩, v, mk⟩, r⟩, rfl, ⟨h8, h⟩, hq⟩
  have h8 : ps.length ≤ 8 := h8
  have h : RowOk ps v mk r := h
  have hq : Q (.bl true) m := hq
  have hl := h.len
  have hsz : r.length ≤ sizeLine := sz (by omega)
  show rd_is_row C p_pair p_below p_nlen p_nat _ _ [some (.f (netD n ps)), some (.f (.int v)), some (.f (.int mk)), some (.f (.tup (r.map tnD))), none, none, none, none] m
  unfold rd_is_row
  have ep := evn_lc (env := [some (.f (netD n ps)), some (.f (.int v)), some (.f (.int mk)), some (.f (.tup (r.map tnD))), none, none, none, none]) (m := m) (tg := .nm 7) (de := dCall p_pair EX0 (dCons (dVar 7) dNil)) (vs := [7]) (di := iVal (dVar 3)) (xs := r) (g := tnD) (f := fun t => .bl (isPair (tnD t))) (evi_tup (ev_v rfl)) rfl hsz
    (fun t ht => ⟨_, rfl, ev_pairB rfl (eva_cons (ev_v rfl) eva_nil)⟩)
  refine sq_ifF (EvB.eq (evb_or (evb_not (evb_tst (ev_n (eva_cons (ev_v rfl) (eva_cons ev_c eva_nil)) (isi_tup rfl)))) fun _ => evb_not (evb_tst (ev_n (eva_cons (ev_new ep) eva_nil) (em_bs (f := fun bs => bs.all id) rfl (DL.bools_map _ r))))) (by
    rw [all_map (f := fun t => isPair (tnD t)) (fun t _ => rfl)]; rfl)) ?_
  have eb := evn_lc (env := [some (.f (netD n ps)), some (.f (.int v)), some (.f (.int mk)), some (.f (.tup (r.map tnD))), none, none, none, none]) (m := m) (tg := .tp [5, 6]) (de := dAndV (dCall p_below EX0 (dCons (dVar 5) (dCons (dN (oLenI 3 p_nlen) (dCons (dVar 0) dNil)) dNil))) (dCall p_below EX0 (dCons (dVar 6) (dCons (dVar 2) dNil)))) (vs := [5, 6]) (di := iVal (dVar 3)) (xs := r) (g := tnD)
    (f := fun t => .bl (decide (t.1 < ps.length) && decide (t.2 < mk))) (evi_tup (ev_v rfl)) rfl hsz
    (fun t ht => ⟨_, rfl, ev_and (ev_belowN (a := t.1) (b := ps.length) (eva_cons (ev_v rfl) (eva_cons (ev_nlenB h8 (ev_v rfl)) eva_nil))) fun _ => ev_belowN (a := t.2) (b := mk) (eva_cons (ev_v rfl) (eva_cons (ev_v rfl) eva_nil))⟩)
  refine sq_ifF (EvB.eq (evb_not (evb_tst (ev_n (eva_cons (ev_new eb) eva_nil) (em_bs (f := fun bs => bs.all id) rfl (DL.bools_map _ r))))) (by
    rw [all_map (fun t ht => by
      have := h.at_ t ht
      have h1 := atL_lt this.1
      simp [h1, this.2])]
    rfl)) ?_
  have el := evn_lc (env := [some (.f (netD n ps)), some (.f (.int v)), some (.f (.int mk)), some (.f (.tup (r.map tnD))), none, none, none, none]) (m := m) (tg := .tp [5, 6]) (de := dVar 5) (vs := [5, 6]) (di := iVal (dVar 3)) (xs := r) (g := tnD) (f := fun t => .int (t.1 : Nat)) (evi_tup (ev_v rfl)) rfl hsz (fun t ht => ⟨_, rfl, ev_v rfl⟩)
  refine sq_set (ev_new el) ?_
  show sRet _ _ [some (.f (netD n ps)), some (.f (.int v)), some (.f (.int mk)), some (.f (.tup (r.map tnD))), some (.f (.lst (r.map fun t => .int (t.1 : Nat)))), none, none, none] m
  have ei := evn_lc (env := [some (.f (netD n ps)), some (.f (.int v)), some (.f (.int mk)), some (.f (.tup (r.map tnD))), some (.f (.lst (r.map fun t => .int (t.1 : Nat)))), none, none, none]) (m := m) (tg := .nm 5) (de := dBin (oIn id) (dVar 5) (dMeth 3 p_nat EX0 (dVar 0) (dCons (dVar 1) dNil))) (vs := [5]) (di := iVal (dVar 4)) (xs := r) (g := fun t => .int (t.1 : Nat))
    (f := fun t => .bl (decide (t.1 ∈ atL ps v))) (evi_lst (ev_v rfl)) rfl hsz
    (fun t ht => ⟨_, rfl, (ev_bin (ev_v rfl) (ev_natB (v := v) h8 (ev_v rfl) (eva_cons (ev_v rfl) eva_nil)) (e2_in (f := id) (a := .int t.1) (bs := natsD (atL ps v)) rfl rfl (okR1 _ _) (okN_nats _))).eq (by rw [any_nats]; rfl)⟩)
  have es : (r.map fun t => Dat.int (t.1 : Nat)) = (r.map fun t => (t.1 : Int)).map Dat.int := by rw [List.map_map]; rfl
  refine st_ret (a := .bl true) ((ev_and (ev_bin (lenSet_ev (x := .f (.lst (r.map fun t => .int (t.1 : Nat)))) (ns := r.map fun t => (t.1 : Int)) (ev_v rfl) (by rw [es]; rfl) (by simp; omega)) (ev_n (eva_cons (ev_v rfl) eva_nil) (em_len rfl)) (e2_eq (f := id) (a := .int (dist (r.map fun t => (t.1 : Int)) : Nat)) rfl rfl (okR1 _ _) (okR1 _ _))) fun _ => ev_n (eva_cons (ev_new ei) eva_nil) (em_bs (f := fun bs => bs.all id) rfl (DL.bools_map _ r))).eq ?_) hq
  have e1 : dist (r.map fun t => (t.1 : Int)) = (r.map fun t => (t.1 : Int)).length := (dist_iff _).mpr (by
    have : (r.map fun t => (t.1 : Int)) = (r.map (·.1)).map fun k : Nat => (k : Int) := by rw [List.map_map]; rfl
    rw [this]
    exact List.Pairwise.map _ (fun a b hab e => hab (Int.ofNat.inj e)) h.nd)
  rw [e1, all_map (fun t ht => decide_eq_true (h.at_ t ht).1)]
  simp [eqd_ii]
end DL.S

set_option maxHeartbeats 1000000
namespace DL
open PySem PySem.Spec PyProof.Rows L2
theorem sq_own {i : Nat} {p : TN} {xs : List Dat} {u : TSd} {D : En} {env : Env'} {m : Mem} (h : EvN p env m xs) (k : u D (env.set i (some (.own (.lst xs)))) m) : sSeq (sSetN i p) u D env m := h _ k
end DL
namespace DL.S
open PySem PySem.Spec PyProof.Rows L2 DL K02

section
variable {env : Env'} {m : Mem} {da : TAd} {n : Nat} {ps : List Lk} {t mk : Nat}
theorem ev_iskey {k : Bk} (h8 : ps.length ≤ 8) (h : KeyOk n ps t mk k) (ha : EvA da env m [.f (netD n ps), .f (.int t), .f (.int mk), .f (keyD k)]) : Ev (dCall p_iskey EX0 da) env m (.f (.bl true)) :=
  ev_fn (γ := BkG × Bk) ha (((n, ps), t, mk), k) rfl rfl ⟨h8, h⟩
theorem ev_isrow {v : Nat} {r : List Tn} (h8 : ps.length ≤ 8) (h : RowOk ps v mk r) (ha : EvA da env m [.f (netD n ps), .f (.int v), .f (.int mk), .f (rowD r)]) : Ev (dCall p_isrow EX0 da) env m (.f (.bl true)) :=
  ev_fn (γ := BkG × List Tn) ha (((n, ps), v, mk), r) rfl rfl ⟨h8, h⟩
end
def p_bkerr : DSp := pT 4 (fun g : BkG × Rws => [netD g.1.1.1 g.1.1.2, .int g.1.2.1, .int g.1.2.2, .tup (g.2.map prD)]) (fun g => g.1.1.2.length ≤ 8 ∧ RowsOk g.1.1.1 g.1.1.2 g.1.2.1 g.1.2.2 g.2) (fun _ => .non)
theorem be_loop {D : En} {m : Mem} {n : Nat} {ps : List Lk} {t mk : Nat} {x3 : Option Sl} (h8 : ps.length ≤ 8) : ∀ (r pre : Rws) (k : Nat) (x5 x6 : Option Sl), (∀ p ∈ r, KeyOk n ps t mk p.1) → (∀ p ∈ r, RowOk ps p.1.1 mk p.2) → ((pre ++ r).map (·.1)).Nodup → pre.length + r.length ≤ 300 →
    (∀ x4 x5 x6, D.nx [some (.f (netD n ps)), some (.f (.int t)), some (.f (.int mk)), x3, x4, x5, x6] m) →
    forGo (.tp [5, 6]) (sSeq (sIf (dOr (dNot (dTst (dCall p_pair EX0 (dCons (dVar 6) dNil)))) (dNot (dTst (dCall p_iskey EX0 (dCons (dVar 0) (dCons (dVar 1) (dCons (dVar 2) (dCons (dBin oIx (dVar 6) (dC (.int 0))) dNil))))))))
  (sRet (dN oTup (dCons (dVar 5) (dCons (dC (.str "key")) dNil))))
  sNext)
  (sSeq (sIf (dTst (dBin (oIn id) (dBin oIx (dVar 6) (dC (.int 0))) (dVar 4)))
  (sRet (dN oTup (dCons (dVar 5) (dCons (dC (.str "again")) dNil))))
  sNext)
  (sSeq (sIf (dNot (dTst (dCall p_isrow EX0 (dCons (dVar 0) (dCons (dBin oIx (dBin oIx (dVar 6) (dC (.int 0))) (dC (.int 0))) (dCons (dVar 2) (dCons (dBin oIx (dVar 6) (dC (.int 1))) dNil)))))))
  (sRet (dN oTup (dCons (dVar 5) (dCons (dC (.str "row")) dNil))))
  sNext)
  (sApp (dVar 4) (dBin oIx (dVar 6) (dC (.int 0))))))) D (enumD k (r.map prD)) [some (.f (netD n ps)), some (.f (.int t)), some (.f (.int mk)), x3, some (.own (.lst ((pre.map (·.1)).map keyD))), x5, x6] m
  | [], pre, k, x5, x6, _, _, _, _, hq => hq _ _ _
  | p :: r, pre, k, x5, x6, hk, hr, nd, hl, hq => by
    have hkp := hk p List.mem_cons_self
    have hrp := hr p List.mem_cons_self
    have hn : p.1 ∉ pre.map (·.1) := by
      rw [List.map_append, List.nodup_append] at nd
      intro z
      exact nd.2.2 _ z _ (by simp) rfl
    rw [List.map_cons, enumD]
    unfold forGo
    show (sSeq _ _) _ [some (.f (netD n ps)), some (.f (.int t)), some (.f (.int mk)), x3, some (.own (.lst ((pre.map (·.1)).map keyD))), some (.f (.int k)), some (.f (.tup [keyD p.1, rowD p.2]))] m
    have e0 : Ev (dBin oIx (dVar 6) (dC (.int 0))) [some (.f (netD n ps)), some (.f (.int t)), some (.f (.int mk)), x3, some (.own (.lst ((pre.map (·.1)).map keyD))), some (.f (.int k)), some (.f (.tup [keyD p.1, rowD p.2]))] m (.f (keyD p.1)) := ev_bin (ev_v rfl) ev_c (e2_ix (xs := [keyD p.1, rowD p.2]) rfl (atI0 _ _))
    have e1 : Ev (dBin oIx (dVar 6) (dC (.int 1))) [some (.f (netD n ps)), some (.f (.int t)), some (.f (.int mk)), x3, some (.own (.lst ((pre.map (·.1)).map keyD))), some (.f (.int k)), some (.f (.tup [keyD p.1, rowD p.2]))] m (.f (rowD p.2)) := ev_bin (ev_v rfl) ev_c (e2_ix (xs := [keyD p.1, rowD p.2]) rfl (atI1 _ _ _))
    refine sq_ifF (EvB.eq (evb_or (evb_not (evb_tst (ev_pairB (x := .tup [keyD p.1, rowD p.2]) rfl (eva_cons (ev_v rfl) eva_nil)))) fun _ => evb_not (evb_tst (ev_iskey h8 hkp (eva_cons (ev_v rfl) (eva_cons (ev_v rfl) (eva_cons (ev_v rfl) (eva_cons e0 eva_nil))))))) rfl) ?_
    refine sq_ifF (EvB.eq (evb_tst (ev_bin e0 (ev_o rfl) (e2_in (f := id) (a := keyD p.1) (bs := (pre.map (·.1)).map keyD) rfl rfl (okN_key 59 _) (okN_keys _)))) (by rw [any_keys]; simp [hn])) ?_
    refine sq_ifF (EvB.eq (evb_not (evb_tst (ev_isrow (v := p.1.1) h8 hrp (eva_cons (ev_v rfl) (eva_cons (ev_bin e0 ev_c (e2_ix (xs := [.int p.1.1, cameD p.1.2.1, .int p.1.2.2]) rfl (atI0 _ _))) (eva_cons (ev_v rfl) (eva_cons e1 eva_nil))))))) rfl) ?_
    refine st_app (z := keyD p.1) rfl e0 (by simp only [List.length_map]; rw [List.length_cons] at hl; exact Nat.lt_of_lt_of_le (by omega : _ < 1000) (sz (by decide))) ?_
    have := be_loop (D := D) (m := m) (n := n) (ps := ps) (t := t) (mk := mk) (x3 := x3) h8 r (pre ++ [p]) (k + 1) (some (.f (.int k))) (some (.f (.tup [keyD p.1, rowD p.2]))) (fun q hq => hk q (List.mem_cons_of_mem _ hq)) (fun q hq => hr q (List.mem_cons_of_mem _ hq)) (by simpa using nd) (by simp at hl ⊢; omega) hq
    rw [show ((pre ++ [p]).map (·.1)).map keyD = (pre.map (·.1)).map keyD ++ [keyD p.1] by simp] at this
    exact this
theorem law_book_error (C : Ct) : ∀ ds m (Q : QD) (E : QX), p_bkerr ds m Q E → rd_book_error C p_pair p_iskey p_isrow (fun c xs _ m => E c xs m) { nx := fun _ m => Q .non m, rt := Q } (env0 7 ds) m := by
  rintro _ m Q E ⟨_, ⟨⟨⟨n, ps⟩, t, mk⟩, rs⟩, rfl, ⟨h8, h⟩, hq⟩
  have h8 : ps.length ≤ 8 := h8
  have h : RowsOk n ps t mk rs := h
  have hq : Q .non m := hq
  show rd_book_error C p_pair p_iskey p_isrow _ _ [some (.f (netD n ps)), some (.f (.int t)), some (.f (.int mk)), some (.f (.tup (rs.map prD))), none, none, none] m
  unfold rd_book_error
  refine sq_ifF (EvB.eq (evb_not (evb_tst (ev_n (eva_cons (ev_v rfl) (eva_cons ev_c eva_nil)) (isi_tup rfl)))) rfl) ?_
  refine sq_own (xs := []) (evn_lst eva_nil rfl (Nat.zero_le _)) ?_
  refine sq_for ((evi_enum (x := rs.map prD) (.inr (ev_v rfl))) _ ?_)
  refine be_loop h8 rs [] 0 none none h.key h.row (by simpa using h.nd) (by simpa using h.len) fun x4 x5 x6 => ?_
  show sRet (dC .non) { nx := fun _ m => Q .non m, rt := Q } [some (.f (netD n ps)), some (.f (.int t)), some (.f (.int mk)), some (.f (.tup (rs.map prD))), x4, x5, x6] m
  exact st_ret (a := .non) ev_c hq
theorem flat_len {α β : Type} {f : α → List β} {B : Nat} : ∀ {xs : List α}, (∀ x ∈ xs, (f x).length ≤ B) → (xs.flatMap f).length ≤ B * xs.length
  | [], _ => by simp
  | x :: xs, h => by
    have := flat_len (f := f) (B := B) (xs := xs) fun y hy => h y (List.mem_cons_of_mem _ hy)
    have h1 := h x List.mem_cons_self
    rw [List.flatMap_cons, List.length_append, List.length_cons, Nat.mul_add]
    omega
theorem keysAt_len {ps : List Lk} {mk v : Nat} (h8 : ps.length ≤ 8) (h3 : mk ≤ 3) : (keysAt ps mk v).length ≤ 25 := by
  unfold keysAt
  have h1 := flat_len (xs := atL ps (v : Int)) (f := fun c => (List.range mk).map fun j => ((v, some c, j) : Bk)) (B := 3) (fun c _ => by simpa using h3)
  have h2 := atL_len ps v
  rw [List.length_cons]
  omega
theorem keysL_len {n : Nat} {ps : List Lk} {t mk : Nat} (h8 : ps.length ≤ 8) (h3 : mk ≤ 3) : (keysL n ps t mk).length ≤ 25 * n := by
  unfold keysL
  have := flat_len (xs := List.range n) (f := fun v => if v = t then [] else keysAt ps mk v) (B := 25) (fun v _ => by
    split
    · simp
    · exact keysAt_len h8 h3)
  simpa using this
theorem keysL_succ (n : Nat) (ps : List Lk) (t mk : Nat) : keysL (n + 1) ps t mk = keysL n ps t mk ++ (if n = t then [] else keysAt ps mk n) := by
  unfold keysL
  rw [List.range_succ, List.flatMap_append]
  simp
def p_keys : DSp := pT 3 (fun g : BkG => [netD g.1.1 g.1.2, .int g.2.1, .int g.2.2]) (fun g => g.1.1 ≤ 7 ∧ g.1.2.length ≤ 8 ∧ g.2.2 ≤ 3) (fun g => .lst ((keysL g.1.1 g.1.2 g.2.1 g.2.2).map keyD))
theorem law_keys_of (C : Ct) : ∀ ds m (Q : QD) (E : QX), p_keys ds m Q E → rd_keys_of C p_nnodes p_nat (fun c xs _ m => E c xs m) { nx := fun _ m => Q .non m, rt := Q } (env0 7 ds) m := by
  rintro _ m Q E ⟨_, ⟨⟨n, ps⟩, t, mk⟩, rfl, ⟨h7, h8, h3⟩, hq⟩
  have h7 : n ≤ 7 := h7
  have h8 : ps.length ≤ 8 := h8
  have h3 : mk ≤ 3 := h3
  have hq : Q (.lst ((keysL n ps t mk).map keyD)) m := hq
  have s3 : 1000 ≤ sizeLine := sz (by decide)
  show rd_keys_of C p_nnodes p_nat _ _ [some (.f (netD n ps)), some (.f (.int t)), some (.f (.int mk)), none, none, none, none] m
  unfold rd_keys_of
  refine sq_own (xs := []) (evn_lst eva_nil rfl (Nat.zero_le _)) ?_
  refine sq_for ((evi_rg1n (j := n) (ev_nnodes (ev_v rfl)) (by omega)) _ ?_)
  have er : (List.range n).map (fun i => Dat.int (i : Nat)) = rangeD ((0 : Nat) : Int) n := by unfold rangeD; simp
  rw [er]
  refine for_rg (I := fun j env m' => m' = m ∧ ∃ x4 x5 x6, env = [some (.f (netD n ps)), some (.f (.int t)), some (.f (.int mk)), some (.own (.lst ((keysL j ps t mk).map keyD))), x4, x5, x6]) n 0 _ _ ⟨rfl, _, _, _, rfl⟩ ?_ ?_
  · rintro j env m' ⟨rfl, x4, x5, x6, rfl⟩ h1 h2 D' nx ct rt bk
    have hL := keysL_len (n := j) (t := t) h8 h3
    show (sIf _ _ _) D' [some (.f (netD n ps)), some (.f (.int t)), some (.f (.int mk)), some (.own (.lst ((keysL j ps t mk).map keyD))), some (.f (.int j)), x5, x6] _
    have et := evb_tst (ev_bin (ev_v (env := [some (.f (netD n ps)), some (.f (.int t)), some (.f (.int mk)), some (.own (.lst ((keysL j ps t mk).map keyD))), some (.f (.int j)), x5, x6]) (m := m') (i := 4) rfl) (ev_v (i := 1) rfl) (e2_eq (f := not) (a := .int j) (c := .int t) rfl rfl (okR1 _ _) (okR1 _ _)))
    rw [eqd_ii] at et
    refine st_if et (fun hb => ?_) (fun hb => ?_)
    · have hjt : j ≠ t := fun z => by subst z; simp at hb
      refine st_seq (st_app (z := .tup [.int j, .non, .int 0]) rfl (ev_n (eva_cons (ev_v rfl) (eva_cons ev_c (eva_cons ev_c eva_nil))) (em_tup rfl (sz (Nat.le_of_ble_eq_true rfl)))) (by rw [List.length_map]; omega) ?_)
      dsimp only
      show sExt _ _ D' [some (.f (netD n ps)), some (.f (.int t)), some (.f (.int mk)), some (.own (.lst ((keysL j ps t mk).map keyD ++ [.tup [.int j, .non, .int 0]]))), some (.f (.int j)), x5, x6] _
      have e2 := evn_lc2 (env := [some (.f (netD n ps)), some (.f (.int t)), some (.f (.int mk)), some (.own (.lst ((keysL j ps t mk).map keyD ++ [.tup [.int j, .non, .int 0]]))), some (.f (.int j)), x5, x6]) (m := m') (tg := .nm 5) (tg1 := .nm 6) (vs := [5, 6]) (vs1 := [6]) (di := iVal (dMeth 3 p_nat EX0 (dVar 0) (dCons (dVar 4) dNil))) (di1 := iRg1 (dVar 2)) (de := dN oTup (dCons (dVar 4) (dCons (dVar 5) (dCons (dVar 6) dNil))))
        (xs := atL ps (j : Int)) (g := fun c => .int (c : Nat)) (ys := fun _ => List.range mk) (g1 := fun _ i => .int (i : Nat)) (f := fun c i => keyD (j, some c, i)) (evi_tup (ev_natB (v := j) h8 (ev_v rfl) (eva_cons (ev_v rfl) eva_nil))) rfl (by have := atL_len ps j; omega)
        (fun c hc => ⟨_, rfl, evi_rg1n (j := mk) (ev_v rfl) (by omega), by simp; omega, fun i hi => ⟨_, rfl, ev_n (eva_cons (ev_v rfl) (eva_cons (ev_v rfl) (eva_cons (ev_v rfl) eva_nil))) (em_tup rfl (sz (Nat.le_of_ble_eq_true rfl)))⟩⟩)
      refine st_ext rfl (ev_new e2) ?_ ?_
      · have a1 := flat_len (xs := atL ps (j : Int)) (f := fun c => (List.range mk).map fun i => keyD (j, some c, i)) (B := 3) (fun c _ => by simpa using h3)
        have a2 := atL_len ps j
        rw [List.length_append, List.length_map]
        simp only [List.length_cons, List.length_nil]
        omega
      · refine nx _ _ ⟨rfl, some (.f (.int j)), x5, x6, ?_⟩
        have e : (keysL (j + 1) ps t mk).map keyD = (keysL j ps t mk).map keyD ++ [Dat.tup [.int j, .non, .int 0]] ++ (atL ps (j : Int)).flatMap fun c => (List.range mk).map fun i => keyD (j, some c, i) := by
          rw [keysL_succ, if_neg hjt, List.map_append, List.append_assoc]
          congr 1
          unfold keysAt
          rw [List.map_cons, List.map_flatMap]
          simp only [List.map_map]
          rfl
        rw [e]
        rfl
    · have hjt : j = t := by simp at hb; omega
      refine nx _ _ ⟨rfl, some (.f (.int j)), x5, x6, ?_⟩
      rw [keysL_succ, if_pos hjt, List.append_nil]
  · rintro env m' ⟨rfl, x4, x5, x6, rfl⟩
    rw [Nat.zero_add]
    dsimp only
    exact st_ret (a := .lst ((keysL n ps t mk).map keyD)) (ev_v rfl) hq
end DL.S

set_option maxHeartbeats 1000000
namespace DL
open PySem PySem.Spec PyProof.Rows L2
theorem sq_fld {fi : Nat → Option Nat} {de : TD} {z : Dat} {c : Nat} {xs : List Dat} {m0 : Mem} {env : Env'} {u : TSd} {D : En} (he : Ev de env (m0 ++ [.ins c xs]) (.f z)) (e0 : env[0]? = some (some (.f (.obj m0.length)))) (ef : fi c = some xs.length) (k : u D env (m0 ++ [.ins c (xs ++ [z])])) : sSeq (sFldD fi (dVar 0) de) u D env (m0 ++ [.ins c xs]) := by
  unfold sSeq sFldD
  refine he _ ((ev_v (a := .obj m0.length) e0) _ ?_)
  have h1 : (m0 ++ [Mo.ins c xs])[m0.length]? = some (.ins c xs) := by simp
  simp only [moOf, h1, ef]
  rw [if_neg (Nat.lt_irrefl _)]
  refine ⟨True.intro, ?_⟩
  simp only [setE, setM]
  have h2 : (m0 ++ [Mo.ins c xs]).set m0.length (.ins c (xs ++ [z])) = m0 ++ [.ins c (xs ++ [z])] := by simp
  rw [h2]
  exact k
theorem st_fld {fi : Nat → Option Nat} {de : TD} {z : Dat} {c : Nat} {xs : List Dat} {m0 : Mem} {env : Env'} {D : En} (he : Ev de env (m0 ++ [.ins c xs]) (.f z)) (e0 : env[0]? = some (some (.f (.obj m0.length)))) (ef : fi c = some xs.length) (k : D.nx env (m0 ++ [.ins c (xs ++ [z])])) : sFldD fi (dVar 0) de D env (m0 ++ [.ins c xs]) :=
  sq_fld (u := fun D env m => D.nx env m) he e0 ef k
end DL
namespace DL.S
open PySem PySem.Spec PyProof.Rows L2 DL K02

def bookF (n : Nat) (ps : List Lk) (t mk : Nat) (rs : Rws) : List Dat := [netD n ps, .int t, .int mk, .dct (toldD (fullR rs)), .lst ((rs.flatMap (·.2)).map tnD)]
def p_initB : DSp := pGh (γ := Mem × BkG × Rws) 5 (fun g ds m => ds = [.obj g.1.length, netD g.2.1.1.1 g.2.1.1.2, .int g.2.1.2.1, .int g.2.1.2.2, .tup (g.2.2.map prD)] ∧ m = g.1 ++ [.ins 22 []] ∧ g.2.1.1.2.length ≤ 8 ∧ RowsOk g.2.1.1.1 g.2.1.1.2 g.2.1.2.1 g.2.1.2.2 g.2.2)
  (fun g ds m r m' => r = .non ∧ m' = g.1 ++ [.ins 22 (bookF g.2.1.1.1 g.2.1.1.2 g.2.1.2.1 g.2.1.2.2 g.2.2)])
theorem eqd_row0 (r : List Tn) : eqd (rowD r) (.tup []) = decide (r = []) := by cases r <;> simp [rowD, eqd, eqds]
theorem okN_row (j : Nat) (r : List Tn) : okN (j + 2) (rowD r) = true := by
  show (r.map tnD).all (okN (j + 1)) = true
  rw [List.all_eq_true]
  intro x hx
  obtain ⟨t, _, rfl⟩ := List.mem_map.mp hx
  simp [tnD, okN, okR1]
theorem told_go {env : Env'} {m : Mem} {dt : TB} {dk dv : TD} {tg : Tg} : ∀ {r acc : Rws} {Q : List (Dat × Dat) → Mem → Prop}, (∀ p : Bk × List Tn, ∃ env2, bind tg (.f (prD p)) env = some env2 ∧ EvB dt env2 m (decide (p.2 ≠ [])) ∧ Ev dk env2 m (.f (keyD p.1)) ∧ Ev dv env2 m (.f (rowD p.2))) →
    ((acc ++ r).map (·.1)).Nodup → Q (toldD (acc ++ fullR r)) m → dxGo tg dt dk dv env (r.map prD) (toldD acc) m Q
  | [], acc, Q, _, _, h => by
    have e : acc ++ fullR [] = acc := by simp [fullR]
    rw [e] at h
    exact h
  | p :: r, acc, Q, hd, nd, h => by
    obtain ⟨env2, e, h1, h2, h3⟩ := hd p
    rw [List.map_cons]
    unfold dxGo
    rw [e]
    refine h1 _ ?_
    have hn : p.1 ∉ acc.map (·.1) := by
      rw [List.map_append, List.nodup_append] at nd
      intro z
      exact nd.2.2 _ z _ (by simp) rfl
    by_cases hp : p.2 = []
    · have e1 : decide (p.2 ≠ []) = false := by simp [hp]
      rw [e1, if_neg Bool.false_ne_true]
      refine told_go hd (nd.sublist (List.Sublist.map _ (List.Sublist.append_left (List.sublist_cons_self _ _) _))) ?_
      have e2 : fullR (p :: r) = fullR r := by
        unfold fullR
        rw [List.filter_cons_of_neg (by simp [hp])]
      rw [e2] at h
      exact h
    · have e1 : decide (p.2 ≠ []) = true := by simp [hp]
      rw [e1, if_pos rfl]
      refine h2 _ (h3 _ ?_)
      simp only [tKey_key]
      rw [putT_new hn]
      refine told_go hd (by simpa using nd) ?_
      have e2 : fullR (p :: r) = p :: fullR r := by
        unfold fullR
        rw [List.filter_cons_of_pos (by simp [hp])]
      rw [e2] at h
      simpa using h
theorem law_Book_init (C : Ct) : ∀ ds m (Q : QD) (E : QX), p_initB ds m Q E → rd_Book_init C p_bkerr (fun c xs _ m => E c xs m) { nx := fun _ m => Q .non m, rt := Q } (env0 9 ds) m := by
  rintro ds m Q E ⟨_, ⟨m0, ⟨⟨n, ps⟩, t, mk⟩, rs⟩, ⟨rfl, rfl, h8, h⟩, hQ⟩
  have h8 : ps.length ≤ 8 := h8
  have h : RowsOk n ps t mk rs := h
  have hq : Q .non (m0 ++ [.ins 22 (bookF n ps t mk rs)]) := hQ _ _ ⟨rfl, rfl⟩
  have hl := h.len
  show rd_Book_init C p_bkerr _ _ [some (.f (.obj m0.length)), some (.f (netD n ps)), some (.f (.int t)), some (.f (.int mk)), some (.f (.tup (rs.map prD))), none, none, none, none] (m0 ++ [.ins 22 []])
  unfold rd_Book_init
  refine sq_set (a := .non) (ev_fn (γ := BkG × Rws) (eva_cons (ev_v rfl) (eva_cons (ev_v rfl) (eva_cons (ev_v rfl) (eva_cons (ev_v rfl) eva_nil)))) (((n, ps), t, mk), rs) rfl rfl ⟨h8, h⟩) ?_
  show (sSeq _ _) _ [some (.f (.obj m0.length)), some (.f (netD n ps)), some (.f (.int t)), some (.f (.int mk)), some (.f (.tup (rs.map prD))), some (.f .non), none, none, none] _
  refine sq_ifF (EvB.eq (evb_tst (ev_bin (ev_v rfl) ev_c e2_isn)) rfl) ?_
  refine sq_fld (ev_v rfl) rfl (show fi_ground 22 = some 0 from rfl) ?_
  refine sq_fld (ev_v rfl) rfl (show fi_goal 22 = some 1 from rfl) ?_
  refine sq_fld (ev_v rfl) rfl (show fi_width 22 = some 2 from rfl) ?_
  have e3 : ∀ m, Ev (dDx (.tp [6, 7]) (dTst (dBin (oEq not) (dVar 7) (dN oTup dNil))) (dVar 6) (dVar 7) [6, 7] (iVal (dVar 4))) [some (.f (.obj m0.length)), some (.f (netD n ps)), some (.f (.int t)), some (.f (.int mk)), some (.f (.tup (rs.map prD))), some (.f .non), none, none, none] m (.f (.dct (toldD (fullR rs)))) := fun m Q q => by
    unfold dDx
    refine (evi_tup (d := dVar 4) (xs := rs.map prD) (ev_v rfl)) _ ⟨by rw [List.length_map]; exact sz (by omega), ?_⟩
    refine told_go (r := rs) (acc := []) (fun p => ⟨_, rfl, ?_, ev_v rfl, ev_v rfl⟩) (by simpa using h.nd) (by simpa using q)
    refine (evb_tst (ev_bin (ev_v rfl) (ev_n eva_nil (em_tup (xs := []) rfl (sz (Nat.le_of_ble_eq_true rfl)))) (e2_eq (f := not) (a := rowD p.2) (c := .tup []) rfl rfl (okN_row 58 _) rfl))).eq ?_
    rw [eqd_row0]
    by_cases z : p.2 = [] <;> simp [z]
  refine sq_fld (e3 _) rfl (show fi_told 22 = some 3 from rfl) ?_
  refine st_fld (z := .lst ((rs.flatMap (·.2)).map tnD)) ?_ rfl (show fi_turns 22 = some 4 from rfl) ?_
  · have e4 := evn_lc2 (env := [some (.f (.obj m0.length)), some (.f (netD n ps)), some (.f (.int t)), some (.f (.int mk)), some (.f (.tup (rs.map prD))), some (.f .non), none, none, none]) (m := m0 ++ [.ins 22 ([] ++ [netD n ps] ++ [Dat.int t] ++ [Dat.int mk] ++ [Dat.dct (toldD (fullR rs))])]) (tg := .tp [6, 7]) (tg1 := .nm 8) (vs := [6, 7, 8]) (vs1 := [8]) (di := iVal (dVar 4)) (di1 := iVal (dVar 7)) (de := dVar 8)
      (xs := rs) (g := prD) (ys := fun p => p.2) (g1 := fun _ t => tnD t) (f := fun _ t => tnD t) (evi_tup (ev_v rfl)) rfl (by omega)
      (fun p hp => ⟨_, rfl, evi_tup (ev_v rfl), by have := (h.row p hp).len; omega, fun t ht => ⟨_, rfl, ev_v rfl⟩⟩)
    refine (ev_new e4).eq ?_
    rw [List.map_flatMap]
  · exact hq
theorem bel_came (k : Nat) (b : Option Nat) : bel k (cameD b) = true := by cases b <;> rfl
theorem bel_key (k : Nat) (q : Bk) : bel k (keyD q) = true := by simp [keyD, bel, bels, bel_came]
theorem bels_map {α : Type} {k : Nat} {f : α → Dat} (h : ∀ x, bel k (f x) = true) : ∀ xs : List α, bels k (xs.map f) = true
  | [] => rfl
  | x :: xs => by rw [List.map_cons, bels, h, bels_map h xs]; rfl
theorem bel_tn (k : Nat) (t : Tn) : bel k (tnD t) = true := by simp [tnD, bel, bels]
theorem bel_row (k : Nat) (r : List Tn) : bel k (rowD r) = true := bels_map (bel_tn k) r
theorem belk_told (k : Nat) : ∀ rs : Rws, belk k (toldD rs) = true
  | [] => rfl
  | p :: rs => by
    show belk k ((keyD p.1, rowD p.2) :: toldD rs) = true
    rw [belk, bel_key, bel_row, belk_told k rs]
    rfl
theorem bel_net (k n : Nat) (ps : List Lk) : bel k (netD n ps) = true := by
  have : bels k (ps.map lk) = true := bels_map (fun p => by simp [lk, bel, bels]) ps
  simp [netD, bel, bels, this]
theorem bels_book (k n : Nat) (ps : List Lk) (t mk : Nat) (rs : Rws) : bels k (bookF n ps t mk rs) = true := by
  have h1 := bel_net k n ps
  have h2 := belk_told k (fullR rs)
  have h3 : bels k ((rs.flatMap (·.2)).map tnD) = true := bels_map (bel_tn k) _
  simp only [bookF, bels, h1, bel, h2, h3, Bool.and_self]
theorem ev_book {env : Env'} {m : Mem} {da : TAd} {EX : QXe} {n : Nat} {ps : List Lk} {t mk : Nat} {rs : Rws} (h8 : ps.length ≤ 8) (h : RowsOk n ps t mk rs) (hb : belM m.length m = true) (ha : EvA da env m [.f (netD n ps), .f (.int t), .f (.int mk), .f (.tup (rs.map prD))]) :
    Ev (dMakeF 22 5 p_initB EX da) env m (.f (bookD n ps t mk rs)) := fun Q q => ha _ (by
  show p_initB [.obj m.length, netD n ps, .int t, .int mk, .tup (rs.map prD)] (m ++ [.ins 22 []]) _ _
  refine ⟨rfl, (m, ((n, ps), t, mk), rs), ⟨rfl, rfl, h8, h⟩, ?_⟩
  rintro r m' ⟨rfl, rfl⟩
  exact ⟨rfl, m, _, rfl, rfl, rfl, hb, bels_book _ _ _ _ _ _, q⟩)
def bkD (g : BG) : Dat := bookD g.1.1.1 g.1.1.2 g.1.2.1 g.1.2.2 g.2
def p_bnet : DSp := pT 1 (fun g : BG => [bkD g]) (fun _ => True) (fun g => netD g.1.1.1 g.1.1.2)
theorem law_Book_net (C : Ct) : ∀ ds m (Q : QD) (E : QX), p_bnet ds m Q E → rd_Book_net C (fun c xs _ m => E c xs m) { nx := fun _ m => Q .non m, rt := Q } (env0 1 ds) m := by
  rintro _ m Q E ⟨_, ⟨⟨⟨n, ps⟩, t, mk⟩, rs⟩, rfl, _, hq⟩
  exact st_ret (ev_fld (c := 22) (xs := bookF n ps t mk rs) (ev_v rfl) rfl (show fi_ground 22 = some 0 from rfl) rfl) hq
def p_btarget : DSp := pT 1 (fun g : BG => [bkD g]) (fun _ => True) (fun g => .int g.1.2.1)
theorem law_Book_target (C : Ct) : ∀ ds m (Q : QD) (E : QX), p_btarget ds m Q E → rd_Book_target C (fun c xs _ m => E c xs m) { nx := fun _ m => Q .non m, rt := Q } (env0 1 ds) m := by
  rintro _ m Q E ⟨_, ⟨⟨⟨n, ps⟩, t, mk⟩, rs⟩, rfl, _, hq⟩
  exact st_ret (ev_fld (c := 22) (xs := bookF n ps t mk rs) (ev_v rfl) rfl (show fi_goal 22 = some 1 from rfl) rfl) hq
def p_rowat : DSp := pT 2 (fun g : BG × Bk => [bkD g.1, keyD g.2]) (fun g => (g.1.2.map (·.1)).Nodup) (fun g => rowD (rowAt g.1.2 g.2))
theorem told_get {rs : Rws} (nd : (rs.map (·.1)).Nodup) (k : Bk) : (getT (toldD (fullR rs)) (keyK k)).getD (.tup []) = rowD (rowAt rs k) := by
  rw [getT_told, getD_row]
  exact congrArg rowD (rowAt_full nd k)
theorem law_Book_row_at (C : Ct) : ∀ ds m (Q : QD) (E : QX), p_rowat ds m Q E → rd_Book_row_at C (fun c xs _ m => E c xs m) { nx := fun _ m => Q .non m, rt := Q } (env0 2 ds) m := by
  rintro _ m Q E ⟨_, ⟨⟨⟨⟨n, ps⟩, t, mk⟩, rs⟩, k⟩, rfl, nd, hq⟩
  have nd : (rs.map (·.1)).Nodup := nd
  have ed : Ev (dFld fi_told (dVar 0)) [some (.f (bookD n ps t mk rs)), some (.f (keyD k))] m (.f (.dct (toldD (fullR rs)))) := ev_fld (c := 22) (xs := bookF n ps t mk rs) (ev_v rfl) rfl (show fi_told 22 = some 3 from rfl) rfl
  refine st_ret ((ev_getT ed (eva_cons (ev_v rfl) (eva_cons (ev_n eva_nil (em_tup (xs := []) rfl (sz (Nat.le_of_ble_eq_true rfl)))) eva_nil)) rfl (tKey_key k) (tKeys_told _) (keys_nd (full_nd nd))).eq ?_) hq
  rw [told_get nd]
end DL.S

set_option maxHeartbeats 1000000
namespace DL
open PySem PySem.Spec PyProof.Rows L2
theorem keep_i {i : Nat} {xs : List Dat} {d : TSd} {D : En} {env : Env'} {m : Mem} (e : env[i]? = some (some (.own (.lst xs)))) (h : d D (env.set i (some (.f (.lst xs)))) m) : sKeep i d D env m := by
  unfold sKeep; rw [e]; exact h
end DL
namespace DL.S
open PySem PySem.Spec PyProof.Rows L2 DL K02

def stepS (ps : List Lk) (rs : Rws) (o : List Nat) (k : Bk) : Option Bk := ((rowAt rs k).find? fun t => !decide (t.1 ∈ o)).map fun t => (farN (ps.getD t.1 (0, 0)) k.1, some t.1, t.2)
def tripW (nx : Bk → Option Bk) (t : Nat) : Nat → List Bk → Bk → List Bk × Str
  | 0, pre, h => (pre ++ [h], "none")
  | f + 1, pre, h => if h.1 = t then (pre ++ [h], "home") else match nx h with
    | none => (pre ++ [h], "lost")
    | some s => if s ∈ pre ++ [h] then (pre ++ [h] ++ [s], "round") else tripW nx t f (pre ++ [h]) s
def endsW (nx : Bk → Option Bk) (t : Nat) : Nat → List Bk → Bk → Prop
  | 0, _, _ => False
  | f + 1, pre, h => h.1 = t ∨ match nx h with
    | none => True
    | some s => s ∈ pre ++ [h] ∨ endsW nx t f (pre ++ [h]) s
theorem rowAt_ok {n : Nat} {ps : List Lk} {t mk : Nat} {rs : Rws} (h : RowsOk n ps t mk rs) (k : Bk) : RowOk ps k.1 mk (rowAt rs k) := by
  unfold rowAt
  cases e : rowOf rs k with
  | none => exact ⟨fun t ht => (List.not_mem_nil ht).elim, List.nodup_nil⟩
  | some r => exact h.row _ (rowOf_mem e)
def Valid (ps : List Lk) (start : Nat) (k : Bk) : Prop := k = (start, none, 0) ∨ ∃ c, k.2.1 = some c ∧ c < ps.length ∧ (k.1 = (ps.getD c (0, 0)).1 ∨ k.1 = (ps.getD c (0, 0)).2) ∧ k.2.2 < 3
theorem code_inj {ps : List Lk} {start : Nat} {k q : Bk} (hk : Valid ps start k) (hq : Valid ps start q) (e : code ps k = code ps q) : k = q := by
  obtain ⟨v, b, j⟩ := k
  obtain ⟨v', b', j'⟩ := q
  rcases hk with hk | ⟨c, hc, h1, h2, h3⟩
  · rcases hq with hq | ⟨c', hc', h1', h2', h3'⟩
    · rw [hk, hq]
    · cases hk
      have hc' : b' = some c' := hc'
      subst hc'
      have e : 0 = 1 + (c' * 2 + (if v' = (ps.getD c' (0, 0)).1 then 0 else 1)) * 3 + j' := e
      exfalso
      omega
  · have hc : b = some c := hc
    subst hc
    rcases hq with hq | ⟨c', hc', h1', h2', h3'⟩
    · cases hq
      have e : 1 + (c * 2 + (if v = (ps.getD c (0, 0)).1 then 0 else 1)) * 3 + j = 0 := e
      exfalso
      omega
    · have hc' : b' = some c' := hc'
      subst hc'
      have h3 : j < 3 := h3
      have h3' : j' < 3 := h3'
      have h2 : v = (ps.getD c (0, 0)).1 ∨ v = (ps.getD c (0, 0)).2 := h2
      have h2' : v' = (ps.getD c' (0, 0)).1 ∨ v' = (ps.getD c' (0, 0)).2 := h2'
      have e : 1 + (c * 2 + (if v = (ps.getD c (0, 0)).1 then 0 else 1)) * 3 + j = 1 + (c' * 2 + (if v' = (ps.getD c' (0, 0)).1 then 0 else 1)) * 3 + j' := e
      have hcc : c = c' := by
        split at e <;> split at e <;> omega
      subst hcc
      have hjj : j = j' := by split at e <;> split at e <;> omega
      subst hjj
      have hvv : v = v' := by
        split at e <;> split at e <;> omega
      rw [hvv]
theorem code_lt {ps : List Lk} {start : Nat} {k : Bk} (h8 : ps.length ≤ 8) (hk : Valid ps start k) : code ps k < 49 := by
  obtain ⟨v, b, j⟩ := k
  rcases hk with hk | ⟨c, hc, h1, h2, h3⟩
  · cases hk
    simp [code]
  · have hc : b = some c := hc
    subst hc
    have h3 : j < 3 := h3
    show 1 + (c * 2 + (if v = (ps.getD c (0, 0)).1 then 0 else 1)) * 3 + j < 49
    split <;> omega
theorem valid_len {ps : List Lk} {start : Nat} {l : List Bk} (h8 : ps.length ≤ 8) (nd : l.Nodup) (h : ∀ k ∈ l, Valid ps start k) : l.length ≤ 49 := by
  have := nodup_len (n := 49) (l := l.map (code ps)) (List.pairwise_map.mpr (List.Pairwise.imp_of_mem (fun ha hb hne e => hne (code_inj (h _ ha) (h _ hb) e)) nd)) fun x hx => by
    obtain ⟨k, hk, rfl⟩ := List.mem_map.mp hx
    exact code_lt h8 (h k hk)
  simpa using this
theorem farN_or (p : Lk) (v : Nat) : farN p v = p.1 ∨ farN p v = p.2 := by
  unfold farN
  split
  · exact .inr rfl
  · exact .inl rfl
section
variable {n : Nat} {ps : List Lk} {t mk : Nat} {rs : Rws} {o : List Nat} {start : Nat}
theorem step_valid (h : RowsOk n ps t mk rs) (h3 : mk ≤ 3) {k s : Bk} (e : stepS ps rs o k = some s) : Valid ps start s := by
  obtain ⟨x, hx, rfl⟩ := Option.map_eq_some_iff.mp e
  have hm := List.mem_of_find?_eq_some hx
  obtain ⟨h1, h2⟩ := (rowAt_ok h k).at_ x hm
  have := atL_lt h1
  exact .inr ⟨x.1, rfl, this, farN_or _ _, by show x.2 < 3; omega⟩
theorem ends_of (h : RowsOk n ps t mk rs) (h8 : ps.length ≤ 8) (h3 : mk ≤ 3) : ∀ (f : Nat) (pre : List Bk) (k : Bk), (pre ++ [k]).Nodup → (∀ q ∈ pre ++ [k], Valid ps start q) → 50 ≤ (pre ++ [k]).length + f → endsW (stepS ps rs o) t f pre k
  | 0, pre, k, nd, hv, hl => by
    have := valid_len h8 nd hv
    omega
  | f + 1, pre, k, nd, hv, hl => by
    unfold endsW
    by_cases e : k.1 = t
    · exact .inl e
    · refine .inr ?_
      split
      · trivial
      · rename_i s hs
        by_cases hm : s ∈ pre ++ [k]
        · exact .inl hm
        · refine .inr (ends_of h h8 h3 f (pre ++ [k]) s ?_ ?_ ?_)
          · rw [List.nodup_append]
            exact ⟨nd, by simp, fun a ha b hb e => by
              have hb : b = s := by simpa using hb
              subst hb
              exact hm (e ▸ ha)⟩
          · intro q hq
            rcases List.mem_append.mp hq with hq | hq
            · exact hv q hq
            · have hq : q = s := by simpa using hq
              subst hq
              exact step_valid h h3 hs
          · rw [List.length_append]
            simp only [List.length_cons, List.length_nil]
            omega
theorem ends_start (h : RowsOk n ps t mk rs) (h8 : ps.length ≤ 8) (h3 : mk ≤ 3) : endsW (stepS ps rs o) t 70 [] (start, none, 0) :=
  ends_of (start := start) h h8 h3 70 [] (start, none, 0) (by simp) (fun q hq => .inl (by simpa using hq)) (by simp)
end
def optK : Option Bk → Dat
  | none => .non
  | some k => keyD k
def tripD (x : List Bk × Str) : Dat := .tup [.tup (x.1.map keyD), .str x.2]
def p_nstop : DSp := pT 3 (fun g : BG × Bk × List Nat => [bkD g.1, keyD g.2.1, outD g.2.2]) (fun g => RowsOk g.1.1.1.1 g.1.1.1.2 g.1.1.2.1 g.1.1.2.2 g.1.2 ∧ g.1.1.1.2.length ≤ 8) (fun g => optK (stepS g.1.1.1.2 g.1.2 g.2.2 g.2.1))
theorem any_out (o : List Nat) (k : Nat) : ((natsD o).any fun b => eqd b (.int (k : Nat))) = decide (k ∈ o) := any_nats o k
theorem getD_at {ps : List Lk} {k : Nat} (h : k < ps.length) : ps[k]? = some (ps.getD k (0, 0)) := by
  rw [List.getD_eq_getElem?_getD, List.getElem?_eq_getElem h]; rfl
theorem ns_loop {D : En} {m : Mem} {g : BG} {k : Bk} {o : List Nat} : ∀ (r : List Tn) (x3 x4 : Option Sl), (∀ t ∈ r, t.1 < g.1.1.2.length) →
    (∀ x, r.find? (fun t => !decide (t.1 ∈ o)) = some x → D.rt (keyD (farN (g.1.1.2.getD x.1 (0, 0)) k.1, some x.1, x.2)) m) → (r.find? (fun t => !decide (t.1 ∈ o)) = none → ∀ x3 x4, D.nx [some (.f (bkD g)), some (.f (keyD k)), some (.f (outD o)), x3, x4] m) →
    forGo (.tp [3, 4]) (sIf (dTst (dBin (oIn not) (dVar 3) (dVar 2)))
  (sRet (dN oTup (dCons (dMeth 3 p_nfar EX0 (dProp 22 p_bnet (dVar 0)) (dCons (dVar 3) (dCons (dBin oIx (dVar 1) (dC (.int 0))) dNil))) (dCons (dVar 3) (dCons (dVar 4) dNil)))))
  sNext) D (r.map tnD) [some (.f (bkD g)), some (.f (keyD k)), some (.f (outD o)), x3, x4] m
  | [], x3, x4, _, _, hn => hn rfl _ _
  | x :: r, x3, x4, hl, hs, hn => by
    rw [List.map_cons]
    unfold forGo
    show (sIf _ _ _) _ [some (.f (bkD g)), some (.f (keyD k)), some (.f (outD o)), some (.f (.int x.1)), some (.f (.int x.2))] m
    have et := (evb_tst (ev_bin (ev_v (env := [some (.f (bkD g)), some (.f (keyD k)), some (.f (outD o)), some (.f (.int x.1)), some (.f (.int x.2))]) (m := m) (i := 3) rfl) (ev_v (i := 2) rfl) (e2_in (f := not) (a := .int x.1) (bs := natsD o) rfl rfl (okR1 _ _) (okN_nats _)))).eq (by rw [any_out])
    refine st_if et (fun hb => ?_) (fun hb => ?_)
    · have hx := hl x List.mem_cons_self
      refine st_ret (a := keyD (farN (g.1.1.2.getD x.1 (0, 0)) k.1, some x.1, x.2)) ?_ (hs x (List.find?_cons_of_pos hb))
      have ef : Ev (dMeth 3 p_nfar EX0 (dProp 22 p_bnet (dVar 0)) (dCons (dVar 3) (dCons (dBin oIx (dVar 1) (dC (.int 0))) dNil))) [some (.f (bkD g)), some (.f (keyD k)), some (.f (outD o)), some (.f (.int x.1)), some (.f (.int x.2))] m (.f (.int (farN (g.1.1.2.getD x.1 (0, 0)) k.1 : Nat))) := by
        refine Ev.eq (ev_me (ev_prT (ev_v rfl) rfl g rfl rfl trivial) rfl (eva_cons (ev_v rfl) (eva_cons (ev_bin (ev_v rfl) ev_c (e2_ix (xs := [.int k.1, cameD k.2.1, .int k.2.2]) rfl (atI0 _ _))) eva_nil)) rfl fun Q E q => ⟨rfl, ((g.1.1.1, g.1.1.2), x.1, (k.1 : Int)), rfl, hx, q⟩) ?_
        dsimp only
        rw [far_cast (getD_at hx)]
      exact ev_n (eva_cons ef (eva_cons (ev_v rfl) (eva_cons (ev_v rfl) eva_nil))) (em_tup rfl (sz (Nat.le_of_ble_eq_true rfl)))
    · exact ns_loop r _ _ (fun t ht => hl t (List.mem_cons_of_mem _ ht)) (fun y hy => hs y (by rw [List.find?_cons_of_neg (by simp [hb])]; exact hy)) (fun z => hn (by rw [List.find?_cons_of_neg (by simp [hb])]; exact z))
theorem ev_rowat {env : Env'} {m : Mem} {d : TD} {da : TAd} {g : BG} {k : Bk} (nd : (g.2.map (·.1)).Nodup) (h : Ev d env m (.f (bkD g))) (ha : EvA da env m [.f (keyD k)]) : Ev (dMeth 22 p_rowat EX0 d da) env m (.f (rowD (rowAt g.2 k))) :=
  ev_me h rfl ha rfl fun Q E q => ⟨rfl, (g, k), rfl, nd, q⟩
theorem law_next_stop (C : Ct) : ∀ ds m (Q : QD) (E : QX), p_nstop ds m Q E → rd_next_stop C p_rowat p_nfar p_bnet (fun c xs _ m => E c xs m) { nx := fun _ m => Q .non m, rt := Q } (env0 5 ds) m := by
  rintro _ m Q E ⟨_, ⟨g, k, o⟩, rfl, ⟨h, h8⟩, hq⟩
  have h : RowsOk g.1.1.1 g.1.1.2 g.1.2.1 g.1.2.2 g.2 := h
  have hq : Q (optK (stepS g.1.1.2 g.2 o k)) m := hq
  show rd_next_stop C p_rowat p_nfar p_bnet _ _ [some (.f (bkD g)), some (.f (keyD k)), some (.f (outD o)), none, none] m
  unfold rd_next_stop
  refine sq_for ((evi_tup (xs := (rowAt g.2 k).map tnD) (ev_rowat h.nd (ev_v rfl) (eva_cons (ev_v rfl) eva_nil))) _ ?_)
  unfold stepS at hq
  refine ns_loop (rowAt g.2 k) _ _ (fun t ht => atL_lt ((rowAt_ok h k).at_ t ht).1) (fun x hx => ?_) (fun hx x3 x4 => ?_)
  · rw [hx] at hq
    exact hq
  · rw [hx] at hq
    show sRet (dC .non) { nx := fun _ m => Q .non m, rt := Q } [some (.f (bkD g)), some (.f (keyD k)), some (.f (outD o)), x3, x4] m
    exact st_ret ev_c hq
theorem ev_btarget {env : Env'} {m : Mem} {d : TD} {g : BG} (h : Ev d env m (.f (bkD g))) : Ev (dProp 22 p_btarget d) env m (.f (.int g.1.2.1)) := ev_prT h rfl g rfl rfl trivial
theorem ev_nstop {env : Env'} {m : Mem} {da : TAd} {g : BG} {k : Bk} {o : List Nat} (h : RowsOk g.1.1.1 g.1.1.2 g.1.2.1 g.1.2.2 g.2) (h8 : g.1.1.2.length ≤ 8) (ha : EvA da env m [.f (bkD g), .f (keyD k), .f (outD o)]) : Ev (dCall p_nstop EX0 da) env m (.f (optK (stepS g.1.1.2 g.2 o k))) :=
  ev_fn (γ := BG × Bk × List Nat) ha (g, k, o) rfl rfl ⟨h, h8⟩
theorem cut_last {α : Type} (xs : List α) (a : α) : DL.cutD (xs ++ [a]) none (some (-1)) = xs := by
  unfold DL.cutD
  simp [HT.sIx]
  rw [show (-1 + ((xs.length : Int) + 1)).toNat = xs.length by omega]
  simp
theorem keys_last (pre : List Bk) (h : Bk) : atI ((pre ++ [h]).map keyD) (-1) = some (keyD h) := by
  rw [List.map_append]
  exact L2.atI_last _ _
def p_walked : DSp := pT 3 (fun g : BG × Nat × List Nat => [bkD g.1, .int g.2.1, outD g.2.2]) (fun g => RowsOk g.1.1.1.1 g.1.1.1.2 g.1.1.2.1 g.1.1.2.2 g.1.2 ∧ g.1.1.1.2.length ≤ 8 ∧ g.1.1.2.2 ≤ 3) (fun g => tripD (tripW (stepS g.1.1.1.2 g.1.2 g.2.2) g.1.1.2.1 70 [] (g.2.1, none, 0)))
theorem wk_loop {D : En} {m : Mem} {g : BG} {o : List Nat} {x1 : Option Sl} (h : RowsOk g.1.1.1 g.1.1.2 g.1.2.1 g.1.2.2 g.2) (h8 : g.1.1.2.length ≤ 8) : ∀ (f : Nat) (pre : List Bk) (k : Bk) (x4 : Option Sl), endsW (stepS g.1.1.2 g.2 o) g.1.2.1 f pre k → pre.length + f ≤ 200 →
    (∀ (x3 x4 : Option Sl), D.rt (tripD (tripW (stepS g.1.1.2 g.2 o) g.1.2.1 f pre k)) m) →
    (∀ (l : List Bk) (x4 : Option Sl), tripW (stepS g.1.1.2 g.2 o) g.1.2.1 f pre k = (l, ("home" : Str)) → D.nx [some (.f (bkD g)), x1, some (.f (outD o)), some (.own (.lst (l.map keyD))), x4] m) →
    whGo (dTst (dBin (oEq not) (dBin oIx (dBin oIx (dVar 3) (dUn (oU fun i => -i) (dC (.int 1)))) (dC (.int 0))) (dProp 22 p_btarget (dVar 0))))
  (sSeq (sAsg (.nm 4) (dCall p_nstop EX0 (dCons (dVar 0) (dCons (dBin oIx (dVar 3) (dUn (oU fun i => -i) (dC (.int 1)))) (dCons (dVar 2) dNil)))))
  (sSeq (sIf (dTst (dBin (oIsN id) (dVar 4) (dC .non)))
  (sKeep 3 (sRet (dN oTup (dCons (dN oTuple (dCons (dVar 3) dNil)) (dCons (dC (.str "lost")) dNil)))))
  sNext)
  (sSeq (sApp (dVar 3) (dVar 4))
  (sIf (dTst (dBin (oIn id) (dVar 4) (dSl (dVar 3) dNo (dPart (dUn (oU fun i => -i) (dC (.int 1)))))))
  (sKeep 3 (sRet (dN oTup (dCons (dN oTuple (dCons (dVar 3) dNil)) (dCons (dC (.str "round")) dNil)))))
  sNext)))) D f [some (.f (bkD g)), x1, some (.f (outD o)), some (.own (.lst ((pre ++ [k]).map keyD))), x4] m
  | 0, pre, k, x4, he, _, _, _ => he.elim
  | f + 1, pre, k, x4, he, hl, hr, hn => by
    have el : ∀ {x4 : Option Sl}, Ev (dBin oIx (dVar 3) (dUn (oU fun i => -i) (dC (.int 1)))) [some (.f (bkD g)), x1, some (.f (outD o)), some (.own (.lst ((pre ++ [k]).map keyD))), x4] m (.f (keyD k)) := fun {x4} => ev_bin (ev_o rfl) (ev_un ev_c e1_u) (e2_ix (x := .o 3) (xs := (pre ++ [k]).map keyD) (i := -1) rfl (keys_last _ _))
    have et := evb_tst (ev_bin (ev_bin (el (x4 := x4)) ev_c (e2_ix (xs := [.int k.1, cameD k.2.1, .int k.2.2]) (i := 0) rfl (atI0 _ _))) (ev_btarget (ev_v (i := 0) rfl)) (e2_eq (f := not) (a := .int k.1) (c := .int g.1.2.1) rfl rfl (okR1 _ _) (okR1 _ _)))
    rw [eqd_ii] at et
    unfold whGo
    refine et _ ?_
    unfold tripW at hr hn
    by_cases e : k.1 = g.1.2.1
    · rw [if_pos e] at hr hn
      have e1 : (!decide ((k.1 : Int) = g.1.2.1)) = false := by simp [e]
      rw [e1]
      exact hn _ _ rfl
    · rw [if_neg e] at hr hn
      have e1 : (!decide ((k.1 : Int) = g.1.2.1)) = true := by
        have : ¬ (k.1 : Int) = g.1.2.1 := by omega
        simp [this]
      rw [e1, if_pos rfl]
      unfold endsW at he
      have he := he.resolve_left e
      refine sq_set (ev_nstop h h8 (eva_cons (ev_v rfl) (eva_cons el (eva_cons (ev_v rfl) eva_nil)))) ?_
      show (sSeq _ _) _ [some (.f (bkD g)), x1, some (.f (outD o)), some (.own (.lst ((pre ++ [k]).map keyD))), some (.f (optK (stepS g.1.1.2 g.2 o k)))] m
      cases hs : stepS g.1.1.2 g.2 o k with
      | none =>
        rw [hs] at hr hn
        refine sq_ifT (EvB.eq (evb_tst (ev_bin (ev_v rfl) ev_c e2_isn)) rfl) ?_
        refine keep_i rfl ?_
        exact st_ret (ev_n (eva_cons (ev_n (eva_cons (ev_v rfl) eva_nil) (fun Q q => by simp only [oTuple, seqOf, der]; exact q)) (eva_cons ev_c eva_nil)) (em_tup rfl (sz (Nat.le_of_ble_eq_true rfl)))) (hr none none)
      | some s =>
        rw [hs] at hr hn he
        refine sq_ifF (EvB.eq (evb_tst (ev_bin (ev_v (a := keyD s) rfl) ev_c e2_isn)) rfl) ?_
        refine st_seq (st_app (z := keyD s) rfl (ev_v rfl) (by rw [List.length_map, List.length_append]; exact Nat.lt_of_lt_of_le (by simp; omega : _ < 1000) (sz (by decide))) ?_)
        dsimp only
        show sIf _ _ _ _ [some (.f (bkD g)), x1, some (.f (outD o)), some (.own (.lst ((pre ++ [k]).map keyD ++ [keyD s]))), some (.f (keyD s))] m
        have em : (pre ++ [k]).map keyD ++ [keyD s] = (pre ++ [k] ++ [s]).map keyD := by simp
        have ec := evb_tst (ev_bin (ev_v (env := [some (.f (bkD g)), x1, some (.f (outD o)), some (.own (.lst ((pre ++ [k]).map keyD ++ [keyD s]))), some (.f (keyD s))]) (m := m) (i := 4) rfl) (ev_slL (ev_o (i := 3) rfl) evo_no (evo_p (ev_un ev_c e1_u)) rfl) (e2_in (f := id) (a := keyD s) (bs := (pre ++ [k]).map keyD) rfl (by show some _ = some _; rw [cut_last]) (okN_key 59 _) (okN_keys _)))
        rw [any_keys] at ec
        refine st_if ec (fun hb => ?_) (fun hb => ?_)
        · have hm : s ∈ pre ++ [k] := by simpa using hb
          dsimp only at hr
          rw [if_pos hm] at hr
          rw [em]
          refine keep_i rfl ?_
          exact st_ret (ev_n (eva_cons (ev_n (eva_cons (ev_v rfl) eva_nil) (fun Q q => by simp only [oTuple, seqOf, der]; exact q)) (eva_cons ev_c eva_nil)) (em_tup rfl (sz (Nat.le_of_ble_eq_true rfl)))) (hr none none)
        · have hm : s ∉ pre ++ [k] := fun z => by rw [show decide (s ∈ pre ++ [k]) = true from decide_eq_true z] at hb; cases hb
          dsimp only at hr hn he
          rw [if_neg hm] at hr hn
          show whGo _ _ _ _ [some (.f (bkD g)), x1, some (.f (outD o)), some (.own (.lst ((pre ++ [k]).map keyD ++ [keyD s]))), some (.f (keyD s))] m
          rw [em]
          exact wk_loop h h8 f (pre ++ [k]) s _ (he.resolve_left hm) (by rw [List.length_append]; simp; omega) hr hn
theorem law_walked (C : Ct) : ∀ ds m (Q : QD) (E : QX), p_walked ds m Q E → rd_walked C p_nstop p_btarget (fun c xs _ m => E c xs m) { nx := fun _ m => Q .non m, rt := Q } (env0 5 ds) m := by
  rintro _ m Q E ⟨_, ⟨g, start, o⟩, rfl, ⟨h, h8, h3⟩, hq⟩
  have h : RowsOk g.1.1.1 g.1.1.2 g.1.2.1 g.1.2.2 g.2 := h
  have h8 : g.1.1.2.length ≤ 8 := h8
  have h3 : g.1.2.2 ≤ 3 := h3
  have hq : Q (tripD (tripW (stepS g.1.1.2 g.2 o) g.1.2.1 70 [] (start, none, 0))) m := hq
  show rd_walked C p_nstop p_btarget _ _ [some (.f (bkD g)), some (.f (.int start)), some (.f (outD o)), none, none] m
  unfold rd_walked
  refine sq_own (xs := [keyD (start, none, 0)]) (evn_lst (eva_cons (ev_n (eva_cons (ev_v rfl) (eva_cons ev_c (eva_cons ev_c eva_nil))) (em_tup rfl (sz (Nat.le_of_ble_eq_true rfl)))) eva_nil) rfl (sz (Nat.le_of_ble_eq_true rfl))) ?_
  refine st_seq ⟨70, ?_⟩
  refine wk_loop (x1 := some (.f (.int start))) (o := o) h h8 70 [] (start, none, 0) none (ends_start h h8 h3) (by simp) (fun _ _ => hq) (fun l x4 e => ?_)
  dsimp only
  refine keep_i (xs := l.map keyD) rfl ?_
  rw [e] at hq
  exact st_ret (ev_n (eva_cons (ev_n (eva_cons (ev_v rfl) eva_nil) (fun Q q => by simp only [oTuple, seqOf, der]; exact q)) (eva_cons ev_c eva_nil)) (em_tup rfl (sz (Nat.le_of_ble_eq_true rfl)))) hq
theorem ev_walked {env : Env'} {m : Mem} {da : TAd} {g : BG} {start : Nat} {o : List Nat} (h : RowsOk g.1.1.1 g.1.1.2 g.1.2.1 g.1.2.2 g.2) (h8 : g.1.1.2.length ≤ 8) (h3 : g.1.2.2 ≤ 3) (ha : EvA da env m [.f (bkD g), .f (.int start), .f (outD o)]) : Ev (dCall p_walked EX0 da) env m (.f (tripD (tripW (stepS g.1.1.2 g.2 o) g.1.2.1 70 [] (start, none, 0)))) :=
  ev_fn (γ := BG × Nat × List Nat) ha (g, start, o) rfl rfl ⟨h, h8, h3⟩
abbrev tripOf (g : BG) (start : Nat) (o : List Nat) : List Bk × Str := tripW (stepS g.1.1.2 g.2 o) g.1.2.1 70 [] (start, none, 0)
def p_fate : DSp := pT 3 (fun g : BG × Nat × List Nat => [bkD g.1, .int g.2.1, outD g.2.2]) (fun g => RowsOk g.1.1.1.1 g.1.1.1.2 g.1.1.2.1 g.1.1.2.2 g.1.2 ∧ g.1.1.1.2.length ≤ 8 ∧ g.1.1.2.2 ≤ 3) (fun g => .str (tripOf g.1 g.2.1 g.2.2).2)
theorem law_fate (C : Ct) : ∀ ds m (Q : QD) (E : QX), p_fate ds m Q E → rd_fate C p_walked (fun c xs _ m => E c xs m) { nx := fun _ m => Q .non m, rt := Q } (env0 3 ds) m := by
  rintro _ m Q E ⟨_, ⟨g, start, o⟩, rfl, ⟨h, h8, h3⟩, hq⟩
  exact st_ret (ev_bin (ev_walked (g := g) (start := start) (o := o) h h8 h3 (eva_cons (ev_v rfl) (eva_cons (ev_v rfl) (eva_cons (ev_v rfl) eva_nil)))) ev_c (e2_ix rfl (atI1 _ _ _))) hq
end DL.S

set_option maxHeartbeats 1000000
namespace DL
open PySem PySem.Spec PyProof.Rows L2
theorem call_i {p : DSp} {EX : QXe} {da : TAd} {env : Env'} {m : Mem} {Q : QL} (h : da env m fun xs m1 => match DL.frs xs with
  | some ds => p ds m1 (fun d m2 => Q (.f d) m2) (fun c ys m2 => EX c ys env m2)
  | none => False) : dCall p EX da env m Q := h
end DL
namespace DL.S
open PySem PySem.Spec PyProof.Rows L2 DL K02

section
variable {D : En} {m : Mem} {ps : List Lk} {mk : Nat} {x0 x2 : Option Sl}
end
end DL.S

set_option maxHeartbeats 1000000
namespace DL
open PySem PySem.Spec PyProof.Rows L2
end DL
namespace DL.S
open PySem PySem.Spec PyProof.Rows L2 DL K02

end DL.S

set_option maxHeartbeats 1000000
namespace DL.S
open PySem PySem.Spec PyProof.Rows L2 DL K02

theorem zipIdx_nd {α : Type} : ∀ (ps : List α) (k : Nat), ((ps.zipIdx k).map (·.2)).Nodup
  | ps, k => by
    rw [List.zipIdx_map_snd]
    exact List.nodup_range'
theorem atL_nd (ps : List Lk) (v : Int) : (atL ps v).Nodup := (zipIdx_nd ps 0).sublist (List.Sublist.map _ List.filter_sublist)
theorem okN_came (k : Nat) (b : Option Nat) : okN k (cameD b) = true := by
  cases b
  · cases k <;> rfl
  · exact okR1 _ _
theorem keysL_ok {n : Nat} {ps : List Lk} {t mk : Nat} (hmk : 0 < mk) {k : Bk} (h : k ∈ keysL n ps t mk) : KeyOk n ps t mk k := by
  unfold keysL at h
  obtain ⟨v, hv, h⟩ := List.mem_flatMap.mp h
  have hv := List.mem_range.mp hv
  split at h
  · cases h
  · rename_i hne
    unfold keysAt at h
    rcases List.mem_cons.mp h with rfl | h
    · exact ⟨hv, hne, hmk, fun c e => (nomatch e), fun _ => rfl⟩
    · obtain ⟨c, hc, h⟩ := List.mem_flatMap.mp h
      obtain ⟨j, hj, rfl⟩ := List.mem_map.mp h
      exact ⟨hv, hne, List.mem_range.mp hj, fun c' e => (by cases e; exact hc), fun e => (nomatch e)⟩
theorem keysL_nd (n : Nat) (ps : List Lk) (t mk : Nat) : (keysL n ps t mk).Nodup := by
  unfold keysL
  rw [List.Nodup, List.pairwise_flatMap]
  have first : ∀ {v : Nat} {k : Bk}, k ∈ (if v = t then [] else keysAt ps mk v) → k.1 = v := fun {v k} h => by
    split at h
    · cases h
    · unfold keysAt at h
      rcases List.mem_cons.mp h with rfl | h
      · rfl
      · obtain ⟨c, hc, h⟩ := List.mem_flatMap.mp h
        obtain ⟨j, hj, rfl⟩ := List.mem_map.mp h
        rfl
  refine ⟨fun v hv => ?_, List.Pairwise.imp (fun {a b} hab x hx y hy e => ?_) List.nodup_range⟩
  · split
    · exact .nil
    · unfold keysAt
      rw [List.pairwise_cons]
      refine ⟨fun k hk e => ?_, ?_⟩
      · obtain ⟨c, hc, h⟩ := List.mem_flatMap.mp hk
        obtain ⟨j, hj, rfl⟩ := List.mem_map.mp h
        cases e
      · rw [List.pairwise_flatMap]
        refine ⟨fun c hc => ?_, List.Pairwise.imp (fun {a b} hab x hx y hy e => ?_) (atL_nd ps v)⟩
        · exact List.Pairwise.map _ (fun a b hab e => hab (by cases e; rfl)) List.nodup_range
        · obtain ⟨j, hj, rfl⟩ := List.mem_map.mp hx
          obtain ⟨j', hj', rfl⟩ := List.mem_map.mp hy
          cases e
          exact hab rfl
  · have h1 := first hx
    have h2 := first hy
    rw [e] at h1
    exact hab (h1.symm.trans h2)
end DL.S

set_option maxHeartbeats 1000000
namespace DL
open PySem PySem.Spec PyProof.Rows L2
end DL
namespace DL.S
open PySem PySem.Spec PyProof.Rows L2 DL K02
section
variable {D : En} {n : Nat} {ps : List Lk} {t mk : Nat} {few kind : Int} {x10 : Option Sl}
end
end DL.S

set_option maxHeartbeats 1000000
namespace DL.S
open PySem PySem.Spec PyProof.Rows L2 DL K02

def every : Nat → List (List Nat)
  | 0 => [[]]
  | n + 1 => every n ++ (every n).map (· ++ [n])
theorem intsD_map {α : Type} (f : α → Int) : ∀ l : List α, intsD (l.map fun x => Dat.int (f x)) = some (l.map f)
  | [] => rfl
  | x :: l => by
    show (intsD (l.map fun x => Dat.int (f x))).map (f x :: ·) = _
    rw [intsD_map f l]; rfl
theorem outOk_len {o : List Nat} {n : Nat} (h : OutOk n o) : o.length ≤ n := by
  have := asc_len (many := n) (k := 0) h.1 (fun l hl => ⟨Nat.zero_le _, h.2 l hl⟩)
  simpa using this
end DL.S

set_option maxHeartbeats 1000000
namespace DL.S
open PySem PySem.Spec PyProof.Rows L2 DL K02

end DL.S

set_option maxHeartbeats 1000000
namespace DL.S
open PySem PySem.Spec PyProof.Rows L2 DL K02

noncomputable def ordO (os : List (List Nat)) : List (List Nat) := os.mergeSort (PySem.W.dataLe false fun o => keyLO (o.map fun l : Nat => (l : Int)))
end DL.S

set_option maxHeartbeats 1000000
namespace DL.S
open PySem PySem.Spec PyProof.Rows L2 DL K02

theorem so_home : PyData.strOk (Str.ofString "home") = true := by decide +kernel
theorem so_lost : PyData.strOk (Str.ofString "lost") = true := by decide +kernel
end DL.S

set_option maxHeartbeats 1000000
namespace DL.S
open PySem PySem.Spec PyProof.Rows L2 DL K02

noncomputable abbrev ordE (n : Nat) : List (List Nat) := ordO (every n)
abbrev Cs : Type := Nat × List Nat
noncomputable def casesL (n l : Nat) : List Cs := (ordE l).flatMap fun o => (List.range n).map fun s => (s, o)
theorem ev_fate {env : Env'} {m : Mem} {da : TAd} {g : BG} {c : Cs} (h : BkOk g) (ha : EvA da env m [.f (bkD g), .f (.int c.1), .f (outD c.2)]) : Ev (dCall p_fate EX0 da) env m (.f (.str (tripOf g c.1 c.2).2)) :=
  ev_fn (γ := BG × Nat × List Nat) ha (g, c.1, c.2) rfl rfl ⟨h.2.1, h.1.l8, h.2.2⟩
end DL.S

set_option maxHeartbeats 1000000
namespace DL.S
open PySem PySem.Spec PyProof.Rows L2 DL K02

def pairO (o : List Nat) : Dat := .tup [.int o.length, outD o]
theorem pys_nat : ∀ o : List Nat, pys (o.map fun l : Nat => Dat.int (l : Nat)) = (o.map fun l : Nat => (l : Int)).map PyData.int
  | [] => rfl
  | l :: o => by
    show py (.int l) :: pys (o.map fun l : Nat => Dat.int (l : Nat)) = _
    rw [pys_nat o]; rfl
theorem py_pair (o : List Nat) : py (pairO o) = keyLO (o.map fun l : Nat => (l : Int)) := by
  show PyData.tuple [.int o.length, .tuple (pys (o.map fun l : Nat => Dat.int (l : Nat)))] = _
  rw [pys_nat]
  unfold keyLO
  rw [List.length_map]
theorem sortOk_pairs {os : List (List Nat)} (h : ∀ o ∈ os, OutOk 8 o) : sortOk (os.map pairO) := by
  have e : (os.map pairO).map py = (os.map fun o : List Nat => o.map fun l : Nat => (l : Int)).map keyLO := by
    rw [List.map_map, List.map_map]
    exact List.map_congr_left fun o _ => py_pair o
  refine ⟨by rw [e]; exact keyLO_alike _, by rw [e]; exact keyLO_sortable _, ?_⟩
  rw [List.all_eq_true]
  intro x hx
  obtain ⟨o, ho, rfl⟩ := List.mem_map.mp hx
  have ho := h o ho
  have hl := outOk_len ho
  have sm : ∀ i : Nat, i < 300 → ∀ k, okR k (.int (i : Nat)) = true := fun i hi k => by
    have : ∀ i : Fin 300, decide (((i.val : Nat) : Int).natAbs.log2 < 1920) = true := by decide +kernel
    cases k <;> exact this ⟨i, hi⟩
  show [Dat.int o.length, outD o].all (okR 29) = true
  simp only [List.all_cons, List.all_nil, Bool.and_true, Bool.and_eq_true]
  refine ⟨sm _ (by omega) _, ?_⟩
  show (o.map fun l : Nat => Dat.int (l : Nat)).all (okR 28) = true
  rw [List.all_eq_true]
  intro y hy
  obtain ⟨l, hlo, rfl⟩ := List.mem_map.mp hy
  exact sm _ (by have := ho.2 l hlo; omega) _
end DL.S

set_option maxHeartbeats 1000000
namespace DL.S
open PySem PySem.Spec PyProof.Rows L2 DL K02

section
variable {D : En} {m : Mem} {n : Nat} {x0 x1 x2 x4 x7 : Option Sl}
end
end DL.S

set_option maxHeartbeats 1000000
namespace DL.S
open PySem PySem.Spec PyProof.Rows L2 DL K02

section
variable {m : Mem} {n t mk : Nat} {ps : List Lk} {fs : List Nat} {kind : Int}
end
end DL.S

set_option maxHeartbeats 1000000
namespace DL.S
open PySem PySem.Spec PyProof.Rows L2 DL K02
theorem cons_k {d : TD} {r : TAd} {env : Env'} {m : Mem} {Q : List Lv → Mem → Prop} (h : d env m fun x m1 => r env m1 fun xs m2 => Q (x :: xs) m2) : dCons d r env m Q := h
theorem nil_k {env : Env'} {m : Mem} {Q : List Lv → Mem → Prop} (h : Q [] m) : dNil env m Q := h

end DL.S

set_option maxHeartbeats 1000000
namespace K02
open PySem PySem.Spec PyProof.Rows L2 DL DL.S
def p_netM : DSp := pGh (γ := Nat × Nat × Mem) 2 (fun g ds m => ds = [.obj 1, .int g.2.1] ∧ g.2.1 ≤ 8 ∧ Dk g.1 g.2.2 m ∧ g.1 + 30 < lim)
  (fun g ds m r m' => ∃ (n : Nat) (ps : List Lk), r = .tup [.int n, .lst (ps.map lk)] ∧ (NetOk n ps ∧ ps.length ≤ g.2.1) ∧ Dk (g.1 + 30) g.2.2 m')
theorem net_stepM {D : En} {n L : Nat} {x4 x6 x7 : Option Sl} {found : List Dat} {m tl : Mem} {c : Nat} (hn : n ≤ 7) (h1 : 1 < n) (hd : Dk c tl m) (hc : c < lim) (hf : Fnd n found) (hL : found.length ≤ 100)
    (h : ∀ m' found' x7, Dk (c + 1) tl m' → Fnd n found' → found'.length ≤ found.length + 1 → D.nx [some (.f (.obj 1)), some (.f (.int L)), some (.f (.int n)), some (.f (.lst (pairsF n))), x4, some (.own (.lst found')), x6, x7] m') :
    (sSeq (sAsg (.nm 7) (dBin oIx (dVar 3) (dCall p_next EX0 (dCons (dVar 0) (dCons (dN oLen (dCons (dVar 3) dNil)) dNil)))))
  (sIf (dTst (dBin (oIn not) (dVar 7) (dVar 5)))
  (sApp (dVar 5) (dVar 7))
  sNext)) D [some (.f (.obj 1)), some (.f (.int L)), some (.f (.int n)), some (.f (.lst (pairsF n))), x4, some (.own (.lst found)), x6, x7] m := by
  have s2 : 1000 ≤ sizeLine := sz (by decide)
  have p1 := pairs_len n
  have p2 := pairs_ne h1
  have p3 : n * n ≤ 49 := Nat.mul_le_mul hn hn
  unfold sSeq sAsg
  simp only [dBin]
  refine v_f rfl ?_
  refine call_next (tl := tl) (c := c) ((pairsF n).length : Int) (by omega) (by omega) hd hc (fun Q h => by
    simp [dCons, dVar, dN, oLen, dNil, DL.frs, der]
    exact h) fun i m' i0 i1 hd' => ?_
  obtain ⟨d, e1, e2⟩ := atI_int i0 i1
  have ho : isOrd n d := pairs_ord n d (List.mem_of_getElem? e2)
  simp only [oIx, der, e1, DL.bind]
  unfold sIf dTst
  simp only [dBin]
  refine v_f rfl (v_o rfl ?_)
  refine oIn_o (bs := found) rfl (ord_ok ho) (by rw [List.all_eq_true]; exact fun x hx => ord_ok (hf.ord x hx)) ?_
  cases hx : found.any fun b => eqd b d with
  | true => exact h m' found _ hd' hf (by omega)
  | false =>
    show sApp (dVar 5) (dVar 7) D _ _
    simp [sApp, dVar, moOf, setE, setM]
    refine ⟨by omega, h m' _ _ hd' (hf.snoc ho fun hm => ?_) (by simp)⟩
    rw [List.any_eq_false] at hx
    exact hx d hm (ord_refl ho)
theorem net_loopM {D : En} {n L : Nat} {x4 : Option Sl} (hn : n ≤ 7) (h1 : 1 < n) : ∀ (r : Nat) (k : Int) (x6 x7 : Option Sl) (found : List Dat) (m tl : Mem) (c : Nat), Dk c tl m → c + r < lim → Fnd n found → found.length + r ≤ 100 →
    (∀ m' found' x6 x7, Dk (c + r) tl m' → Fnd n found' → found'.length ≤ found.length + r → D.nx [some (.f (.obj 1)), some (.f (.int L)), some (.f (.int n)), some (.f (.lst (pairsF n))), x4, some (.own (.lst found')), x6, x7] m') →
    forGo (.nm 6) (sSeq (sAsg (.nm 7) (dBin oIx (dVar 3) (dCall p_next EX0 (dCons (dVar 0) (dCons (dN oLen (dCons (dVar 3) dNil)) dNil)))))
  (sIf (dTst (dBin (oIn not) (dVar 7) (dVar 5)))
  (sApp (dVar 5) (dVar 7))
  sNext)) D (rangeD k r) [some (.f (.obj 1)), some (.f (.int L)), some (.f (.int n)), some (.f (.lst (pairsF n))), x4, some (.own (.lst found)), x6, x7] m
  | 0, k, x6, x7, found, m, tl, c, hd, hc, hf, hL, h => h m found x6 x7 hd hf (by omega)
  | r + 1, k, x6, x7, found, m, tl, c, hd, hc, hf, hL, h => by
    rw [rangeD_succ]
    unfold forGo
    have hb : DL.bind (.nm 6) (.f (.int k)) [some (.f (.obj 1)), some (.f (.int L)), some (.f (.int n)), some (.f (.lst (pairsF n))), x4, some (.own (.lst found)), x6, x7] = some [some (.f (.obj 1)), some (.f (.int L)), some (.f (.int n)), some (.f (.lst (pairsF n))), x4, some (.own (.lst found)), some (.f (.int k)), x7] := by simp [DL.bind]
    rw [hb]
    refine net_stepM hn h1 hd (by omega) hf (by omega) fun m' found' x7' hd' hf' hL' => ?_
    exact net_loopM hn h1 r (k + 1) _ _ found' m' tl (c + 1) hd' (by omega) hf' (by omega) fun m2 f2 y6 y7 a b e => h m2 f2 y6 y7 (by rw [show c + (r + 1) = c + 1 + r by omega]; exact a) b (by omega)
theorem lc_nextM {tl : Mem} {n : Nat} {x1 x3 x4 x5 x7 : Option Sl} {Q : List Dat → Mem → Prop} : ∀ (r k : Nat) (x6 : Option Sl) (m : Mem) (c : Nat), Dk c tl m → c + r < lim → 1 ≤ k → k + r ≤ n → n ≤ 7 →
    (∀ ds m', Dk (c + r) tl m' → (∀ x ∈ ds, ∃ a b : Nat, x = .tup [.int a, .int b] ∧ a < b ∧ b < n ∧ k ≤ b) → ds.Nodup → ds.length ≤ r → Q ds m') →
    lcGo (.nm 6) dYes (dN oTup (dCons (dCall p_next EX0 (dCons (dVar 0) (dCons (dVar 6) dNil))) (dCons (dVar 6) dNil))) [some (.f (.obj 1)), x1, some (.f (.int n)), x3, x4, x5, x6, x7] (rangeD k r) m Q := by
  intro r
  induction r generalizing Q with
  | zero => intro k x6 m c hd _ _ _ _ h; exact h [] m hd (by simp) List.nodup_nil (by simp)
  | succ r ih =>
    intro k x6 m c hd hc h1 hk hn h
    have s2 : 1000 ≤ sizeLine := sz (by decide)
    have hlim : lim = 2 ^ 40 := rfl
    rw [rangeD_succ]
    unfold lcGo
    have hb : DL.bind (.nm 6) (.f (.int k)) [some (.f (.obj 1)), x1, some (.f (.int n)), x3, x4, x5, x6, x7] = some [some (.f (.obj 1)), x1, some (.f (.int n)), x3, x4, x5, some (.f (.int k)), x7] := by simp [DL.bind]
    rw [hb]
    simp only [dYes, if_true, dN, dCons]
    refine call_next (tl := tl) (c := c) k (by omega) (by omega) hd (by omega) (fun Q h => h) fun i m1 i0 i1 hd1 => ?_
    refine v_f rfl ?_
    simp only [dNil, DL.frs, oTup]
    refine ⟨by simp only [List.length_cons, List.length_nil]; omega, ?_⟩
    refine ih (k + 1) x6 m1 (c + 1) hd1 (by omega) (by omega) (by omega) hn fun ds m' hd' hds hnd hl => ?_
    refine h _ m' (by rw [show c + (r + 1) = c + 1 + r by omega]; exact hd') (fun x hx => ?_) (List.nodup_cons.mpr ⟨fun hm => ?_, hnd⟩) (by simp; omega)
    · rcases List.mem_cons.mp hx with rfl | q
      · exact ⟨i.toNat, k, by rw [show ((i.toNat : Nat) : Int) = i by omega], by omega, by omega, Nat.le_refl _⟩
      · obtain ⟨a, b, e, h1, h2, h3⟩ := hds x q
        exact ⟨a, b, e, h1, h2, by omega⟩
    · obtain ⟨a, b, e, h1, h2, h3⟩ := hds _ hm
      simp at e
      omega
theorem law_law_netM (C : Ct) : ∀ ds m (Q : QD) (E : QX), p_netM ds m Q E → rd_law_net C p_next p_pairs (fun c xs _ m => E c xs m) { nx := fun _ m => Q .non m, rt := Q } (env0 8 ds) m := by
  rintro ds m Q E ⟨_, ⟨c, L, tl⟩, ⟨rfl, hL8, hd, hc⟩, hQ⟩
  have hL8 : L ≤ 8 := hL8
  have hd : Dk c tl m := hd
  have hc : c + 30 < lim := hc
  have s2 : 1000 ≤ sizeLine := sz (by decide)
  have hlim : lim = 2 ^ 40 := rfl
  have e0 : env0 8 [.obj 1, .int L] = [some (.f (.obj 1)), some (.f (.int L)), none, none, none, none, none, none] := rfl
  rw [e0]
  unfold rd_law_net
  have fin : ∀ (n : Nat) (found : List Dat) (m' : Mem) x4 x6 x7, 1 ≤ n → n ≤ 7 → Dk (c + 30) tl m' → Fnd n found → (sKeep 5 (sRet (dN oTup (dCons (dVar 2) (dCons (dNew (nSort (dSl (dVar 5) dNo (dPart (dVar 1))))) dNil))))) { nx := fun _ m => Q .non m, rt := Q } [some (.f (.obj 1)), some (.f (.int L)), some (.f (.int n)), some (.f (.lst (pairsF n))), x4, some (.own (.lst found)), x6, x7] m' := by
    intro n found m' x4 x6 x7 h1 h7 hd' hf
    simp [sKeep, sRet, dN, oTup, dCons, dVar, dNew, nSort, dSl, dNo, dPart, der, seqOf, dNil, DL.frs]
    obtain ⟨ps, e, hps⟩ := net_of h1 h7 (hf.cut L) (Nat.le_trans (cut_le found L) hL8)
    refine ⟨sortOk_ord h7 fun x hx => hf.ord x (cutD_mem hx), by omega, hQ _ _ ⟨n, ps, ?_, ⟨hps, ?_⟩, hd'⟩⟩
    · rw [e]
    · have e2 := congrArg List.length e
      rw [List.length_map] at e2
      rw [← e2]
      unfold sortD
      rw [List.length_mergeSort]
      exact cut_le found L
  have turn : ∀ (n : Nat) (found : List Dat) (m' : Mem) x4 x6 x7 (d : Nat), 1 ≤ n → n ≤ 7 → d ≤ 12 → Dk (c + d) tl m' → Fnd n found → found.length ≤ 10 →
      (sSeq (sFor (.nm 6) (iRg1 (dBin oMul (dBin oIx (dNew (nLst (dCons (dVar 1) (dCons (dCall p_next EX0 (dCons (dVar 0) (dCons (dBin oAdd (dVar 1) (dC (.int 1))) dNil))) dNil)))) (dCall p_next EX0 (dCons (dVar 0) (dCons (dC (.int 2)) dNil)))) (dN (oN1 fInt) (dCons (dBin oGt (dVar 2) (dC (.int 1))) dNil))))
  (sSeq (sAsg (.nm 7) (dBin oIx (dVar 3) (dCall p_next EX0 (dCons (dVar 0) (dCons (dN oLen (dCons (dVar 3) dNil)) dNil)))))
  (sIf (dTst (dBin (oIn not) (dVar 7) (dVar 5)))
  (sApp (dVar 5) (dVar 7))
  sNext)))
  (sKeep 5 (sRet (dN oTup (dCons (dVar 2) (dCons (dNew (nSort (dSl (dVar 5) dNo (dPart (dVar 1))))) dNil)))))) { nx := fun _ m => Q .non m, rt := Q } [some (.f (.obj 1)), some (.f (.int L)), some (.f (.int n)), some (.f (.lst (pairsF n))), x4, some (.own (.lst found)), x6, x7] m' := by
    intro n found m' x4 x6 x7 d h1 h7 hd12 hd' hf hL
    refine seq_i ?_
    unfold sFor iRg1
    simp only [dBin, dNew, nLst, dCons]
    refine v_f rfl ?_
    refine call_next (tl := tl) (c := c + d) ((L : Int) + 1) (by omega) (by omega) hd' (by omega) (fun Q h => by
      simp [dCons, dVar, dNil, oAdd, dC, DL.frs]
      exact h) fun i m2 i0 i1 hd2 => ?_
    simp only [dNil, DL.frs]
    refine ⟨by simp only [List.length_cons, List.length_nil]; omega, ?_⟩
    refine call_next (tl := tl) (c := c + d + 1) 2 (by omega) (by omega) hd2 (by omega) (fun Q h => h) fun j m3 j0 j1 hd3 => ?_
    have hi : ∃ q : Nat, q ≤ L ∧ atI [Dat.int L, .int i] j = some (.int q) := by
      rcases (show j = 0 ∨ j = 1 by omega) with rfl | rfl
      · exact ⟨L, by omega, atI0 _ _⟩
      · exact ⟨i.toNat, by omega, by rw [show ((i.toNat : Nat) : Int) = i by omega]; exact atI1 _ _ _⟩
    obtain ⟨q, q8, eq⟩ := hi
    simp only [oIx, der, eq]
    by_cases hn : 1 < n
    · have hn' : (1 : Int) < n := by omega
      simp [dN, oN1, fInt, dCons, dBin, dVar, oGt, oI0, oI, dC, dNil, DL.frs, hn', hn, oMul]
      refine ⟨.inl ⟨by omega, by omega⟩, by omega, ?_⟩
      refine net_loopM h7 hn q 0 x6 x7 found m3 tl (c + d + 1 + 1) hd3 (by omega) hf (by omega) fun m4 f4 y6 y7 hd4 hf4 hL4 => ?_
      exact fin n f4 m4 x4 y6 y7 h1 h7 (hd4.mono (by omega)) hf4
    · have hn' : ¬ (1 : Int) < n := by omega
      simp [dN, oN1, fInt, dCons, dBin, dVar, oGt, oI0, oI, dC, dNil, DL.frs, hn', hn, oMul]
      try refine ⟨.inl ⟨by omega, by omega⟩, ?_⟩
      exact fin n found m3 x4 x6 x7 h1 h7 (hd3.mono (by omega)) hf
  refine seq_i ?_
  unfold sAsg
  simp only [dBin, dNew, nLst, dCons]
  refine c_i ?_
  refine call_next (tl := tl) (c := c) 7 (by omega) (by omega) hd (by omega) (fun Q h => h) fun i m1 i0 i1 hd1 => ?_
  simp only [oAdd, dC, dNil, DL.frs]
  refine ⟨by simp only [List.length_cons, List.length_nil]; omega, ?_⟩
  refine call_next (tl := tl) (c := c + 1) 4 (by omega) (by omega) hd1 (by omega) (fun Q h => h) fun j m2 j0 j1 hd2 => ?_
  have hi : ∃ n : Nat, 1 ≤ n ∧ n ≤ 7 ∧ atI [Dat.int (1 + i), .int 4, .int 5, .int 7] j = some (.int n) := by
    rcases (show j = 0 ∨ j = 1 ∨ j = 2 ∨ j = 3 by omega) with rfl | rfl | rfl | rfl
    · exact ⟨(1 + i).toNat, by omega, by omega, by rw [show (((1 + i).toNat : Nat) : Int) = 1 + i by omega]; exact atI0 _ _⟩
    · exact ⟨4, by omega, by omega, atI1 _ _ _⟩
    · exact ⟨5, by omega, by omega, atI2 _ _ _ _⟩
    · exact ⟨7, by omega, by omega, DL.atI_nat (i := 3) rfl⟩
  obtain ⟨n, n1, n7, en⟩ := hi
  simp only [oIx, der, en, DL.bind]
  refine seq_i ?_
  unfold sPar3N
  refine call_pairs n n7 (fun Q h => h) ?_
  refine call_next (tl := tl) (c := c + 1 + 1) 4 (by omega) (by omega) hd2 (by omega) (fun Q h => h) fun kind m3 k0 k1 hd3 => ?_
  simp only [nLst, dNil, DL.frs]
  refine ⟨by simp, ?_⟩
  refine seq_i ?_
  have cont : ∀ (found : List Dat) x6, found.length ≤ 10 → Fnd n found → (kind = 1 → found = []) → (sSeq (sIf (dTst (dBin (oEq id) (dVar 4) (dC (Dat.int 1))))
        (sSetN 5
          (nLc (Tg.nm 6) dYes
            (dN oTup (dCons (dCall p_next EX0 (dCons (dVar 0) (dCons (dVar 6) dNil))) (dCons (dVar 6) dNil))) [6]
            (iRg2 (dC (Dat.int 1)) (dVar 2))))
        sNext) (sSeq (sFor (.nm 6) (iRg1 (dBin oMul (dBin oIx (dNew (nLst (dCons (dVar 1) (dCons (dCall p_next EX0 (dCons (dVar 0) (dCons (dBin oAdd (dVar 1) (dC (.int 1))) dNil))) dNil)))) (dCall p_next EX0 (dCons (dVar 0) (dCons (dC (.int 2)) dNil)))) (dN (oN1 fInt) (dCons (dBin oGt (dVar 2) (dC (.int 1))) dNil))))
  (sSeq (sAsg (.nm 7) (dBin oIx (dVar 3) (dCall p_next EX0 (dCons (dVar 0) (dCons (dN oLen (dCons (dVar 3) dNil)) dNil)))))
  (sIf (dTst (dBin (oIn not) (dVar 7) (dVar 5)))
  (sApp (dVar 5) (dVar 7))
  sNext)))
  (sKeep 5 (sRet (dN oTup (dCons (dVar 2) (dCons (dNew (nSort (dSl (dVar 5) dNo (dPart (dVar 1))))) dNil))))))) { nx := fun _ m => Q .non m, rt := Q } [some (.f (.obj 1)), some (.f (.int L)), some (.f (.int n)), some (.f (.lst (pairsF n))), some (.f (.int kind)), some (.own (.lst found)), x6, none] m3 := by
    intro found x6 hL hf hk
    refine seq_i ?_
    unfold sIf dTst
    simp only [dBin]
    refine v_f rfl (c_i ?_)
    refine oEq_l (okR1 _ _) (okR1 _ _) ?_
    rw [eqd_int]
    by_cases hk1 : kind = 1
    · subst hk1
      rw [show id ((1 : Int) == 1) = true from rfl]
      simp only [if_true]
      unfold sSetN nLc iRg2
      refine c_i (v_f rfl ⟨⟨by omega, by omega, by omega, by omega⟩, by rw [rangeD_len]; omega, ?_⟩)
      rw [show ((n : Int) - 1).toNat = n - 1 by omega]
      refine lc_nextM (tl := tl) (n := n) (n - 1) 1 none m3 (c + 1 + 1 + 1) hd3 (by omega) (by omega) (by omega) n7 fun ds m4 hd4 hds hnd hl => ?_
      exact turn n ds m4 _ _ _ (n + 2) n1 n7 (by omega) (by rw [show c + (n + 2) = c + 1 + 1 + 1 + (n - 1) by omega]; exact hd4) ⟨fun x hx => by obtain ⟨a, b, e, h1, h2, _⟩ := hds x hx; exact ⟨a, b, e, h1, h2⟩, hnd⟩ (by omega)
    · have e : decide (kind = 1) = false := decide_eq_false hk1
      rw [show (id (kind == 1)) = false by simp [hk1]]
      exact turn n found m3 _ _ _ 3 n1 n7 (by omega) (by exact hd3) hf hL
  unfold sIf dAnd dTst
  simp only [dBin]
  refine v_f rfl (c_i ?_)
  refine oEq_l (okR1 _ _) (okR1 _ _) ?_
  rw [eqd_int]
  by_cases hk0 : kind = 0
  · subst hk0
    by_cases h2 : 2 < n
    · have h2' : (2 : Int) < n := by omega
      simp [oGt, oI0, oI, dVar, dC, h2', h2]
      show sSetN 5 _ _ _ _
      unfold sSetN
      simp only [nCat, dNew, nLc, iRg1, dBin]
      simp [dVar, dC, oSub, oI0, oI]
      refine ⟨by omega, by omega, by rw [rangeD_len]; omega, lc_map (f := fun d => match d with | .int i => .tup [.int i, .int (i + 1)] | d => d) (fun x hx Q h => ?_) ?_⟩
      · obtain ⟨i, hi, rfl⟩ := List.mem_map.mp hx
        simp [dN, oTup, dCons, dVar, dBin, oAdd, dC, dNil, DL.frs, wipeE]
        simp at h
        exact ⟨by omega, h⟩
      · have hL := rangeD_len 0 (n - 1)
        simp [nLst, dN, oTup, dCons, dBin, dVar, oI, dC, dNil, DL.frs, lstOf, der]
        refine ⟨by omega, by omega, by omega, ?_⟩
        refine cont _ none (by simp; omega) ⟨fun x hx => ?_, ?_⟩ (fun h => absurd h (by decide))
        rotate_left
        · exact ring_nodup n h2
        rcases List.mem_append.mp hx with q | q
        · obtain ⟨y, hy, rfl⟩ := List.mem_map.mp q
          obtain ⟨i, hi, rfl⟩ := List.mem_map.mp hy
          have := List.mem_range.mp hi
          exact ⟨i, i + 1, by simp, by omega, by omega⟩
        · rw [List.mem_singleton.mp q]
          exact ⟨0, n - 1, by simp; omega, by omega, by omega⟩
    · have h2' : ¬ (2 : Int) < n := by omega
      simp [oGt, oI0, oI, dVar, dC, h2', h2]
      exact cont [] none (by simp) ⟨by simp, List.nodup_nil⟩ (fun _ => rfl)
  · have e : (id (kind == 0)) = false := by simp [hk0]
    rw [e]
    exact cont [] none (by simp) ⟨by simp, List.nodup_nil⟩ (fun _ => rfl)
end K02

set_option maxHeartbeats 1000000
namespace DL.S
open PySem PySem.Spec PyProof.Rows L2 DL K02

theorem em_tupL {env : Env'} {m : Mem} {l : List Dat} : EvM oTuple env m [.f (.lst l)] (.tup l) := fun Q q => by
  simp only [oTuple, seqOf, der]; exact q
theorem call_netM {da : TAd} {env : Env'} {m tl : Mem} {Q : QL} {c L : Nat} (hL : L ≤ 8) (hd : Dk c tl m) (hc : c + 30 < lim) (ha : EvA da env m [.f (.obj 1), .f (.int L)])
    (h : ∀ (n : Nat) (ps : List Lk) m', NetOk n ps → ps.length ≤ L → Dk (c + 30) tl m' → Q (.f (.tup [.int n, .lst (ps.map lk)])) m') : dCall p_netM EX0 da env m Q :=
  call_is [.f (.obj 1), .f (.int L)] [.obj 1, .int L] ha rfl ⟨rfl, (c, L, tl), ⟨rfl, hL, hd, hc⟩, fun r m' ⟨n, ps, e, ⟨h1, h1'⟩, h2⟩ => by subst e; exact h n ps m' h1 h1' h2⟩
section
variable {env : Env'} {m : Mem} {d : TD} {b : BG}
end
end DL.S

set_option maxHeartbeats 1000000
namespace DL.S
open PySem PySem.Spec PyProof.Rows L2 DL K02

theorem eqd_nn (a b : Nat) : eqd (.int (a : Nat)) (.int (b : Nat)) = decide (a = b) := by
  rw [eqd_ii]
  exact decide_eq_decide.mpr (by omega)
theorem turns_mem {tb : TSd} {D : En} {i : Nat} (I : Nat → Env' → Mem → Prop) : ∀ {xs : List Dat} (k : Nat) {env : Env'} {m : Mem}, I k env m →
    (∀ x ∈ xs, ∀ j env m, j < k + xs.length → I j env m → ∀ D' : En, (∀ env m, I (j + 1) env m → D'.nx env m) → (∀ d m, D.rt d m → D'.rt d m) → tb D' (env.set i (some (.f x))) m) →
    (∀ env m, I (k + xs.length) env m → D.nx env m) → forGo (.nm i) tb D xs env m
  | [], k, env, m, h0, _, hq => hq _ _ h0
  | x :: xs, k, env, m, h0, hs, hq => by
    unfold forGo
    show tb _ (env.set i (some (.f x))) m
    have go : ∀ env m, I (k + 1) env m → forGo (.nm i) tb D xs env m := fun env m h => turns_mem I (k + 1) h (fun y hy j env m hj => hs y (List.mem_cons_of_mem _ hy) j env m (by rw [List.length_cons]; omega)) (fun env m h => hq env m (by rw [List.length_cons, show k + (xs.length + 1) = k + 1 + xs.length by omega]; exact h))
    exact hs x List.mem_cons_self k env m (by rw [List.length_cons]; omega) h0 _ go fun _ _ h => h
end DL.S

set_option maxHeartbeats 1000000
namespace DL.S
open PySem PySem.Spec PyProof.Rows L2 DL K02
theorem sq_setN {i : Nat} {p : TN} {xs : List Dat} {u : TSd} {D : En} {env : Env'} {m : Mem} (h : EvN p env m xs) (k : u D (env.set i (some (.own (.lst xs)))) m) : sSeq (sSetN i p) u D env m := h _ k
section
variable {n g k : Nat} {ps : List Lk} {o : List Nat} {m : Mem}
structure Far (n : Nat) (ps : List Lk) (o : List Nat) (g : Nat) (kn : List (Nat × Nat)) : Prop where
  get : ∀ v, v < n → getN kn v = lev n (adj ps o) g (n - 1) v
  nd : (kn.map (·.1)).Nodup
  lt : ∀ p ∈ kn, p.1 < n ∧ p.2 ≤ n
end
end DL.S

set_option maxHeartbeats 1000000
namespace DL.S
open PySem PySem.Spec PyProof.Rows L2 DL K02

def lab (es : List Lk) : Nat → Nat := es.foldl labS id
theorem lab_snoc (es : List Lk) (p : Lk) : lab (es ++ [p]) = labS (lab es) p := by unfold lab; rw [List.foldl_append]; rfl
theorem labS_same {f : Nat → Nat} {p : Lk} {u v : Nat} (h : f u = f v) : labS f p u = labS f p v := by unfold labS; rw [h]
theorem labS_ends {f : Nat → Nat} {p : Lk} : labS f p p.1 = labS f p p.2 := by
  unfold labS
  rw [if_pos (.inl rfl), if_pos (.inr rfl)]
theorem fold_same (es : List Lk) : ∀ {f : Nat → Nat} {u v : Nat}, f u = f v → es.foldl labS f u = es.foldl labS f v := by
  induction es with
  | nil => exact fun h => h
  | cons p es ih => exact fun h => ih (labS_same h)
theorem lab_edge {es : List Lk} : ∀ {f : Nat → Nat} {p : Lk}, p ∈ es → es.foldl labS f p.1 = es.foldl labS f p.2 := by
  induction es with
  | nil => intro f p h; cases h
  | cons q es ih =>
    intro f p h
    rcases List.mem_cons.mp h with rfl | z
    · exact fold_same es labS_ends
    · exact ih z
theorem fold_closed {S : Nat → Prop} {es : List Lk} (hS : ∀ p ∈ es, S p.1 ↔ S p.2) : ∀ {f : Nat → Nat}, (∀ u v, f u = f v → (S u ↔ S v)) → ∀ u v, es.foldl labS f u = es.foldl labS f v → (S u ↔ S v) := by
  induction es with
  | nil => exact fun h => h
  | cons p es ih =>
    intro f hf
    refine ih (fun q hq => hS q (List.mem_cons_of_mem _ hq)) fun u v h => ?_
    have hp := hS p List.mem_cons_self
    unfold labS at h
    by_cases hu : f u = f p.1 ∨ f u = f p.2
    · have su : S u ↔ S p.1 := by
        rcases hu with z | z
        · exact hf _ _ z
        · exact (hf _ _ z).trans hp.symm
      by_cases hv : f v = f p.1 ∨ f v = f p.2
      · have sv : S v ↔ S p.1 := by
          rcases hv with z | z
          · exact hf _ _ z
          · exact (hf _ _ z).trans hp.symm
        exact su.trans sv.symm
      · rw [if_pos hu, if_neg hv] at h
        exfalso
        refine hv ?_
        rcases Nat.le_total (f p.1) (f p.2) with z | z
        · rw [Nat.min_eq_left z] at h; exact .inl h.symm
        · rw [Nat.min_eq_right z] at h; exact .inr h.symm
    · by_cases hv : f v = f p.1 ∨ f v = f p.2
      · rw [if_neg hu, if_pos hv] at h
        exfalso
        refine hu ?_
        rcases Nat.le_total (f p.1) (f p.2) with z | z
        · rw [Nat.min_eq_left z] at h; exact .inl h
        · rw [Nat.min_eq_right z] at h; exact .inr h
      · rw [if_neg hu, if_neg hv] at h
        exact hf _ _ h
theorem lab_closed {S : Nat → Prop} {es : List Lk} (hS : ∀ p ∈ es, S p.1 ↔ S p.2) {u v : Nat} (h : lab es u = lab es v) : S u ↔ S v :=
  fold_closed hS (fun u v (e : u = v) => by subst e; exact Iff.rfl) u v h
theorem lab_rep (es : List Lk) : Rep (lab es) := by
  have : ∀ (es : List Lk) {f : Nat → Nat}, Rep f → Rep (es.foldl labS f) := fun es => by
    induction es with
    | nil => exact fun h => h
    | cons p es ih => exact fun h => ih (h.step p)
  exact this es ⟨fun v => Nat.le_refl _, fun v => rfl⟩
theorem filter_drop {p : Nat → Bool} {x : Nat} : ∀ {l : List Nat}, l.Nodup → x ∈ l → p x = true → (l.filter fun v => p v && !decide (v = x)).length + 1 = (l.filter p).length
  | [], _, h, _ => by cases h
  | a :: l, hn, h, hp => by
    obtain ⟨h1, h2⟩ := List.nodup_cons.mp hn
    by_cases e : a = x
    · subst e
      rw [List.filter_cons_of_pos hp, List.filter_cons_of_neg (by simp), List.length_cons]
      congr 1
      congr 1
      refine List.filter_congr fun v hv => ?_
      have : v ≠ a := fun z => h1 (z ▸ hv)
      simp [this]
    · have hx : x ∈ l := by
        rcases List.mem_cons.mp h with z | z
        · exact absurd z.symm e
        · exact z
      have ih := filter_drop h2 hx hp
      cases ha : p a with
      | true =>
        rw [List.filter_cons_of_pos ha, List.filter_cons_of_pos (by simp [ha, e]), List.length_cons, List.length_cons]
        omega
      | false =>
        rw [List.filter_cons_of_neg (by simp [ha]), List.filter_cons_of_neg (by simp [ha])]
        exact ih
theorem cls_join {n : Nat} {f : Nat → Nat} {p : Lk} (h : Rep f) (h1 : p.1 < n) (h2 : p.2 < n) (hne : f p.1 ≠ f p.2) : cls n (labS f p) + 1 = cls n f := by
  have l1 := h.le p.1
  have l2 := h.le p.2
  have hx : f (max (f p.1) (f p.2)) = max (f p.1) (f p.2) := by
    rcases Nat.le_total (f p.1) (f p.2) with z | z
    · rw [Nat.max_eq_right z]; exact h.idem _
    · rw [Nat.max_eq_left z]; exact h.idem _
  have key := filter_drop (p := fun v => decide (f v = v)) (x := max (f p.1) (f p.2)) (l := List.range n) List.nodup_range (List.mem_range.mpr (by omega)) (decide_eq_true hx)
  unfold cls
  rw [← key]
  congr 1
  congr 1
  refine List.filter_congr fun v _ => ?_
  have e1 := h.idem p.1
  have e2 := h.idem p.2
  rw [Bool.eq_iff_iff, Bool.and_eq_true, decide_eq_true_iff, decide_eq_true_iff, Bool.not_eq_true', decide_eq_false_iff_not]
  unfold labS
  by_cases hv : f v = f p.1 ∨ f v = f p.2
  · rw [if_pos hv]
    constructor
    · intro z
      rcases Nat.le_total (f p.1) (f p.2) with q | q
      · rw [Nat.min_eq_left q] at z
        have : f v = v := by rw [← z]; exact e1
        exact ⟨this, by omega⟩
      · rw [Nat.min_eq_right q] at z
        have : f v = v := by rw [← z]; exact e2
        exact ⟨this, by omega⟩
    · rintro ⟨z1, z2⟩
      rcases hv with q | q <;> omega
  · rw [if_neg hv]
    constructor
    · intro z
      refine ⟨z, fun q => hv ?_⟩
      rw [q, hx]
      omega
    · exact fun z => z.1
theorem cls_same {n : Nat} {f : Nat → Nat} {p : Lk} (he : f p.1 = f p.2) : cls n (labS f p) = cls n f := by
  have : labS f p = f := by
    funext v
    unfold labS
    rw [he, Nat.min_self]
    by_cases z : f v = f p.2
    · simp [z]
    · simp [z]
  rw [this]
theorem cls_id {n : Nat} : cls n id = n := by
  unfold cls
  rw [List.filter_eq_self.mpr (fun v _ => by simp), List.length_range]
def opL (ps : List Lk) (o : List Nat) (k : Nat) : List Lk := ((ps.zipIdx.take k).filter fun q => !decide (q.2 ∈ o)).map (·.1)
theorem opL_succ {ps : List Lk} {o : List Nat} {k : Nat} {p : Lk} (h : ps[k]? = some p) : opL ps o (k + 1) = opL ps o k ++ (if k ∈ o then [] else [p]) := by
  unfold opL
  have e : ps.zipIdx[k]? = some (p, k) := by rw [List.getElem?_zipIdx, h]; simp
  rw [List.take_add_one, e]
  by_cases z : k ∈ o <;> simp [List.filter_append, z]
def calmB (ps : List Lk) (o : List Nat) (k : Nat) : Bool := (List.range k).all fun j => decide (j ∈ o) || !decide (lab (opL ps o j) (ps.getD j (0, 0)).1 = lab (opL ps o j) (ps.getD j (0, 0)).2)
theorem calm_count {n : Nat} {ps : List Lk} {o : List Nat} (hp : ∀ p ∈ ps, p.1 < n ∧ p.2 < n) : ∀ k, k ≤ ps.length → n ≤ cls n (lab (opL ps o k)) + (opL ps o k).length ∧ (calmB ps o k = true ↔ cls n (lab (opL ps o k)) + (opL ps o k).length = n)
  | 0, _ => by
    have e : opL ps o 0 = [] := rfl
    have e2 : cls n (lab (opL ps o 0)) = n := by rw [e]; exact cls_id
    rw [e2, e]
    simp [calmB]
  | k + 1, hk => by
    obtain ⟨ih1, ih2⟩ := calm_count hp k (by omega)
    have hlt : k < ps.length := by omega
    have e : ps[k]? = some ps[k] := List.getElem?_eq_getElem hlt
    have eg : ps.getD k (0, 0) = ps[k] := by rw [List.getD_eq_getElem?_getD, e]; rfl
    have hpk := hp ps[k] (List.getElem_mem hlt)
    have ec : calmB ps o (k + 1) = (calmB ps o k && (decide (k ∈ o) || !decide (lab (opL ps o k) ps[k].1 = lab (opL ps o k) ps[k].2))) := by
      unfold calmB
      rw [List.range_succ, List.all_append, List.all_cons, List.all_nil, Bool.and_true, eg]
    rw [ec, opL_succ e]
    generalize ps[k] = p at hpk
    by_cases z : k ∈ o
    · rw [if_pos z, List.append_nil]
      simp only [z, decide_true, Bool.true_or, Bool.and_true]
      exact ⟨ih1, ih2⟩
    · rw [if_neg z, lab_snoc, List.length_append, List.length_singleton]
      simp only [z, decide_false, Bool.false_or]
      have hr := lab_rep (opL ps o k)
      by_cases q : lab (opL ps o k) p.1 = lab (opL ps o k) p.2
      · rw [cls_same q]
        simp only [q, decide_true, Bool.not_true, Bool.and_false]
        exact ⟨by omega, ⟨fun w => by (cases w), fun w => by omega⟩⟩
      · have := cls_join hr hpk.1 hpk.2 q
        simp only [q, decide_false, Bool.not_false, Bool.and_true]
        exact ⟨by omega, ih2.trans (by omega)⟩
end DL.S

set_option maxHeartbeats 1000000
namespace DL.S
open PySem PySem.Spec PyProof.Rows L2 DL K02
section
variable {n g : Nat} {A : Nat → List Nat}
end
section
variable {n g : Nat} {ps : List Lk} {o : List Nat} {m : Mem}
end
end DL.S

set_option maxHeartbeats 1000000
namespace DL.S
open PySem PySem.Spec PyProof.Rows L2 DL K02
section
variable {n : Nat} {ps : List Lk} {o : List Nat}
abbrev opA (ps : List Lk) (o : List Nat) : List Lk := opL ps o ps.length
theorem opA_below {k : Nat} (hk : k ≤ ps.length) : opA ps (o ++ List.range' k (ps.length - k)) = opL ps o k := by
  unfold opA opL
  rw [List.take_of_length_le (by simp)]
  congr 1
  have e : ps.zipIdx = ps.zipIdx.take k ++ ps.zipIdx.drop k := (List.take_append_drop k _).symm
  rw [e, List.filter_append]
  have e2 : (ps.zipIdx.take k ++ ps.zipIdx.drop k).take k = ps.zipIdx.take k := by rw [← e]
  rw [e2]
  have e3 : (ps.zipIdx.drop k).filter (fun q => !decide (q.2 ∈ o ++ List.range' k (ps.length - k))) = [] := by
    refine List.filter_eq_nil_iff.mpr fun q hq => ?_
    have : k ≤ q.2 ∧ q.2 < ps.length := by
      obtain ⟨i, hi⟩ := List.getElem?_of_mem hq
      rw [List.getElem?_drop, List.getElem?_zipIdx] at hi
      obtain ⟨x, hx, rfl⟩ := Option.map_eq_some_iff.mp hi
      have := (List.getElem?_eq_some_iff.mp hx).1
      simp
      omega
    simp [List.mem_range'_1]
    omega
  rw [e3, List.append_nil]
  refine List.filter_congr fun q hq => ?_
  have : q.2 < k := by
    obtain ⟨i, hi⟩ := List.getElem?_of_mem hq
    have hik : i < k := by
      have := (List.getElem?_eq_some_iff.mp hi).1
      simp at this
      omega
    rw [List.getElem?_take, if_pos hik, List.getElem?_zipIdx] at hi
    obtain ⟨x, hx, rfl⟩ := Option.map_eq_some_iff.mp hi
    simp
    omega
  have nk : ¬ (k ≤ q.2 ∧ q.2 < k + (ps.length - k)) := by omega
  simp [List.mem_range'_1, nk]
end
end DL.S

set_option maxHeartbeats 1000000
namespace DL.S
open PySem PySem.Spec PyProof.Rows L2 DL K02

def tabN (n : Nat) (f : Nat → Nat) : List Dat := (List.range n).map fun v => .int (f v : Nat)
theorem tabN_at {n : Nat} {f : Nat → Nat} {v : Nat} (h : v < n) : atI (tabN n f) (v : Int) = some (.int (f v : Nat)) := DL.atI_nat (by
  unfold tabN
  rw [List.getElem?_map, List.getElem?_range h]; rfl)
def p_labels : DSp := pT 3 (fun g : (Nat × List Lk) × List Nat => [.int g.1.1, .lst (g.1.2.map lk), outD g.2]) (fun g => NetOk g.1.1 g.1.2) (fun g => .lst (tabN g.1.1 (lab (opA g.1.2 g.2))))
theorem law_law_labels (C : Ct) : ∀ ds m (Q : QD) (E : QX), p_labels ds m Q E → rd_law_labels C (fun c xs _ m => E c xs m) { nx := fun _ m => Q .non m, rt := Q } (env0 8 ds) m := by
  rintro _ m Q E ⟨_, ⟨⟨n, ps⟩, o⟩, rfl, h, hq⟩
  have h : NetOk n ps := h
  have n7 := h.n7
  have h8 := h.l8
  have hq : Q (.lst (tabN n (lab (opA ps o)))) m := hq
  show rd_law_labels C _ _ [some (.f (.int n)), some (.f (.lst (ps.map lk))), some (.f (outD o)), none, none, none, none, none] m
  unfold rd_law_labels
  refine sq_set (a := .lst (tabN n (lab (opL ps o 0)))) ?_ ?_
  · refine ev_new (fun Q q => ?_)
    unfold nLstRg rRg1
    refine (ev_v (i := 0) (a := .int n) (env := [some (.f (.int n)), some (.f (.lst (ps.map lk))), some (.f (outD o)), none, none, none, none, none]) rfl).use ?_
    refine ⟨RgOk.of_le (by omega) (by omega) (by omega) (by omega), ?_⟩
    rw [show ((n : Int) - 0).toNat = n by omega]
    have e : rangeD 0 n = tabN n (lab (opL ps o 0)) := by
      unfold rangeD tabN
      refine List.map_congr_left fun v _ => ?_
      show Dat.int (0 + (v : Nat)) = Dat.int (v : Nat)
      rw [Int.zero_add]
    rw [e]
    exact q
  show (sSeq _ _) _ [some (.f (.int n)), some (.f (.lst (ps.map lk))), some (.f (outD o)), some (.f (.lst (tabN n (lab (opL ps o 0))))), none, none, none, none] m
  have el : Ev (dN oLen (dCons (dVar 1) dNil)) [some (.f (.int n)), some (.f (.lst (ps.map lk))), some (.f (outD o)), some (.f (.lst (tabN n (lab (opL ps o 0))))), none, none, none, none] m (.f (.int ps.length)) := (ev_n (eva_cons (ev_v rfl) eva_nil) (em_len (xs := ps.map lk) rfl)).eq (by rw [List.length_map])
  refine sq_for ((evi_rg1n (j := ps.length) el (by omega)) _ ?_)
  rw [show (List.range ps.length).map (fun i => Dat.int (i : Nat)) = rangeD ((0 : Nat) : Int) ps.length by unfold rangeD; simp]
  refine for_rg (I := fun j env m1 => m1 = m ∧ ∃ x4 x5 x6 x7, env = [some (.f (.int n)), some (.f (.lst (ps.map lk))), some (.f (outD o)), some (.f (.lst (tabN n (lab (opL ps o j))))), x4, x5, x6, x7]) ps.length 0 _ _ ⟨rfl, _, _, _, _, rfl⟩ ?_ ?_
  · rintro k env m1 ⟨rfl, x4, x5, x6, x7, rfl⟩ h1 h2 D' nx ct rt bk
    have hk : k < ps.length := by omega
    obtain ⟨p, hp⟩ : ∃ p, ps[k]? = some p := ⟨_, List.getElem?_eq_getElem hk⟩
    have ho := h.ord p (List.mem_of_getElem? hp)
    show (sIf _ _ _) D' [some (.f (.int n)), some (.f (.lst (ps.map lk))), some (.f (outD o)), some (.f (.lst (tabN n (lab (opL ps o k))))), some (.f (.int k)), x5, x6, x7] m1
    have ev : EvB (dTst (dBin (oIn not) (dVar 4) (dVar 2))) [some (.f (.int n)), some (.f (.lst (ps.map lk))), some (.f (outD o)), some (.f (.lst (tabN n (lab (opL ps o k))))), some (.f (.int k)), x5, x6, x7] m1 (!decide (k ∈ o)) :=
      (evb_tst (ev_bin (ev_v rfl) (ev_v rfl) (e2_in (f := not) (a := .int k) (bs := natsD o) rfl rfl (okR1 _ _) (okN_nats o)))).eq (by rw [any_nats])
    by_cases z : k ∈ o
    · refine st_ifF (ev.eq (by simp [z])) ?_
      refine nx _ _ ⟨rfl, some (.f (.int k)), x5, x6, x7, ?_⟩
      rw [opL_succ hp, if_pos z, List.append_nil]
    · refine st_ifT (ev.eq (by simp [z])) ?_
      have e0 : ∀ (i : Int) (q : Nat), q < n → atI [Dat.int p.1, .int p.2] i = some (.int (q : Nat)) → Ev (dBin oIx (dVar 3) (dBin oIx (dBin oIx (dVar 1) (dVar 4)) (dC (.int i)))) [some (.f (.int n)), some (.f (.lst (ps.map lk))), some (.f (outD o)), some (.f (.lst (tabN n (lab (opL ps o k))))), some (.f (.int k)), x5, x6, x7] m1 (.f (.int (lab (opL ps o k) q : Nat))) := fun i q hqn hi =>
        ev_bin (ev_v rfl) (ev_bin (ev_bin (ev_v rfl) (ev_v rfl) (e2_ix (xs := ps.map lk) (z := lk p) rfl (DL.atI_nat (by rw [List.getElem?_map, hp]; rfl)))) ev_c (e2_ix (xs := [.int p.1, .int p.2]) rfl hi)) (e2_ix (xs := tabN n (lab (opL ps o k))) rfl (tabN_at hqn))
      refine sq_setT (as := [.int (lab (opL ps o k) p.1 : Nat), .int (lab (opL ps o k) p.2 : Nat)]) (ev_n (eva_cons (e0 0 p.1 (by omega) (atI0 _ _)) (eva_cons (e0 1 p.2 ho.2 (atI1 _ _ _)) eva_nil)) (em_tup rfl (sz (Nat.le_of_ble_eq_true rfl)))) rfl ?_
      show sAsg _ _ D' [some (.f (.int n)), some (.f (.lst (ps.map lk))), some (.f (outD o)), some (.f (.lst (tabN n (lab (opL ps o k))))), some (.f (.int k)), some (.f (.int (lab (opL ps o k) p.1 : Nat))), some (.f (.int (lab (opL ps o k) p.2 : Nat))), x7] m1
      have ek : lab (opL ps o (k + 1)) = labS (lab (opL ps o k)) p := by rw [opL_succ hp, if_neg z, lab_snoc]
      generalize hf : lab (opL ps o k) = f at *
      refine st_set (a := .lst (tabN n (labS f p))) (ev_new ?_) ?_
      · refine (evn_lc (xs := List.range n) (g := fun v => .int (f v : Nat)) (f := fun v => .int (labS f p v : Nat)) (evi_lst (ev_v rfl)) rfl (sz (by simp; omega)) (fun v hv => ⟨_, rfl, ?_⟩))
        have ein : Ev (dBin (oIn id) (dVar 7) (dN oTup (dCons (dVar 5) (dCons (dVar 6) dNil)))) ((wipeE [some (.f (.int n)), some (.f (.lst (ps.map lk))), some (.f (outD o)), some (.f (.lst (tabN n f))), some (.f (.int k)), some (.f (.int (f p.1 : Nat))), some (.f (.int (f p.2 : Nat))), x7] [7]).set 7 (some (.f (.int (f v : Nat))))) m1 (.f (.bl (decide (f v ∈ [f p.1, f p.2])))) :=
          (ev_bin (ev_v rfl) (ev_n (eva_cons (ev_v rfl) (eva_cons (ev_v rfl) eva_nil)) (em_tup (xs := natsD [f p.1, f p.2]) rfl (sz (Nat.le_of_ble_eq_true rfl)))) (e2_in (f := id) (a := .int (f v : Nat)) (bs := natsD [f p.1, f p.2]) rfl rfl (okR1 _ _) (okN_nats _))).eq (by rw [any_nats]; rfl)
        have emin : EvM (oI2 fun i j => if j < i then j else i) ((wipeE [some (.f (.int n)), some (.f (.lst (ps.map lk))), some (.f (outD o)), some (.f (.lst (tabN n f))), some (.f (.int k)), some (.f (.int (f p.1 : Nat))), some (.f (.int (f p.2 : Nat))), x7] [7]).set 7 (some (.f (.int (f v : Nat))))) m1 [.f (.int (f p.1 : Nat)), .f (.int (f p.2 : Nat))] (.int (min (f p.1) (f p.2) : Nat)) := fun Q q => by
          show Q (.int (if ((f p.2 : Nat) : Int) < (f p.1 : Nat) then ((f p.2 : Nat) : Int) else (f p.1 : Nat))) m1
          rw [show (if ((f p.2 : Nat) : Int) < (f p.1 : Nat) then ((f p.2 : Nat) : Int) else (f p.1 : Nat)) = ((min (f p.1) (f p.2) : Nat) : Int) by split <;> omega]
          exact q
        refine ev_bin (ev_new (evn_lst (xs := [.int (f v : Nat), .int (min (f p.1) (f p.2) : Nat)]) (eva_cons (ev_v rfl) (eva_cons (ev_n (eva_cons (ev_v rfl) (eva_cons (ev_v rfl) eva_nil)) emin) eva_nil)) rfl (sz (Nat.le_of_ble_eq_true rfl)))) (ev_n (z := .int (if decide (f v ∈ [f p.1, f p.2]) = true then 1 else 0)) (eva_cons ein eva_nil) (fun Q q => q)) (e2_ix (xs := [.int (f v : Nat), .int (min (f p.1) (f p.2) : Nat)]) rfl ?_)
        unfold labS
        by_cases q : f v = f p.1 ∨ f v = f p.2
        · have q' : f v ∈ [f p.1, f p.2] := by simpa using q
          simp only [q, q', decide_true, if_true]
          exact atI1 _ _ _
        · have q' : ¬ f v ∈ [f p.1, f p.2] := by simpa using q
          simp only [q, q', decide_false, if_false]
          exact atI0 _ _
      · refine nx _ _ ⟨rfl, some (.f (.int k)), some (.f (.int (f p.1 : Nat))), some (.f (.int (f p.2 : Nat))), x7, ?_⟩
        rw [ek]
        rfl
  · rintro env m1 ⟨rfl, x4, x5, x6, x7, rfl⟩
    rw [Nat.zero_add]
    dsimp only
    exact st_ret (ev_v rfl) hq
abbrev labO (ps : List Lk) (o : List Nat) : Nat → Nat := lab (opA ps o)
theorem ev_labels {env : Env'} {m : Mem} {da : TAd} {n : Nat} {ps : List Lk} {o : List Nat} (h : NetOk n ps) (ha : EvA da env m [.f (.int n), .f (.lst (ps.map lk)), .f (outD o)]) : Ev (dCall p_labels EX0 da) env m (.f (.lst (tabN n (labO ps o)))) :=
  ev_fn (γ := (Nat × List Lk) × List Nat) ha ((n, ps), o) rfl rfl h
section
variable {D : En} {m : Mem} {b : BG} {rs : Rws} {x2 : Option Sl}
end
end DL.S
namespace DL.S
end DL.S

set_option maxHeartbeats 1000000
namespace DL.S
open PySem PySem.Spec PyProof.Rows L2 DL K02
end DL.S

set_option maxHeartbeats 1000000
namespace DL.S
open PySem PySem.Spec PyProof.Rows L2 DL K02
def rotL (ls : List Nat) (c : Nat) : List Nat := ls.drop (ls.idxOf c + 1) ++ ls.take (ls.idxOf c + 1)
def linksT (ps : List Lk) (k : Bk) : List Nat := match k.2.1 with
  | none => atL ps (k.1 : Int)
  | some c => rotL (atL ps (k.1 : Int)) c
def rowT (ps : List Lk) (k : Bk) : List Tn := (linksT ps k).map fun l => (l, 0)
def turnR (n : Nat) (ps : List Lk) (t : Nat) : Rws := (keysL n ps t 1).map fun k => (k, rowT ps k)
theorem rot_mem {ls : List Nat} {c x : Nat} (h : x ∈ rotL ls c) : x ∈ ls := by
  unfold rotL at h
  rcases List.mem_append.mp h with h | h
  · exact List.mem_of_mem_drop h
  · exact List.mem_of_mem_take h
theorem rot_perm (ls : List Nat) (c : Nat) : (rotL ls c).Perm ls := by
  unfold rotL
  refine List.perm_append_comm.trans ?_
  rw [List.take_append_drop]
theorem links_mem {ps : List Lk} {k : Bk} {x : Nat} (h : x ∈ linksT ps k) : x ∈ atL ps (k.1 : Int) := by
  unfold linksT at h
  split at h
  · exact h
  · exact rot_mem h
theorem links_nd (ps : List Lk) (k : Bk) : (linksT ps k).Nodup := by
  unfold linksT
  split
  · exact atL_nd _ _
  · exact (rot_perm _ _).nodup_iff.mpr (atL_nd _ _)
theorem turn_keys (n : Nat) (ps : List Lk) (t : Nat) : (turnR n ps t).map (·.1) = keysL n ps t 1 := by
  unfold turnR
  rw [List.map_map]
  exact List.map_id _
theorem turn_ok {n : Nat} {ps : List Lk} {t : Nat} (n7 : n ≤ 7) (h8 : ps.length ≤ 8) : RowsOk n ps t 1 (turnR n ps t) := by
  refine ⟨fun p hp => ?_, fun p hp => ?_, ?_, ?_⟩
  · obtain ⟨k, hk, rfl⟩ := List.mem_map.mp hp
    exact keysL_ok (by omega) hk
  · obtain ⟨k, hk, rfl⟩ := List.mem_map.mp hp
    refine ⟨fun x hx => ?_, ?_⟩
    · obtain ⟨l, hl, rfl⟩ := List.mem_map.mp hx
      exact ⟨links_mem hl, by show 0 < 1; omega⟩
    · show ((rowT ps k).map (·.1)).Nodup
      unfold rowT
      rw [List.map_map]
      exact (List.map_id _).symm ▸ links_nd ps k
  · rw [turn_keys]
    exact keysL_nd _ _ _ _
  · unfold turnR
    rw [List.length_map]
    have := keysL_len (n := n) (t := t) (mk := 1) h8 (by omega)
    omega
def turnB (n : Nat) (ps : List Lk) (t : Nat) : BG := (((n, ps), t, 1), turnR n ps t)
theorem turnB_ok {n : Nat} {ps : List Lk} {t : Nat} (h : NetOk n ps) : BkOk (turnB n ps t) := ⟨h, turn_ok h.n7 h.l8, by show 1 ≤ 3; omega⟩
def p_turning : DSp := pGh (γ := Mem × (Nat × List Lk) × Nat) 3 (fun g ds m => ds = [.cls 22, netD g.2.1.1 g.2.1.2, .int g.2.2] ∧ m = g.1 ∧ belM g.1.length g.1 = true ∧ NetOk g.2.1.1 g.2.1.2) (fun g ds m r m' => r = bkD (turnB g.2.1.1 g.2.1.2 g.2.2) ∧ m' = g.1)
theorem idx_ints (k : Nat) : ∀ ls : List Nat, (ls.map fun l : Nat => (l : Int)).idxOf (k : Int) = ls.idxOf k
  | [] => rfl
  | l :: ls => by
    rw [List.map_cons, List.idxOf_cons, List.idxOf_cons, idx_ints k ls]
    by_cases h : l = k
    · simp [h]
    · have h1 : (l == k) = false := by simpa using h
      have h2 : ((l : Int) == (k : Int)) = false := by rw [beq_eq_false_iff_ne]; omega
      rw [h1, h2]
theorem cutD_toN {α : Type} (xs : List α) (k : Nat) : DL.cutD xs none (some (k : Int)) = xs.take k := by
  unfold DL.cutD
  rw [HT.sIx_none, HT.sIx_nat]
  simp only [List.drop_zero, Nat.sub_zero]
  by_cases h : k ≤ xs.length
  · rw [Nat.min_eq_left h]
  · rw [Nat.min_eq_right (by omega), List.take_of_length_le (Nat.le_refl _), List.take_of_length_le (by omega)]
theorem cutD_fromN {α : Type} (xs : List α) (k : Nat) : DL.cutD xs (some (k : Int)) none = xs.drop k := by
  unfold DL.cutD
  rw [HT.sIx_none, HT.sIx_nat]
  by_cases h : k ≤ xs.length
  · rw [Nat.min_eq_left h, List.take_of_length_le (by simp)]
  · rw [Nat.min_eq_right (by omega), List.drop_of_length_le (Nat.le_refl _), List.drop_of_length_le (by omega)]
    simp
theorem e2_addL {env : Env'} {m : Mem} {xs ys : List Dat} (h : xs.length + ys.length ≤ sizeLine) : Ev2 oAdd env m (.f (.lst xs)) (.f (.lst ys)) (.lst (xs ++ ys)) := fun Q q => ⟨h, q⟩
theorem ev_idx1 {env : Env'} {m : Mem} {d di : TD} {ls : List Nat} {c : Nat} (h : Ev d env m (.f (.lst (natsD ls)))) (hi : Ev di env m (.f (.int c))) (hc : c ∈ ls) : Ev (dIdx1 d di) env m (.f (.int (ls.idxOf c : Nat))) := fun Q q => h _ (by
  show di env m _
  refine hi _ ?_
  show (match intsD (natsD ls) with
    | some ns => (c : Int) ∈ ns ∧ Q (.f (.int (ns.idxOf (c : Int) : Nat))) m
    | none => False)
  have e : intsD (natsD ls) = some (ls.map fun l : Nat => (l : Int)) := by unfold natsD; exact intsD_map (fun l : Nat => (l : Int)) ls
  rw [e]
  refine ⟨List.mem_map.mpr ⟨c, hc, rfl⟩, ?_⟩
  rw [idx_ints]
  exact q)
theorem rotD (ls : List Nat) (c : Nat) : cutD (natsD ls) (some ((ls.idxOf c + 1 : Nat) : Int)) none ++ cutD (natsD ls) none (some ((ls.idxOf c + 1 : Nat) : Int)) = natsD (rotL ls c) := by
  rw [cutD_toN, cutD_fromN]
  unfold rotL natsD
  rw [List.map_append, List.map_drop, List.map_take]
theorem tu_app {D : En} {m : Mem} {n t : Nat} {ps : List Lk} {k : Bk} {pre : List Bk} {y8 x9 : Option Sl} {y : Dat} {ls : List Nat} (h8 : ps.length ≤ 8) (hl : pre.length < 1000) (ey : cameD k.2.1 = y) (el : ls = linksT ps k)
    (hq : D.nx [some (.f (.cls 22)), some (.f (netD n ps)), some (.f (.int t)), some (.own (.lst ((pre ++ [k]).map fun k => prD (k, rowT ps k)))), some (.f (.int k.1)), some (.f y), some (.f (.int k.2.2)), some (.f (.lst (natsD ls))), y8, x9] m) :
    sApp (dVar 3) (dN oTup (dCons (dN oTup (dCons (dVar 4) (dCons (dVar 5) (dCons (dVar 6) dNil)))) (dCons (dN oTuple (dCons (dNew (nLc (.nm 9) dYes (dN oTup (dCons (dVar 9) (dCons (dC (.int 0)) dNil))) [9] (iVal (dVar 7)))) dNil)) dNil))) D [some (.f (.cls 22)), some (.f (netD n ps)), some (.f (.int t)), some (.own (.lst (pre.map fun k => prD (k, rowT ps k)))), some (.f (.int k.1)), some (.f y), some (.f (.int k.2.2)), some (.f (.lst (natsD ls))), y8, x9] m := by
  subst ey el
  have hal := atL_len ps k.1
  have hll : (linksT ps k).length ≤ 8 := by
    have : (linksT ps k).length = (atL ps (k.1 : Int)).length := by
      unfold linksT
      split
      · rfl
      · exact (rot_perm _ _).length_eq
    omega
  have ec := evn_lc (env := [some (.f (.cls 22)), some (.f (netD n ps)), some (.f (.int t)), some (.own (.lst (pre.map fun k => prD (k, rowT ps k)))), some (.f (.int k.1)), some (.f (cameD k.2.1)), some (.f (.int k.2.2)), some (.f (.lst (natsD (linksT ps k)))), y8, x9]) (m := m) (tg := .nm 9) (de := dN oTup (dCons (dVar 9) (dCons (dC (.int 0)) dNil))) (vs := [9]) (di := iVal (dVar 7))
    (xs := linksT ps k) (g := fun l => .int (l : Nat)) (f := fun l => tnD (l, 0)) (evi_lst (ev_v rfl)) rfl (sz (by omega)) (fun l _ => ⟨_, rfl, ev_n (eva_cons (ev_v rfl) (eva_cons ev_c eva_nil)) (em_tup rfl (sz (Nat.le_of_ble_eq_true rfl)))⟩)
  have er : (linksT ps k).map (fun l => tnD (l, 0)) = (rowT ps k).map tnD := by unfold rowT; rw [List.map_map]; rfl
  rw [er] at ec
  refine st_app (z := prD (k, rowT ps k)) rfl (ev_n (eva_cons (ev_n (eva_cons (ev_v rfl) (eva_cons (ev_v rfl) (eva_cons (ev_v rfl) eva_nil))) (em_tup rfl (sz (Nat.le_of_ble_eq_true rfl)))) (eva_cons (ev_n (eva_cons (ev_new ec) eva_nil) em_tupL) eva_nil)) (em_tup rfl (sz (Nat.le_of_ble_eq_true rfl)))) (by rw [List.length_map]; exact Nat.lt_of_lt_of_le hl (sz (by decide))) ?_
  have e2 : (pre.map fun k => prD (k, rowT ps k)) ++ [prD (k, rowT ps k)] = (pre ++ [k]).map fun k => prD (k, rowT ps k) := by rw [List.map_append]; rfl
  rw [e2]
  exact hq
theorem tu_loop {D : En} {m : Mem} {n t : Nat} {ps : List Lk} (h8 : ps.length ≤ 8) : ∀ (r pre : List Bk) (x4 x5 x6 x7 x8 x9 : Option Sl), (∀ k ∈ r, KeyOk n ps t 1 k) → pre.length + r.length ≤ 1000 →
    (∀ x4 x5 x6 x7 x8 x9, D.nx [some (.f (.cls 22)), some (.f (netD n ps)), some (.f (.int t)), some (.own (.lst ((pre ++ r).map fun k => prD (k, rowT ps k)))), x4, x5, x6, x7, x8, x9] m) →
    forGo (.tp [4, 5, 6]) (sSeq (sAsg (.nm 7) (dNew (nList (dMeth 3 p_nat EX0 (dVar 1) (dCons (dVar 4) dNil)))))
  (sSeq (sIf (dTst (dBin (oIsN not) (dVar 5) (dC .non)))
  (sSeq (sAsg (.nm 8) (dBin oAdd (dIdx1 (dVar 7) (dVar 5)) (dC (.int 1))))
  (sAsg (.nm 7) (dBin oAdd (dSl (dVar 7) (dPart (dVar 8)) dNo) (dSl (dVar 7) dNo (dPart (dVar 8))))))
  sNext)
  (sApp (dVar 3) (dN oTup (dCons (dN oTup (dCons (dVar 4) (dCons (dVar 5) (dCons (dVar 6) dNil)))) (dCons (dN oTuple (dCons (dNew (nLc (.nm 9) dYes (dN oTup (dCons (dVar 9) (dCons (dC (.int 0)) dNil))) [9] (iVal (dVar 7)))) dNil)) dNil)))))) D (r.map keyD) [some (.f (.cls 22)), some (.f (netD n ps)), some (.f (.int t)), some (.own (.lst (pre.map fun k => prD (k, rowT ps k)))), x4, x5, x6, x7, x8, x9] m
  | [], pre, x4, x5, x6, x7, x8, x9, _, _, hq => by
    rw [List.append_nil] at hq
    exact hq _ _ _ _ _ _
  | k :: r, pre, x4, x5, x6, x7, x8, x9, hk, hl, hq => by
    have hko := hk k List.mem_cons_self
    have hal := atL_len ps k.1
    rw [List.length_cons] at hl
    rw [List.map_cons]
    unfold forGo
    show sSeq _ _ _ [some (.f (.cls 22)), some (.f (netD n ps)), some (.f (.int t)), some (.own (.lst (pre.map fun k => prD (k, rowT ps k)))), some (.f (.int k.1)), some (.f (cameD k.2.1)), some (.f (.int k.2.2)), x7, x8, x9] m
    refine sq_set (a := .lst (natsD (atL ps (k.1 : Int)))) (ev_new (evn_list (ev_natB (v := k.1) h8 (ev_v rfl) (eva_cons (ev_v rfl) eva_nil)) rfl)) ?_
    show sSeq _ _ _ [some (.f (.cls 22)), some (.f (netD n ps)), some (.f (.int t)), some (.own (.lst (pre.map fun k => prD (k, rowT ps k)))), some (.f (.int k.1)), some (.f (cameD k.2.1)), some (.f (.int k.2.2)), some (.f (.lst (natsD (atL ps (k.1 : Int))))), x8, x9] m
    have go : ∀ x4 x5 x6 x7 x8 x9, forGo _ _ D (r.map keyD) [some (.f (.cls 22)), some (.f (netD n ps)), some (.f (.int t)), some (.own (.lst ((pre ++ [k]).map fun k => prD (k, rowT ps k)))), x4, x5, x6, x7, x8, x9] m := fun y4 y5 y6 y7 y8 y9 =>
      tu_loop h8 r (pre ++ [k]) y4 y5 y6 y7 y8 y9 (fun q hq => hk q (List.mem_cons_of_mem _ hq)) (by rw [List.length_append, List.length_cons, List.length_nil]; omega) fun y4 y5 y6 y7 y8 y9 => by
        rw [List.append_assoc]
        exact hq _ _ _ _ _ _
    cases hc : k.2.1 with
    | none =>
      refine seq_i (st_ifF (evb_tst (ev_bin (ev_v rfl) ev_c (e2_isn (f := not)))) ?_)
      have e : linksT ps k = atL ps (k.1 : Int) := by unfold linksT; rw [hc]
      dsimp only
      exact tu_app (k := k) h8 (by omega) (by rw [hc]) e.symm (go _ _ _ _ _ _)
    | some c =>
      have hca : c ∈ atL ps (k.1 : Int) := hko.came c hc
      refine seq_i (st_ifT (evb_tst (ev_bin (ev_v rfl) ev_c (e2_isn (f := not)))) ?_)
      refine sq_set (a := .int ((atL ps (k.1 : Int)).idxOf c + 1 : Nat)) ((ev_bin (ev_idx1 (ev_v rfl) (ev_v rfl) hca) ev_c e2_add)) ?_
      have e : linksT ps k = rotL (atL ps (k.1 : Int)) c := by unfold linksT; rw [hc]
      refine st_set (a := .lst (natsD (linksT ps k))) ((ev_bin (ev_slL (ev_v rfl) (evo_p (ev_v rfl)) evo_no rfl) (ev_slL (ev_v rfl) evo_no (evo_p (ev_v rfl)) rfl) (e2_addL (by
        have h1 := cutD_len (natsD (atL ps (k.1 : Int))) (some (((atL ps (k.1 : Int)).idxOf c + 1 : Nat) : Int)) none
        have h2 := cutD_len (natsD (atL ps (k.1 : Int))) none (some (((atL ps (k.1 : Int)).idxOf c + 1 : Nat) : Int))
        unfold natsD at h1 h2
        rw [List.length_map] at h1 h2
        exact Nat.le_trans (Nat.add_le_add h1 h2) (Nat.le_trans (by omega : _ ≤ 1000) (sz (by decide)))))).eq (by rw [rotD, e])) ?_
      exact tu_app (k := k) h8 (by omega) (by rw [hc]) rfl (go _ _ _ _ _ _)
theorem law_Book_turning (C : Ct) : ∀ ds m (Q : QD) (E : QX), p_turning ds m Q E → rd_Book_turning C p_keys p_initB p_nat (fun c xs _ m => E c xs m) { nx := fun _ m => Q .non m, rt := Q } (env0 10 ds) m := by
  rintro ds m Q E ⟨_, ⟨m0, ⟨n, ps⟩, t⟩, ⟨rfl, rfl, hb, h⟩, hQ⟩
  have h : NetOk n ps := h
  have h8 := h.l8
  have n7 := h.n7
  have hK := keysL_len (n := n) (t := t) (mk := 1) h8 (by omega)
  have hq : Q (bkD (turnB n ps t)) m := hQ _ _ ⟨rfl, rfl⟩
  show rd_Book_turning C p_keys p_initB p_nat _ _ [some (.f (.cls 22)), some (.f (netD n ps)), some (.f (.int t)), none, none, none, none, none, none, none] m
  unfold rd_Book_turning
  refine sq_setN (evn_lst eva_nil rfl (sz (Nat.le_of_ble_eq_true rfl))) ?_
  show sSeq _ _ _ [some (.f (.cls 22)), some (.f (netD n ps)), some (.f (.int t)), some (.own (.lst [])), none, none, none, none, none, none] m
  refine sq_for (evi_lst (show Ev (dCall p_keys EX0 _) _ m (.f (.lst ((keysL n ps t 1).map keyD))) from ev_fn (γ := BkG) (eva_cons (ev_v rfl) (eva_cons (ev_v rfl) (eva_cons ev_c eva_nil))) ((n, ps), t, 1) rfl rfl ⟨n7, h8, by show 1 ≤ 3; omega⟩) _ ?_)
  refine tu_loop h8 (keysL n ps t 1) [] _ _ _ _ _ _ (fun k hk => keysL_ok (by omega) hk) (by simp; omega) fun x4 x5 x6 x7 x8 x9 => ?_
  dsimp only
  refine keep_i rfl ?_
  show sRet _ _ [some (.f (.cls 22)), some (.f (netD n ps)), some (.f (.int t)), some (.f (.lst ((keysL n ps t 1).map fun k => prD (k, rowT ps k)))), x4, x5, x6, x7, x8, x9] m
  have e : (keysL n ps t 1).map (fun k => prD (k, rowT ps k)) = (turnR n ps t).map prD := by unfold turnR; rw [List.map_map]; rfl
  rw [e]
  exact st_ret (a := bkD (turnB n ps t)) (fun Q q => ⟨rfl, ev_book (t := t) (mk := 1) h8 (turn_ok n7 h8) hb (eva_cons (ev_v rfl) (eva_cons (ev_v rfl) (eva_cons ev_c (eva_cons (ev_n (eva_cons (ev_v rfl) eva_nil) em_tupL) eva_nil)))) Q q⟩) hq
theorem ev_turning {env : Env'} {m : Mem} {da : TAd} {n t : Nat} {ps : List Lk} (h : NetOk n ps) (hb : belM m.length m = true) (ha : EvA da env m [.f (netD n ps), .f (.int t)]) : Ev (dCm 22 p_turning EX0 da) env m (.f (bkD (turnB n ps t))) := fun Q q => ha _ ⟨rfl, (m, (n, ps), t), ⟨rfl, rfl, hb, h⟩, fun r m' ⟨e1, e2⟩ => by subst e1 e2; exact q⟩
end DL.S

set_option maxHeartbeats 1000000
namespace DL.S
open PySem PySem.Spec PyProof.Rows L2 DL K02
theorem mem_keysL {n : Nat} {ps : List Lk} {t mk : Nat} {k : Bk} (h : KeyOk n ps t mk k) : k ∈ keysL n ps t mk := by
  unfold keysL
  refine List.mem_flatMap.mpr ⟨k.1, List.mem_range.mpr h.lt, ?_⟩
  rw [if_neg h.ne]
  unfold keysAt
  obtain ⟨v, c, j⟩ := k
  cases c with
  | none =>
    have : j = 0 := h.zero rfl
    subst this
    exact List.mem_cons_self
  | some c =>
    refine List.mem_cons_of_mem _ (List.mem_flatMap.mpr ⟨c, h.came c rfl, List.mem_map.mpr ⟨j, List.mem_range.mpr h.mkl, rfl⟩⟩)
end DL.S

set_option maxHeartbeats 1000000
namespace DL.S
open PySem PySem.Spec PyProof.Rows L2 DL K02

theorem eqd_came (a b : Option Nat) : eqd (cameD a) (cameD b) = decide (a = b) := by
  cases a with
  | none => cases b <;> simp [cameD, eqd]
  | some a =>
    cases b with
    | none => simp [cameD, eqd]
    | some b =>
      show eqd (.int a) (.int b) = _
      rw [eqd_nn]
      exact decide_eq_decide.mpr (by simp)
end DL.S

set_option maxHeartbeats 1000000
namespace DL.S
open PySem PySem.Spec PyProof.Rows L2 DL K02

end DL.S

set_option maxHeartbeats 1000000
namespace DL.S
open PySem PySem.Spec PyProof.Rows L2 DL K02

end DL.S

set_option maxHeartbeats 1000000
namespace DL.S
open PySem PySem.Spec PyProof.Rows L2 DL K02

theorem ScOk.with {b : BG} (h : ScOk b) {rs : Rws} (a : AllR b.1 rs) : ScOk (b.1, rs) := ⟨h.net, a.rows, h.mk0, h.mk3, h.tg, a.keys⟩
end DL.S

set_option maxHeartbeats 1000000
namespace DL.S
open PySem PySem.Spec PyProof.Rows L2 DL K02
end DL.S

set_option maxHeartbeats 1000000
namespace DL.S
open PySem PySem.Spec PyProof.Rows L2 DL K02
theorem rowOf_cons (p : Bk × List Tn) (rs : Rws) (q : Bk) : rowOf (p :: rs) q = if p.1 = q then some p.2 else rowOf rs q := by
  unfold rowOf
  rw [List.find?_cons]
  by_cases h : p.1 = q
  · simp [h]
  · simp [h]
theorem rowOf_mapS {f : Bk → List Tn} {k : Bk} : ∀ {ks : List Bk}, k ∈ ks → rowOf (ks.map fun q => (q, f q)) k = some (f k)
  | q :: ks, h => by
    rw [List.map_cons, rowOf_cons]
    by_cases e : q = k
    · subst e; simp
    · simp only [e, if_false]
      exact rowOf_mapS (by rcases List.mem_cons.mp h with z | z; exact absurd z.symm e; exact z)
end DL.S

set_option maxHeartbeats 1000000
namespace DL.S
open PySem PySem.Spec PyProof.Rows L2 DL K02
theorem OffR.snoc {b : BkG} {os : Rws} (h : OffR b os) {p : Bk × List Tn} (h1 : p.1 ∈ keysL b.1.1 b.1.2 b.2.1 b.2.2) (h2 : RowOk b.1.2 p.1.1 b.2.2 p.2) : OffR b (os ++ [p]) :=
  ⟨fun q hq => by rcases List.mem_append.mp hq with z | z; exact h.key q z; (have : q = p := by simpa using z); subst this; exact h1, fun q hq => by rcases List.mem_append.mp hq with z | z; exact h.row q z; (have : q = p := by simpa using z); subst this; exact h2⟩
section
variable {D : En} {b : BkG} {x1 : Option Sl} {ms : Rws}
end
end DL.S

set_option maxHeartbeats 1000000
namespace DL.S
open PySem PySem.Spec PyProof.Rows L2 DL K02
noncomputable abbrev two (b : BkG) (rs qs : Rws) (P : BG → BG → Cs → Bool) : Option Cs := (casesL b.1.1 b.1.2.length).find? (P (b, rs) (b, qs))
end DL.S

set_option maxHeartbeats 1000000
namespace DL.S
open PySem PySem.Spec PyProof.Rows L2 DL K02
section
variable {d : TD} {env : Env'} {m : Mem} {b : BG}
end
end DL.S

set_option maxHeartbeats 1000000
namespace DL.S
open PySem PySem.Spec PyProof.Rows L2 DL K02
end DL.S

set_option maxHeartbeats 1000000
namespace DL.S
open PySem PySem.Spec PyProof.Rows L2 DL K02
end DL.S

set_option maxHeartbeats 1000000
namespace DL.S
open PySem PySem.Spec PyProof.Rows L2 DL K02
end DL.S

set_option maxHeartbeats 1000000
namespace DL.S
open PySem PySem.Spec PyProof.Rows L2 DL K02
end DL.S

set_option maxHeartbeats 1000000
namespace DL.S
open PySem PySem.Spec PyProof.Rows L2 DL K02

theorem alike_ints : ∀ xs ys : List Int, PySem.W.alikeAll (xs.map PyData.int) (ys.map .int) = true
  | [], _ => by simp [PySem.W.alikeAll]
  | _ :: _, [] => by simp [PySem.W.alikeAll]
  | x :: xs, y :: ys => by simp [PySem.W.alikeAll, PySem.W.alike, alike_ints xs ys]
end DL.S

set_option maxHeartbeats 1000000
namespace DL.S
open PySem PySem.Spec PyProof.Rows L2 DL K02
end DL.S

set_option maxHeartbeats 1000000
namespace DL.S
open PySem PySem.Spec PyProof.Rows L2 DL K02

end DL.S

set_option maxHeartbeats 1000000
namespace DL.S
open PySem PySem.Spec PyProof.Rows L2 DL K02
def Chain (nx : Bk → Option Bk) (w : List Bk) : Prop := ∀ (i : Nat) a b, w[i]? = some a → w[i + 1]? = some b → nx a = some b
theorem Chain.snoc {nx : Bk → Option Bk} {w : List Bk} {h s : Bk} (c : Chain nx (w ++ [h])) (e : nx h = some s) : Chain nx (w ++ [h] ++ [s]) := fun i a b ha hb => by
  have hl : i + 1 < (w ++ [h] ++ [s]).length := (List.getElem?_eq_some_iff.mp hb).1
  simp only [List.length_append, List.length_cons, List.length_nil] at hl
  have ha' : (w ++ [h])[i]? = some a := by
    rw [List.getElem?_append_left (by simp; omega)] at ha
    exact ha
  by_cases hi : i + 1 < (w ++ [h]).length
  · refine c i a b ha' ?_
    rw [List.getElem?_append_left hi] at hb
    exact hb
  · have hi' : i = w.length := by simp at hi; omega
    subst hi'
    have e1 : a = h := by simpa using ha'.symm
    have e2 : b = s := by
      rw [List.getElem?_append_right (by simp)] at hb
      simpa using hb.symm
    rw [e1, e2]
    exact e
structure WEnd (nx : Bk → Option Bk) (t : Nat) (r : List Bk × Str) : Prop where
  chain : Chain nx r.1
  last : ∃ pr l, r.1 = pr ++ [l] ∧ pr.Nodup ∧ (∀ q ∈ pr, q.1 ≠ t) ∧ ((r.2 = Str.ofString "home" ∧ l.1 = t ∧ l ∉ pr) ∨ (r.2 = Str.ofString "lost" ∧ l.1 ≠ t ∧ l ∉ pr ∧ nx l = none) ∨ (r.2 = Str.ofString "round" ∧ l ∈ pr))
theorem trip_end {nx : Bk → Option Bk} {t : Nat} : ∀ (f : Nat) (pre : List Bk) (h : Bk), Chain nx (pre ++ [h]) → (pre ++ [h]).Nodup → (∀ q ∈ pre, q.1 ≠ t) → endsW nx t f pre h → WEnd nx t (tripW nx t f pre h)
  | 0, pre, h, _, _, _, he => he.elim
  | f + 1, pre, h, hc, nd, ht, he => by
    have nd2 := List.nodup_append.mp nd
    have hn : h ∉ pre := fun z => nd2.2.2 h z h (List.mem_singleton.mpr rfl) rfl
    unfold tripW
    by_cases e : h.1 = t
    · rw [if_pos e]
      exact ⟨hc, pre, h, rfl, nd2.1, ht, .inl ⟨rfl, e, hn⟩⟩
    · rw [if_neg e]
      have ht2 : ∀ q ∈ pre ++ [h], q.1 ≠ t := fun q hq => by
        rcases List.mem_append.mp hq with z | z
        · exact ht q z
        · rw [List.mem_singleton.mp z]; exact e
      cases en : nx h with
      | none => exact ⟨hc, pre, h, rfl, nd2.1, ht, .inr (.inl ⟨rfl, e, hn, en⟩)⟩
      | some s =>
        dsimp only
        by_cases hs : s ∈ pre ++ [h]
        · rw [if_pos hs]
          exact ⟨hc.snoc en, pre ++ [h], s, rfl, nd, ht2, .inr (.inr ⟨rfl, hs⟩)⟩
        · rw [if_neg hs]
          refine trip_end f (pre ++ [h]) s (hc.snoc en) ?_ ht2 ?_
          · exact List.nodup_append.mpr ⟨nd, List.pairwise_singleton _ _, fun a ha b hb z => by rw [List.mem_singleton.mp hb] at z; exact hs (z ▸ ha)⟩
          · have he' : h.1 = t ∨ match nx h with
              | none => True
              | some s => s ∈ pre ++ [h] ∨ endsW nx t f (pre ++ [h]) s := he
            rcases he' with z | z
            · exact absurd z e
            · rw [en] at z
              rcases z with z | z
              · exact absurd z hs
              · exact z
theorem chain_one (nx : Bk → Option Bk) (h : Bk) : Chain nx ([] ++ [h]) := fun i a b ha hb => by
  have : i + 1 < 1 := (List.getElem?_eq_some_iff.mp hb).1
  omega
theorem trip_ends {b : BkG} {rs : Rws} (h : RowsOk b.1.1 b.1.2 b.2.1 b.2.2 rs) (h8 : b.1.2.length ≤ 8) (h3 : b.2.2 ≤ 3) (s : Nat) (o : List Nat) : WEnd (stepS b.1.2 rs o) b.2.1 (tripOf (b, rs) s o) :=
  trip_end 70 [] (s, none, 0) (chain_one _ _) (by simp) (fun q hq => by cases hq) (ends_start h h8 h3)
theorem BkOk.ends {g : BG} (h : BkOk g) (s : Nat) (o : List Nat) : WEnd (stepS g.1.1.2 g.2 o) g.1.2.1 (tripOf g s o) := trip_ends h.2.1 h.1.l8 h.2.2 s o
theorem WEnd.next {nx : Bk → Option Bk} {t : Nat} {r : List Bk × Str} (h : WEnd nx t r) {q s : Bk} (hq : q ∈ r.1) (ht : q.1 ≠ t) (e : nx q = some s) : ∃ i, r.1[i]? = some q ∧ r.1[i + 1]? = some s := by
  obtain ⟨pr, l, e1, nd, hpt, hl⟩ := h.last
  have main : q ∈ pr → ∃ i, r.1[i]? = some q ∧ r.1[i + 1]? = some s := fun hp => by
    obtain ⟨i, hi⟩ := List.getElem?_of_mem hp
    have hil : i < pr.length := (List.getElem?_eq_some_iff.mp hi).1
    have h1 : r.1[i]? = some q := by rw [e1, List.getElem?_append_left hil]; exact hi
    have hlen : i + 1 < r.1.length := by rw [e1]; simp; omega
    refine ⟨i, h1, ?_⟩
    have h2 := h.chain i q _ h1 (List.getElem?_eq_getElem hlen)
    rw [e] at h2
    rw [List.getElem?_eq_getElem hlen, ← Option.some.inj h2]
  rw [e1] at hq
  rcases List.mem_append.mp hq with z | z
  · exact main z
  · have z := List.mem_singleton.mp z
    subst z
    rcases hl with ⟨_, h2, _⟩ | ⟨_, _, _, h2⟩ | ⟨_, h2⟩
    · exact absurd h2 ht
    · rw [e] at h2; cases h2
    · exact main h2
theorem step_turn {ps : List Lk} {rs : Rws} {o : List Nat} {k s : Bk} (e : stepS ps rs o k = some s) : ∃ t ∈ rowAt rs k, (rowAt rs k).find? (fun t => !decide (t.1 ∈ o)) = some t ∧ t.1 ∉ o ∧ s = (farN (ps.getD t.1 (0, 0)) k.1, some t.1, t.2) := by
  unfold stepS at e
  obtain ⟨t, h1, h2⟩ := Option.map_eq_some_iff.mp e
  exact ⟨t, List.mem_of_find?_eq_some h1, h1, by simpa using List.find?_some h1, h2.symm⟩
end DL.S

set_option maxHeartbeats 1000000
namespace DL.S
open PySem PySem.Spec PyProof.Rows L2 DL K02

end DL.S

set_option maxHeartbeats 1000000
namespace DL.S
open PySem PySem.Spec PyProof.Rows L2 DL K02
end DL.S

set_option maxHeartbeats 1000000
namespace DL.S
open PySem PySem.Spec PyProof.Rows L2 DL K02
abbrev OP := List Nat → Bool
section
variable {env : Env'} {m : Mem} {d1 d2 : TD} {l : Nat} {P R : OP}
end
end DL.S

set_option maxHeartbeats 1000000
namespace DL.S
open PySem PySem.Spec PyProof.Rows L2 DL K02
theorem outOk_mem {l : Nat} (h : l ≤ 8) {o : List Nat} (ho : OutOk l o) : o ∈ every l := by
  have hs := ho
  induction l generalizing o with
  | zero =>
    have : o = [] := List.eq_nil_iff_forall_not_mem.mpr fun x hx => absurd (ho.2 x hx) (Nat.not_lt_zero _)
    subst this
    simp [every]
  | succ l ih =>
    by_cases hm : l ∈ o
    · obtain ⟨a, b, rfl⟩ := List.append_of_mem hm
      have hb : b = [] := List.eq_nil_iff_forall_not_mem.mpr fun x hx => by
        have h1 := ho.2 x (by simp [hx])
        have h2 := (List.pairwise_append.mp ho.1).2.1
        rw [List.pairwise_cons] at h2
        have := h2.1 x hx
        omega
      subst hb
      have hp := List.pairwise_append.mp ho.1
      have ha : OutOk l a := ⟨hp.1, fun x hx => by
        have := hp.2.2 x hx l List.mem_cons_self
        exact this⟩
      exact List.mem_append_right _ (List.mem_map.mpr ⟨a, ih (by omega) ha ha, rfl⟩)
    · have ha : OutOk l o := ⟨ho.1, fun x hx => by
        have h1 := ho.2 x hx
        have : x ≠ l := fun e => hm (e ▸ hx)
        omega⟩
      exact List.mem_append_left _ (ih (by omega) ha ha)
end DL.S

set_option maxHeartbeats 1000000
namespace DL.S
open PySem PySem.Spec PyProof.Rows L2 DL K02
end DL.S

set_option maxHeartbeats 1000000
namespace DL.S
open PySem PySem.Spec PyProof.Rows L2 DL K02
end DL.S

set_option maxHeartbeats 1000000
namespace DL.S
open PySem PySem.Spec PyProof.Rows L2 DL K02
section
variable {env : Env'} {m : Mem} {d1 d2 : TD} {l l' : Nat} {P R : OP}
end
end DL.S

set_option maxHeartbeats 1000000
namespace DL.S
open PySem PySem.Spec PyProof.Rows L2 DL K02
end DL.S

set_option maxHeartbeats 1000000
namespace DL.S
open PySem PySem.Spec PyProof.Rows L2 DL K02
theorem trip_pre {nx : Bk → Option Bk} {t : Nat} : ∀ (f : Nat) (pre : List Bk) (h : Bk), (pre ++ [h]) <+: (tripW nx t f pre h).1
  | 0, pre, h => List.prefix_rfl
  | f + 1, pre, h => by
    unfold tripW
    by_cases e : h.1 = t
    · rw [if_pos e]; exact List.prefix_rfl
    · rw [if_neg e]
      cases en : nx h with
      | none => exact List.prefix_rfl
      | some s =>
        dsimp only
        by_cases hs : s ∈ pre ++ [h]
        · rw [if_pos hs]; exact List.prefix_append _ _
        · rw [if_neg hs]; exact (List.prefix_append _ _).trans (trip_pre f _ s)
theorem trip_start (g : BG) (s : Nat) (o : List Nat) : ∃ r, (tripOf g s o).1 = (s, none, 0) :: r := by
  obtain ⟨r, e⟩ := trip_pre (nx := stepS g.1.1.2 g.2 o) (t := g.1.2.1) 70 [] (s, none, 0)
  exact ⟨r, e.symm⟩
end DL.S

set_option maxHeartbeats 1000000
namespace DL.S
open PySem PySem.Spec PyProof.Rows L2 DL K02
section
variable {nx ny : Bk → Option Bk} {t : Nat}
theorem HomeW.next {q s : Bk} (ht : q.1 ≠ t) (e : nx q = some s) : HomeW nx t q ↔ HomeW nx t s := by
  constructor
  · intro h
    cases h with
    | here h => exact absurd h ht
    | step _ e2 h => rw [e] at e2; cases e2; exact h
  · exact fun h => .step ht e h
theorem Lost.next {q s : Bk} (ht : q.1 ≠ t) (e : nx q = some s) : Lost nx t q ↔ Lost nx t s := by
  constructor
  · intro h
    cases h with
    | here _ e2 => rw [e] at e2; cases e2
    | step _ e2 h => rw [e] at e2; cases e2; exact h
  · exact fun h => .step ht e h
theorem HomeW.not_lost {q : Bk} (h : HomeW nx t q) : ¬ Lost nx t q := by
  induction h with
  | here e => intro z; cases z with
    | here a _ => exact a e
    | step a _ _ => exact a e
  | step a e _ ih => intro z; exact ih ((Lost.next a e).mp z)
theorem round_not {S : List Bk} (h : ∀ q ∈ S, q.1 ≠ t ∧ ∃ s ∈ S, nx q = some s) : ∀ q ∈ S, ¬ HomeW nx t q ∧ ¬ Lost nx t q := fun q hq => by
  constructor
  · intro z
    induction z with
    | here e => exact (h _ hq).1 e
    | step a e _ ih =>
      obtain ⟨_, s, hs, e2⟩ := h _ hq
      rw [e] at e2
      cases e2
      exact ih hs
  · intro z
    induction z with
    | here _ e =>
      obtain ⟨_, s, hs, e2⟩ := h _ hq
      rw [e] at e2
      cases e2
    | step a e _ ih =>
      obtain ⟨_, s, hs, e2⟩ := h _ hq
      rw [e] at e2
      cases e2
      exact ih hs
theorem WEnd.along {r : List Bk × Str} (h : WEnd nx t r) {h0 : Bk} (e0 : r.1[0]? = some h0) : ∀ (i : Nat) (q : Bk), r.1[i]? = some q → (HomeW nx t h0 ↔ HomeW nx t q) ∧ (Lost nx t h0 ↔ Lost nx t q)
  | 0, q, e => by rw [e0] at e; cases e; exact ⟨.rfl, .rfl⟩
  | i + 1, q, e => by
    have hlt := (List.getElem?_eq_some_iff.mp e).1
    have e1 : r.1[i]? = some (r.1[i]) := List.getElem?_eq_getElem (by omega)
    have ih := WEnd.along h e0 i _ e1
    have hn := h.chain i _ _ e1 e
    obtain ⟨pr, l, e2, _, ht, _⟩ := h.last
    have hi : i < pr.length := by rw [e2, List.length_append] at hlt; simp at hlt; omega
    have hm : r.1[i] ∈ pr := by
      have : r.1[i]? = pr[i]? := by rw [e2, List.getElem?_append_left hi]
      rw [e1] at this
      exact List.mem_of_getElem? this.symm
    have hne := ht _ hm
    exact ⟨ih.1.trans (HomeW.next hne hn), ih.2.trans (Lost.next hne hn)⟩
theorem WEnd.fates {r : List Bk × Str} (h : WEnd nx t r) {h0 : Bk} (e0 : r.1[0]? = some h0) : (r.2 = Str.ofString "home" ↔ HomeW nx t h0) ∧ (r.2 = Str.ofString "lost" ↔ Lost nx t h0) ∧ (r.2 = Str.ofString "round" ↔ ¬ HomeW nx t h0 ∧ ¬ Lost nx t h0) := by
  obtain ⟨pr, l, e2, nd, ht, hl⟩ := h.last
  have el : r.1[pr.length]? = some l := by rw [e2]; simp
  have ha := h.along e0 pr.length l el
  have n1 : (Str.ofString "home" = Str.ofString "lost") = False := eq_false (by decide +kernel)
  have n2 : (Str.ofString "home" = Str.ofString "round") = False := eq_false (by decide +kernel)
  have n3 : (Str.ofString "lost" = Str.ofString "round") = False := eq_false (by decide +kernel)
  have n4 : (Str.ofString "lost" = Str.ofString "home") = False := eq_false (by decide +kernel)
  have n5 : (Str.ofString "round" = Str.ofString "home") = False := eq_false (by decide +kernel)
  have n6 : (Str.ofString "round" = Str.ofString "lost") = False := eq_false (by decide +kernel)
  rcases hl with ⟨a1, a2, _⟩ | ⟨a1, a2, _, a3⟩ | ⟨a1, a2⟩
  · have hh : HomeW nx t h0 := ha.1.mpr (.here a2)
    have hn := hh.not_lost
    rw [a1, n1, n2]
    exact ⟨⟨fun _ => hh, fun _ => rfl⟩, ⟨fun z => z.elim, fun z => hn z⟩, ⟨fun z => z.elim, fun z => z.1 hh⟩⟩
  · have hh : Lost nx t h0 := ha.2.mpr (.here a2 a3)
    have hn : ¬ HomeW nx t h0 := fun z => z.not_lost hh
    rw [a1, n4, n3]
    exact ⟨⟨fun z => z.elim, fun z => hn z⟩, ⟨fun _ => hh, fun _ => rfl⟩, ⟨fun z => z.elim, fun z => z.2 hh⟩⟩
  · have hS : ∀ q ∈ pr, q.1 ≠ t ∧ ∃ s ∈ pr, nx q = some s := fun q hq => by
      refine ⟨ht q hq, ?_⟩
      obtain ⟨i, hi⟩ := List.getElem?_of_mem hq
      have hil := (List.getElem?_eq_some_iff.mp hi).1
      have e3 : r.1[i]? = some q := by rw [e2, List.getElem?_append_left hil]; exact hi
      by_cases hlast : i + 1 < pr.length
      · have e4 : r.1[i + 1]? = some (pr[i + 1]) := by rw [e2, List.getElem?_append_left hlast]; exact List.getElem?_eq_getElem hlast
        exact ⟨_, List.getElem_mem hlast, h.chain i _ _ e3 e4⟩
      · have e4 : r.1[i + 1]? = some l := by rw [show i + 1 = pr.length by omega]; exact el
        exact ⟨l, a2, h.chain i _ _ e3 e4⟩
    have hn := round_not hS l a2
    have h1 : ¬ HomeW nx t h0 := fun z => hn.1 (ha.1.mp z)
    have h2 : ¬ Lost nx t h0 := fun z => hn.2 (ha.2.mp z)
    rw [a1, n5, n6]
    exact ⟨⟨fun z => z.elim, fun z => h1 z⟩, ⟨fun z => z.elim, fun z => h2 z⟩, ⟨fun _ => ⟨h1, h2⟩, fun _ => rfl⟩⟩
end
theorem trip_at0 (g : BG) (s : Nat) (o : List Nat) : (tripOf g s o).1[0]? = some (s, none, 0) := by
  obtain ⟨r, e⟩ := trip_start g s o
  rw [e]
  rfl
end DL.S

set_option maxHeartbeats 1000000
namespace DL.S
open PySem PySem.Spec PyProof.Rows L2 DL K02
theorem find_head {α : Type} (p : α → Bool) : ∀ l : List α, l.find? p = (l.filter p).head?
  | [] => rfl
  | x :: l => by
    rw [List.find?_cons, List.filter_cons]
    cases h : p x with
    | true => simp
    | false => simpa using find_head p l
theorem rotL_at {X Y : List Nat} {c : Nat} (h : c ∉ X) : rotL (X ++ c :: Y) c = Y ++ (X ++ [c]) := by
  unfold rotL
  have e : (X ++ c :: Y).idxOf c = X.length := by
    rw [List.idxOf_append, if_neg h]
    simp
  rw [e]
  have e1 : (X ++ c :: Y).drop (X.length + 1) = Y := by
    rw [List.drop_append]
    simp
  have e2 : (X ++ c :: Y).take (X.length + 1) = X ++ [c] := by
    rw [List.take_append, List.take_of_length_le (by omega)]
    simp
  rw [e1, e2]
theorem rot_next {p : Nat → Bool} {ls A B : List Nat} {z : Nat} (nd : ls.Nodup) (h : ls.filter p = A ++ z :: B) : (rotL ls z).find? p = (B ++ (A ++ [z])).head? := by
  have hz : z ∈ ls.filter p := by rw [h]; simp
  obtain ⟨hz1, hz2⟩ := List.mem_filter.mp hz
  obtain ⟨X, Y, e⟩ := List.append_of_mem hz1
  subst e
  have nd' := nd
  rw [List.nodup_append] at nd'
  have hX : z ∉ X := fun hm => nd'.2.2 z hm z List.mem_cons_self rfl
  rw [rotL_at hX, find_head, List.filter_append, List.filter_append]
  have ez : [z].filter p = [z] := by simp [hz2]
  rw [ez]
  rw [List.filter_append, List.filter_cons, if_pos hz2] at h
  have ndF : (X.filter p ++ z :: Y.filter p).Nodup := by
    have := nd.filter p
    rw [List.filter_append, List.filter_cons, if_pos hz2] at this
    exact this
  have hXF : z ∉ X.filter p := fun hm => hX (List.mem_filter.mp hm).1
  have hAF : z ∉ A := fun hm => by
    rw [h, List.nodup_append] at ndF
    exact ndF.2.2 z hm z List.mem_cons_self rfl
  have key : ∀ {U V A B : List Nat}, z ∉ U → z ∉ A → U ++ z :: V = A ++ z :: B → U = A ∧ V = B := fun {U} => by
    induction U with
    | nil =>
      intro V A B _ ha e
      cases A with
      | nil => exact ⟨rfl, (List.cons.inj e).2⟩
      | cons a A => exact absurd ((List.cons.inj e).1 ▸ List.mem_cons_self) ha
    | cons u U ih =>
      intro V A B hu ha e
      cases A with
      | nil => exact absurd ((List.cons.inj e).1.symm ▸ List.mem_cons_self) hu
      | cons a A =>
        obtain ⟨e1, e2⟩ := List.cons.inj e
        obtain ⟨r1, r2⟩ := ih (fun q => hu (List.mem_cons_of_mem _ q)) (fun q => ha (List.mem_cons_of_mem _ q)) e2
        exact ⟨by rw [e1, r1], r2⟩
  obtain ⟨r1, r2⟩ := key hXF hAF h
  rw [r1, r2]
theorem rot_round {p : Nat → Bool} {ls A B P1 P2 : List Nat} {z : Nat} (nd : ls.Nodup) (h : ls.filter p = A ++ B) (hg : B ++ A = P1 ++ z :: P2) : (rotL ls z).find? p = (P2 ++ (P1 ++ [z])).head? := by
  rcases List.append_eq_append_iff.mp hg with ⟨X, e1, e2⟩ | ⟨Y, e1, e2⟩
  · subst e1 e2
    have := rot_next (A := X) (B := P2 ++ B) nd (by rw [h, List.append_assoc]; rfl)
    rw [this]
    congr 1
    simp
  · cases Y with
    | nil =>
      rw [List.append_nil] at e1
      have e2 : z :: P2 = A := e2
      subst e1 e2
      have := rot_next (A := []) (B := P2 ++ B) nd (by rw [h]; rfl)
      rw [this]
      congr 1
      simp
    | cons y Y =>
      have e2 : z :: P2 = y :: (Y ++ A) := e2
      obtain ⟨e3, e4⟩ := List.cons.inj e2
      subst e3 e4 e1
      have := rot_next (A := A ++ P1) (B := Y) nd (by rw [h, List.append_assoc])
      rw [this]
      congr 1
      simp
end DL.S

set_option maxHeartbeats 1000000
namespace DL.S
open PySem PySem.Spec L2 DL DL.S K02
open PyProof.Rows hiding isInt
section
variable {n g k : Nat} {ps : List Lk} {o : List Nat} {m : Mem} {x6 : Option Sl}
end
end DL.S

set_option maxHeartbeats 1000000
namespace DL.AU
open PySem PySem.Spec PyProof.Rows L2 DL DL.S K02
section
variable {env : Env'} {m : Mem} {d da db : TD} {x y : Lv} {z : Dat}
theorem av {i : Nat} {a : Dat} (e : env[i]? = some (some (.f a))) : Ev (dVar i) env m (.f a) := ev_v e
theorem ao {i : Nat} {a : Mo} (e : env[i]? = some (some (.own a))) : Ev (dVar i) env m (.o i) := ev_o e
theorem aSame {k : Nat} {r : TAd} {a c : Dat} (ha : EvA r env m [.f a, .f c]) (he : a = c) (hg : good k c = true) : Ev (dCall (p_same k) EX0 r) env m (.f (.bl true)) := by
  subst he
  exact ev_same hg ha
theorem aEq {f : Bool → Bool} {a c : Dat} (ea : der env m x = some a) (ec : der env m y = some c) (ha : okN 60 a = true) (hc : okN 60 c = true) : Ev2 (oEq f) env m x y (.bl (f (eqd a c))) := e2_eq ea ec ha hc
theorem aTup {r : TAd} {ls : List Lv} {xs : List Dat} (ha : EvA r env m ls) (e : frs ls = some xs) (hl : Nat.ble xs.length 16777216 = true) : Ev (dN oTup r) env m (.f (.tup xs)) := ev_n ha (em_tup e (sz (Nat.le_of_ble_eq_true hl)))
theorem aLst {r : TAd} {ls : List Lv} {xs : List Dat} (ha : EvA r env m ls) (e : frs ls = some xs) (hl : Nat.ble xs.length 16777216 = true) : Ev (dNew (nLst r)) env m (.f (.lst xs)) := ev_new (evn_lst ha e (sz (Nat.le_of_ble_eq_true hl)))
theorem aLstN {r : TAd} {ls : List Lv} {xs : List Dat} (ha : EvA r env m ls) (e : frs ls = some xs) (hl : Nat.ble xs.length 16777216 = true) : EvN (nLst r) env m xs := evn_lst ha e (sz (Nat.le_of_ble_eq_true hl))
theorem aLen {r : TAd} {l : Lv} {xs : List Dat} (ha : EvA r env m [l]) (e : seqOf env m l = some xs) : Ev (dN oLen r) env m (.f (.int xs.length)) := ev_n ha (em_len e)
theorem aTupL {r : TAd} {l : List Dat} (ha : EvA r env m [.f (.lst l)]) : Ev (dN oTuple r) env m (.f (.tup l)) := ev_n ha em_tupL
theorem gNil {k : Nat} : ([] : List Dat).all (good k) = true := rfl
theorem gCons {k : Nat} {a : Dat} {as : List Dat} (h : good k a = true) (hs : as.all (good k) = true) : (a :: as).all (good k) = true := by
  rw [List.all_cons, h, hs]; rfl
theorem gLst {k : Nat} {as : List Dat} (hl : Nat.ble as.length 10000 = true) (h : as.all (good k) = true) : good (k + 1) (.lst as) = true := by
  rw [good, h, Bool.and_true]
  exact decide_eq_true (Nat.le_of_ble_eq_true hl)
theorem gTup {k : Nat} {as : List Dat} (hl : Nat.ble as.length 10000 = true) (h : as.all (good k) = true) : good (k + 1) (.tup as) = true := by
  rw [good, h, Bool.and_true]
  exact decide_eq_true (Nat.le_of_ble_eq_true hl)
theorem next {da : TAd} {Q : QL} {tl : Mem} {c : Nat} (many : Int) (ha : EvA da env m [.f (.obj 1), .f (.int many)]) (hd : Dk c tl m) (h0 : 0 < many) (h1 : many < 2 ^ 40) (hc : c < lim)
    (h : ∀ (i : Int) m', 0 ≤ i → i < many → Dk (c + 1) tl m' → Q (.f (.int i)) m') : dCall p_next EX0 da env m Q := call_next many h0 h1 hd hc ha h
end
end DL.AU

set_option maxHeartbeats 1000000
namespace DL.S
open PySem PySem.Spec PyProof.Rows L2 DL K02
set_option hygiene false
local macro_rules | `(tactic| trivial) => `(tactic| with_reducible exact eva_nil)
local macro_rules | `(tactic| trivial) => `(tactic| ((with_reducible apply ev_bin) <;> trivial))
local macro_rules | `(tactic| trivial) => `(tactic| ((with_reducible apply ev_if) <;> trivial))
local macro_rules | `(tactic| trivial) => `(tactic| ((with_reducible apply AU.aTup) <;> first | rfl | trivial))
local macro_rules | `(tactic| trivial) => `(tactic| ((with_reducible apply AU.aLst) <;> first | rfl | trivial))
local macro_rules | `(tactic| trivial) => `(tactic| ((with_reducible apply AU.aLstN) <;> first | rfl | trivial))
local macro_rules | `(tactic| trivial) => `(tactic| ((with_reducible apply AU.aLen) <;> first | rfl | trivial))
local macro_rules | `(tactic| trivial) => `(tactic| ((with_reducible apply AU.aTupL) <;> first | rfl | trivial))
local macro_rules | `(tactic| trivial) => `(tactic| ((with_reducible apply eva_cons) <;> trivial))
local macro_rules | `(tactic| trivial) => `(tactic| with_reducible exact ev_c)
local macro_rules | `(tactic| trivial) => `(tactic| ((with_reducible apply AU.ao) <;> rfl))
local macro_rules | `(tactic| trivial) => `(tactic| ((with_reducible apply AU.av) <;> rfl))
local macro_rules | `(tactic| trivial) => `(tactic| with_reducible exact e2_add)
local macro_rules | `(tactic| trivial) => `(tactic| with_reducible exact e2_i0)
local macro_rules | `(tactic| trivial) => `(tactic| with_reducible exact e2_isn)
local macro_rules | `(tactic| trivial) => `(tactic| ((with_reducible apply e2_ix) <;> rfl))
local macro_rules | `(tactic| trivial) => `(tactic| ((with_reducible apply AU.aEq) <;> first | rfl | trivial))
local macro_rules | `(tactic| trivial) => `(tactic| ((with_reducible apply AU.aSame) <;> first | trivial | rfl))
local macro_rules | `(tactic| trivial) => `(tactic| ((with_reducible apply evb_tst) <;> trivial))
local macro_rules | `(tactic| trivial) => `(tactic| ((with_reducible apply evb_not) <;> trivial))
local macro_rules | `(tactic| trivial) => `(tactic| with_reducible exact AU.gNil)
local macro_rules | `(tactic| trivial) => `(tactic| ((with_reducible apply AU.gCons) <;> trivial))
local macro_rules | `(tactic| trivial) => `(tactic| ((with_reducible apply AU.gLst) <;> first | rfl | trivial))
local macro_rules | `(tactic| trivial) => `(tactic| ((with_reducible apply AU.gTup) <;> first | rfl | trivial))
local macro_rules | `(tactic| trivial) => `(tactic| with_reducible assumption)

def distN (n : Nat) (ps : List Lk) (t v : Nat) : Nat := (lev n (adj ps []) t (n - 1) v).getD n
def ownK (ps : List Lk) (k : Bk) : List Nat := (atL ps (k.1 : Int)).filter fun l => !decide (some l = k.2.1)
def farK (ps : List Lk) (k : Bk) (l : Nat) : Nat := farN (ps.getD l (0, 0)) k.1
def aheadN (n : Nat) (ps : List Lk) (t : Nat) (k : Bk) : List Lk := (ownK ps k).map fun l => (distN n ps t (farK ps k l), l)
def linksN (n : Nat) (ps : List Lk) (t : Nat) (k : Bk) : List Nat := ((aheadN n ps t k).mergeSort Lk.le).map (·.2) ++ k.2.1.toList
def rowN (n : Nat) (ps : List Lk) (t : Nat) (k : Bk) : List Tn := (linksN n ps t k).map fun l => (l, 0)
theorem ownK_mem {ps : List Lk} {k : Bk} {x : Nat} (h : x ∈ ownK ps k) : x ∈ atL ps (k.1 : Int) := (List.mem_filter.mp h).1
theorem linksN_mem {n : Nat} {ps : List Lk} {t : Nat} {k : Bk} (hk : ∀ c, k.2.1 = some c → c ∈ atL ps (k.1 : Int)) {x : Nat} (h : x ∈ linksN n ps t k) : x ∈ atL ps (k.1 : Int) := by
  rcases List.mem_append.mp h with z | z
  · obtain ⟨p, hp, rfl⟩ := List.mem_map.mp z
    rw [(List.mergeSort_perm _ _).mem_iff] at hp
    obtain ⟨l, hl, rfl⟩ := List.mem_map.mp hp
    exact ownK_mem hl
  · exact hk x (by simpa using z)
theorem linksN_perm (n : Nat) (ps : List Lk) (t : Nat) (k : Bk) : (linksN n ps t k).Perm (ownK ps k ++ k.2.1.toList) := by
  unfold linksN
  refine List.Perm.append_right _ (((List.mergeSort_perm _ _).map _).trans ?_)
  unfold aheadN
  rw [List.map_map]
  exact List.Perm.of_eq (List.map_id' _)
theorem linksN_nd (n : Nat) (ps : List Lk) (t : Nat) (k : Bk) : (linksN n ps t k).Nodup := by
  rw [(linksN_perm n ps t k).nodup_iff]
  refine List.nodup_append.mpr ⟨(atL_nd _ _).sublist List.filter_sublist, by cases k.2.1 <;> simp, fun a ha b hb e => ?_⟩
  have := (List.mem_filter.mp ha).2
  subst e
  have hb : k.2.1 = some a := by simpa using hb
  simp [hb] at this
theorem linksN_len {n : Nat} {ps : List Lk} {t : Nat} {k : Bk} (hk : ∀ c, k.2.1 = some c → c ∈ atL ps (k.1 : Int)) : (linksN n ps t k).length ≤ ps.length :=
  Nat.le_trans (List.Nodup.length_le_of_subset (linksN_nd n ps t k) fun x hx => linksN_mem hk hx) (atL_len _ _)
theorem ev_getKn {env : Env'} {m : Mem} {d : TD} {da : TAd} {n g v z : Nat} {ps : List Lk} {o : List Nat} {kn : List (Nat × Nat)} (hF : Far n ps o g kn) (hv : v < n) (h : Ev d env m (.f (.dct (asDct (knD kn))))) (ha : EvA da env m [.f (.int (v : Nat)), .f (.int (z : Nat))]) : Ev (dGetI d da) env m (.f (.int ((lev n (adj ps o) g (n - 1) v).getD z : Nat))) := fun Q q => h _ (by
  rw [iDct_f]
  refine ha _ ?_
  rw [iDct_f]
  have nd : ((knD kn).map (·.1)).Nodup := by
    have e : (knD kn).map (·.1) = (kn.map (·.1)).map fun k : Nat => (k : Int) := by unfold knD; rw [List.map_map, List.map_map]; rfl
    rw [e]
    exact List.Pairwise.map _ (fun a b hab e => hab (by omega)) hF.nd
  refine ⟨nd, ?_⟩
  rw [getI_kn, hF.get v hv]
  cases e : lev n (adj ps o) g (n - 1) v with
  | none => rw [e] at q; exact q
  | some d => rw [e] at q; exact q)
theorem lev_small {n : Nat} {A : Nat → List Nat} {g v : Nat} : (lev n A g (n - 1) v).getD n ≤ n := by
  cases e : lev n A g (n - 1) v with
  | none => exact Nat.le_refl _
  | some d => have := lev_le e; show d ≤ n; omega
theorem far_lt {n : Nat} {ps : List Lk} (h : NetOk n ps) {v l : Nat} (hl : l ∈ atL ps (v : Int)) : farN (ps.getD l (0, 0)) v < n := by
  have hlt := atL_lt hl
  have ho := h.ord (ps.getD l (0, 0)) (by rw [List.getD_eq_getElem?_getD, List.getElem?_eq_getElem hlt]; exact List.getElem_mem hlt)
  rcases farN_or (ps.getD l (0, 0)) v with e | e <;> omega
theorem ev_nfarC {env : Env'} {m : Mem} {d : TD} {da : TAd} {n v l : Nat} {ps : List Lk} (hl : l < ps.length) (h : Ev d env m (.f (netD n ps))) (ha : EvA da env m [.f (.int (l : Nat)), .f (.int (v : Nat))]) : Ev (dMeth 3 p_nfar EX0 d da) env m (.f (.int (farN (ps.getD l (0, 0)) v : Nat))) := by
  refine Ev.eq (ev_me h rfl ha rfl fun Q E q => ⟨rfl, ((n, ps), l, (v : Int)), rfl, hl, q⟩) ?_
  dsimp only
  rw [far_cast (getD_at hl)]
section
variable {D : En} {m : Mem} {n t : Nat} {ps : List Lk} {kn : List (Nat × Nat)}
theorem ne_app {k : Bk} {pre : List Bk} {x8 : Option Sl} {x10 x11 : Option Sl} (h8 : ps.length ≤ 8) (hl : pre.length < 1000) (hk : ∀ c, k.2.1 = some c → c ∈ atL ps (k.1 : Int))
    (hq : D.nx [some (.f (.cls 22)), some (.f (netD n ps)), some (.f (.int (t : Nat))), some (.f (.dct (asDct (knD kn)))), some (.own (.lst ((pre ++ [k]).map fun k => prD (k, rowN n ps t k)))), some (.f (.int (k.1 : Nat))), some (.f (cameD k.2.1)), some (.f (.int (k.2.2 : Nat))), x8, some (.f (.lst (natsD (linksN n ps t k)))), x10, x11] m) :
    (sApp (dVar 4) (dN oTup (dCons (dN oTup (dCons (dVar 5) (dCons (dVar 6) (dCons (dVar 7) dNil)))) (dCons (dN oTuple (dCons (dNew (nLc (.nm 10) dYes (dN oTup (dCons (dVar 10) (dCons (dC (.int 0)) dNil))) [10] (iVal (dVar 9)))) dNil)) dNil)))) D [some (.f (.cls 22)), some (.f (netD n ps)), some (.f (.int (t : Nat))), some (.f (.dct (asDct (knD kn)))), some (.own (.lst (pre.map fun k => prD (k, rowN n ps t k)))), some (.f (.int (k.1 : Nat))), some (.f (cameD k.2.1)), some (.f (.int (k.2.2 : Nat))), x8, some (.f (.lst (natsD (linksN n ps t k)))), x10, x11] m := by
  have hll := linksN_len (n := n) (t := t) hk
  have ec := evn_lc (env := [some (.f (.cls 22)), some (.f (netD n ps)), some (.f (.int (t : Nat))), some (.f (.dct (asDct (knD kn)))), some (.own (.lst (pre.map fun k => prD (k, rowN n ps t k)))), some (.f (.int (k.1 : Nat))), some (.f (cameD k.2.1)), some (.f (.int (k.2.2 : Nat))), x8, some (.f (.lst (natsD (linksN n ps t k)))), x10, x11]) (m := m) (tg := .nm 10) (de := dN oTup (dCons (dVar 10) (dCons (dC (.int 0)) dNil))) (vs := [10]) (di := iVal (dVar 9))
    (xs := linksN n ps t k) (g := fun l => .int (l : Nat)) (f := fun l => tnD (l, 0)) (evi_lst (ev_v rfl)) rfl (sz (by omega)) (fun l _ => ⟨_, rfl, ev_n (eva_cons (ev_v rfl) (eva_cons ev_c eva_nil)) (em_tup rfl (sz (Nat.le_of_ble_eq_true rfl)))⟩)
  have er : (linksN n ps t k).map (fun l => tnD (l, 0)) = (rowN n ps t k).map tnD := by unfold rowN; rw [List.map_map]; rfl
  rw [er] at ec
  refine st_app (z := prD (k, rowN n ps t k)) rfl (ev_n (eva_cons (ev_n (eva_cons (ev_v rfl) (eva_cons (ev_v rfl) (eva_cons (ev_v rfl) eva_nil))) (em_tup rfl (sz (Nat.le_of_ble_eq_true rfl)))) (eva_cons (ev_n (eva_cons (ev_new ec) eva_nil) em_tupL) eva_nil)) (em_tup rfl (sz (Nat.le_of_ble_eq_true rfl)))) (by rw [List.length_map]; exact Nat.lt_of_lt_of_le hl (sz (by decide))) ?_
  have e2 : (pre.map fun k => prD (k, rowN n ps t k)) ++ [prD (k, rowN n ps t k)] = (pre ++ [k]).map fun k => prD (k, rowN n ps t k) := by rw [List.map_append]; rfl
  rw [e2]
  exact hq
theorem okN_int60 (i : Int) : okN 60 (.int i) = true := okR1 _ _
theorem ne_loop (h : NetOk n ps) (hF : Far n ps [] t kn) : ∀ (r pre : List Bk) (x5 x6 x7 x8 x9 x10 x11 : Option Sl), (∀ k ∈ r, KeyOk n ps t 1 k) → pre.length + r.length ≤ 1000 →
    (∀ x5 x6 x7 x8 x9 x10 x11, D.nx [some (.f (.cls 22)), some (.f (netD n ps)), some (.f (.int (t : Nat))), some (.f (.dct (asDct (knD kn)))), some (.own (.lst ((pre ++ r).map fun k => prD (k, rowN n ps t k)))), x5, x6, x7, x8, x9, x10, x11] m) →
    forGo (.tp [5, 6, 7]) (sSeq (sAsg (.nm 8) (dNew (nLc (.nm 10) (dTst (dBin (oEq not) (dVar 10) (dVar 6))) (dN oTup (dCons (dGetI (dVar 3) (dCons (dMeth 3 p_nfar EX0 (dVar 1) (dCons (dVar 10) (dCons (dVar 5) dNil))) (dCons (dProp 3 p_nnodes (dVar 1)) dNil))) (dCons (dVar 10) dNil))) [10] (iVal (dMeth 3 p_nat EX0 (dVar 1) (dCons (dVar 5) dNil))))))
  (sSeq (sAsg (.nm 9) (dNew (nCat (dNew (nLc (.tp [11, 10]) dYes (dVar 10) [11, 10] (iVal (dNew (nSort (dVar 8)))))) (dIf (dTst (dBin (oIsN id) (dVar 6) (dC .non))) (dNew (nLst dNil)) (dNew (nLst (dCons (dVar 6) dNil)))))))
  (sApp (dVar 4) (dN oTup (dCons (dN oTup (dCons (dVar 5) (dCons (dVar 6) (dCons (dVar 7) dNil)))) (dCons (dN oTuple (dCons (dNew (nLc (.nm 10) dYes (dN oTup (dCons (dVar 10) (dCons (dC (.int 0)) dNil))) [10] (iVal (dVar 9)))) dNil)) dNil)))))) D (r.map keyD) [some (.f (.cls 22)), some (.f (netD n ps)), some (.f (.int (t : Nat))), some (.f (.dct (asDct (knD kn)))), some (.own (.lst (pre.map fun k => prD (k, rowN n ps t k)))), x5, x6, x7, x8, x9, x10, x11] m
  | [], pre, x5, x6, x7, x8, x9, x10, x11, _, _, hq => by
    rw [List.append_nil] at hq
    exact hq _ _ _ _ _ _ _
  | k :: r, pre, x5, x6, x7, x8, x9, x10, x11, hk, hl, hq => by
    have h8 := h.l8
    have n7 := h.n7
    have hko := hk k List.mem_cons_self
    have hal := atL_len ps k.1
    rw [List.length_cons] at hl
    rw [List.map_cons]
    unfold forGo
    show sSeq _ _ _ [some (.f (.cls 22)), some (.f (netD n ps)), some (.f (.int (t : Nat))), some (.f (.dct (asDct (knD kn)))), some (.own (.lst (pre.map fun k => prD (k, rowN n ps t k)))), some (.f (.int (k.1 : Nat))), some (.f (cameD k.2.1)), some (.f (.int (k.2.2 : Nat))), x8, x9, x10, x11] m
    have ea := evn_lcf (env := [some (.f (.cls 22)), some (.f (netD n ps)), some (.f (.int (t : Nat))), some (.f (.dct (asDct (knD kn)))), some (.own (.lst (pre.map fun k => prD (k, rowN n ps t k)))), some (.f (.int (k.1 : Nat))), some (.f (cameD k.2.1)), some (.f (.int (k.2.2 : Nat))), x8, x9, x10, x11]) (m := m) (tg := .nm 10) (dt := (dTst (dBin (oEq not) (dVar 10) (dVar 6)))) (de := (dN oTup (dCons (dGetI (dVar 3) (dCons (dMeth 3 p_nfar EX0 (dVar 1) (dCons (dVar 10) (dCons (dVar 5) dNil))) (dCons (dProp 3 p_nnodes (dVar 1)) dNil))) (dCons (dVar 10) dNil)))) (vs := [10]) (di := (iVal (dMeth 3 p_nat EX0 (dVar 1) (dCons (dVar 5) dNil))))
      (xs := atL ps (k.1 : Int)) (g := fun l => .int (l : Nat)) (f := fun l => lk (distN n ps t (farK ps k l), l)) (t := fun l => !decide (some l = k.2.1)) (evi_tup (ev_natB (v := k.1) h8 (ev_v rfl) (eva_cons (ev_v rfl) eva_nil))) rfl (sz (by omega))
      (fun l hl' => ⟨_, rfl, (evb_tst (ev_bin (ev_v rfl) (ev_v rfl) (e2_eq (f := not) (a := .int (l : Nat)) (c := cameD k.2.1) rfl (der_ok60 (okN_came 60 _)) (okN_int60 _) (okN_came _ _)))).eq (by
        rw [show Dat.int (l : Nat) = cameD (some l) from rfl, eqd_came]), fun _ => AU.aTup (eva_cons (ev_getKn (z := n) hF (far_lt h hl') (ev_v rfl) (eva_cons (ev_nfarC (n := n) (atL_lt hl') (ev_v rfl) (eva_cons (ev_v rfl) (eva_cons (ev_v rfl) eva_nil))) (eva_cons (ev_nnodes (n := n) (ps := ps) (ev_v rfl)) eva_nil))) (eva_cons (ev_v rfl) eva_nil)) rfl rfl⟩)
    have e1 : ((atL ps (k.1 : Int)).filter fun l => !decide (some l = k.2.1)).map (fun l => lk (distN n ps t (farK ps k l), l)) = (aheadN n ps t k).map lk := by unfold aheadN ownK; rw [List.map_map]; rfl
    rw [e1] at ea
    refine sq_set (ev_new ea) ?_
    show sSeq _ _ _ [some (.f (.cls 22)), some (.f (netD n ps)), some (.f (.int (t : Nat))), some (.f (.dct (asDct (knD kn)))), some (.own (.lst (pre.map fun k => prD (k, rowN n ps t k)))), some (.f (.int (k.1 : Nat))), some (.f (cameD k.2.1)), some (.f (.int (k.2.2 : Nat))), some (.f (.lst ((aheadN n ps t k).map lk))), x9, x10, x11] m
    have hsm : ∀ p ∈ aheadN n ps t k, p.1 ≤ 7 ∧ p.2 ≤ 8 := fun p hp => by
      obtain ⟨l, hl', rfl⟩ := List.mem_map.mp hp
      have h1 := atL_lt (ownK_mem hl')
      have h2 : distN n ps t (farK ps k l) ≤ n := lev_small
      exact ⟨by show distN n ps t (farK ps k l) ≤ 7; omega, by show l ≤ 8; omega⟩
    have hso : sortOk ((aheadN n ps t k).map lk) := by
      have e : (aheadN n ps t k).map lk = ((aheadN n ps t k).map fun p : Lk => ((p.1 : Int), (p.2 : Int))).map pr := by rw [List.map_map]; rfl
      rw [e]
      refine K02.sortOk_pairs fun q hq' => ?_
      obtain ⟨p, hp, rfl⟩ := List.mem_map.mp hq'
      obtain ⟨a1, a2⟩ := hsm p hp
      exact ⟨log2_lt (by omega) (by show ((p.1 : Int)).natAbs < _; exact Nat.lt_of_le_of_lt (by omega : _ ≤ 300) (Nat.lt_of_lt_of_le (by decide : 300 < 2 ^ 9) (Nat.pow_le_pow_right (by omega) (by omega)))), log2_lt (by omega) (by show ((p.2 : Int)).natAbs < _; exact Nat.lt_of_le_of_lt (by omega : _ ≤ 300) (Nat.lt_of_lt_of_le (by decide : 300 < 2 ^ 9) (Nat.pow_le_pow_right (by omega) (by omega))))⟩
    have hal2 : (aheadN n ps t k).length ≤ 8 := by
      unfold aheadN ownK
      rw [List.length_map]
      exact Nat.le_trans (List.length_filter_le _ _) (by omega)
    have el := evn_lc (env := [some (.f (.cls 22)), some (.f (netD n ps)), some (.f (.int (t : Nat))), some (.f (.dct (asDct (knD kn)))), some (.own (.lst (pre.map fun k => prD (k, rowN n ps t k)))), some (.f (.int (k.1 : Nat))), some (.f (cameD k.2.1)), some (.f (.int (k.2.2 : Nat))), some (.f (.lst ((aheadN n ps t k).map lk))), x9, x10, x11]) (m := m) (tg := .tp [11, 10]) (de := dVar 10) (vs := [11, 10]) (di := iVal (dNew (nSort (dVar 8))))
      (xs := (aheadN n ps t k).mergeSort Lk.le) (g := lk) (f := fun p => .int (p.2 : Nat)) (evi_lst (ev_new ((evn_sort (ev_v rfl) (xs := (aheadN n ps t k).map lk) rfl hso).eq (sortD_lk _)))) rfl (sz (by rw [List.length_mergeSort]; omega)) (fun p hp => ⟨_, rfl, ev_v rfl⟩)
    have e2 : ((aheadN n ps t k).mergeSort Lk.le).map (fun p => Dat.int (p.2 : Nat)) = natsD (((aheadN n ps t k).mergeSort Lk.le).map (·.2)) := by unfold natsD; rw [List.map_map]; rfl
    rw [e2] at el
    have eo : Ev (dIf (dTst (dBin (oIsN id) (dVar 6) (dC .non))) (dNew (nLst dNil)) (dNew (nLst (dCons (dVar 6) dNil)))) [some (.f (.cls 22)), some (.f (netD n ps)), some (.f (.int (t : Nat))), some (.f (.dct (asDct (knD kn)))), some (.own (.lst (pre.map fun k => prD (k, rowN n ps t k)))), some (.f (.int (k.1 : Nat))), some (.f (cameD k.2.1)), some (.f (.int (k.2.2 : Nat))), some (.f (.lst ((aheadN n ps t k).map lk))), x9, x10, x11] m (.f (.lst (natsD k.2.1.toList))) := by
      cases hc : k.2.1 with
      | none => exact (ev_if (w := .non) (b := true) (evb_tst (ev_bin (ev_v (a := .non) rfl) ev_c (e2_isn (f := id)))) (fun _ => by trivial) fun z => by cases z).eq rfl
      | some c => exact (ev_if (u := .non) (b := false) (evb_tst (ev_bin (ev_v (a := .int (c : Nat)) rfl) ev_c (e2_isn (f := id)))) (fun z => by cases z) fun _ => AU.aLst (eva_cons (ev_v (a := .int (c : Nat)) rfl) eva_nil) rfl rfl).eq rfl
    refine sq_set (ev_new ((evn_cat (ev_new el) eo rfl rfl (sz (by
      unfold natsD
      rw [List.length_map, List.length_map, List.length_map, List.length_mergeSort]
      have : k.2.1.toList.length ≤ 1 := by cases k.2.1 <;> simp
      omega))).eq (show _ = natsD (linksN n ps t k) by unfold natsD linksN; rw [List.map_append]))) ?_
    show sApp _ _ _ [some (.f (.cls 22)), some (.f (netD n ps)), some (.f (.int (t : Nat))), some (.f (.dct (asDct (knD kn)))), some (.own (.lst (pre.map fun k => prD (k, rowN n ps t k)))), some (.f (.int (k.1 : Nat))), some (.f (cameD k.2.1)), some (.f (.int (k.2.2 : Nat))), some (.f (.lst ((aheadN n ps t k).map lk))), some (.f (.lst (natsD (linksN n ps t k)))), x10, x11] m
    refine ne_app h8 (by omega) hko.came ?_
    exact ne_loop h hF r (pre ++ [k]) _ _ _ _ _ _ _ (fun q hq => hk q (List.mem_cons_of_mem _ hq)) (by rw [List.length_append, List.length_cons, List.length_nil]; omega) fun y5 y6 y7 y8 y9 y10 y11 => by
      rw [List.append_assoc]
      exact hq _ _ _ _ _ _ _
end
end DL.S

set_option maxHeartbeats 1000000
namespace DL.S
open PySem PySem.Spec PyProof.Rows L2 DL K02
inductive CalmD (ps : List Lk) (o : List Nat) : Nat → Nat → Prop
  | mk {v c} : (∀ l, l ∈ atL ps ((v : Nat) : Int) → l ∉ o → l ≠ c → CalmD ps o (farN (ps.getD l (0, 0)) v) l) → CalmD ps o v c
inductive Nd (ps : List Lk) (o : List Nat) : Nat → Nat → Nat → Prop
  | here {v c} : Nd ps o v c v
  | step {v c l x} : l ∈ atL ps ((v : Nat) : Int) → l ∉ o → l ≠ c → Nd ps o (farN (ps.getD l (0, 0)) v) l x → Nd ps o v c x
theorem far_far {n : Nat} {ps : List Lk} (h : NetOk n ps) {v l : Nat} (hl : l ∈ atL ps (v : Int)) : farN (ps.getD l (0, 0)) (farN (ps.getD l (0, 0)) v) = v ∧ l ∈ atL ps ((farN (ps.getD l (0, 0)) v : Nat) : Int) := by
  obtain ⟨p, hp, hv⟩ := mem_atL.mp hl
  have eg : ps.getD l (0, 0) = p := by rw [List.getD_eq_getElem?_getD, hp]; rfl
  have ho := h.ord p (List.mem_of_getElem? hp)
  rw [eg]
  constructor
  · unfold farN
    rcases hv with hv | hv
    · subst hv
      simp
    · subst hv
      have : ¬ p.2 = p.1 := by omega
      simp [this]
  · refine mem_atL.mpr ⟨p, hp, ?_⟩
    rcases farN_or p v with e | e
    · exact .inl e.symm
    · exact .inr e.symm
section
variable {n t : Nat} {ps : List Lk} {o : List Nat}
theorem turn_row {k : Bk} (hk : k ∈ keysL n ps t 1) : rowAt (turnR n ps t) k = rowT ps k := by
  unfold rowAt turnR
  rw [rowOf_mapS hk]
  rfl
theorem turn_step {k : Bk} (hk : k ∈ keysL n ps t 1) : stepS ps (turnR n ps t) o k = ((linksT ps k).find? fun l => !decide (l ∈ o)).map fun l => (farN (ps.getD l (0, 0)) k.1, some l, 0) := by
  unfold stepS
  rw [turn_row hk]
  unfold rowT
  rw [List.find?_map, Option.map_map]
  rfl
abbrev opV (ps : List Lk) (o : List Nat) (v : Nat) : List Nat := (atL ps (v : Int)).filter fun l => !decide (l ∈ o)
theorem opV_mem {v l : Nat} : l ∈ opV ps o v ↔ l ∈ atL ps (v : Int) ∧ l ∉ o := by
  unfold opV
  rw [List.mem_filter]
  simp
abbrev nxT (n : Nat) (ps : List Lk) (t : Nat) (o : List Nat) : Bk → Option Bk := stepS ps (turnR n ps t) o
theorem key_some {v z : Nat} (hv : v < n) (ht : v ≠ t) (hz : z ∈ atL ps (v : Int)) : ((v, some z, 0) : Bk) ∈ keysL n ps t 1 := mem_keysL ⟨hv, ht, by show 0 < 1; omega, fun c e => by cases e; exact hz, fun e => by cases e⟩
theorem key_none {v : Nat} (hv : v < n) (ht : v ≠ t) : ((v, none, 0) : Bk) ∈ keysL n ps t 1 := mem_keysL ⟨hv, ht, by show 0 < 1; omega, fun c e => (nomatch e), fun _ => rfl⟩
theorem round_lst {v c : Nat} {A B Z : List Nat} (hv : v < n) (ht : v ≠ t) (hF : opV ps o v = A ++ B) (hG : B ++ A = c :: Z)
    (h1 : ∀ q ∈ Z, Nd ps o (farN (ps.getD q (0, 0)) v) q t → HomeW (nxT n ps t o) t (farN (ps.getD q (0, 0)) v, some q, 0))
    (h2 : ∀ q ∈ Z, HomeW (nxT n ps t o) t (v, some q, 0) → HomeW (nxT n ps t o) t (farN (ps.getD q (0, 0)) v, some q, 0)) : ∀ (Q P : List Nat) (z : Nat), c :: Z = P ++ z :: Q →
    (HomeW (nxT n ps t o) t (farN (ps.getD c (0, 0)) v, some c, 0) → HomeW (nxT n ps t o) t (v, some z, 0)) ∧ ∀ q ∈ Q, Nd ps o (farN (ps.getD q (0, 0)) v) q t → HomeW (nxT n ps t o) t (v, some z, 0)
  | [], P, z, e => by
    have hz : z ∈ opV ps o v := by
      have : z ∈ B ++ A := by rw [hG, e]; simp
      rw [hF]
      exact (List.perm_append_comm.mem_iff).mp this
    have hza := (opV_mem.mp hz).1
    have hs : nxT n ps t o (v, some z, 0) = some (farN (ps.getD c (0, 0)) v, some c, 0) := by
      show stepS ps (turnR n ps t) o (v, some z, 0) = _
      rw [turn_step (key_some hv ht hza)]
      show ((rotL (atL ps (v : Int)) z).find? _).map _ = _
      rw [rot_round (p := fun l => !decide (l ∈ o)) (A := A) (B := B) (P1 := P) (P2 := []) (atL_nd _ _) hF (hG.trans e), List.nil_append, ← e]
      rfl
    exact ⟨fun h => .step ht hs h, fun q hq => by cases hq⟩
  | q :: Q, P, z, e => by
    have hz : z ∈ opV ps o v := by
      have : z ∈ B ++ A := by rw [hG, e]; simp
      rw [hF]
      exact (List.perm_append_comm.mem_iff).mp this
    have hza := (opV_mem.mp hz).1
    have hs : nxT n ps t o (v, some z, 0) = some (farN (ps.getD q (0, 0)) v, some q, 0) := by
      show stepS ps (turnR n ps t) o (v, some z, 0) = _
      rw [turn_step (key_some hv ht hza)]
      show ((rotL (atL ps (v : Int)) z).find? _).map _ = _
      rw [rot_round (p := fun l => !decide (l ∈ o)) (A := A) (B := B) (P1 := P) (P2 := q :: Q) (atL_nd _ _) hF (hG.trans e)]
      rfl
    have hqZ : q ∈ Z := by
      cases P with
      | nil => exact (List.cons.inj e).2 ▸ List.mem_cons_self
      | cons a P => exact (List.cons.inj e).2 ▸ (by simp)
    obtain ⟨i1, i2⟩ := round_lst hv ht hF hG h1 h2 Q (P ++ [z]) q (by rw [e, List.append_assoc]; rfl)
    refine ⟨fun h => .step ht hs (h2 q hqZ (i1 h)), fun q' hq' hn => ?_⟩
    rcases List.mem_cons.mp hq' with rfl | hq'
    · exact .step ht hs (h1 _ hqZ hn)
    · exact .step ht hs (h2 q hqZ (i2 q' hq' hn))
theorem vis (hN : NetOk n ps) {v c : Nat} (hc : CalmD ps o v c) : v < n → c ∈ atL ps (v : Int) → c ∉ o → (Nd ps o v c t → HomeW (nxT n ps t o) t (v, some c, 0)) ∧ (HomeW (nxT n ps t o) t (farN (ps.getD c (0, 0)) v, some c, 0) → HomeW (nxT n ps t o) t (v, some c, 0)) := by
  induction hc with
  | @mk v c hb ih =>
    intro hv hca hco
    by_cases ht : v = t
    · exact ⟨fun _ => .here ht, fun _ => .here ht⟩
    · obtain ⟨A, B, e⟩ := List.append_of_mem (opV_mem.mpr ⟨hca, hco⟩ : c ∈ opV ps o v)
      have nd : (opV ps o v).Nodup := (atL_nd ps (v : Int)).filter _
      have hq : ∀ q ∈ B ++ A, q ∈ atL ps (v : Int) ∧ q ∉ o ∧ q ≠ c := fun q hq => by
        have hm : q ∈ opV ps o v := by
          rw [e]
          rcases List.mem_append.mp hq with z | z
          · exact List.mem_append_right _ (List.mem_cons_of_mem _ z)
          · exact List.mem_append_left _ z
        refine ⟨(opV_mem.mp hm).1, (opV_mem.mp hm).2, fun z => ?_⟩
        subst z
        rw [e, List.nodup_append] at nd
        rcases List.mem_append.mp hq with z | z
        · exact (List.nodup_cons.mp nd.2.1).1 z
        · exact nd.2.2 q z q List.mem_cons_self rfl
      have hsub : ∀ q ∈ B ++ A, (Nd ps o (farN (ps.getD q (0, 0)) v) q t → HomeW (nxT n ps t o) t (farN (ps.getD q (0, 0)) v, some q, 0)) ∧ (HomeW (nxT n ps t o) t (v, some q, 0) → HomeW (nxT n ps t o) t (farN (ps.getD q (0, 0)) v, some q, 0)) := fun q hq' => by
        obtain ⟨a1, a2, a3⟩ := hq q hq'
        obtain ⟨f1, f2⟩ := far_far hN a1
        have := ih q a1 a2 a3 (far_lt hN a1) f2 a2
        rw [f1] at this
        exact this
      obtain ⟨r1, r2⟩ := round_lst (n := n) (t := t) (v := v) (c := c) (A := A) (B := c :: B) (Z := B ++ A) hv ht e rfl (fun q h => (hsub q h).1) (fun q h => (hsub q h).2) (B ++ A) [] c rfl
      refine ⟨fun hn => ?_, r1⟩
      cases hn with
      | here => exact absurd rfl ht
      | @step _ _ l _ b1 b2 b3 b4 =>
        have hm : l ∈ opV ps o v := opV_mem.mpr ⟨b1, b2⟩
        rw [e] at hm
        refine r2 l ?_ b4
        rcases List.mem_append.mp hm with z | z
        · exact List.mem_append_right _ z
        · rcases List.mem_cons.mp z with z | z
          · exact absurd z b3
          · exact List.mem_append_left _ z
theorem vis_start (hN : NetOk n ps) {s : Nat} (hs : s < n) (hc : ∀ l, l ∈ atL ps (s : Int) → l ∉ o → CalmD ps o (farN (ps.getD l (0, 0)) s) l) {l : Nat} (hl : l ∈ atL ps (s : Int)) (hlo : l ∉ o) (hn : Nd ps o (farN (ps.getD l (0, 0)) s) l t) : HomeW (nxT n ps t o) t (s, none, 0) := by
  by_cases ht : s = t
  · exact .here ht
  · have hm : l ∈ opV ps o s := opV_mem.mpr ⟨hl, hlo⟩
    cases hF : opV ps o s with
    | nil => rw [hF] at hm; cases hm
    | cons q Q =>
      have hsub : ∀ q ∈ opV ps o s, (Nd ps o (farN (ps.getD q (0, 0)) s) q t → HomeW (nxT n ps t o) t (farN (ps.getD q (0, 0)) s, some q, 0)) ∧ (HomeW (nxT n ps t o) t (s, some q, 0) → HomeW (nxT n ps t o) t (farN (ps.getD q (0, 0)) s, some q, 0)) := fun q hq' => by
        obtain ⟨a1, a2⟩ := opV_mem.mp hq'
        obtain ⟨f1, f2⟩ := far_far hN a1
        have := vis (t := t) hN (hc q a1 a2) (far_lt hN a1) f2 a2
        rw [f1] at this
        exact this
      rw [hF] at hsub hm
      have hst : nxT n ps t o (s, none, 0) = some (farN (ps.getD q (0, 0)) s, some q, 0) := by
        show stepS ps (turnR n ps t) o (s, none, 0) = _
        rw [turn_step (key_none hs ht)]
        show ((atL ps (s : Int)).find? _).map _ = _
        rw [find_head]
        show (opV ps o s).head?.map _ = _
        rw [hF]
        rfl
      obtain ⟨_, r2⟩ := round_lst (n := n) (t := t) (v := s) (c := q) (A := []) (B := q :: Q) (Z := Q) hs ht hF (by simp) (fun z h => (hsub z (List.mem_cons_of_mem _ h)).1) (fun z h => (hsub z (List.mem_cons_of_mem _ h)).2) Q [] q rfl
      refine .step ht hst ?_
      rcases List.mem_cons.mp hm with rfl | hm
      · exact (hsub _ List.mem_cons_self).1 hn
      · exact (hsub q List.mem_cons_self).2 (r2 l hm hn)
end
end DL.S

set_option maxHeartbeats 1000000
namespace DL.S
open PySem PySem.Spec PyProof.Rows L2 DL K02
set_option hygiene false
local macro_rules | `(tactic| trivial) => `(tactic| with_reducible exact eva_nil)
local macro_rules | `(tactic| trivial) => `(tactic| ((with_reducible apply ev_bin) <;> trivial))
local macro_rules | `(tactic| trivial) => `(tactic| ((with_reducible apply ev_if) <;> trivial))
local macro_rules | `(tactic| trivial) => `(tactic| ((with_reducible apply AU.aTup) <;> first | rfl | trivial))
local macro_rules | `(tactic| trivial) => `(tactic| ((with_reducible apply AU.aLst) <;> first | rfl | trivial))
local macro_rules | `(tactic| trivial) => `(tactic| ((with_reducible apply AU.aLstN) <;> first | rfl | trivial))
local macro_rules | `(tactic| trivial) => `(tactic| ((with_reducible apply AU.aLen) <;> first | rfl | trivial))
local macro_rules | `(tactic| trivial) => `(tactic| ((with_reducible apply AU.aTupL) <;> first | rfl | trivial))
local macro_rules | `(tactic| trivial) => `(tactic| ((with_reducible apply eva_cons) <;> trivial))
local macro_rules | `(tactic| trivial) => `(tactic| with_reducible exact ev_c)
local macro_rules | `(tactic| trivial) => `(tactic| ((with_reducible apply AU.ao) <;> rfl))
local macro_rules | `(tactic| trivial) => `(tactic| ((with_reducible apply AU.av) <;> rfl))
local macro_rules | `(tactic| trivial) => `(tactic| with_reducible exact e2_add)
local macro_rules | `(tactic| trivial) => `(tactic| with_reducible exact e2_i0)
local macro_rules | `(tactic| trivial) => `(tactic| with_reducible exact e2_isn)
local macro_rules | `(tactic| trivial) => `(tactic| ((with_reducible apply e2_ix) <;> rfl))
local macro_rules | `(tactic| trivial) => `(tactic| ((with_reducible apply AU.aEq) <;> first | rfl | trivial))
local macro_rules | `(tactic| trivial) => `(tactic| ((with_reducible apply AU.aSame) <;> first | trivial | rfl))
local macro_rules | `(tactic| trivial) => `(tactic| ((with_reducible apply evb_tst) <;> trivial))
local macro_rules | `(tactic| trivial) => `(tactic| ((with_reducible apply evb_not) <;> trivial))
local macro_rules | `(tactic| trivial) => `(tactic| with_reducible exact AU.gNil)
local macro_rules | `(tactic| trivial) => `(tactic| ((with_reducible apply AU.gCons) <;> trivial))
local macro_rules | `(tactic| trivial) => `(tactic| ((with_reducible apply AU.gLst) <;> first | rfl | trivial))
local macro_rules | `(tactic| trivial) => `(tactic| ((with_reducible apply AU.gTup) <;> first | rfl | trivial))
local macro_rules | `(tactic| trivial) => `(tactic| with_reducible assumption)

section
variable {D : En} {m : Mem} {g : BG} {w : List Bk} {z : Str} {s : Bk} {i : Nat}
end
def sortN (ls : List Nat) : List Nat := ls.mergeSort fun a b => decide (a ≤ b)
theorem fate_ok {g : BG} (h : BkOk g) (c : Cs) : PyData.strOk (tripOf g c.1 c.2).2 = true := by
  obtain ⟨_, _, _, _, _, hl⟩ := (h.ends c.1 c.2).last
  rcases hl with ⟨e, _⟩ | ⟨e, _⟩ | ⟨e, _⟩ <;> rw [e] <;> decide +kernel
end DL.S

set_option maxHeartbeats 1000000
namespace DL.S
open PySem PySem.Spec PyProof.Rows L2 DL K02
section
variable {env : Env'} {m : Mem} {da : TAd} {l k : Nat} {nb : Int}
end
end DL.S

set_option maxHeartbeats 1000000
namespace DL.S
open PySem PySem.Spec PyProof.Rows L2 DL K02
section
variable {l : Nat} {os qs : List (List Nat)} {P : OP}
end
end DL.S
namespace DL.S
open PySem PySem.Spec PyProof.Rows L2 DL K02
end DL.S
namespace DL.S
open PySem PySem.Spec PyProof.Rows L2 DL K02
end DL.S
namespace DL.S
open PySem PySem.Spec PyProof.Rows L2 DL K02
end DL.S
namespace DL.S
open PySem PySem.Spec PyProof.Rows L2 DL K02
end DL.S

set_option maxHeartbeats 1000000
namespace DL.S
open PySem PySem.Spec PyProof.Rows L2 DL K02
end DL.S
namespace DL.S
open PySem PySem.Spec PyProof.Rows L2 DL K02
end DL.S
namespace DL.S
open PySem PySem.Spec PyProof.Rows L2 DL K02
end DL.S

set_option maxHeartbeats 1000000
namespace DL.S
open PySem PySem.Spec PyProof.Rows L2 DL K02
def sm (g : Nat → Nat) : Nat → Nat
  | 0 => 0
  | n + 1 => sm g n + g n
end DL.S

set_option maxHeartbeats 1000000
namespace DL.S
open PySem PySem.Spec PyProof.Rows L2 DL K02
end DL.S

set_option maxHeartbeats 1000000
namespace DL.S
open PySem PySem.Spec PyProof.Rows L2 DL K02
end DL.S

set_option maxHeartbeats 1000000
namespace DL.S
open PySem PySem.Spec PyProof.Rows L2 DL K02
def delO (j : Nat) (o : List Nat) : List Nat := o.filter fun x => !decide (x = j)
def insO (j : Nat) (o : List Nat) : List Nat := (List.range 8).filter fun x => decide (x ∈ o) || decide (x = j)
theorem outOk_ext {l : Nat} {o q : List Nat} (ho : OutOk l o) (hq : OutOk l q) (h : ∀ x, x ∈ o ↔ x ∈ q) : o = q :=
  List.Perm.eq_of_pairwise (fun a b _ _ h1 h2 => absurd h1 (Nat.lt_asymm h2)) ho.1 hq.1 ((List.perm_ext_iff_of_nodup (ho.1.imp fun h => Nat.ne_of_lt h) (hq.1.imp fun h => Nat.ne_of_lt h)).mpr h)
theorem mem_del {j x : Nat} {o : List Nat} : x ∈ delO j o ↔ x ∈ o ∧ x ≠ j := by
  unfold delO
  rw [List.mem_filter, Bool.not_eq_true', decide_eq_false_iff_not]
theorem mem_ins {l j x : Nat} {o : List Nat} (h8 : l ≤ 8) (ho : OutOk l o) (hj : j < l) : x ∈ insO j o ↔ x ∈ o ∨ x = j := by
  unfold insO
  rw [List.mem_filter, List.mem_range, Bool.or_eq_true, decide_eq_true_eq, decide_eq_true_eq]
  refine ⟨fun h => h.2, fun h => ⟨?_, h⟩⟩
  rcases h with h | h
  · have := ho.2 x h; omega
  · omega
theorem del_ok {l j : Nat} {o : List Nat} (ho : OutOk l o) : OutOk l (delO j o) := ⟨ho.1.filter _, fun x hx => ho.2 x (mem_del.mp hx).1⟩
theorem ins_ok {l j : Nat} {o : List Nat} (h8 : l ≤ 8) (ho : OutOk l o) (hj : j < l) : OutOk l (insO j o) := ⟨List.pairwise_lt_range.filter _, fun x hx => by
  rcases (mem_ins h8 ho hj).mp hx with h | h
  · exact ho.2 x h
  · omega⟩
theorem del_same {l j : Nat} {o : List Nat} (ho : OutOk l o) (hn : j ∉ o) : delO j o = o := by
  refine outOk_ext (del_ok ho) ho fun x => ?_
  rw [mem_del]
  exact ⟨fun h => h.1, fun h => ⟨h, fun e => hn (e ▸ h)⟩⟩
def clr (n j : Nat) : Nat := n - 2 ^ j * (n / 2 ^ j % 2)
def put (n j : Nat) : Nat := n + 2 ^ j * (1 - n / 2 ^ j % 2)
theorem bits_lt : ((List.range 9).all fun l => (List.range l).all fun j => (List.range (2 ^ l)).all fun n => decide (clr n j < 2 ^ l) && decide (put n j < 2 ^ l) && decide (2 ^ j * (n / 2 ^ j % 2) ≤ n)) = true := by decide +kernel
theorem lt_of {l n j : Nat} (h8 : l ≤ 8) (hj : j < l) (hn : n < 2 ^ l) : clr n j < 2 ^ l ∧ put n j < 2 ^ l ∧ 2 ^ j * (n / 2 ^ j % 2) ≤ n := by
  have := List.all_eq_true.mp (List.all_eq_true.mp (List.all_eq_true.mp bits_lt l (List.mem_range.mpr (by omega))) j (List.mem_range.mpr hj)) n (List.mem_range.mpr hn)
  rw [Bool.and_eq_true, Bool.and_eq_true, decide_eq_true_eq, decide_eq_true_eq, decide_eq_true_eq] at this
  exact ⟨this.1.1, this.1.2, this.2⟩
end DL.S

set_option maxHeartbeats 1000000
namespace DL.S
open PySem PySem.Spec PyProof.Rows L2 DL K02
end DL.S

set_option maxHeartbeats 1000000
namespace DL.S
open PySem PySem.Spec PyProof.Rows L2 DL K02
end DL.S
namespace DL.S
open PySem PySem.Spec PyProof.Rows L2 DL K02
end DL.S
namespace DL.S
open PySem PySem.Spec PyProof.Rows L2 DL K02
end DL.S

set_option maxHeartbeats 1000000
namespace DL.S
open PySem PySem.Spec PyProof.Rows L2 DL K02
section
variable {a b : Nat}
end
end DL.S

set_option maxHeartbeats 1000000
namespace DL.S
open PySem PySem.Spec PyProof.Rows L2 DL K02
end DL.S

set_option maxHeartbeats 1000000
namespace DL.S
open PySem PySem.Spec PyProof.Rows L2 DL K02
theorem opA_mem {ps : List Lk} {o : List Nat} {l : Nat} {p : Lk} (h : ps[l]? = some p) (ho : l ∉ o) : p ∈ opA ps o := by
  unfold opA opL
  refine List.mem_map.mpr ⟨(p, l), List.mem_filter.mpr ⟨?_, by simp [ho]⟩, rfl⟩
  rw [List.take_of_length_le (by rw [List.length_zipIdx]; exact Nat.le_refl _)]
  rw [List.mem_zipIdx_iff_getElem?]
  exact h
theorem far_join {ps : List Lk} {o : List Nat} {v l : Nat} (hl : l ∈ atL ps (v : Int)) (ho : l ∉ o) : labO ps o (farN (ps.getD l (0, 0)) v) = labO ps o v := by
  obtain ⟨p, hp, hv⟩ := mem_atL.mp hl
  have e := lab_edge (f := id) (opA_mem hp ho)
  have eg : ps.getD l (0, 0) = p := by rw [List.getD_eq_getElem?_getD, hp]; rfl
  rw [eg]
  have e : labO ps o p.1 = labO ps o p.2 := e
  unfold farN
  rcases hv with hv | hv
  · subst hv
    split
    · exact e.symm
    · rfl
  · subst hv
    split
    · rename_i h; rw [h]
    · exact e
theorem home_lab {g : BG} (h : BkOk g) {o : List Nat} {q : Bk} (hh : HomeW (stepS g.1.1.2 g.2 o) g.1.2.1 q) : labO g.1.1.2 o q.1 = labO g.1.1.2 o g.1.2.1 := by
  induction hh with
  | here e => rw [e]
  | @step q s ht e _ ih =>
    rw [← ih]
    obtain ⟨u, hu, _, ho, es⟩ := step_turn e
    subst es
    exact (far_join ((rowAt_ok h.2.1 _).at_ u hu).1 ho).symm
end DL.S

set_option maxHeartbeats 1000000
namespace DL.S
open PySem PySem.Spec PyProof.Rows L2 DL K02
section
variable {n t : Nat} {ps : List Lk} {o : List Nat}
theorem opA_idx {p : Lk} (h : p ∈ opA ps o) : ∃ l, ps[l]? = some p ∧ l ∉ o := by
  unfold opA opL at h
  obtain ⟨q, hq, rfl⟩ := List.mem_map.mp h
  obtain ⟨h1, h2⟩ := List.mem_filter.mp hq
  have h1 := List.mem_of_mem_take h1
  obtain ⟨p, l⟩ := q
  exact ⟨l, List.mem_zipIdx_iff_getElem?.mp h1, by simpa using h2⟩
theorem nd_next (hN : NetOk n ps) {v c x : Nat} (h : Nd ps o v c x) : ∀ e, e ∈ atL ps (x : Int) → e ∉ o → Nd ps o v c (farN (ps.getD e (0, 0)) x) ∨ (e = c ∧ x = v) := by
  induction h with
  | @here v c =>
    intro e he ho
    by_cases hc : e = c
    · exact .inr ⟨hc, rfl⟩
    · exact .inl (.step he ho hc .here)
  | @step v c l x h1 h2 h3 h4 ih =>
    intro e he ho
    rcases ih e he ho with z | ⟨rfl, rfl⟩
    · exact .inl (.step h1 h2 h3 z)
    · rw [(far_far hN h1).1]
      exact .inl .here
theorem reach (hN : NetOk n ps) {s : Nat} (h : labO ps o s = labO ps o t) : s = t ∨ ∃ l, l ∈ atL ps (s : Int) ∧ l ∉ o ∧ Nd ps o (farN (ps.getD l (0, 0)) s) l t := by
  let S : Nat → Prop := fun x => s = x ∨ ∃ l, l ∈ atL ps (s : Int) ∧ l ∉ o ∧ Nd ps o (farN (ps.getD l (0, 0)) s) l x
  have st : ∀ x e, S x → e ∈ atL ps (x : Int) → e ∉ o → S (farN (ps.getD e (0, 0)) x) := fun x e hx he ho => by
    rcases hx with rfl | ⟨l, h1, h2, h3⟩
    · exact .inr ⟨e, he, ho, .here⟩
    · rcases nd_next hN h3 e he ho with z | ⟨rfl, rfl⟩
      · exact .inr ⟨l, h1, h2, z⟩
      · exact .inl (far_far hN h1).1.symm
  have hS : ∀ p ∈ opA ps o, S p.1 ↔ S p.2 := fun p hp => by
    obtain ⟨l, hl, ho⟩ := opA_idx hp
    have eg : ps.getD l (0, 0) = p := by rw [List.getD_eq_getElem?_getD, hl]; rfl
    have hord := hN.ord p (List.mem_of_getElem? hl)
    have f1 : farN p p.1 = p.2 := by unfold farN; rw [if_pos rfl]
    have f2 : farN p p.2 = p.1 := by unfold farN; rw [if_neg (by omega)]
    constructor
    · intro h1
      have := st p.1 l h1 (mem_atL.mpr ⟨p, hl, .inl rfl⟩) ho
      rw [eg, f1] at this
      exact this
    · intro h1
      have := st p.2 l h1 (mem_atL.mpr ⟨p, hl, .inr rfl⟩) ho
      rw [eg, f2] at this
      exact this
  exact (lab_closed hS h).mp (.inl rfl)
theorem lab_mono {o' : List Nat} (hs : ∀ l, l ∉ o → l ∉ o') {u v : Nat} (h : labO ps o u = labO ps o v) : labO ps o' u = labO ps o' v := by
  have := (lab_closed (S := fun y => labO ps o' u = labO ps o' y) (es := opA ps o) (fun p hp => by
    obtain ⟨l, hl, ho⟩ := opA_idx hp
    have e : labO ps o' p.1 = labO ps o' p.2 := lab_edge (f := id) (opA_mem hl (hs l ho))
    show labO ps o' u = labO ps o' p.1 ↔ labO ps o' u = labO ps o' p.2
    rw [e]) h).mp rfl
  exact this
def Bridges (ps : List Lk) (o : List Nat) : Prop := ∀ v l, l ∈ atL ps ((v : Nat) : Int) → l ∉ o → labO ps (l :: o) (farN (ps.getD l (0, 0)) v) ≠ labO ps (l :: o) v
theorem shrink (hN : NetOk n ps) (hB : Bridges ps o) {v c l x : Nat} (hc : c ∈ atL ps (v : Int)) (hco : c ∉ o) (hl : l ∈ atL ps (v : Int)) (hlo : l ∉ o) (hne : l ≠ c) (hx : labO ps (l :: o) x = labO ps (l :: o) (farN (ps.getD l (0, 0)) v)) : labO ps (c :: o) x = labO ps (c :: o) v := by
  have hbl := hB v l hl hlo
  have hcl : c ∉ l :: o := by simp [hco, Ne.symm hne]
  have hlc : l ∉ c :: o := by simp [hlo, hne]
  have hfj : labO ps (l :: o) (farN (ps.getD c (0, 0)) v) = labO ps (l :: o) v := far_join hc hcl
  have sub : ∀ z, z ∉ c :: l :: o → z ∉ l :: o := fun z h => fun q => h (List.mem_cons_of_mem _ q)
  have key : labO ps (c :: l :: o) (farN (ps.getD l (0, 0)) v) = labO ps (c :: l :: o) x := by
    have := (lab_closed (S := fun y => labO ps (c :: l :: o) (farN (ps.getD l (0, 0)) v) = labO ps (c :: l :: o) y) (es := opA ps (l :: o)) (fun p hp => by
      obtain ⟨j, hj, hjo⟩ := opA_idx hp
      by_cases hjc : j = c
      · subst hjc
        have nv : ¬ labO ps (j :: l :: o) (farN (ps.getD l (0, 0)) v) = labO ps (j :: l :: o) v := fun z => hbl (lab_mono sub z)
        have nu : ¬ labO ps (j :: l :: o) (farN (ps.getD l (0, 0)) v) = labO ps (j :: l :: o) (farN (ps.getD j (0, 0)) v) := fun z => hbl ((lab_mono sub z).trans hfj)
        have eg : ps.getD j (0, 0) = p := by rw [List.getD_eq_getElem?_getD, hj]; rfl
        obtain ⟨p', hp', hv⟩ := mem_atL.mp hc
        rw [hj] at hp'
        cases hp'
        have hord := hN.ord p (List.mem_of_getElem? hj)
        rw [eg] at nu
        rcases hv with hv | hv
        · subst hv
          have f1 : farN p p.1 = p.2 := by unfold farN; rw [if_pos rfl]
          rw [f1] at nu
          exact ⟨fun z => absurd z nv, fun z => absurd z nu⟩
        · subst hv
          have f2 : farN p p.2 = p.1 := by unfold farN; rw [if_neg (by omega)]
          rw [f2] at nu
          exact ⟨fun z => absurd z nu, fun z => absurd z nv⟩
      · have e : labO ps (c :: l :: o) p.1 = labO ps (c :: l :: o) p.2 := lab_edge (f := id) (opA_mem hj (by simp [hjc]; simpa using hjo))
        show _ = labO ps (c :: l :: o) p.1 ↔ _ = labO ps (c :: l :: o) p.2
        rw [e]) hx.symm).mp rfl
    exact this
  have e1 : labO ps (c :: o) (farN (ps.getD l (0, 0)) v) = labO ps (c :: o) x := lab_mono (fun z h q => h (by
    rcases List.mem_cons.mp q with rfl | q
    · exact List.mem_cons_self
    · exact List.mem_cons_of_mem _ (List.mem_cons_of_mem _ q))) key
  rw [← e1]
  exact far_join hl hlc
def brN (n : Nat) (ps : List Lk) (o : List Nat) (v c : Nat) : Nat := ((List.range n).filter fun x => decide (labO ps (c :: o) x = labO ps (c :: o) v)).length
theorem filter_lt {p q : Nat → Bool} : ∀ {l : List Nat}, (∀ x ∈ l, p x = true → q x = true) → (∃ x ∈ l, q x = true ∧ p x = false) → (l.filter p).length < (l.filter q).length
  | [], _, ⟨x, hx, _⟩ => by cases hx
  | a :: l, h, ⟨x, hx, hq, hp⟩ => by
    have hle : ∀ {l : List Nat}, (∀ x ∈ l, p x = true → q x = true) → (l.filter p).length ≤ (l.filter q).length := fun {l} h => by
      induction l with
      | nil => simp
      | cons b l ih =>
        have := ih fun x hx => h x (List.mem_cons_of_mem _ hx)
        have hb := h b List.mem_cons_self
        rw [List.filter_cons, List.filter_cons]
        cases hpb : p b <;> cases hqb : q b <;> simp_all <;> omega
    rcases List.mem_cons.mp hx with rfl | hx
    · rw [List.filter_cons, List.filter_cons, hp, hq]
      have := hle fun y hy => h y (List.mem_cons_of_mem _ hy)
      simp
      omega
    · have ih := filter_lt (l := l) (fun y hy => h y (List.mem_cons_of_mem _ hy)) ⟨x, hx, hq, hp⟩
      have ha := h a List.mem_cons_self
      rw [List.filter_cons, List.filter_cons]
      cases hpa : p a <;> cases hqa : q a <;> simp_all <;> omega
theorem calm_of (hN : NetOk n ps) (hB : Bridges ps o) : ∀ (k v c : Nat), v < n → c ∈ atL ps (v : Int) → c ∉ o → brN n ps o v c < k → CalmD ps o v c
  | 0, _, _, _, _, _, h => by omega
  | k + 1, v, c, hv, hc, hco, hk => .mk fun l hl hlo hne => by
    refine calm_of hN hB k _ l (far_lt hN hl) (far_far hN hl).2 hlo ?_
    have : brN n ps o (farN (ps.getD l (0, 0)) v) l < brN n ps o v c := by
      unfold brN
      refine filter_lt (fun x _ hx => decide_eq_true (shrink hN hB hc hco hl hlo hne (of_decide_eq_true hx))) ⟨v, List.mem_range.mpr hv, decide_eq_true rfl, decide_eq_false fun z => hB v l hl hlo z.symm⟩
    omega
theorem turn_home (hN : NetOk n ps) (hB : Bridges ps o) {s : Nat} (hs : s < n) (h : labO ps o s = labO ps o t) : HomeW (nxT n ps t o) t (s, none, 0) := by
  rcases reach hN h with rfl | ⟨l, h1, h2, h3⟩
  · exact .here rfl
  · exact vis_start hN hs (fun l hl hlo => calm_of hN hB _ _ l (far_lt hN hl) (far_far hN hl).2 hlo (Nat.lt_succ_self _)) h1 h2 h3
end
end DL.S

set_option maxHeartbeats 1000000
namespace DL.S
open PySem PySem.Spec PyProof.Rows L2 DL K02
section
variable {n t : Nat} {ps : List Lk} {o : List Nat}
theorem opL_mem {o o' : List Nat} {k : Nat} (h : ∀ i, i < k → (i ∈ o ↔ i ∈ o')) : opL ps o k = opL ps o' k := by
  unfold opL
  congr 1
  refine List.filter_congr fun q hq => ?_
  obtain ⟨i, hi, e⟩ := List.getElem_of_mem hq
  have hlt : i < k := by
    have := hi
    rw [List.length_take] at this
    omega
  have e2 : q.2 = i := by
    rw [List.getElem_take] at e
    rw [← e]
    simp
  rw [e2, decide_eq_decide.mpr (h i hlt)]
theorem calm_mem {o o' : List Nat} {k : Nat} (h : ∀ i, i < k → (i ∈ o ↔ i ∈ o')) : calmB ps o k = calmB ps o' k := by
  have e : ∀ j, j < k → (decide (j ∈ o) || !decide (lab (opL ps o j) (ps.getD j (0, 0)).1 = lab (opL ps o j) (ps.getD j (0, 0)).2)) = (decide (j ∈ o') || !decide (lab (opL ps o' j) (ps.getD j (0, 0)).1 = lab (opL ps o' j) (ps.getD j (0, 0)).2)) := fun j hj => by
    rw [opL_mem (o := o) (o' := o') (k := j) fun i hi => h i (by omega), decide_eq_decide.mpr (h j hj)]
  unfold calmB
  rw [Bool.eq_iff_iff, List.all_eq_true, List.all_eq_true]
  constructor
  · intro hh j hj
    rw [← e j (List.mem_range.mp hj)]
    exact hh j hj
  · intro hh j hj
    rw [e j (List.mem_range.mp hj)]
    exact hh j hj
theorem cls_rep {f g : Nat → Nat} (hf : Rep f) (hg : Rep g) (h : ∀ u v, f u = f v ↔ g u = g v) : cls n f = cls n g := by
  unfold cls
  congr 1
  refine List.filter_congr fun v _ => ?_
  refine decide_eq_decide.mpr ⟨fun e => ?_, fun e => ?_⟩
  · have e1 : f (g v) = f v := (h (g v) v).mpr (hg.idem v)
    have l1 := hf.le (g v)
    have l2 := hg.le v
    omega
  · have e1 : g (f v) = g v := (h (f v) v).mp (hf.idem v)
    have l1 := hg.le (f v)
    have l2 := hf.le v
    omega
theorem opA_cons {l : Nat} (hl : l < ps.length) (ho : l ∉ o) : (opA ps (l :: o)).length + 1 = (opA ps o).length := by
  unfold opA opL
  rw [List.length_map, List.length_map, List.take_of_length_le (by rw [List.length_zipIdx]; exact Nat.le_refl _)]
  have nd : ((ps.zipIdx.filter fun q => !decide (q.2 ∈ o)).map (·.2)).Nodup := by
    have : (ps.zipIdx.map (·.2)).Nodup := by
      rw [List.zipIdx_map_snd]
      exact List.nodup_range'
    exact this.sublist (List.Sublist.map _ List.filter_sublist)
  have e : (ps.zipIdx.filter fun q => !decide (q.2 ∈ l :: o)) = (ps.zipIdx.filter fun q => !decide (q.2 ∈ o)).filter fun q => !decide (q.2 = l) := by
    rw [List.filter_filter]
    refine List.filter_congr fun q _ => ?_
    by_cases h : q.2 = l <;> simp [h]
  rw [e]
  have hm : l ∈ (ps.zipIdx.filter fun q => !decide (q.2 ∈ o)).map (·.2) := by
    refine List.mem_map.mpr ⟨(ps[l], l), List.mem_filter.mpr ⟨List.mem_zipIdx_iff_getElem?.mpr (List.getElem?_eq_getElem hl), by simp [ho]⟩, rfl⟩
  clear e
  generalize (ps.zipIdx.filter fun q => !decide (q.2 ∈ o)) = L at *
  induction L with
  | nil => cases hm
  | cons a L ih =>
    rw [List.map_cons] at nd hm
    obtain ⟨n1, n2⟩ := List.nodup_cons.mp nd
    rw [List.filter_cons]
    by_cases h : a.2 = l
    · have : L.filter (fun q => !decide (q.2 = l)) = L := List.filter_eq_self.mpr fun q hq => by
        have : q.2 ≠ l := fun z => n1 (by rw [h, ← z]; exact List.mem_map_of_mem hq)
        simp [this]
      simp [h, this]
    · have hm' : l ∈ L.map (·.2) := by
        rcases List.mem_cons.mp hm with z | z
        · exact absurd z.symm h
        · exact z
      have := ih n2 hm'
      simp [h]
      omega
theorem bridges_of (hN : NetOk n ps) (h : calmB ps o ps.length = true) : Bridges ps o := fun v l hl ho e => by
  have hlt := atL_lt hl
  have hp : ∀ p ∈ ps, p.1 < n ∧ p.2 < n := fun p hp => by have := hN.ord p hp; omega
  obtain ⟨_, c2⟩ := calm_count (o := o) hp ps.length (Nat.le_refl _)
  obtain ⟨c3, _⟩ := calm_count (o := l :: o) hp ps.length (Nat.le_refl _)
  have c2 := c2.mp h
  have hc := opA_cons hlt ho
  have hs : cls n (labO ps (l :: o)) = cls n (labO ps o) := cls_rep (lab_rep _) (lab_rep _) fun a b => by
    constructor
    · exact lab_mono fun z h q => h (List.mem_cons_of_mem _ q)
    · intro hab
      exact (lab_closed (S := fun y => labO ps (l :: o) a = labO ps (l :: o) y) (es := opA ps o) (fun p hp' => by
        obtain ⟨j, hj, hjo⟩ := opA_idx hp'
        have e2 : labO ps (l :: o) p.1 = labO ps (l :: o) p.2 := by
          by_cases hjl : j = l
          · subst hjl
            obtain ⟨p', hp2, hv⟩ := mem_atL.mp hl
            rw [hj] at hp2
            cases hp2
            have eg : ps.getD j (0, 0) = p := by rw [List.getD_eq_getElem?_getD, hj]; rfl
            rw [eg] at e
            unfold farN at e
            rcases hv with hv | hv
            · subst hv
              rw [if_pos rfl] at e
              exact e.symm
            · subst hv
              split at e
              · rename_i z; rw [z]
              · exact e
          · exact lab_edge (f := id) (opA_mem hj (by simp [hjl]; simpa using hjo))
        show _ = labO ps (l :: o) p.1 ↔ _ = labO ps (l :: o) p.2
        rw [e2]) hab).mp rfl
  have c3' : n ≤ cls n (labO ps (l :: o)) + (opA ps (l :: o)).length := c3
  have c2' : cls n (labO ps o) + (opA ps o).length = n := c2
  omega
theorem dart_some {v l : Nat} (hv : v < n) (ht : v ≠ t) (hl : l ∈ atL ps (v : Int)) (ho : l ∉ o) : ∃ q, q ∈ atL ps (v : Int) ∧ q ∉ o ∧ nxT n ps t o (v, some l, 0) = some (farN (ps.getD q (0, 0)) v, some q, 0) := by
  show ∃ q, _ ∧ _ ∧ stepS ps (turnR n ps t) o (v, some l, 0) = _
  rw [turn_step (key_some hv ht hl)]
  cases e : (linksT ps (v, some l, 0)).find? (fun l => !decide (l ∈ o)) with
  | none =>
    have := List.find?_eq_none.mp e l ((rot_perm _ _).mem_iff.mpr hl)
    simp [ho] at this
  | some q => exact ⟨q, links_mem (List.mem_of_find?_eq_some e), by simpa using List.find?_some e, rfl⟩
theorem not_lost (hN : NetOk n ps) {k : Bk} (h : Lost (nxT n ps t o) t k) : ∀ l, k.2.1 = some l → k.2.2 = 0 → k.1 < n → l ∈ atL ps (k.1 : Int) → l ∉ o → False := by
  induction h with
  | @here q ht hn =>
    intro l e1 e2 hv hl ho
    obtain ⟨v, c, j⟩ := q
    have e1 : c = some l := e1
    have e2 : j = 0 := e2
    subst e1 e2
    obtain ⟨_, _, _, e⟩ := dart_some hv ht hl ho
    rw [e] at hn
    cases hn
  | @step q s ht hn _ ih =>
    intro l e1 e2 hv hl ho
    obtain ⟨v, c, j⟩ := q
    have e1 : c = some l := e1
    have e2 : j = 0 := e2
    subst e1 e2
    obtain ⟨q, a1, a2, e⟩ := dart_some hv ht hl ho
    rw [e] at hn
    cases hn
    exact ih q rfl rfl (far_lt hN a1) (far_far hN a1).2 a2
theorem lost_iff (hN : NetOk n ps) {s : Nat} (hs : s < n) : Lost (nxT n ps t o) t (s, none, 0) ↔ opV ps o s = [] ∧ s ≠ t := by
  have hst : s ≠ t → nxT n ps t o (s, none, 0) = (opV ps o s).head?.map fun l => (farN (ps.getD l (0, 0)) s, some l, 0) := fun ht => by
    show stepS ps (turnR n ps t) o (s, none, 0) = _
    rw [turn_step (key_none hs ht)]
    show ((atL ps (s : Int)).find? _).map _ = _
    rw [find_head]
  constructor
  · intro h
    cases h with
    | here ht hn =>
      have ht : s ≠ t := ht
      rw [hst ht] at hn
      cases e : opV ps o s with
      | nil => exact ⟨rfl, ht⟩
      | cons a L => rw [e] at hn; cases hn
    | @step _ q ht hn hl =>
      have ht : s ≠ t := ht
      rw [hst ht] at hn
      cases e : opV ps o s with
      | nil => exact ⟨rfl, ht⟩
      | cons a L =>
        rw [e] at hn
        cases hn
        obtain ⟨a1, a2⟩ := opV_mem.mp (show a ∈ opV ps o s by rw [e]; exact List.mem_cons_self)
        exact (not_lost hN hl a rfl rfl (far_lt hN a1) (far_far hN a1).2 a2).elim
  · rintro ⟨e, ht⟩
    refine .here ht ?_
    rw [hst ht, e]
    rfl
end
end DL.S

set_option maxHeartbeats 1000000
namespace DL.S
open PySem PySem.Spec PyProof.Rows L2 DL K02
def thin (ps : List Lk) (o : List Nat) : Nat → List Nat
  | 0 => o
  | k + 1 => if k ∉ thin ps o k ∧ lab (opL ps (thin ps o k) k) (ps.getD k (0, 0)).1 = lab (opL ps (thin ps o k) k) (ps.getD k (0, 0)).2 then sortN (thin ps o k ++ [k]) else thin ps o k
theorem sortN_mem {ls : List Nat} {l : Nat} : l ∈ sortN ls ↔ l ∈ ls := (List.mergeSort_perm _ _).mem_iff
theorem calm_succ {ps : List Lk} {o : List Nat} {k : Nat} : calmB ps o (k + 1) = (calmB ps o k && (decide (k ∈ o) || !decide (lab (opL ps o k) (ps.getD k (0, 0)).1 = lab (opL ps o k) (ps.getD k (0, 0)).2))) := by
  unfold calmB
  rw [List.range_succ, List.all_append, List.all_cons, List.all_nil, Bool.and_true]
theorem thin_calm {ps : List Lk} {o : List Nat} : ∀ k, calmB ps (thin ps o k) k = true
  | 0 => rfl
  | k + 1 => by
    have ih := thin_calm (ps := ps) (o := o) k
    unfold thin
    split
    · rename_i h
      rw [calm_succ, calm_mem (o := sortN (thin ps o k ++ [k])) (o' := thin ps o k) (k := k) (fun i hi => by rw [sortN_mem]; simp; omega), ih]
      have : k ∈ sortN (thin ps o k ++ [k]) := sortN_mem.mpr (by simp)
      simp [this]
    · rename_i h
      rw [calm_succ, ih]
      by_cases hk : k ∈ thin ps o k
      · simp [hk]
      · have : ¬ lab (opL ps (thin ps o k) k) (ps.getD k (0, 0)).1 = lab (opL ps (thin ps o k) k) (ps.getD k (0, 0)).2 := fun z => h ⟨hk, z⟩
        rw [decide_eq_false this]
        simp
theorem thin_lt {ps : List Lk} {o : List Nat} {L : Nat} (ho : ∀ l ∈ o, l < L) : ∀ k, k ≤ L → ∀ l ∈ thin ps o k, l < L
  | 0, _, l, hl => ho l hl
  | k + 1, hk, l, hl => by
    unfold thin at hl
    split at hl
    · rcases List.mem_append.mp (sortN_mem.mp hl) with z | z
      · exact thin_lt ho k (by omega) l z
      · rw [List.mem_singleton.mp z]; omega
    · exact thin_lt ho k (by omega) l hl
theorem thin_len {ps : List Lk} {o : List Nat} : ∀ k, (thin ps o k).length ≤ o.length + k
  | 0 => Nat.le_refl _
  | k + 1 => by
    have ih := thin_len (ps := ps) (o := o) k
    unfold thin
    split
    · unfold sortN
      rw [List.length_mergeSort, List.length_append]
      simp
      omega
    · omega
def ringL (m : Nat) : List Lk := (0, 1) :: (0, m - 1) :: (List.range (m - 2)).map fun i => (i + 1, i + 2)
theorem ring_len {m : Nat} (h : 3 ≤ m) : (ringL m).length = m := by
  unfold ringL
  simp
  omega
theorem ring_net {m n : Nat} (h3 : 3 ≤ m) (hm : m ≤ n) (h7 : n ≤ 7) : NetOk n (ringL m) := by
  refine ⟨by omega, h7, by rw [ring_len h3]; omega, fun p hp => ?_, ?_⟩
  · unfold ringL at hp
    rcases List.mem_cons.mp hp with rfl | hp
    · exact ⟨by show 0 < 1; omega, by show 1 < n; omega⟩
    · rcases List.mem_cons.mp hp with rfl | hp
      · exact ⟨by show 0 < m - 1; omega, by show m - 1 < n; omega⟩
      · obtain ⟨i, hi, rfl⟩ := List.mem_map.mp hp
        have := List.mem_range.mp hi
        exact ⟨by show i + 1 < i + 2; omega, by show i + 2 < n; omega⟩
  · unfold ringL
    refine List.pairwise_cons.mpr ⟨fun p hp => ?_, List.pairwise_cons.mpr ⟨fun p hp => ?_, ?_⟩⟩
    · rcases List.mem_cons.mp hp with rfl | hp
      · exact .inr ⟨rfl, by show 1 < m - 1; omega⟩
      · obtain ⟨i, hi, rfl⟩ := List.mem_map.mp hp
        exact .inl (by show 0 < i + 1; omega)
    · obtain ⟨i, hi, rfl⟩ := List.mem_map.mp hp
      exact .inl (by show 0 < i + 1; omega)
    · rw [List.pairwise_map]
      exact List.pairwise_lt_range.imp fun {a b} hab => .inl (by show a + 1 < b + 1; omega)
theorem ring_calms : ((List.range 5).all fun i => (every (i + 3)).all fun o => decide (o = []) || calmB (ringL (i + 3)) o (i + 3)) = true := by decide +kernel
theorem ring_calm {m : Nat} (h3 : 3 ≤ m) (h7 : m ≤ 7) {o : List Nat} (ho : OutOk m o) (hne : o ≠ []) : calmB (ringL m) o (ringL m).length = true := by
  have := List.all_eq_true.mp (List.all_eq_true.mp ring_calms (m - 3) (List.mem_range.mpr (by omega))) o (by rw [show m - 3 + 3 = m by omega]; exact outOk_mem (by omega) ho)
  rw [show m - 3 + 3 = m by omega] at this
  rw [ring_len h3]
  simpa [hne] using this
theorem ring_homes : ((List.range 5).all fun i => (List.range (5 - i)).all fun d => (List.range (i + 3 + d)).all fun t => (List.range (i + 3 + d)).all fun s => !decide (labO (ringL (i + 3)) [] s = labO (ringL (i + 3)) [] t) || decide ((tripOf (turnB (i + 3 + d) (ringL (i + 3)) t) s []).2 = Str.ofString "home")) = true := by decide +kernel
theorem ring_home {m n t s : Nat} (h3 : 3 ≤ m) (hm : m ≤ n) (h7 : n ≤ 7) (ht : t < n) (hs : s < n) (h : labO (ringL m) [] s = labO (ringL m) [] t) : HomeW (nxT n (ringL m) t []) t (s, none, 0) := by
  have h1 := List.all_eq_true.mp (List.all_eq_true.mp (List.all_eq_true.mp (List.all_eq_true.mp ring_homes (m - 3) (List.mem_range.mpr (by omega))) (n - m) (List.mem_range.mpr (by omega))) t (List.mem_range.mpr (by omega))) s (List.mem_range.mpr (by omega))
  rw [show m - 3 + 3 = m by omega, show m + (n - m) = n by omega] at h1
  have h2 : (tripOf (turnB n (ringL m) t) s []).2 = Str.ofString "home" := by simpa [h] using h1
  exact (((turnB_ok (t := t) (ring_net h3 hm h7)).ends s []).fates (trip_at0 _ s [])).1.mp h2
theorem ring_all {m n t s : Nat} (h3 : 3 ≤ m) (hm : m ≤ n) (h7 : n ≤ 7) (ht : t < n) (hs : s < n) {o : List Nat} (ho : OutOk m o) (h : labO (ringL m) o s = labO (ringL m) o t) : HomeW (nxT n (ringL m) t o) t (s, none, 0) := by
  by_cases hne : o = []
  · subst hne
    exact ring_home h3 hm h7 ht hs h
  · have hN := ring_net h3 hm h7
    exact turn_home hN (bridges_of hN (ring_calm h3 (by omega) ho hne)) hs h
end DL.S

set_option maxHeartbeats 1000000
namespace DL.S
open PySem PySem.Spec PyProof.Rows L2 DL K02
end DL.S

set_option maxHeartbeats 1000000
namespace DL.S
namespace GD
open PySem PySem.Spec PyProof.Rows L2 DL DL.S K02
theorem so_home : PyData.strOk (Str.ofString "home") = true := by decide +kernel
theorem so_lost : PyData.strOk (Str.ofString "lost") = true := by decide +kernel
end GD
open PySem PySem.Spec PyProof.Rows L2 DL DL.S K02
theorem okN_str60 {z : Str} (h : PyData.strOk z = true) : okN 60 (.str z) = true := h
end DL.S

set_option maxHeartbeats 1000000
namespace K27
open PySem PySem.Spec PyProof.Rows L2 DL DL.S
open K02 hiding isInt
set_option hygiene false
local macro_rules | `(tactic| trivial) => `(tactic| with_reducible exact eva_nil)
local macro_rules | `(tactic| trivial) => `(tactic| ((with_reducible apply ev_bin) <;> trivial))
local macro_rules | `(tactic| trivial) => `(tactic| ((with_reducible apply ev_if) <;> trivial))
local macro_rules | `(tactic| trivial) => `(tactic| ((with_reducible apply AU.aTup) <;> first | rfl | trivial))
local macro_rules | `(tactic| trivial) => `(tactic| ((with_reducible apply AU.aLst) <;> first | rfl | trivial))
local macro_rules | `(tactic| trivial) => `(tactic| ((with_reducible apply AU.aLstN) <;> first | rfl | trivial))
local macro_rules | `(tactic| trivial) => `(tactic| ((with_reducible apply AU.aLen) <;> first | rfl | trivial))
local macro_rules | `(tactic| trivial) => `(tactic| ((with_reducible apply AU.aTupL) <;> first | rfl | trivial))
local macro_rules | `(tactic| trivial) => `(tactic| ((with_reducible apply eva_cons) <;> trivial))
local macro_rules | `(tactic| trivial) => `(tactic| with_reducible exact ev_c)
local macro_rules | `(tactic| trivial) => `(tactic| ((with_reducible apply AU.ao) <;> rfl))
local macro_rules | `(tactic| trivial) => `(tactic| ((with_reducible apply AU.av) <;> rfl))
local macro_rules | `(tactic| trivial) => `(tactic| with_reducible exact e2_add)
local macro_rules | `(tactic| trivial) => `(tactic| with_reducible exact e2_i0)
local macro_rules | `(tactic| trivial) => `(tactic| with_reducible exact e2_isn)
local macro_rules | `(tactic| trivial) => `(tactic| ((with_reducible apply e2_ix) <;> rfl))
local macro_rules | `(tactic| trivial) => `(tactic| ((with_reducible apply AU.aEq) <;> first | rfl | trivial))
local macro_rules | `(tactic| trivial) => `(tactic| ((with_reducible apply AU.aSame) <;> first | trivial | rfl))
local macro_rules | `(tactic| trivial) => `(tactic| ((with_reducible apply evb_tst) <;> trivial))
local macro_rules | `(tactic| trivial) => `(tactic| ((with_reducible apply evb_not) <;> trivial))
local macro_rules | `(tactic| trivial) => `(tactic| with_reducible exact AU.gNil)
local macro_rules | `(tactic| trivial) => `(tactic| ((with_reducible apply AU.gCons) <;> trivial))
local macro_rules | `(tactic| trivial) => `(tactic| ((with_reducible apply AU.gLst) <;> first | rfl | trivial))
local macro_rules | `(tactic| trivial) => `(tactic| ((with_reducible apply AU.gTup) <;> first | rfl | trivial))
local macro_rules | `(tactic| trivial) => `(tactic| with_reducible assumption)

def p_lthin : DSp := pT 3 (fun g : (Nat × List Lk) × List Nat => [.int g.1.1, .lst (g.1.2.map lk), outD g.2]) (fun g => NetOk g.1.1 g.1.2 ∧ g.2.length ≤ 8 ∧ ∀ l ∈ g.2, l < g.1.2.length) (fun g => outD (thin g.1.2 g.2 g.1.2.length))
theorem e2_addO {env : Env'} {m : Mem} {a b : List Nat} (h : a.length + b.length ≤ 1000) : Ev2 oAdd env m (.f (outD a)) (.f (.tup (natsD b))) (outD (a ++ b)) := fun Q q => by
  refine (e2_addT (xs := natsD a) (ys := natsD b) (sz (by unfold natsD; rw [List.length_map, List.length_map]; omega))) Q ?_
  have e : natsD a ++ natsD b = natsD (a ++ b) := by unfold natsD; rw [List.map_append]
  rw [e]
  exact q
theorem law_law_thinned (C : Ct) : ∀ ds m (Q : QD) (E : QX), p_lthin ds m Q E → rd_law_thinned C p_labels (fun c xs _ m => E c xs m) { nx := fun _ m => Q .non m, rt := Q } (env0 6 ds) m := by
  rintro _ m Q E ⟨_, ⟨⟨n, ps⟩, o⟩, rfl, ⟨hN, hl, ho⟩, hq⟩
  have hN : NetOk n ps := hN
  have hl : o.length ≤ 8 := hl
  have ho : ∀ l ∈ o, l < ps.length := ho
  have h8 := hN.l8
  have hq : Q (outD (thin ps o ps.length)) m := hq
  show rd_law_thinned C p_labels _ _ [some (.f (.int (n : Nat))), some (.f (.lst (ps.map lk))), some (.f (outD o)), none, none, none] m
  unfold rd_law_thinned
  refine sq_set (ev_v rfl) ?_
  show sSeq _ _ _ [some (.f (.int (n : Nat))), some (.f (.lst (ps.map lk))), some (.f (outD o)), some (.f (outD (thin ps o 0))), none, none] m
  have el : ∀ {env : Env'} {m : Mem}, env[1]? = some (some (.f (.lst (ps.map lk)))) → Ev (dN oLen (dCons (dVar 1) dNil)) env m (.f (.int (ps.length : Nat))) := fun {env m} e => (ev_n (eva_cons (ev_v e) eva_nil) (em_len (xs := ps.map lk) rfl)).eq (by rw [List.length_map])
  refine sq_for ((evi_rg1n (j := ps.length) (el rfl) (by omega)) _ ?_)
  rw [show (List.range ps.length).map (fun i => Dat.int (i : Nat)) = rangeD ((0 : Nat) : Int) ps.length from by unfold rangeD; simp]
  refine for_rg (I := fun k env m' => m' = m ∧ ∃ x4 x5, env = [some (.f (.int (n : Nat))), some (.f (.lst (ps.map lk))), some (.f (outD o)), some (.f (outD (thin ps o (k)))), x4, x5]) ps.length 0 _ _ ⟨rfl, _, _, rfl⟩ ?_ ?_
  · rintro k env m' ⟨rfl, x4, x5, rfl⟩ h1 h2 D' nx ct rt bk
    have hk : k < ps.length := by omega
    show (sSeq (sAsg (.nm 5) (dCall p_labels EX0 (dCons (dVar 0) (dCons (dVar 1) (dCons (dBin oAdd (dVar 3) (dTupRg (rRg2 (dVar 4) (dN oLen (dCons (dVar 1) dNil))))) dNil)))))
  (sIf (dAnd (dTst (dBin (oIn not) (dVar 4) (dVar 3))) (dTst (dBin (oEq id) (dBin oIx (dVar 5) (dBin oIx (dBin oIx (dVar 1) (dVar 4)) (dC (.int 0)))) (dBin oIx (dVar 5) (dBin oIx (dBin oIx (dVar 1) (dVar 4)) (dC (.int 1)))))))
  (sAsg (.nm 3) (dN oTuple (dCons (dNew (nSort (dBin oAdd (dVar 3) (dN oTup (dCons (dVar 4) dNil))))) dNil)))
  sNext)) D' [some (.f (.int (n : Nat))), some (.f (.lst (ps.map lk))), some (.f (outD o)), some (.f (outD (thin ps o (k)))), some (.f (.int (k : Nat))), x5] m'
    have ert : Ev (dTupRg (rRg2 (dVar 4) (dN oLen (dCons (dVar 1) dNil)))) [some (.f (.int (n : Nat))), some (.f (.lst (ps.map lk))), some (.f (outD o)), some (.f (outD (thin ps o (k)))), some (.f (.int (k : Nat))), x5] m' (.f (.tup (natsD (List.range' k (ps.length - k))))) := fun Q q => by
      unfold dTupRg rRg2
      refine (ev_v (a := .int (k : Nat)) rfl).use ?_
      refine (el rfl).use ?_
      refine ⟨RgOk.of_le (by omega) (by omega) (by omega) (by omega), ?_⟩
      have e : rangeD (k : Int) ((ps.length : Int) - k).toNat = natsD (List.range' k (ps.length - k)) := by
        rw [show ((ps.length : Int) - k).toNat = ps.length - k by omega]
        unfold rangeD natsD
        rw [List.range'_eq_map_range, List.map_map]
        refine List.map_congr_left fun i _ => ?_
        show Dat.int ((k : Int) + (i : Nat)) = Dat.int ((k + i : Nat) : Int)
        rw [Int.natCast_add]
      rw [e]
      exact q
    have hlen := thin_len (ps := ps) (o := o) k
    have elb := ev_labels (env := [some (.f (.int (n : Nat))), some (.f (.lst (ps.map lk))), some (.f (outD o)), some (.f (outD (thin ps o (k)))), some (.f (.int (k : Nat))), x5]) (m := m') (o := thin ps o k ++ List.range' k (ps.length - k)) hN (eva_cons (ev_v (i := 0) rfl) (eva_cons (ev_v (i := 1) rfl) (eva_cons (ev_bin (ev_v (i := 3) rfl) ert (e2_addO (by rw [List.length_range']; omega))) eva_nil)))
    rw [show labO ps (thin ps o k ++ List.range' k (ps.length - k)) = lab (opL ps (thin ps o k) k) from congrArg lab (opA_below (by omega))] at elb
    refine sq_set elb ?_
    show sIf _ _ _ D' [some (.f (.int (n : Nat))), some (.f (.lst (ps.map lk))), some (.f (outD o)), some (.f (outD (thin ps o (k)))), some (.f (.int (k : Nat))), some (.f (.lst (tabN n (lab (opL ps (thin ps o k) k)))))] m'
    obtain ⟨p, hp⟩ : ∃ p, ps[k]? = some p := ⟨_, List.getElem?_eq_getElem hk⟩
    have hord := hN.ord p (List.mem_of_getElem? hp)
    have eg : ps.getD k (0, 0) = p := by rw [List.getD_eq_getElem?_getD, hp]; rfl
    have e0 : ∀ (i : Int) (q : Nat), q < n → L2.atI [Dat.int p.1, .int p.2] i = some (.int (q : Nat)) → Ev (dBin oIx (dVar 5) (dBin oIx (dBin oIx (dVar 1) (dVar 4)) (dC (.int i)))) [some (.f (.int (n : Nat))), some (.f (.lst (ps.map lk))), some (.f (outD o)), some (.f (outD (thin ps o (k)))), some (.f (.int (k : Nat))), some (.f (.lst (tabN n (lab (opL ps (thin ps o k) k)))))] m' (.f (.int (lab (opL ps (thin ps o k) k) q : Nat))) := fun i q hqn hi =>
      ev_bin (ev_v rfl) (ev_bin (ev_bin (ev_v rfl) (ev_v rfl) (e2_ix (xs := ps.map lk) (z := lk p) rfl (DL.atI_nat (by rw [List.getElem?_map, hp]; rfl)))) ev_c (e2_ix (xs := [.int p.1, .int p.2]) rfl hi)) (e2_ix (xs := tabN n (lab (opL ps (thin ps o k) k))) rfl (tabN_at hqn))
    have ec : EvB (dAnd (dTst (dBin (oIn not) (dVar 4) (dVar 3))) (dTst (dBin (oEq id) (dBin oIx (dVar 5) (dBin oIx (dBin oIx (dVar 1) (dVar 4)) (dC (.int 0)))) (dBin oIx (dVar 5) (dBin oIx (dBin oIx (dVar 1) (dVar 4)) (dC (.int 1))))))) [some (.f (.int (n : Nat))), some (.f (.lst (ps.map lk))), some (.f (outD o)), some (.f (outD (thin ps o (k)))), some (.f (.int (k : Nat))), some (.f (.lst (tabN n (lab (opL ps (thin ps o k) k)))))] m' (!decide (k ∈ thin ps o k) && decide (lab (opL ps (thin ps o k) k) p.1 = lab (opL ps (thin ps o k) k) p.2)) :=
      evb_and (EvB.eq (evb_tst (ev_bin (ev_v rfl) (ev_v rfl) (e2_in (f := not) (a := .int (k : Nat)) (bs := natsD (thin ps o k)) rfl rfl (okR1 _ _) (okN_nats _)))) (by rw [any_nats])) fun _ =>
        EvB.eq (evb_tst (ev_bin (e0 0 p.1 (by omega) (atI0 _ _)) (e0 1 p.2 (by omega) (atI1 _ _ _)) (e2_eq (f := id) rfl rfl (okR1 _ _) (okR1 _ _)))) (by rw [eqd_nn]; rfl)
    have fin : ∀ f : List Nat, f = thin ps o (k + 1) → ∀ x4 x5, D'.nx [some (.f (.int (n : Nat))), some (.f (.lst (ps.map lk))), some (.f (outD o)), some (.f (outD f)), x4, x5] m' := fun f e x4 x5 => by
      subst e
      exact nx _ _ ⟨rfl, _, _, rfl⟩
    refine st_if ec (fun hb => ?_) fun hb => ?_
    · have hb : k ∉ thin ps o k ∧ lab (opL ps (thin ps o k) k) p.1 = lab (opL ps (thin ps o k) k) p.2 := by simpa using hb
      have hs : sortOk (natsD (thin ps o k ++ [k])) := small_nats fun l hl => by
        rcases List.mem_append.mp hl with z | z
        · have := thin_lt (ps := ps) ho k (by omega) l z; omega
        · rw [List.mem_singleton.mp z]; omega
      refine st_set (a := outD (sortN (thin ps o k ++ [k]))) (AU.aTupL (eva_cons (ev_new ((evn_sort (xs := natsD (thin ps o k ++ [k])) (ev_bin (ev_v rfl) (ev_n (z := .tup (natsD [k])) (eva_cons (ev_v rfl) eva_nil) (em_tup rfl (sz (Nat.le_of_ble_eq_true rfl)))) (e2_addO (by simp; omega))) rfl hs).eq (nat_sort _))) eva_nil)) ?_
      refine fin (sortN (thin ps o k ++ [k])) ?_ _ _
      show _ = if _ then _ else _
      rw [eg, if_pos hb]
    · have hb : ¬ (k ∉ thin ps o k ∧ lab (opL ps (thin ps o k) k) p.1 = lab (opL ps (thin ps o k) k) p.2) := fun z => by
        simp [z.1, z.2] at hb
      refine fin (thin ps o k) ?_ _ _
      show _ = if _ then _ else _
      rw [eg, if_neg hb]
  · rintro env m' ⟨rfl, x4, x5, rfl⟩
    dsimp only
    rw [Nat.zero_add]
    exact st_ret (ev_v rfl) hq

def p_lright : DSp := pGh (γ := Mem × (Nat × List Lk) × Nat × List Nat × Bool) 5 (fun g ds m => ds = [.int g.2.1.1, .lst (g.2.1.2.map lk), .int g.2.2.1, outD g.2.2.2.1, .bl g.2.2.2.2] ∧ m = g.1 ∧ belM g.1.length g.1 = true ∧ NetOk g.2.1.1 g.2.1.2 ∧ g.2.2.1 < g.2.1.1 ∧ (g.2.2.2.2 = true → ∀ s, s < g.2.1.1 → labO g.2.1.2 g.2.2.2.1 s = labO g.2.1.2 g.2.2.2.1 g.2.2.1 → HomeW (nxT g.2.1.1 g.2.1.2 g.2.2.1 g.2.2.2.1) g.2.2.1 (s, none, 0))) (fun g ds m r m' => r = .bl true ∧ m' = g.1)
def ownN (ps : List Lk) (o : List Nat) (s : Nat) : List Nat := (List.range ps.length).filter fun k => (decide ((ps.getD k (0, 0)).1 = s) || decide ((ps.getD k (0, 0)).2 = s)) && !decide (k ∈ o)
theorem own_nil {ps : List Lk} {o : List Nat} {s : Nat} : ownN ps o s = [] ↔ opV ps o s = [] := by
  have hm : ∀ l, l ∈ ownN ps o s ↔ l ∈ opV ps o s := fun l => by
    rw [opV_mem, mem_atL]
    unfold ownN
    rw [List.mem_filter, List.mem_range]
    constructor
    · rintro ⟨h1, h2⟩
      refine ⟨⟨ps[l], List.getElem?_eq_getElem h1, ?_⟩, ?_⟩
      · have e : ps.getD l (0, 0) = ps[l] := by rw [List.getD_eq_getElem?_getD, List.getElem?_eq_getElem h1]; rfl
        rw [e] at h2
        simp at h2
        exact h2.1
      · simp at h2
        exact h2.2
    · rintro ⟨⟨p, hp, hv⟩, ho⟩
      have e : ps.getD l (0, 0) = p := by rw [List.getD_eq_getElem?_getD, hp]; rfl
      refine ⟨(List.getElem?_eq_some_iff.mp hp).1, ?_⟩
      rw [e]
      simp [hv, ho]
  constructor
  · intro e
    refine List.eq_nil_iff_forall_not_mem.mpr fun l hl => ?_
    have := (hm l).mpr hl
    rw [e] at this
    cases this
  · intro e
    refine List.eq_nil_iff_forall_not_mem.mpr fun l hl => ?_
    have := (hm l).mp hl
    rw [e] at this
    cases this
theorem start1 {D : En} {m : Mem} {n t s : Nat} {ps : List Lk} {o : List Nat} {calm : Bool} (hN : NetOk n ps) (ht : t < n) (hs : s < n) (hc : calm = true → ∀ s, s < n → labO ps o s = labO ps o t → HomeW (nxT n ps t o) t (s, none, 0)) {x8 x9 x10 : Option Sl} (hq : ∀ x8 x9 x10, D.nx [some (.f (.int (n : Nat))), some (.f (.lst (ps.map lk))), some (.f (.int (t : Nat))), some (.f (outD o)), some (.f (.bl calm)), some (.f (bkD (turnB n ps t))), some (.f (.lst (tabN n (labO ps o)))), some (.f (.int (s : Nat))), x8, x9, x10] m) :
    (sSeq (sAsg (.nm 8) (dCall p_fate EX0 (dCons (dVar 5) (dCons (dVar 7) (dCons (dVar 3) dNil)))))
  (sSeq (sAsg (.nm 9) (dNew (nLc (.nm 10) (dAnd (dTst (dBin (oIn id) (dVar 7) (dBin oIx (dVar 1) (dVar 10)))) (dTst (dBin (oIn not) (dVar 10) (dVar 3)))) (dVar 10) [10] (iRg1 (dN oLen (dCons (dVar 1) dNil))))))
  (sSeq (sIf (dTst (dBin (oEq not) (dBin (oEq id) (dVar 8) (dC (.str "lost"))) (dAndV (dBin (oEq id) (dVar 9) (dNew (nLst dNil))) (dBin (oEq not) (dVar 7) (dVar 2)))))
  (sRet (dC (.bl false)))
  sNext)
  (sSeq (sIf (dAnd (dTst (dBin (oEq id) (dVar 8) (dC (.str "home")))) (dTst (dBin (oEq not) (dBin oIx (dVar 6) (dVar 7)) (dBin oIx (dVar 6) (dVar 2)))))
  (sRet (dC (.bl false)))
  sNext)
  (sIf (dAnd (dTst (dVar 4)) (dAnd (dTst (dBin (oEq not) (dVar 8) (dC (.str "home")))) (dTst (dBin (oEq id) (dBin oIx (dVar 6) (dVar 7)) (dBin oIx (dVar 6) (dVar 2))))))
  (sRet (dC (.bl false)))
  sNext))))) D [some (.f (.int (n : Nat))), some (.f (.lst (ps.map lk))), some (.f (.int (t : Nat))), some (.f (outD o)), some (.f (.bl calm)), some (.f (bkD (turnB n ps t))), some (.f (.lst (tabN n (labO ps o)))), some (.f (.int (s : Nat))), x8, x9, x10] m := by
  have h8 := hN.l8
  have hB := turnB_ok (t := t) hN
  obtain ⟨f1, f2, _⟩ := (hB.ends s o).fates (trip_at0 _ s o)
  have f1 : (tripOf (turnB n ps t) s o).2 = Str.ofString "home" ↔ HomeW (nxT n ps t o) t (s, none, 0) := f1
  have f2 : (tripOf (turnB n ps t) s o).2 = Str.ofString "lost" ↔ Lost (nxT n ps t o) t (s, none, 0) := f2
  have hz := fate_ok hB (s, o)
  have hz : PyData.strOk (tripOf (turnB n ps t) s o).2 = true := hz
  refine sq_set (ev_fate (g := turnB n ps t) (c := (s, o)) hB (eva_cons (ev_v rfl) (eva_cons (ev_v rfl) (eva_cons (ev_v rfl) eva_nil)))) ?_
  show sSeq _ _ D [some (.f (.int (n : Nat))), some (.f (.lst (ps.map lk))), some (.f (.int (t : Nat))), some (.f (outD o)), some (.f (.bl calm)), some (.f (bkD (turnB n ps t))), some (.f (.lst (tabN n (labO ps o)))), some (.f (.int (s : Nat))), some (.f (.str (tripOf (turnB n ps t) s o).2)), x9, x10] m
  have hlab := fun h : (tripOf (turnB n ps t) s o).2 = Str.ofString "home" => home_lab (g := turnB n ps t) hB (f1.mp h)
  have hlab : (tripOf (turnB n ps t) s o).2 = Str.ofString "home" → labO ps o s = labO ps o t := hlab
  generalize (tripOf (turnB n ps t) s o).2 = z at *
  have eo := evn_lcf (env := [some (.f (.int (n : Nat))), some (.f (.lst (ps.map lk))), some (.f (.int (t : Nat))), some (.f (outD o)), some (.f (.bl calm)), some (.f (bkD (turnB n ps t))), some (.f (.lst (tabN n (labO ps o)))), some (.f (.int (s : Nat))), some (.f (.str z)), x9, x10]) (m := m) (tg := .nm 10) (dt := (dAnd (dTst (dBin (oIn id) (dVar 7) (dBin oIx (dVar 1) (dVar 10)))) (dTst (dBin (oIn not) (dVar 10) (dVar 3))))) (de := dVar 10) (vs := [10]) (di := (iRg1 (dN oLen (dCons (dVar 1) dNil)))) (xs := List.range ps.length) (g := fun l => .int (l : Nat)) (f := fun l => .int (l : Nat))
    (t := fun k => (decide ((ps.getD k (0, 0)).1 = s) || decide ((ps.getD k (0, 0)).2 = s)) && !decide (k ∈ o)) (evi_rg1n ((ev_n (eva_cons (ev_v rfl) eva_nil) (em_len (xs := ps.map lk) rfl)).eq (by rw [List.length_map])) (by omega)) rfl (sz (by rw [List.length_range]; omega))
    (fun k hk => ⟨_, rfl, by
      have hk := List.mem_range.mp hk
      have ep : (ps.map lk)[k]? = some (lk (ps.getD k (0, 0))) := by
        rw [List.getElem?_map, List.getD_eq_getElem?_getD, List.getElem?_eq_getElem hk]
        rfl
      exact evb_and (EvB.eq (evb_tst (ev_bin (ev_v rfl) (ev_bin (ev_v rfl) (ev_v rfl) (e2_ix (xs := ps.map lk) (z := lk (ps.getD k (0, 0))) rfl (DL.atI_nat ep))) (e2_in (f := id) (a := .int (s : Nat)) (bs := [.int (ps.getD k (0, 0)).1, .int (ps.getD k (0, 0)).2]) rfl rfl (okR1 _ _) rfl))) (by
        rw [List.any_cons, List.any_cons, List.any_nil, eqd_nn, eqd_nn, Bool.or_false]; rfl)) fun _ => EvB.eq (evb_tst (ev_bin (ev_v rfl) (ev_v rfl) (e2_in (f := not) (a := .int (k : Nat)) (bs := natsD o) rfl rfl (okR1 _ _) (okN_nats _)))) (by rw [any_nats]), fun _ => ev_v rfl⟩)
  refine sq_set (ev_new eo) ?_
  show sSeq _ _ D [some (.f (.int (n : Nat))), some (.f (.lst (ps.map lk))), some (.f (.int (t : Nat))), some (.f (outD o)), some (.f (.bl calm)), some (.f (bkD (turnB n ps t))), some (.f (.lst (tabN n (labO ps o)))), some (.f (.int (s : Nat))), some (.f (.str z)), some (.f (.lst (natsD (ownN ps o s)))), x10] m
  have ol : (ownN ps o s).length ≤ 8 := Nat.le_trans (List.length_filter_le _ _) (by rw [List.length_range]; omega)
  have hlost : decide (z = Str.ofString "lost") = (decide (ownN ps o s = []) && !decide (s = t)) := by
    rw [Bool.eq_iff_iff, Bool.and_eq_true, decide_eq_true_iff, decide_eq_true_iff, f2, lost_iff hN hs, own_nil]
    simp
  have es : ∀ (w : String), PyData.strOk (Str.ofString w) = true → ∀ f : Bool → Bool, Ev (dBin (oEq f) (dVar 8) (dC (.str (Str.ofString w)))) [some (.f (.int (n : Nat))), some (.f (.lst (ps.map lk))), some (.f (.int (t : Nat))), some (.f (outD o)), some (.f (.bl calm)), some (.f (bkD (turnB n ps t))), some (.f (.lst (tabN n (labO ps o)))), some (.f (.int (s : Nat))), some (.f (.str z)), some (.f (.lst (natsD (ownN ps o s)))), x10] m (.f (.bl (f (decide (z = Str.ofString w))))) := fun w hw f =>
    (ev_bin (ev_v rfl) ev_c (e2_eq (f := f) (a := .str z) (c := .str (Str.ofString w)) rfl rfl (okN_str60 hz) (okN_str60 hw))).eq (by rw [eqd_str]; rfl)
  have el : ∀ i v : Nat, v < n → [some (.f (.int (n : Nat))), some (.f (.lst (ps.map lk))), some (.f (.int (t : Nat))), some (.f (outD o)), some (.f (.bl calm)), some (.f (bkD (turnB n ps t))), some (.f (.lst (tabN n (labO ps o)))), some (.f (.int (s : Nat))), some (.f (.str z)), some (.f (.lst (natsD (ownN ps o s)))), x10][i]? = some (some (.f (.int (v : Nat)))) → Ev (dBin oIx (dVar 6) (dVar i)) [some (.f (.int (n : Nat))), some (.f (.lst (ps.map lk))), some (.f (.int (t : Nat))), some (.f (outD o)), some (.f (.bl calm)), some (.f (bkD (turnB n ps t))), some (.f (.lst (tabN n (labO ps o)))), some (.f (.int (s : Nat))), some (.f (.str z)), some (.f (.lst (natsD (ownN ps o s)))), x10] m (.f (.int (labO ps o v : Nat))) := fun i v hv e =>
    ev_bin (ev_v rfl) (ev_v e) (e2_ix (xs := tabN n (labO ps o)) rfl (tabN_at hv))
  refine seq_i (st_ifF (EvB.eq (evb_tst (ev_bin (es "lost" so_lost id) (ev_and ((ev_bin (ev_v rfl) (ev_new (evn_lst eva_nil rfl (sz (Nat.le_of_ble_eq_true rfl)))) (e2_eq (f := id) (a := .lst (natsD (ownN ps o s))) (c := .lst []) rfl rfl (okN_nats _) rfl)).eq (w := .f (.bl (decide (ownN ps o s = [])))) (by cases ownN ps o s <;> simp [natsD, eqd, eqds])) fun _ => (ev_bin (ev_v rfl) (ev_v rfl) (e2_eq (f := not) (a := .int (s : Nat)) (c := .int (t : Nat)) rfl rfl (okR1 _ _) (okR1 _ _))).eq (w := .f (.bl (!decide (s = t)))) (by rw [eqd_nn])) (e2_eq (f := not) rfl rfl rfl rfl))) (by
    show (!eqd (.bl (decide (z = Str.ofString "lost"))) (.bl (decide (ownN ps o s = []) && !decide (s = t)))) = false
    rw [hlost]
    simp [eqd])) ?_)
  refine sq_next ?_
  refine seq_i (st_ifF (EvB.eq (evb_and (evb_tst (es "home" so_home id)) fun _ => evb_tst ((ev_bin (el 7 s hs rfl) (el 2 t ht rfl) (e2_eq (f := not) rfl rfl (okR1 _ _) (okR1 _ _))).eq (w := .f (.bl (!decide (labO ps o s = labO ps o t)))) (by rw [eqd_nn]))) (by
    show (decide (z = Str.ofString "home") && !decide (labO ps o s = labO ps o t)) = false
    by_cases h : z = Str.ofString "home"
    · simp [hlab h]
    · simp [h])) ?_)
  refine sq_next ?_
  refine st_ifF (EvB.eq (evb_and (b := calm) (evb_tst (ev_v rfl)) fun _ => evb_and (evb_tst (es "home" so_home not)) fun _ => evb_tst ((ev_bin (el 7 s hs rfl) (el 2 t ht rfl) (e2_eq (f := id) rfl rfl (okR1 _ _) (okR1 _ _))).eq (w := .f (.bl (decide (labO ps o s = labO ps o t)))) (by rw [eqd_nn]; rfl))) (by
    show (calm && (!decide (z = Str.ofString "home") && decide (labO ps o s = labO ps o t))) = false
    cases hcm : calm with
    | false => rfl
    | true =>
      by_cases h : labO ps o s = labO ps o t
      · have := f1.mpr (hc hcm s hs h)
        simp [this]
      · simp [h])) (hq _ _ _)
theorem law_law_right (C : Ct) : ∀ ds m (Q : QD) (E : QX), p_lright ds m Q E → rd_law_right C p_labels p_fate p_initS p_turning (fun c xs _ m => E c xs m) { nx := fun _ m => Q .non m, rt := Q } (env0 11 ds) m := by
  rintro ds m Q E ⟨_, ⟨m0, ⟨n, ps⟩, t, o, calm⟩, ⟨rfl, rfl, hb, hN, ht, hc⟩, hQ⟩
  have hN : NetOk n ps := hN
  have ht : t < n := ht
  have n7 := hN.n7
  have hb : belM m.length m = true := hb
  have hq : Q (.bl true) m := hQ _ _ ⟨rfl, rfl⟩
  show rd_law_right C p_labels p_fate p_initS p_turning _ _ [some (.f (.int (n : Nat))), some (.f (.lst (ps.map lk))), some (.f (.int (t : Nat))), some (.f (outD o)), some (.f (.bl calm)), none, none, none, none, none, none] m
  unfold rd_law_right
  refine seq_i (st_par (ev_turning (t := t) hN hb (eva_cons (ev_net (EX := EX0) hN hb (eva_cons (ev_v rfl) (eva_cons (AU.aTupL (eva_cons (ev_v rfl) eva_nil)) eva_nil))) (eva_cons (ev_v rfl) eva_nil))) (ev_labels (o := o) hN (eva_cons (ev_v rfl) (eva_cons (ev_v rfl) (eva_cons (ev_v rfl) eva_nil)))) ?_)
  dsimp only
  show sSeq _ _ _ [some (.f (.int (n : Nat))), some (.f (.lst (ps.map lk))), some (.f (.int (t : Nat))), some (.f (outD o)), some (.f (.bl calm)), some (.f (bkD (turnB n ps t))), some (.f (.lst (tabN n (labO ps o)))), none, none, none, none] m
  refine sq_for ((evi_rg1n (j := n) (ev_v rfl) (by omega)) _ ?_)
  refine for_mem (I := fun env m' => m' = m ∧ ∃ x7 x8 x9 x10, env = [some (.f (.int (n : Nat))), some (.f (.lst (ps.map lk))), some (.f (.int (t : Nat))), some (.f (outD o)), some (.f (.bl calm)), some (.f (bkD (turnB n ps t))), some (.f (.lst (tabN n (labO ps o)))), x7, x8, x9, x10]) ⟨rfl, _, _, _, _, rfl⟩ ?_ ?_
  · rintro v hv env m' ⟨rfl, x7, x8, x9, x10, rfl⟩ D' nx _ _ _
    obtain ⟨s, hs, rfl⟩ := List.mem_map.mp hv
    have hs := List.mem_range.mp hs
    exact start1 hN ht hs hc fun _ _ _ => nx _ _ ⟨rfl, _, _, _, _, rfl⟩
  · rintro env m' ⟨rfl, x7, x8, x9, x10, rfl⟩
    dsimp only
    exact st_ret ev_c hq
theorem ev_lright {env : Env'} {m : Mem} {da : TAd} {n t : Nat} {ps : List Lk} {o : List Nat} {calm : Bool} (ha : EvA da env m [.f (.int (n : Nat)), .f (.lst (ps.map lk)), .f (.int (t : Nat)), .f (outD o), .f (.bl calm)]) (hN : NetOk n ps) (ht : t < n) (hb : belM m.length m = true) (hc : calm = true → ∀ s, s < n → labO ps o s = labO ps o t → HomeW (nxT n ps t o) t (s, none, 0)) : Ev (dCall p_lright EX0 da) env m (.f (.bl true)) := fun Q q => call_i (ha _ ⟨rfl, (m, (n, ps), t, o, calm), ⟨rfl, rfl, hb, hN, ht, hc⟩, fun r m' ⟨e1, e2⟩ => by subst e1 e2; exact q⟩)
theorem ev_lthin {env : Env'} {m : Mem} {da : TAd} {n : Nat} {ps : List Lk} {o : List Nat} (ha : EvA da env m [.f (.int (n : Nat)), .f (.lst (ps.map lk)), .f (outD o)]) (hN : NetOk n ps) (hl : o.length ≤ 8) (ho : ∀ l ∈ o, l < ps.length) : Ev (dCall p_lthin EX0 da) env m (.f (outD (thin ps o ps.length))) := ev_fn (γ := (Nat × List Lk) × List Nat) ha ((n, ps), o) rfl rfl ⟨hN, hl, ho⟩

theorem lst_i {r : TAd} {env : Env'} {m : Mem} {Q : List Dat → Mem → Prop} (h : r env m fun ls m1 => match DL.frs ls with
    | some ds => ds.length ≤ sizeLine ∧ Q ds m1
    | none => False) : nLst r env m Q := h
section
variable {D : En} {x0 x2 : Option Sl} {m : Mem} {c n t k : Nat} {ps : List Lk} {o : List Nat}
theorem target1 (hN : NetOk n ps) (ht : t < n) (ho : OutOk ps.length o) (hb : belM m.length m = true) {x7 x8 x9 x10 : Option Sl} (hq : D.nx [x0, some (.f (.obj 1)), x2, some (.f (.int (n : Nat))), some (.f (.lst (ps.map lk))), some (.f (outD o)), some (.f (.int (t : Nat))), x7, x8, x9, x10] m) :
    (sSeq (sIf (dNot (dTst (dCall p_lright EX0 (dCons (dVar 3) (dCons (dVar 4) (dCons (dVar 6) (dCons (dVar 5) (dCons (dC (.bl false)) dNil))))))))
  (sRet (dC (.bl false)))
  sNext)
  (sSeq (sIf (dNot (dTst (dCall p_lright EX0 (dCons (dVar 3) (dCons (dVar 4) (dCons (dVar 6) (dCons (dCall p_lthin EX0 (dCons (dVar 3) (dCons (dVar 4) (dCons (dVar 5) dNil)))) (dCons (dC (.bl true)) dNil))))))))
  (sRet (dC (.bl false)))
  sNext)
  (sIf (dNot (dTst (dCall p_lright EX0 (dCons (dVar 3) (dCons (dVar 4) (dCons (dVar 6) (dCons (dCall p_lthin EX0 (dCons (dVar 3) (dCons (dVar 4) (dCons (dN oTup dNil) dNil)))) (dCons (dC (.bl true)) dNil))))))))
  (sRet (dC (.bl false)))
  sNext))) D [x0, some (.f (.obj 1)), x2, some (.f (.int (n : Nat))), some (.f (.lst (ps.map lk))), some (.f (outD o)), some (.f (.int (t : Nat))), x7, x8, x9, x10] m := by
  have h8 := hN.l8
  have hl := outOk_len ho
  refine seq_i (st_ifF (EvB.eq (evb_not (evb_tst (ev_lright (t := t) (o := o) (calm := false) (eva_cons (ev_v rfl) (eva_cons (ev_v rfl) (eva_cons (ev_v rfl) (eva_cons (ev_v rfl) (eva_cons ev_c eva_nil))))) hN ht hb fun z => by cases z))) rfl) ?_)
  refine sq_next ?_
  refine seq_i (st_ifF (EvB.eq (evb_not (evb_tst (ev_lright (t := t) (o := thin ps o ps.length) (calm := true) (eva_cons (ev_v rfl) (eva_cons (ev_v rfl) (eva_cons (ev_v rfl) (eva_cons (ev_lthin (o := o) (eva_cons (ev_v rfl) (eva_cons (ev_v rfl) (eva_cons (ev_v rfl) eva_nil))) hN (by omega) ho.2) (eva_cons ev_c eva_nil))))) hN ht hb fun _ s hs h => turn_home hN (bridges_of hN (thin_calm _)) hs h))) rfl) ?_)
  refine sq_next ?_
  exact st_ifF (EvB.eq (evb_not (evb_tst (ev_lright (t := t) (o := thin ps [] ps.length) (calm := true) (eva_cons (ev_v rfl) (eva_cons (ev_v rfl) (eva_cons (ev_v rfl) (eva_cons (ev_lthin (o := []) (eva_cons (ev_v rfl) (eva_cons (ev_v rfl) (eva_cons (ev_n (z := outD []) eva_nil (em_tup rfl (sz (Nat.le_of_ble_eq_true rfl)))) eva_nil))) hN (by simp) (fun l h => by cases h)) (eva_cons ev_c eva_nil))))) hN ht hb fun _ s hs h => turn_home hN (bridges_of hN (thin_calm _)) hs h))) rfl) hq
theorem ring1 (hk3 : 3 ≤ k) (hk7 : k ≤ 7) (ho : OutOk k o) (hd : Dk c [] m) (hc : c + 10 < lim) {x3 x4 x5 x6 x10 : Option Sl} (hq : ∀ x3 m', Dk (c + 2) [] m' → D.nx [x0, some (.f (.obj 1)), x2, x3, x4, x5, x6, some (.f (.int (k : Nat))), some (.f (.lst ((ringL k).map lk))), some (.f (outD o)), x10] m') :
    (sSeq (sAsg (.nm 3) (dBin oAdd (dVar 7) (dCall p_next EX0 (dCons (dVar 1) (dCons (dBin oSub (dC (.int 8)) (dVar 7)) dNil)))))
  (sIf (dNot (dTst (dCall p_lright EX0 (dCons (dVar 3) (dCons (dVar 8) (dCons (dCall p_next EX0 (dCons (dVar 1) (dCons (dVar 3) dNil))) (dCons (dVar 9) (dCons (dC (.bl true)) dNil))))))))
  (sRet (dC (.bl false)))
  sNext)) D [x0, some (.f (.obj 1)), x2, x3, x4, x5, x6, some (.f (.int (k : Nat))), some (.f (.lst ((ringL k).map lk))), some (.f (outD o)), x10] m := by
  have hlim : lim = 2 ^ 40 := rfl
  refine sq_asg ?_
  simp only [dBin]
  refine ev_v (a := .int (k : Nat)) rfl _ ?_
  refine AU.next ((8 : Int) - k) (eva_cons (ev_v rfl) (eva_cons (ev_bin ev_c (ev_v rfl) (e2_i0 (g := fun i j => .int (i - j)))) eva_nil)) hd (by omega) (by omega) (by omega) fun i m1 i0 i1 hd1 => ?_
  refine e2_add _ ?_
  obtain ⟨n, hn, hkn, hn7⟩ : ∃ n : Nat, (k : Int) + i = (n : Nat) ∧ k ≤ n ∧ n ≤ 7 := ⟨((k : Int) + i).toNat, by omega, by omega, by omega⟩
  rw [hn]
  show sIf _ _ _ D [x0, some (.f (.obj 1)), x2, some (.f (.int (n : Nat))), x4, x5, x6, some (.f (.int (k : Nat))), some (.f (.lst ((ringL k).map lk))), some (.f (outD o)), x10] m1
  refine (show dNot _ _ _ _ from ?_)
  refine (show dTst _ _ _ _ from ?_)
  refine (show dCall p_lright EX0 _ _ _ _ from ?_)
  refine call_i ?_
  refine cons_k (ev_v (a := .int (n : Nat)) rfl _ (cons_k (ev_v (a := .lst ((ringL k).map lk)) rfl _ (cons_k ?_))))
  refine AU.next (n : Int) (eva_cons (ev_v rfl) (eva_cons (ev_v rfl) eva_nil)) hd1 (by omega) (by omega) (by omega) fun j m2 j0 j1 hd2 => ?_
  obtain ⟨t, rfl⟩ : ∃ t : Nat, j = t := ⟨j.toNat, by omega⟩
  have ht : t < n := by omega
  refine cons_k (ev_v (a := outD o) rfl _ (cons_k (ev_c _ (nil_k ?_))))
  refine ⟨rfl, (m2, (n, ringL k), t, o, true), ⟨rfl, rfl, dk_bel hd2, ring_net hk3 hkn hn7, ht, fun _ s hs h => ring_all hk3 hkn hn7 ht hs ho h⟩, ?_⟩
  rintro r m' ⟨rfl, rfl⟩
  exact hq _ _ hd2
theorem turn (hd : Dk c [] m) (hc : c + 1000 < lim) {x3 x4 x5 x6 x7 x8 x9 x10 : Option Sl} (hq : ∀ x3 x4 x5 x6 x7 x8 x9 x10 m', Dk (c + 500) [] m' → D.nx [x0, some (.f (.obj 1)), x2, x3, x4, x5, x6, x7, x8, x9, x10] m') :
    (sSeq (sAsg (.tp [3, 4]) (dCall p_netM EX0 (dCons (dVar 1) (dCons (dC (.int 8)) dNil))))
  (sSeq (sAsg (.nm 5) (dCall p_out EX0 (dCons (dVar 1) (dCons (dN oLen (dCons (dVar 4) dNil)) dNil))))
  (sSeq (sFor (.nm 6) (iRg1 (dVar 3))
  (sSeq (sIf (dNot (dTst (dCall p_lright EX0 (dCons (dVar 3) (dCons (dVar 4) (dCons (dVar 6) (dCons (dVar 5) (dCons (dC (.bl false)) dNil))))))))
  (sRet (dC (.bl false)))
  sNext)
  (sSeq (sIf (dNot (dTst (dCall p_lright EX0 (dCons (dVar 3) (dCons (dVar 4) (dCons (dVar 6) (dCons (dCall p_lthin EX0 (dCons (dVar 3) (dCons (dVar 4) (dCons (dVar 5) dNil)))) (dCons (dC (.bl true)) dNil))))))))
  (sRet (dC (.bl false)))
  sNext)
  (sIf (dNot (dTst (dCall p_lright EX0 (dCons (dVar 3) (dCons (dVar 4) (dCons (dVar 6) (dCons (dCall p_lthin EX0 (dCons (dVar 3) (dCons (dVar 4) (dCons (dN oTup dNil) dNil)))) (dCons (dC (.bl true)) dNil))))))))
  (sRet (dC (.bl false)))
  sNext))))
  (sSeq (sAsg (.nm 7) (dBin oAdd (dC (.int 3)) (dCall p_next EX0 (dCons (dVar 1) (dCons (dC (.int 5)) dNil)))))
  (sSeq (sAsg (.nm 8) (dNew (nCat (dNew (nLst (dCons (dN oTup (dCons (dC (.int 0)) (dCons (dC (.int 1)) dNil))) (dCons (dN oTup (dCons (dC (.int 0)) (dCons (dBin oSub (dVar 7) (dC (.int 1))) dNil))) dNil)))) (dNew (nLc (.nm 10) dYes (dN oTup (dCons (dVar 10) (dCons (dBin oAdd (dVar 10) (dC (.int 1))) dNil))) [10] (iRg2 (dC (.int 1)) (dBin oSub (dVar 7) (dC (.int 1)))))))))
  (sFor (.nm 9) (iVal (dNew (nLst (dCons (dN oTup dNil) (dCons (dCall p_out EX0 (dCons (dVar 1) (dCons (dVar 7) dNil))) (dCons (dN oTup (dCons (dCall p_next EX0 (dCons (dVar 1) (dCons (dVar 7) dNil))) dNil)) dNil))))))
  (sSeq (sAsg (.nm 3) (dBin oAdd (dVar 7) (dCall p_next EX0 (dCons (dVar 1) (dCons (dBin oSub (dC (.int 8)) (dVar 7)) dNil)))))
  (sIf (dNot (dTst (dCall p_lright EX0 (dCons (dVar 3) (dCons (dVar 8) (dCons (dCall p_next EX0 (dCons (dVar 1) (dCons (dVar 3) dNil))) (dCons (dVar 9) (dCons (dC (.bl true)) dNil))))))))
  (sRet (dC (.bl false)))
  sNext)))))))) D [x0, some (.f (.obj 1)), x2, x3, x4, x5, x6, x7, x8, x9, x10] m := by
  have hlim : lim = 2 ^ 40 := rfl
  refine sq_asg ?_
  refine call_netM (L := 8) (by omega) hd (by omega) (eva_cons (ev_v rfl) (eva_cons ev_c eva_nil)) fun n ps m1 hn _ hd1 => ?_
  have h8 := hn.l8
  have n7 := hn.n7
  show sSeq _ _ D [x0, some (.f (.obj 1)), x2, some (.f (.int (n : Nat))), some (.f (.lst (ps.map lk))), x5, x6, x7, x8, x9, x10] m1
  refine sq_asg ?_
  refine call_out (many := ps.length) (by omega) hd1 (by omega) (eva_cons (ev_v rfl) (eva_cons ((ev_n (eva_cons (ev_v rfl) eva_nil) (em_len (xs := ps.map lk) rfl)).eq (by rw [List.length_map])) eva_nil)) fun o m2 ho hd2 => ?_
  show sSeq _ _ D [x0, some (.f (.obj 1)), x2, some (.f (.int (n : Nat))), some (.f (.lst (ps.map lk))), some (.f (outD o)), x6, x7, x8, x9, x10] m2
  refine sq_for ((evi_rg1n (j := n) (ev_v rfl) (by omega)) _ ?_)
  refine for_mem (I := fun env m => m = m2 ∧ ∃ x6 x7 x8 x9 x10, env = [x0, some (.f (.obj 1)), x2, some (.f (.int (n : Nat))), some (.f (.lst (ps.map lk))), some (.f (outD o)), x6, x7, x8, x9, x10]) ⟨rfl, _, _, _, _, _, rfl⟩ ?_ ?_
  · rintro v hv env m' ⟨rfl, x6, x7, x8, x9, x10, rfl⟩ D' nx _ _ _
    obtain ⟨t, ht, rfl⟩ := List.mem_map.mp hv
    have ht := List.mem_range.mp ht
    exact target1 hn ht ho (dk_bel hd2) (nx _ _ ⟨rfl, _, _, _, _, _, rfl⟩)
  · rintro env m' ⟨rfl, x6, x7, x8, x9, x10, rfl⟩
    dsimp only
    refine sq_asg ?_
    simp only [dBin]
    refine ev_c _ ?_
    refine AU.next 5 (eva_cons (ev_v rfl) (eva_cons ev_c eva_nil)) hd2 (by omega) (by omega) (by omega) fun j m3 j0 j1 hd3 => ?_
    refine e2_add _ ?_
    obtain ⟨k, hk, hk3, hk7⟩ : ∃ k : Nat, (3 : Int) + j = (k : Nat) ∧ 3 ≤ k ∧ k ≤ 7 := ⟨((3 : Int) + j).toNat, by omega, by omega, by omega⟩
    rw [hk]
    show sSeq _ _ D [x0, some (.f (.obj 1)), x2, some (.f (.int (n : Nat))), some (.f (.lst (ps.map lk))), some (.f (outD o)), x6, some (.f (.int (k : Nat))), x8, x9, x10] m3
    have er := evn_lc (env := [x0, some (.f (.obj 1)), x2, some (.f (.int (n : Nat))), some (.f (.lst (ps.map lk))), some (.f (outD o)), x6, some (.f (.int (k : Nat))), x8, x9, x10]) (m := m3) (tg := .nm 10) (de := (dN oTup (dCons (dVar 10) (dCons (dBin oAdd (dVar 10) (dC (.int 1))) dNil)))) (vs := [10]) (di := (iRg2 (dC (.int 1)) (dBin oSub (dVar 7) (dC (.int 1))))) (xs := List.range (k - 2)) (g := fun i => .int ((i + 1 : Nat) : Int)) (f := fun i => lk (i + 1, i + 2))
      (evi_rg2 (i := 1) (j := (k : Int) - 1) ev_c (ev_bin (ev_v rfl) ev_c (e2_i0 (g := fun i j => .int (i - j)))) (by omega)) (by
        rw [show ((k : Int) - 1 - 1).toNat = k - 2 by omega]
        unfold rangeD
        refine List.map_congr_left fun i _ => ?_
        show Dat.int (1 + (i : Nat)) = Dat.int ((i + 1 : Nat) : Int)
        rw [Int.natCast_add, Int.add_comm]; rfl) (sz (by rw [List.length_range]; omega))
      (fun i hi => ⟨_, rfl, (AU.aTup (xs := [.int ((i + 1 : Nat) : Int), .int (((i + 1 : Nat) : Int) + 1)]) (eva_cons (ev_v rfl) (eva_cons (ev_bin (ev_v rfl) ev_c e2_add) eva_nil)) rfl rfl).eq (by
        show _ = Lv.f (.tup [.int ((i + 1 : Nat) : Int), .int ((i + 2 : Nat) : Int)])
        rw [show (((i + 1 : Nat) : Int) + 1) = ((i + 2 : Nat) : Int) by omega])⟩)
    have e1 : Ev (dN oTup (dCons (dC (.int 0)) (dCons (dBin oSub (dVar 7) (dC (.int 1))) dNil))) [x0, some (.f (.obj 1)), x2, some (.f (.int (n : Nat))), some (.f (.lst (ps.map lk))), some (.f (outD o)), x6, some (.f (.int (k : Nat))), x8, x9, x10] m3 (.f (lk (0, k - 1))) := (AU.aTup (xs := [.int 0, .int ((k : Int) - 1)]) (eva_cons ev_c (eva_cons (ev_bin (ev_v rfl) ev_c (e2_i0 (g := fun i j => .int (i - j)))) eva_nil)) rfl rfl).eq (by
      show _ = Lv.f (.tup [.int ((0 : Nat) : Int), .int ((k - 1 : Nat) : Int)])
      rw [show ((k - 1 : Nat) : Int) = (k : Int) - 1 by omega]; rfl)
    have e0 : Ev (dN oTup (dCons (dC (.int 0)) (dCons (dC (.int 1)) dNil))) [x0, some (.f (.obj 1)), x2, some (.f (.int (n : Nat))), some (.f (.lst (ps.map lk))), some (.f (outD o)), x6, some (.f (.int (k : Nat))), x8, x9, x10] m3 (.f (lk (0, 1))) := AU.aTup (eva_cons ev_c (eva_cons ev_c eva_nil)) rfl rfl
    refine sq_set (ev_new (evn_cat (xs := [lk (0, 1), lk (0, k - 1)]) (ys := (List.range (k - 2)).map fun i => lk (i + 1, i + 2)) (AU.aLst (eva_cons e0 (eva_cons e1 eva_nil)) rfl rfl) (ev_new er) rfl rfl (sz (by rw [List.length_map, List.length_range]; simp; omega)))) ?_
    have erl : [lk (0, 1), lk (0, k - 1)] ++ (List.range (k - 2)).map (fun i => lk (i + 1, i + 2)) = (ringL k).map lk := by
      unfold ringL
      rw [List.map_cons, List.map_cons, List.map_map]
      rfl
    rw [erl]
    show sFor _ _ _ D [x0, some (.f (.obj 1)), x2, some (.f (.int (n : Nat))), some (.f (.lst (ps.map lk))), some (.f (outD o)), x6, some (.f (.int (k : Nat))), some (.f (.lst ((ringL k).map lk))), x9, x10] m3
    show iVal _ _ _ _
    show dNew _ _ _ _
    refine lst_i (cons_k ((ev_n (z := outD []) eva_nil (em_tup rfl (sz (Nat.le_of_ble_eq_true rfl)))) _ (cons_k ?_)))
    refine call_out (many := k) (by omega) hd3 (by omega) (eva_cons (ev_v rfl) (eva_cons (ev_v rfl) eva_nil)) fun o1 m4 ho1 hd4 => ?_
    refine cons_k ?_
    refine (show dN oTup _ _ _ _ from ?_)
    refine cons_k ?_
    refine AU.next (k : Int) (eva_cons (ev_v rfl) (eva_cons (ev_v rfl) eva_nil)) hd4 (by omega) (by omega) (by omega) fun j m5 j0 j1 hd5 => ?_
    obtain ⟨b, rfl⟩ : ∃ b : Nat, j = b := ⟨j.toNat, by omega⟩
    refine nil_k ?_
    refine em_tup (xs := [.int (b : Nat)]) rfl (sz (Nat.le_of_ble_eq_true rfl)) _ ?_
    refine nil_k ⟨sz (Nat.le_of_ble_eq_true rfl), ?_⟩
    refine turns_mem (I := fun j env m => Dk (c + 100 + 2 * j) [] m ∧ ∃ x3 x4 x5 x6 x9 x10, env = [x0, some (.f (.obj 1)), x2, x3, x4, x5, x6, some (.f (.int (k : Nat))), some (.f (.lst ((ringL k).map lk))), x9, x10]) 0 ⟨hd5.mono (by omega), _, _, _, _, _, _, rfl⟩ ?_ ?_
    · rintro v hv j env m' hj ⟨hd', x3, x4, x5, x6, x9, x10, rfl⟩ D' nx rt
      have hj : j < 3 := by simpa using hj
      obtain ⟨o2, rfl, ho2⟩ : ∃ o2, v = outD o2 ∧ OutOk k o2 := by
        simp only [List.mem_cons, List.not_mem_nil, or_false] at hv
        rcases hv with rfl | rfl | rfl
        · exact ⟨[], rfl, ⟨List.Pairwise.nil, by simp⟩⟩
        · exact ⟨o1, rfl, ho1⟩
        · exact ⟨[b], rfl, ⟨List.pairwise_singleton _ _, fun l hl => by rw [List.mem_singleton.mp hl]; omega⟩⟩
      exact ring1 hk3 hk7 ho2 hd' (by omega) fun x3 m' hd2 => nx _ _ ⟨by rw [show c + 100 + 2 * (j + 1) = c + 100 + 2 * j + 2 by omega]; exact hd2, _, _, _, _, _, _, rfl⟩
    · rintro env m' ⟨hd', x3, x4, x5, x6, x9, x10, rfl⟩
      exact hq _ _ _ _ _ _ _ _ _ (hd'.mono (by simp))
end
theorem law_law (C : Ct) : ∀ ds m (Q : QD) (E : QX), pLaw 63 ds m Q E → rd_law C p_deck p_netM p_out p_lright p_lthin p_next (fun c xs _ m => E c xs m) { nx := fun _ m => Q .non m, rt := Q } (env0 11 ds) m := by
  rintro ds m Q E ⟨is, hl, rfl, rfl, hq⟩
  show rd_law C p_deck p_netM p_out p_lright p_lthin p_next _ _ [some (.f (.lst (is.map Dat.int))), none, none, none, none, none, none, none, none, none, none] []
  unfold rd_law
  refine sq_asg ?_
  refine call_deck hl rfl (by trivial) fun m1 hd => ?_
  refine sq_for ((evi_rg1n (j := 3) ev_c (by omega)) _ ?_)
  have hlim : lim = 2 ^ 40 := rfl
  refine turns_mem (I := fun c env m => Dk (500 * c) [] m ∧ ∃ x2 x3 x4 x5 x6 x7 x8 x9 x10, env = [some (.f (.lst (is.map Dat.int))), some (.f (.obj 1)), x2, x3, x4, x5, x6, x7, x8, x9, x10]) 0 ⟨hd, _, _, _, _, _, _, _, _, _, rfl⟩ ?_ ?_
  · rintro x hx j env m hj ⟨hd, x2, x3, x4, x5, x6, x7, x8, x9, x10, rfl⟩ D' nx rt
    have hj : j < 3 := by simpa using hj
    refine turn hd (by omega) fun y3 y4 y5 y6 y7 y8 y9 y10 m' hd' => nx _ _ ⟨by rw [show 500 * (j + 1) = 500 * j + 500 by omega]; exact hd', _, _, _, _, _, _, _, _, _, rfl⟩
  · rintro env m _
    dsimp only
    exact st_ret ev_c (hq _)
end K27

set_option maxHeartbeats 0
namespace K27
open PySem PySem.Spec PyProof.Rows L2 DL DL.S
open K02 hiding isInt
theorem sc_BadBook_xi : FnScope ["self", "error"] ["self", "error"] (defScope st_BadBook_xi) := ⟨rfl, rfl, rfl, by decide +kernel, rfl, by decide +kernel, by decide +kernel⟩
theorem sc_BadNet_xi : FnScope ["self", "error"] ["self", "error"] (defScope st_BadNet_xi) := ⟨rfl, rfl, rfl, by decide +kernel, rfl, by decide +kernel, by decide +kernel⟩
theorem ob_eq (s : PySem.W.SharedT) : ob s = hk.obs s.abs := obsRG_eq (HandSHeadRun.getT_eq s)
section
variable {P : Program} {w : World} {K : PySem.W.Frag} {h : Heap} {mg : Str → Option Value} {f : Addr}
theorem txt (inK : K.In h) (G : h.Ns mainGlobals mg) (c : SaysY ex fn K) : Txt K mg (tab.ct K) :=
  ⟨noSysB_ok (c.fact 0),
   Tab.ok (c.fact 1),
   He.free_ok inK G (c.fact 2),
   He.free_ok inK G (c.fact 3),
   He.free_ok inK G (c.fact 4),
   He.free_ok inK G (c.fact 5),
   He.free_ok inK G (c.fact 6),
   He.free_ok inK G (c.fact 7),
   He.free_ok inK G (c.fact 8),
   He.free_ok inK G (c.fact 9),
   He.free_ok inK G (c.fact 10),
   He.free_ok inK G (c.fact 11),
   He.free_ok inK G (c.fact 12),
   He.free_ok inK G (c.fact 13),
   He.free_ok inK G (c.fact 14),
   He.free_ok inK G (c.fact 15),
   He.int_ok inK G (c.fact 16),
   He.int_ok inK G (c.fact 17),
   He.glo_ok inK G (c.fact 18),
   Tab.fi_ok (c.fact 19),
   Tab.fi_ok (c.fact 20),
   Tab.fi_ok (c.fact 21),
   Tab.fi_ok (c.fact 22),
   Tab.fi_ok (c.fact 23),
   Tab.fi_ok (c.fact 24),
   Tab.fi_ok (c.fact 25)⟩
theorem facts (inK : K.In h) (G : h.Ns mainGlobals mg) (hfa : mg ("law" : Str) = some (.ref f)) (c : SaysY ex fn K) :
    ∃ fd : FuncData, (∀ (s : Shared) (v : Value), BindsTo s fd ⟨[v], []⟩ [("_law_script", v)]) ∧ ∀ base : Heap, FnG P w K mg base (L2.CX P w) 10 f fd ["_law_script"] (spD (tab.ct K) w K 1 (pLaw 63)) := by
  have G0 : FunD K "__len__" "Net.__len__" (defArgs st_Net_len) (defBody st_Net_len) (defScope st_Net_len) [] [] (He.fAd K ("Net", some "__len__")) (fdA K ("Net", some "__len__")) := c.def_ 0 rfl
  have G1 : FunD K "_law_deck" "_law_deck" (defArgs st_law_deck) (defBody st_law_deck) (defScope st_law_deck) [] [] (He.fAd K ("_law_deck", none)) (fdA K ("_law_deck", none)) := c.def_ 1 rfl
  have G2 : FunD K "_law_next" "_law_next" (defArgs st_law_next) (defBody st_law_next) (defScope st_law_next) [] [] (He.fAd K ("_law_next", none)) (fdA K ("_law_next", none)) := c.def_ 2 rfl
  have G3 : FunD K "_law_pairs" "_law_pairs" (defArgs st_law_pairs) (defBody st_law_pairs) (defScope st_law_pairs) [] [] (He.fAd K ("_law_pairs", none)) (fdA K ("_law_pairs", none)) := c.def_ 3 rfl
  have G4 : FunD K "_law_net" "_law_net" (defArgs st_law_net) (defBody st_law_net) (defScope st_law_net) [] [] (He.fAd K ("_law_net", none)) (fdA K ("_law_net", none)) := c.def_ 4 rfl
  have G5 : FunD K "_law_outage" "_law_outage" (defArgs st_law_outage) (defBody st_law_outage) (defScope st_law_outage) [] [] (He.fAd K ("_law_outage", none)) (fdA K ("_law_outage", none)) := c.def_ 5 rfl
  have G6 : FunD K "_law_labels" "_law_labels" (defArgs st_law_labels) (defBody st_law_labels) (defScope st_law_labels) [] [] (He.fAd K ("_law_labels", none)) (fdA K ("_law_labels", none)) := c.def_ 6 rfl
  have G7 : FunD K "_law_thinned" "_law_thinned" (defArgs st_law_thinned) (defBody st_law_thinned) (defScope st_law_thinned) [] [] (He.fAd K ("_law_thinned", none)) (fdA K ("_law_thinned", none)) := c.def_ 7 rfl
  have G8 : FunD K "is_pair" "is_pair" (defArgs st_is_pair) (defBody st_is_pair) (defScope st_is_pair) [] [] (He.fAd K ("is_pair", none)) (fdA K ("is_pair", none)) := c.def_ 8 rfl
  have G9 : FunD K "is_whole" "is_whole" (defArgs st_is_whole) (defBody st_is_whole) (defScope st_is_whole) [] [] (He.fAd K ("is_whole", none)) (fdA K ("is_whole", none)) := c.def_ 9 rfl
  have G10 : FunD K "is_below" "is_below" (defArgs st_is_below) (defBody st_is_below) (defScope st_is_below) [] [] (He.fAd K ("is_below", none)) (fdA K ("is_below", none)) := c.def_ 10 rfl
  have G11 := c.def_ 11 rfl
  have G12 : FunD K "at" "Net.at" (defArgs st_Net_at) (defBody st_Net_at) (defScope st_Net_at) [] [] (He.fAd K ("Net", some "at")) (fdA K ("Net", some "at")) := c.def_ 12 rfl
  have G13 : FunD K "is_key" "is_key" (defArgs st_is_key) (defBody st_is_key) (defScope st_is_key) [] [] (He.fAd K ("is_key", none)) (fdA K ("is_key", none)) := c.def_ 13 rfl
  have G14 : FunD K "is_row" "is_row" (defArgs st_is_row) (defBody st_is_row) (defScope st_is_row) [] [] (He.fAd K ("is_row", none)) (fdA K ("is_row", none)) := c.def_ 14 rfl
  have G15 : FunD K "book_error" "book_error" (defArgs st_book_error) (defBody st_book_error) (defScope st_book_error) [] [] (He.fAd K ("book_error", none)) (fdA K ("book_error", none)) := c.def_ 15 rfl
  have G16 : FunD K "__init__" "Book.__init__" (defArgs st_Book_init) (defBody st_Book_init) (defScope st_Book_init) [] [] (He.fAd K ("Book", some "__init__")) (fdA K ("Book", some "__init__")) := c.def_ 16 rfl
  have G17 : FunD K "keys_of" "keys_of" (defArgs st_keys_of) (defBody st_keys_of) (defScope st_keys_of) [] [] (He.fAd K ("keys_of", none)) (fdA K ("keys_of", none)) := c.def_ 17 rfl
  have G18 := c.def_ 18 rfl
  have G19 : FunD K "is_link" "is_link" (defArgs st_is_link) (defBody st_is_link) (defScope st_is_link) [] [] (He.fAd K ("is_link", none)) (fdA K ("is_link", none)) := c.def_ 19 rfl
  have G20 : FunD K "net_error" "net_error" (defArgs st_net_error) (defBody st_net_error) (defScope st_net_error) [] [] (He.fAd K ("net_error", none)) (fdA K ("net_error", none)) := c.def_ 20 rfl
  have G21 : FunD K "__init__" "Net.__init__" (defArgs st_Net_init) (defBody st_Net_init) (defScope st_Net_init) [] [] (He.fAd K ("Net", some "__init__")) (fdA K ("Net", some "__init__")) := c.def_ 21 rfl
  have G22 := c.def_ 22 rfl
  have G23 := c.def_ 23 rfl
  have G24 : FunD K "row_at" "Book.row_at" (defArgs st_Book_row_at) (defBody st_Book_row_at) (defScope st_Book_row_at) [] [] (He.fAd K ("Book", some "row_at")) (fdA K ("Book", some "row_at")) := c.def_ 24 rfl
  have G25 : FunD K "far" "Net.far" (defArgs st_Net_far) (defBody st_Net_far) (defScope st_Net_far) [] [] (He.fAd K ("Net", some "far")) (fdA K ("Net", some "far")) := c.def_ 25 rfl
  have G26 : FunD K "next_stop" "next_stop" (defArgs st_next_stop) (defBody st_next_stop) (defScope st_next_stop) [] [] (He.fAd K ("next_stop", none)) (fdA K ("next_stop", none)) := c.def_ 26 rfl
  have G27 : FunD K "walked" "walked" (defArgs st_walked) (defBody st_walked) (defScope st_walked) [] [] (He.fAd K ("walked", none)) (fdA K ("walked", none)) := c.def_ 27 rfl
  have G28 : FunD K "fate" "fate" (defArgs st_fate) (defBody st_fate) (defScope st_fate) [] [] (He.fAd K ("fate", none)) (fdA K ("fate", none)) := c.def_ 28 rfl
  have G29 : FunD K "_law_right" "_law_right" (defArgs st_law_right) (defBody st_law_right) (defScope st_law_right) [] [] (He.fAd K ("_law_right", none)) (fdA K ("_law_right", none)) := c.def_ 29 rfl
  have G30 : FunD K "law" "law" (defArgs st_law) (defBody st_law) (defScope st_law) [] [] (He.fAd K ("law", none)) (fdA K ("law", none)) := c.def_ 30 rfl
  have G31 : FunD K "__init__" "BadBook.__init__" (defArgs st_BadBook_xi) (defBody st_BadBook_xi) (defScope st_BadBook_xi) [] [] (He.fAd K ("BadBook", some "__init__")) (fdA K ("BadBook", some "__init__")) := c.def_ 31 rfl
  have G32 : FunD K "__init__" "BadNet.__init__" (defArgs st_BadNet_xi) (defBody st_BadNet_xi) (defScope st_BadNet_xi) [] [] (He.fAd K ("BadNet", some "__init__")) (fdA K ("BadNet", some "__init__")) := c.def_ 32 rfl
  have T := txt inK G c
  have e := hfa.symm.trans (He.glo_ok inK G (c.fact 47))
  cases e
  have b := FunD.bindsA (ps := ["_law_script"]) G30 fun _ _ _ _ _ _ us hl => match us, hl with | [_], _ => rfl
  refine ⟨_, fun s v => b s [v] rfl, fun base => ?_⟩
  have x_BadBook : XcC P w K mg base (tab.ct K) "BadBook" 5 ["error"] := Tab.xc_ok (c.fact 61) rfl (He.glo_ok inK G (c.fact 60)) rfl (by decide) ⟨_, exc_init1 G31 sc_BadBook_xi (fun cdv A outer s H E => pss_one (ps_ost (pv 0) (pv 1))), (FunD.bindsN G31 (ps := ["self", "error"]) fun _ _ _ _ _ _ us hl => match us, hl with | [_, _], _ => rfl)⟩
  have x_BadNet : XcC P w K mg base (tab.ct K) "BadNet" 2 ["error"] := Tab.xc_ok (c.fact 63) rfl (He.glo_ok inK G (c.fact 62)) rfl (by decide) ⟨_, exc_init1 G32 sc_BadNet_xi (fun cdv A outer s H E => pss_one (ps_ost (pv 0) (pv 1))), (FunD.bindsN G32 (ps := ["self", "error"]) fun _ _ _ _ _ _ us hl => match us, hl with | [_, _], _ => rfl)⟩
  have D_Net_len := wk_Net_len (P := P) (w := w) (base := base) T (p := p_nlen) (K0 := 0) (by first | exact pRel.mono | exact pGh.mono | exact pLaw.mono | exact pNo.mono | exact pT.mono) (by first | exact pRel.len | exact pGh.len | exact pLaw.len | exact pNo.len | exact pT.len) G0 (DL.S.law_Net_len (tab.ct K))
  have d_Net_len : DunC P w K mg base (tab.ct K) 3 "__len__" 1 (p_nlen) := Tab.du_ok (c.fact 49) rfl D_Net_len (FunD.bindsN G0 (ps := ["self"]) fun _ _ _ _ _ _ us hl => match us, hl with | [_], _ => rfl) (by first | exact pRel.len | exact pGh.len | exact pLaw.len | exact pNo.len | exact pT.len)
  have c_law_deck : FnC P w K mg base (tab.ct K) "_law_deck" 1 ["_law_script"] (p_deck) := ⟨He.glo_ok inK G (c.fact 27), G1.kp, wk_law_deck T (K0 := 0) (by first | exact pRel.mono | exact pGh.mono | exact pLaw.mono | exact pNo.mono | exact pT.mono) (by first | exact pRel.len | exact pGh.len | exact pLaw.len | exact pNo.len | exact pT.len) G1 (DL.S.law_deck (tab.ct K)), (FunD.bindsN G1 (ps := ["_law_script"]) fun _ _ _ _ _ _ us hl => match us, hl with | [_], _ => rfl), (by first | exact pRel.len | exact pGh.len | exact pLaw.len | exact pNo.len | exact pT.len)⟩
  have c_law_next : FnC P w K mg base (tab.ct K) "_law_next" 1 ["_law_deck_here", "_law_many"] (p_next) := ⟨He.glo_ok inK G (c.fact 28), G2.kp, wk_law_next T (K0 := 0) (by first | exact pRel.mono | exact pGh.mono | exact pLaw.mono | exact pNo.mono | exact pT.mono) (by first | exact pRel.len | exact pGh.len | exact pLaw.len | exact pNo.len | exact pT.len) G2 (DL.S.law_next (tab.ct K)), (FunD.bindsN G2 (ps := ["_law_deck_here", "_law_many"]) fun _ _ _ _ _ _ us hl => match us, hl with | [_, _], _ => rfl), (by first | exact pRel.len | exact pGh.len | exact pLaw.len | exact pNo.len | exact pT.len)⟩
  have c_law_pairs : FnC P w K mg base (tab.ct K) "_law_pairs" 1 ["_law_nodes"] (p_pairs) := ⟨He.glo_ok inK G (c.fact 29), G3.kp, wk_law_pairs T (K0 := 0) (by first | exact pRel.mono | exact pGh.mono | exact pLaw.mono | exact pNo.mono | exact pT.mono) (by first | exact pRel.len | exact pGh.len | exact pLaw.len | exact pNo.len | exact pT.len) G3 (K02.law_law_pairs (tab.ct K)), (FunD.bindsN G3 (ps := ["_law_nodes"]) fun _ _ _ _ _ _ us hl => match us, hl with | [_], _ => rfl), (by first | exact pRel.len | exact pGh.len | exact pLaw.len | exact pNo.len | exact pT.len)⟩
  have c_law_net : FnC P w K mg base (tab.ct K) "_law_net" 2 ["_law_deck_here", "_law_most"] (p_netM) := ⟨He.glo_ok inK G (c.fact 30), G4.kp, wk_law_net T (K0 := 1) (by first | exact pRel.mono | exact pGh.mono | exact pLaw.mono | exact pNo.mono | exact pT.mono) (by first | exact pRel.len | exact pGh.len | exact pLaw.len | exact pNo.len | exact pT.len) c_law_next (by omega) c_law_pairs (by omega) G4 (K02.law_law_netM (tab.ct K)), (FunD.bindsN G4 (ps := ["_law_deck_here", "_law_most"]) fun _ _ _ _ _ _ us hl => match us, hl with | [_, _], _ => rfl), (by first | exact pRel.len | exact pGh.len | exact pLaw.len | exact pNo.len | exact pT.len)⟩
  have c_law_outage : FnC P w K mg base (tab.ct K) "_law_outage" 2 ["_law_deck_here", "_law_many"] (p_out) := ⟨He.glo_ok inK G (c.fact 31), G5.kp, wk_law_outage T (K0 := 1) (by first | exact pRel.mono | exact pGh.mono | exact pLaw.mono | exact pNo.mono | exact pT.mono) (by first | exact pRel.len | exact pGh.len | exact pLaw.len | exact pNo.len | exact pT.len) c_law_next (by omega) G5 (DL.S.law_law_outage (tab.ct K)), (FunD.bindsN G5 (ps := ["_law_deck_here", "_law_many"]) fun _ _ _ _ _ _ us hl => match us, hl with | [_, _], _ => rfl), (by first | exact pRel.len | exact pGh.len | exact pLaw.len | exact pNo.len | exact pT.len)⟩
  have c_law_labels : FnC P w K mg base (tab.ct K) "_law_labels" 1 ["_law_nodes", "_law_links", "_law_outage_here"] (p_labels) := ⟨He.glo_ok inK G (c.fact 32), G6.kp, wk_law_labels T (K0 := 0) (by first | exact pRel.mono | exact pGh.mono | exact pLaw.mono | exact pNo.mono | exact pT.mono) (by first | exact pRel.len | exact pGh.len | exact pLaw.len | exact pNo.len | exact pT.len) G6 (DL.S.law_law_labels (tab.ct K)), (FunD.bindsN G6 (ps := ["_law_nodes", "_law_links", "_law_outage_here"]) fun _ _ _ _ _ _ us hl => match us, hl with | [_, _, _], _ => rfl), (by first | exact pRel.len | exact pGh.len | exact pLaw.len | exact pNo.len | exact pT.len)⟩
  have c_law_thinned : FnC P w K mg base (tab.ct K) "_law_thinned" 2 ["_law_nodes", "_law_links", "_law_outage_here"] (K27.p_lthin) := ⟨He.glo_ok inK G (c.fact 33), G7.kp, wk_law_thinned T (K0 := 1) (by first | exact pRel.mono | exact pGh.mono | exact pLaw.mono | exact pNo.mono | exact pT.mono) (by first | exact pRel.len | exact pGh.len | exact pLaw.len | exact pNo.len | exact pT.len) c_law_labels (by omega) G7 (K27.law_law_thinned (tab.ct K)), (FunD.bindsN G7 (ps := ["_law_nodes", "_law_links", "_law_outage_here"]) fun _ _ _ _ _ _ us hl => match us, hl with | [_, _, _], _ => rfl), (by first | exact pRel.len | exact pGh.len | exact pLaw.len | exact pNo.len | exact pT.len)⟩
  have c_is_pair : FnC P w K mg base (tab.ct K) "is_pair" 1 ["value"] (p_pair) := ⟨He.glo_ok inK G (c.fact 34), G8.kp, wk_is_pair T (K0 := 0) (by first | exact pRel.mono | exact pGh.mono | exact pLaw.mono | exact pNo.mono | exact pT.mono) (by first | exact pRel.len | exact pGh.len | exact pLaw.len | exact pNo.len | exact pT.len) G8 (K02.law_is_pair (tab.ct K)), (FunD.bindsN G8 (ps := ["value"]) fun _ _ _ _ _ _ us hl => match us, hl with | [_], _ => rfl), (by first | exact pRel.len | exact pGh.len | exact pLaw.len | exact pNo.len | exact pT.len)⟩
  have c_is_whole : FnC P w K mg base (tab.ct K) "is_whole" 1 ["value"] (p_whole) := ⟨He.glo_ok inK G (c.fact 35), G9.kp, wk_is_whole T (K0 := 0) (by first | exact pRel.mono | exact pGh.mono | exact pLaw.mono | exact pNo.mono | exact pT.mono) (by first | exact pRel.len | exact pGh.len | exact pLaw.len | exact pNo.len | exact pT.len) G9 (K02.law_is_whole (tab.ct K)), (FunD.bindsN G9 (ps := ["value"]) fun _ _ _ _ _ _ us hl => match us, hl with | [_], _ => rfl), (by first | exact pRel.len | exact pGh.len | exact pLaw.len | exact pNo.len | exact pT.len)⟩
  have c_is_below : FnC P w K mg base (tab.ct K) "is_below" 2 ["value", "bound"] (p_below) := ⟨He.glo_ok inK G (c.fact 36), G10.kp, wk_is_below T (K0 := 1) (by first | exact pRel.mono | exact pGh.mono | exact pLaw.mono | exact pNo.mono | exact pT.mono) (by first | exact pRel.len | exact pGh.len | exact pLaw.len | exact pNo.len | exact pT.len) c_is_whole (by omega) G10 (K02.law_is_below (tab.ct K)), (FunD.bindsN G10 (ps := ["value", "bound"]) fun _ _ _ _ _ _ us hl => match us, hl with | [_, _], _ => rfl), (by first | exact pRel.len | exact pGh.len | exact pLaw.len | exact pNo.len | exact pT.len)⟩
  have D_Net_nodes := wk_Net_nodes (P := P) (w := w) (base := base) T (p := p_nnodes) (K0 := 0) (by first | exact pRel.mono | exact pGh.mono | exact pLaw.mono | exact pNo.mono | exact pT.mono) (by first | exact pRel.len | exact pGh.len | exact pLaw.len | exact pNo.len | exact pT.len) G11 (DL.S.law_Net_nodes (tab.ct K))
  have r_Net_nodes : PrC P w K mg base (tab.ct K) 3 "nodes" 1 (p_nnodes) := Tab.pr_ok (c.fact 48) rfl D_Net_nodes (FunD.bindsN G11 (ps := ["self"]) fun _ _ _ _ _ _ us hl => match us, hl with | [_], _ => rfl) rfl (by first | exact pRel.len | exact pGh.len | exact pLaw.len | exact pNo.len | exact pT.len)
  have D_Net_at := wk_Net_at (P := P) (w := w) (base := base) T (p := p_nat) (K0 := 0) (by first | exact pRel.mono | exact pGh.mono | exact pLaw.mono | exact pNo.mono | exact pT.mono) (by first | exact pRel.len | exact pGh.len | exact pLaw.len | exact pNo.len | exact pT.len) G12 (DL.S.law_Net_at (tab.ct K))
  have e_Net_at : MeC P w K mg base (tab.ct K) 3 "Net" "at" 1 ["self", "node"] (p_nat) := Tab.me_ok (c.fact 50) rfl (by decide) D_Net_at (FunD.bindsN G12 (ps := ["self", "node"]) fun _ _ _ _ _ _ us hl => match us, hl with | [_, _], _ => rfl) (by first | exact pRel.len | exact pGh.len | exact pLaw.len | exact pNo.len | exact pT.len)
  have c_is_key : FnC P w K mg base (tab.ct K) "is_key" 4 ["net", "target", "marks", "value"] (p_iskey) := ⟨He.glo_ok inK G (c.fact 37), G13.kp, wk_is_key T (K0 := 3) (by first | exact pRel.mono | exact pGh.mono | exact pLaw.mono | exact pNo.mono | exact pT.mono) (by first | exact pRel.len | exact pGh.len | exact pLaw.len | exact pNo.len | exact pT.len) c_is_below (by omega) r_Net_nodes (by omega) d_Net_len (by omega) e_Net_at (by omega) G13 (DL.S.law_is_key (tab.ct K)), (FunD.bindsN G13 (ps := ["net", "target", "marks", "value"]) fun _ _ _ _ _ _ us hl => match us, hl with | [_, _, _, _], _ => rfl), (by first | exact pRel.len | exact pGh.len | exact pLaw.len | exact pNo.len | exact pT.len)⟩
  have c_is_row : FnC P w K mg base (tab.ct K) "is_row" 4 ["net", "node", "marks", "value"] (p_isrow) := ⟨He.glo_ok inK G (c.fact 38), G14.kp, wk_is_row T (K0 := 3) (by first | exact pRel.mono | exact pGh.mono | exact pLaw.mono | exact pNo.mono | exact pT.mono) (by first | exact pRel.len | exact pGh.len | exact pLaw.len | exact pNo.len | exact pT.len) c_is_pair (by omega) c_is_below (by omega) d_Net_len (by omega) e_Net_at (by omega) G14 (DL.S.law_is_row (tab.ct K)), (FunD.bindsN G14 (ps := ["net", "node", "marks", "value"]) fun _ _ _ _ _ _ us hl => match us, hl with | [_, _, _, _], _ => rfl), (by first | exact pRel.len | exact pGh.len | exact pLaw.len | exact pNo.len | exact pT.len)⟩
  have c_book_error : FnC P w K mg base (tab.ct K) "book_error" 5 ["net", "target", "marks", "rows"] (p_bkerr) := ⟨He.glo_ok inK G (c.fact 39), G15.kp, wk_book_error T (K0 := 4) (by first | exact pRel.mono | exact pGh.mono | exact pLaw.mono | exact pNo.mono | exact pT.mono) (by first | exact pRel.len | exact pGh.len | exact pLaw.len | exact pNo.len | exact pT.len) c_is_pair (by omega) c_is_key (by omega) c_is_row (by omega) G15 (DL.S.law_book_error (tab.ct K)), (FunD.bindsN G15 (ps := ["net", "target", "marks", "rows"]) fun _ _ _ _ _ _ us hl => match us, hl with | [_, _, _, _], _ => rfl), (by first | exact pRel.len | exact pGh.len | exact pLaw.len | exact pNo.len | exact pT.len)⟩
  have m_Book : MkC P w K mg base (tab.ct K) "Book" 22 5 6 ["self", "net", "target", "marks", "rows"] (p_initB) := ⟨He.glo_ok inK G (c.fact 58), Tab.mk_ok (c.fact 59) rfl, wk_Book_init T (K0 := 5) (by first | exact pRel.mono | exact pGh.mono | exact pLaw.mono | exact pNo.mono | exact pT.mono) (by first | exact pRel.len | exact pGh.len | exact pLaw.len | exact pNo.len | exact pT.len) c_book_error (by omega) x_BadBook (by omega) G16 (DL.S.law_Book_init (tab.ct K)), (FunD.bindsN G16 (ps := ["self", "net", "target", "marks", "rows"]) fun _ _ _ _ _ _ us hl => match us, hl with | [_, _, _, _, _], _ => rfl), (by first | exact pRel.len | exact pGh.len | exact pLaw.len | exact pNo.len | exact pT.len), rfl⟩
  have c_keys_of : FnC P w K mg base (tab.ct K) "keys_of" 3 ["net", "target", "marks"] (p_keys) := ⟨He.glo_ok inK G (c.fact 40), G17.kp, wk_keys_of T (K0 := 2) (by first | exact pRel.mono | exact pGh.mono | exact pLaw.mono | exact pNo.mono | exact pT.mono) (by first | exact pRel.len | exact pGh.len | exact pLaw.len | exact pNo.len | exact pT.len) r_Net_nodes (by omega) e_Net_at (by omega) G17 (DL.S.law_keys_of (tab.ct K)), (FunD.bindsN G17 (ps := ["net", "target", "marks"]) fun _ _ _ _ _ _ us hl => match us, hl with | [_, _, _], _ => rfl), (by first | exact pRel.len | exact pGh.len | exact pLaw.len | exact pNo.len | exact pT.len)⟩
  have D_Book_turning := wk_Book_turning (P := P) (w := w) (base := base) T (p := p_turning) (K0 := 7) (by first | exact pRel.mono | exact pGh.mono | exact pLaw.mono | exact pNo.mono | exact pT.mono) (by first | exact pRel.len | exact pGh.len | exact pLaw.len | exact pNo.len | exact pT.len) c_keys_of (by omega) m_Book (by omega) e_Net_at (by omega) G18 (DL.S.law_Book_turning (tab.ct K))
  have z_Book_turning := Tab.cm_ok (t := tab) (c := 22) (x := "turning") (c.fact 55) rfl (DF.raw D_Book_turning (FunD.bindsN G18 (ps := ["cls", "net", "target"]) fun _ _ _ _ _ _ us hl => match us, hl with | [_, _, _], _ => rfl) (by first | exact pRel.len | exact pGh.len | exact pLaw.len | exact pNo.len | exact pT.len))
  have c_is_link : FnC P w K mg base (tab.ct K) "is_link" 3 ["value", "nodes"] (p_link) := ⟨He.glo_ok inK G (c.fact 41), G19.kp, wk_is_link T (K0 := 2) (by first | exact pRel.mono | exact pGh.mono | exact pLaw.mono | exact pNo.mono | exact pT.mono) (by first | exact pRel.len | exact pGh.len | exact pLaw.len | exact pNo.len | exact pT.len) c_is_pair (by omega) c_is_below (by omega) G19 (K02.law_is_link (tab.ct K)), (FunD.bindsN G19 (ps := ["value", "nodes"]) fun _ _ _ _ _ _ us hl => match us, hl with | [_, _], _ => rfl), (by first | exact pRel.len | exact pGh.len | exact pLaw.len | exact pNo.len | exact pT.len)⟩
  have c_net_error : FnC P w K mg base (tab.ct K) "net_error" 4 ["nodes", "links"] (p_err) := ⟨He.glo_ok inK G (c.fact 42), G20.kp, wk_net_error T (K0 := 3) (by first | exact pRel.mono | exact pGh.mono | exact pLaw.mono | exact pNo.mono | exact pT.mono) (by first | exact pRel.len | exact pGh.len | exact pLaw.len | exact pNo.len | exact pT.len) c_is_whole (by omega) c_is_link (by omega) G20 (K02.law_net_error (tab.ct K)), (FunD.bindsN G20 (ps := ["nodes", "links"]) fun _ _ _ _ _ _ us hl => match us, hl with | [_, _], _ => rfl), (by first | exact pRel.len | exact pGh.len | exact pLaw.len | exact pNo.len | exact pT.len)⟩
  have m_Net : MkC P w K mg base (tab.ct K) "Net" 3 2 5 ["self", "nodes", "links"] (p_initS) := ⟨He.glo_ok inK G (c.fact 56), Tab.mk_ok (c.fact 57) rfl, wk_Net_init T (K0 := 4) (by first | exact pRel.mono | exact pGh.mono | exact pLaw.mono | exact pNo.mono | exact pT.mono) (by first | exact pRel.len | exact pGh.len | exact pLaw.len | exact pNo.len | exact pT.len) c_net_error (by omega) x_BadNet (by omega) G21 (K02.law_Net_initS (tab.ct K)), (FunD.bindsN G21 (ps := ["self", "nodes", "links"]) fun _ _ _ _ _ _ us hl => match us, hl with | [_, _, _], _ => rfl), (by first | exact pRel.len | exact pGh.len | exact pLaw.len | exact pNo.len | exact pT.len), rfl⟩
  have D_Book_target := wk_Book_target (P := P) (w := w) (base := base) T (p := p_btarget) (K0 := 0) (by first | exact pRel.mono | exact pGh.mono | exact pLaw.mono | exact pNo.mono | exact pT.mono) (by first | exact pRel.len | exact pGh.len | exact pLaw.len | exact pNo.len | exact pT.len) G22 (DL.S.law_Book_target (tab.ct K))
  have r_Book_target : PrC P w K mg base (tab.ct K) 22 "target" 1 (p_btarget) := Tab.pr_ok (c.fact 54) rfl D_Book_target (FunD.bindsN G22 (ps := ["self"]) fun _ _ _ _ _ _ us hl => match us, hl with | [_], _ => rfl) rfl (by first | exact pRel.len | exact pGh.len | exact pLaw.len | exact pNo.len | exact pT.len)
  have D_Book_net := wk_Book_net (P := P) (w := w) (base := base) T (p := p_bnet) (K0 := 0) (by first | exact pRel.mono | exact pGh.mono | exact pLaw.mono | exact pNo.mono | exact pT.mono) (by first | exact pRel.len | exact pGh.len | exact pLaw.len | exact pNo.len | exact pT.len) G23 (DL.S.law_Book_net (tab.ct K))
  have r_Book_net : PrC P w K mg base (tab.ct K) 22 "net" 1 (p_bnet) := Tab.pr_ok (c.fact 53) rfl D_Book_net (FunD.bindsN G23 (ps := ["self"]) fun _ _ _ _ _ _ us hl => match us, hl with | [_], _ => rfl) rfl (by first | exact pRel.len | exact pGh.len | exact pLaw.len | exact pNo.len | exact pT.len)
  have D_Book_row_at := wk_Book_row_at (P := P) (w := w) (base := base) T (p := p_rowat) (K0 := 0) (by first | exact pRel.mono | exact pGh.mono | exact pLaw.mono | exact pNo.mono | exact pT.mono) (by first | exact pRel.len | exact pGh.len | exact pLaw.len | exact pNo.len | exact pT.len) G24 (DL.S.law_Book_row_at (tab.ct K))
  have e_Book_row_at : MeC P w K mg base (tab.ct K) 22 "Book" "row_at" 1 ["self", "key"] (p_rowat) := Tab.me_ok (c.fact 51) rfl (by decide) D_Book_row_at (FunD.bindsN G24 (ps := ["self", "key"]) fun _ _ _ _ _ _ us hl => match us, hl with | [_, _], _ => rfl) (by first | exact pRel.len | exact pGh.len | exact pLaw.len | exact pNo.len | exact pT.len)
  have D_Net_far := wk_Net_far (P := P) (w := w) (base := base) T (p := p_nfar) (K0 := 0) (by first | exact pRel.mono | exact pGh.mono | exact pLaw.mono | exact pNo.mono | exact pT.mono) (by first | exact pRel.len | exact pGh.len | exact pLaw.len | exact pNo.len | exact pT.len) G25 (DL.S.law_Net_far (tab.ct K))
  have e_Net_far : MeC P w K mg base (tab.ct K) 3 "Net" "far" 1 ["self", "link", "node"] (p_nfar) := Tab.me_ok (c.fact 52) rfl (by decide) D_Net_far (FunD.bindsN G25 (ps := ["self", "link", "node"]) fun _ _ _ _ _ _ us hl => match us, hl with | [_, _, _], _ => rfl) (by first | exact pRel.len | exact pGh.len | exact pLaw.len | exact pNo.len | exact pT.len)
  have c_next_stop : FnC P w K mg base (tab.ct K) "next_stop" 3 ["book", "stop", "outage"] (p_nstop) := ⟨He.glo_ok inK G (c.fact 43), G26.kp, wk_next_stop T (K0 := 2) (by first | exact pRel.mono | exact pGh.mono | exact pLaw.mono | exact pNo.mono | exact pT.mono) (by first | exact pRel.len | exact pGh.len | exact pLaw.len | exact pNo.len | exact pT.len) e_Book_row_at (by omega) e_Net_far (by omega) r_Book_net (by omega) G26 (DL.S.law_next_stop (tab.ct K)), (FunD.bindsN G26 (ps := ["book", "stop", "outage"]) fun _ _ _ _ _ _ us hl => match us, hl with | [_, _, _], _ => rfl), (by first | exact pRel.len | exact pGh.len | exact pLaw.len | exact pNo.len | exact pT.len)⟩
  have c_walked : FnC P w K mg base (tab.ct K) "walked" 4 ["book", "start", "outage"] (p_walked) := ⟨He.glo_ok inK G (c.fact 44), G27.kp, wk_walked T (K0 := 3) (by first | exact pRel.mono | exact pGh.mono | exact pLaw.mono | exact pNo.mono | exact pT.mono) (by first | exact pRel.len | exact pGh.len | exact pLaw.len | exact pNo.len | exact pT.len) c_next_stop (by omega) r_Book_target (by omega) G27 (DL.S.law_walked (tab.ct K)), (FunD.bindsN G27 (ps := ["book", "start", "outage"]) fun _ _ _ _ _ _ us hl => match us, hl with | [_, _, _], _ => rfl), (by first | exact pRel.len | exact pGh.len | exact pLaw.len | exact pNo.len | exact pT.len)⟩
  have c_fate : FnC P w K mg base (tab.ct K) "fate" 5 ["book", "start", "outage"] (p_fate) := ⟨He.glo_ok inK G (c.fact 45), G28.kp, wk_fate T (K0 := 4) (by first | exact pRel.mono | exact pGh.mono | exact pLaw.mono | exact pNo.mono | exact pT.mono) (by first | exact pRel.len | exact pGh.len | exact pLaw.len | exact pNo.len | exact pT.len) c_walked (by omega) G28 (DL.S.law_fate (tab.ct K)), (FunD.bindsN G28 (ps := ["book", "start", "outage"]) fun _ _ _ _ _ _ us hl => match us, hl with | [_, _, _], _ => rfl), (by first | exact pRel.len | exact pGh.len | exact pLaw.len | exact pNo.len | exact pT.len)⟩
  have c_law_right : FnC P w K mg base (tab.ct K) "_law_right" 9 ["_law_nodes", "_law_links", "_law_target", "_law_outage_here", "_law_calm"] (K27.p_lright) := ⟨He.glo_ok inK G (c.fact 46), G29.kp, wk_law_right T (K0 := 8) (by first | exact pRel.mono | exact pGh.mono | exact pLaw.mono | exact pNo.mono | exact pT.mono) (by first | exact pRel.len | exact pGh.len | exact pLaw.len | exact pNo.len | exact pT.len) c_law_labels (by omega) c_fate (by omega) m_Net (by omega) z_Book_turning (by omega) G29 (K27.law_law_right (tab.ct K)), (FunD.bindsN G29 (ps := ["_law_nodes", "_law_links", "_law_target", "_law_outage_here", "_law_calm"]) fun _ _ _ _ _ _ us hl => match us, hl with | [_, _, _, _, _], _ => rfl), (by first | exact pRel.len | exact pGh.len | exact pLaw.len | exact pNo.len | exact pT.len)⟩
  exact FnOk.toG (wk_law T (K0 := 9) (by first | exact pRel.mono | exact pGh.mono | exact pLaw.mono | exact pNo.mono | exact pT.mono) (by first | exact pRel.len | exact pGh.len | exact pLaw.len | exact pNo.len | exact pT.len) c_law_deck (by omega) c_law_net (by omega) c_law_outage (by omega) c_law_right (by omega) c_law_thinned (by omega) c_law_next (by omega) G30 (K27.law_law (tab.ct K))).ok
end
end K27
open PySem PySem.W PySem.Calls PyProof.Rows
theorem PySem.Challenge.cw_sparerows_k27_whole_turning_books_come_h_holds : PySem.Challenge.rw_sparerows_k27_whole_turning_books_come_h.Holds := by
  w_on; o_law
  refine HandSHeadRun.head_any (r := OpenLaw.row PySem.Challenge.rw_sparerows_k27_whole_turning_books_come_h) (q := view (OpenLaw.row PySem.Challenge.rw_sparerows_k27_whole_turning_books_come_h).prog [35]) (H := K27.hk) (ob := K27.ob) (M := 20000) (loose := K27.loose) (d := HandSHeadRun.topDef (OpenLaw.row PySem.Challenge.rw_sparerows_k27_whole_turning_books_come_h).prog 35) (kwd := []) K27.ob_eq
    (by kernel_rfl) (fun s => by kernel_rfl) K27.run (by kernel_rfl) (by kernel_rfl) (by kernel_rfl) (by rfl) (by first | assumption | decide +kernel) (by decide +kernel) ⟨rfl, rfl, rfl, rfl, rfl, by decide +kernel⟩ ?hw ?hc
  case hw => w_witness2
  case hc =>
    refine DL.walk_ofG (l := PySem.Challenge.rw_sparerows_k27_whole_turning_books_come_h) (n := 63) (k := 10) (x := "_law_script") rfl (by decide) (by kernel_rfl) ⟨⟨rfl, by decide, by decide⟩, rfl⟩ ?_
    intro w mg fa h Y G hmg0
    obtain ⟨K, inK, c⟩ := Y
    have hmg : mg ("law" : PySem.Str) = some (.ref fa) := by
      have e : (HandSHeadRun.topDef (OpenLaw.row PySem.Challenge.rw_sparerows_k27_whole_turning_books_come_h).prog 35).name = ("law" : PySem.Str) := by kernel_rfl
      rw [← e]
      exact hmg0
    obtain ⟨fd, hb, hF⟩ := K27.facts (P := (PySem.Challenge.rw_sparerows_k27_whole_turning_books_come_h).prog) (w := w) inK G hmg c
    exact ⟨K, fd, _, inK, DL.noLstB_ok (c.fact 26), hb, fun a o is hl => DL.law_prom hl, fun B _ _ => hF B⟩



