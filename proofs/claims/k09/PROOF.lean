import PyProof.Rows.All
import Wide.All
import OpenK.AllK
import Wide.FinOn
import HandS.ForMost
import HandS.ForExc
import HandS.IsInst
import HandS.TupAny
import HandS.Wide
import KE.KDictCopyH
import KE.KDictKeyed
import HandS.Lambda
import HandS.Walk
import HandS.CallSlots
import HandS.Defaults
import HandS.WordsExc
import HandS.Deep
import KE.SortData
import HandS.SortOrd
import PyProof.TupleOfSeq
import HandS.Zip
import KE.GoesEnum
import HandS.Style
import HandS.ExcInit
import HandS.ExcField
import HandS.ExcIs
import HandS.Words
import HandS.HeadHook2
import HandS.Ends
import HandS.HeadEnd
import HandS.HeadHook1
import HandS.Head0
import HandS.Head1
import HandS.Head2
import HandS.Property
import HandS.OwnEq
import HandS.ClsMeth
import HandS.CallLocal
import KE.KCallOwn
import HandS.Strs
import HandS.Conv
import KE.KTupSum
import HandS.FStr
import HandS.Iter
import HandS.More
import HandS.Star
import HandS.Flt
import HandS.DictComp
import KE.KDictPairs
import HandS.EndTab
import HandS.SortKw
import KE.SortKeyHeap
import PyProof.InstNe
import KE.KEqDict
import HandS.Set
import HandS.TupSets
import KE.DataMinMax
import HandS.TupLe
import KE.DataCmp
import HandS.TupLen
import PySem.Challenge.RW_sparerows_k09_sets_refused
set_option Elab.async false
set_option linter.all false
set_option maxRecDepth 100000
set_option maxHeartbeats 1000000
namespace DL
open PySem PySem.Spec PyProof.Rows L2

inductive Dat where
  | non | bl (b : Bool) | int (i : Int) | str (x : Str)
  | tup (xs : List Dat) | lst (xs : List Dat) | dct (kvs : List (Dat × Dat))
  | ins (c : Nat) (xs : List Dat) | obj (k : Nat) | ref (a : Addr) | ty (n : String) | cls (c : Nat)
  deriving Inhabited

structure Ct where
  addr : Nat → Addr
  flds : Nat → List Str
  /-- plain classes of instances -/
  own : Nat → Bool := fun _ => false
  /-- of which kind: class and class, class and built-in type, built-in type and class -/
  isaI : Nat → Nat → Option Bool := fun _ _ => none
  isaB : Nat → String → Option Bool := fun _ _ => none
  isaT : String → Nat → Option Bool := fun _ _ => none
  /-- tables of code objects, each with the name of what is made there -/
  tabs : List (Addr × Str) := []

def dxo (a : Addr) (es : Array DictEntry) : HO := .ext fun h => ∃ o ep, h.get? a = some o ∧ o.ExactDict ∧ o.data = .dict es ep
def NTo (o : HO) : Prop := ∀ ps, o ≠ .tbl ps
def Calm (x : Option HO) : Prop := (∀ ps, x ≠ some (.tbl ps)) ∧ ∀ c q, x ≠ some (LamX.CodeO c q)
theorem codeO_ext (c : Addr) (q : Str) : ∃ f, LamX.CodeO c q = .ext f := ⟨_, rfl⟩
theorem Calm.none {x : Option HO} (h : x = .none) : Calm x := by subst h; exact ⟨fun _ z => (nomatch z), fun _ _ z => (nomatch z)⟩
theorem Calm.lst {x : Option HO} {vs : List V} (h : x = some (.lst vs)) : Calm x := by
  subst h
  exact ⟨fun _ z => (nomatch z), fun c q z => by obtain ⟨f, e⟩ := codeO_ext c q; rw [e] at z; cases z⟩
theorem Calm.tup {x : Option HO} {vs : List V} (h : x = some (.tup vs)) : Calm x := by
  subst h
  exact ⟨fun _ z => (nomatch z), fun c q z => by obtain ⟨f, e⟩ := codeO_ext c q; rw [e] at z; cases z⟩
theorem Calm.dK {x : Option HO} {ks : List (Key × V)} (h : x = some (.dK ks)) : Calm x := by
  subst h
  exact ⟨fun _ z => (nomatch z), fun c q z => by obtain ⟨f, e⟩ := codeO_ext c q; rw [e] at z; cases z⟩
theorem Calm.ins {x : Option HO} {a d : Addr} {fs : List (Str × V)} (h : x = some (.ins a d fs)) : Calm x := by
  subst h
  exact ⟨fun _ z => (nomatch z), fun c q z => by obtain ⟨f, e⟩ := codeO_ext c q; rw [e] at z; cases z⟩
theorem Calm.xd {x : Option HO} {fs : List (Str × V)} (h : x = some (.xd fs)) : Calm x := by
  subst h
  exact ⟨fun _ z => (nomatch z), fun c q z => by obtain ⟨f, e⟩ := codeO_ext c q; rw [e] at z; cases z⟩
theorem dxo_ne (a : Addr) (es : Array DictEntry) (c : Addr) (q : Str) : dxo a es ≠ LamX.CodeO c q := by
  intro z
  unfold dxo LamX.CodeO at z
  injection z with z
  have h := congrFun z ({ objs := Array.replicate (a + 1) { cls := .type "dict", data := .dict es } } : Heap)
  have h1 : ({ objs := Array.replicate (a + 1) { cls := .type "dict", data := .dict es } } : Heap).get? a = some { cls := .type "dict", data := .dict es } := by
    simp [Heap.get?]
  have h2 : ∃ (oc : Obj) (vs : Array Value) (t : Tok), ({ objs := Array.replicate (a + 1) { cls := .type "dict", data := .dict es } } : Heap).get? c = some oc ∧ oc.data = .fields vs ∧ vs[1]? = some (.str q t) := h.mp ⟨_, _, h1, ⟨rfl, rfl, rfl⟩, rfl⟩
  obtain ⟨oc, vs, t, e1, e2, _⟩ := h2
  have e3 : oc = { cls := .type "dict", data := .dict es } := by
    have : c < a + 1 := by
      have := Heap.lt_size e1
      simpa using this
    have e4 : ({ objs := Array.replicate (a + 1) { cls := .type "dict", data := .dict es } } : Heap).get? c = some { cls := .type "dict", data := .dict es } := by
      simp [Heap.get?, this]
    rw [e1] at e4
    exact Option.some.inj e4
  subst e3
  cases e2
theorem Calm.dx {x : Option HO} {a : Addr} {es : Array DictEntry} (h : x = some (dxo a es)) : Calm x := by
  subst h
  exact ⟨fun _ z => (by have z' := Option.some.inj z; unfold dxo at z'; cases z'), fun c q z => dxo_ne a es c q (Option.some.inj z)⟩
theorem Calm.nt {x : Option HO} {o : HO} (h : Calm x) (e : x = some o) : NTo o := fun ps z => h.1 ps (by rw [e, z])
theorem Tabs_upd {T : List (Addr × Str)} {H : Hp} {p : Addr} {o : HO} (t : LamX.Tabs T H) (h : Calm (H p)) : LamX.Tabs T (upd H p o) := fun q hq => by
  obtain ⟨ps, h1, h2, h3⟩ := t q hq
  refine ⟨ps, ?_, h2, fun pos cv hc => ?_⟩
  · rw [upd_ne (fun z => h.1 ps (by rw [← z]; exact h1))]
    exact h1
  · obtain ⟨c, e1, e2⟩ := h3 pos cv hc
    refine ⟨c, e1, ?_⟩
    rw [upd_ne (fun z => h.2 c q.2 (by rw [← z]; exact e2))]
    exact e2

mutual
def keyN : Dat → Option NestedKey
  | .non => some .none
  | .bl b => some (.num (if b = true then 1 else 0))
  | .int i => some (.num i)
  | .str x => some (.text x)
  | .tup xs => (keyNs xs).map .tup
  | _ => none
def keyNs : List Dat → Option (List NestedKey)
  | [] => some []
  | x :: xs => match keyN x, keyNs xs with
    | some k, some ks => some (k :: ks)
    | _, _ => none
end
def hashD (w : World) (k : Dat) : Int := match keyN k with
  | some n => n.hash w
  | none => 0

mutual
inductive Fz (C : Ct) (w : World) (K : PySem.W.Frag) (al : List Addr) (G : Hp) : V → Dat → Prop
  | non : Fz C w K al G .non .non
  | bl (b : Bool) : Fz C w K al G (.bl b) (.bl b)
  | int (i : Int) : Fz C w K al G (.int i) (.int i)
  | str (x : Str) : Fz C w K al G (.str x) (.str x)
  | ty (n : String) : Fz C w K al G (.ty n) (.ty n)
  | ref (a : Addr) : Fz C w K al G (.ref a) (.ref a)
  | cls (c : Nat) : Fz C w K al G (.ref (C.addr c)) (.cls c)
  | tup {a vs ds} : SqT K G a vs → FzAll C w K al G vs ds → Fz C w K al G (.ref a) (.tup ds)
  | lst {a vs ds} : Rd G a (.lst vs) → FzAll C w K al G vs ds → Fz C w K al G (.ref a) (.lst ds)
  | dct {a es kvs} : G a = some (dxo a es) → (a == sysModules) = false → FzEs C w K al G es.toList kvs → Fz C w K al G (.ref a) (.dct kvs)
  | ins {a dx c vs ds} : G a = some (.ins (C.addr c) dx ((C.flds c).zip vs)) → vs.length = (C.flds c).length → FzAll C w K al G vs ds → Fz C w K al G (.ref a) (.ins c ds)
  | obj {k a} : al[k]? = some a → Fz C w K al G (.ref a) (.obj k)
inductive FzAll (C : Ct) (w : World) (K : PySem.W.Frag) (al : List Addr) (G : Hp) : List V → List Dat → Prop
  | nil : FzAll C w K al G [] []
  | cons {v vs d ds} : Fz C w K al G v d → FzAll C w K al G vs ds → FzAll C w K al G (v :: vs) (d :: ds)
inductive FzEs (C : Ct) (w : World) (K : PySem.W.Frag) (al : List Addr) (G : Hp) : List DictEntry → List (Dat × Dat) → Prop
  | nil : FzEs C w K al G [] []
  | cons {e es kv vv k v r} : RelV kv e.key → Fz C w K al G kv k → RelV vv e.val → Fz C w K al G vv v → e.hash = hashD w k → FzEs C w K al G es r → FzEs C w K al G (e :: es) ((k, v) :: r)
end

section
variable {C : Ct} {w : World} {K : PySem.W.Frag} {al al' : List Addr} {G G' : Hp}
theorem Rd.keep {a : Addr} {u : HO} (h : ∀ a o, G a = some o → G' a = some o) (r : Rd G a u) : Rd G' a u := by
  rcases r with r | ⟨o, r⟩
  · exact .inl (h _ _ r)
  · exact .inr ⟨o, h _ _ r⟩
theorem SqL.keep {a : Addr} {xs : List V} (h : ∀ a o, G a = some o → G' a = some o) (r : SqL K G a xs) : SqL K G' a xs := by
  rcases r with r | r
  · exact .inl (Rd.keep h r)
  · exact .inr r
theorem SqT.keep {a : Addr} {xs : List V} (h : ∀ a o, G a = some o → G' a = some o) (r : SqT K G a xs) : SqT K G' a xs := by
  rcases r with r | r
  · exact .inl (Rd.keep h r)
  · exact .inr r
mutual
theorem Fz.keep (h : ∀ a o, G a = some o → G' a = some o) (ha : ∀ (k : Nat) a, al[k]? = some a → al'[k]? = some a) : ∀ {v d}, Fz C w K al G v d → Fz C w K al' G' v d
  | _, _, .non => .non
  | _, _, .bl b => .bl b
  | _, _, .int i => .int i
  | _, _, .str x => .str x
  | _, _, .ty n => .ty n
  | _, _, .ref a => .ref a
  | _, _, .cls c => .cls c
  | _, _, .tup s r => .tup (SqT.keep h s) (FzAll.keep h ha r)
  | _, _, .lst s r => .lst (Rd.keep h s) (FzAll.keep h ha r)
  | _, _, .dct e s r => .dct (h _ _ e) s (FzEs.keep h ha r)
  | _, _, .ins e l r => .ins (h _ _ e) l (FzAll.keep h ha r)
  | _, _, .obj e => .obj (ha _ _ e)
theorem FzAll.keep (h : ∀ a o, G a = some o → G' a = some o) (ha : ∀ (k : Nat) a, al[k]? = some a → al'[k]? = some a) : ∀ {v d}, FzAll C w K al G v d → FzAll C w K al' G' v d
  | _, _, .nil => .nil
  | _, _, .cons x r => .cons (Fz.keep h ha x) (FzAll.keep h ha r)
theorem FzEs.keep (h : ∀ a o, G a = some o → G' a = some o) (ha : ∀ (k : Nat) a, al[k]? = some a → al'[k]? = some a) : ∀ {v d}, FzEs C w K al G v d → FzEs C w K al' G' v d
  | _, _, .nil => .nil
  | _, _, .cons r1 x r2 y e r => .cons r1 (Fz.keep h ha x) r2 (Fz.keep h ha y) e (FzEs.keep h ha r)
end
theorem FzAll.length {vs ds} : FzAll C w K al G vs ds → vs.length = ds.length := by
  intro h
  induction ds generalizing vs with
  | nil => cases h; rfl
  | cons d ds ih =>
    cases h with
    | cons x r => simp [ih r]
theorem FzAll.get {vs ds} {i : Nat} {d : Dat} (h : FzAll C w K al G vs ds) (e : ds[i]? = some d) : ∃ v, vs[i]? = some v ∧ Fz C w K al G v d := by
  induction ds generalizing vs i with
  | nil => simp at e
  | cons x ds ih =>
    cases h with
    | cons y r =>
      cases i with
      | zero => simp at e; subst e; exact ⟨_, rfl, y⟩
      | succ i => simp at e; obtain ⟨v, h1, h2⟩ := ih r e; exact ⟨v, by simpa using h1, h2⟩
theorem FzAll.set {vs ds v d} (n : Nat) (h : FzAll C w K al G vs ds) (x : Fz C w K al G v d) : FzAll C w K al G (vs.set n v) (ds.set n d) := by
  induction ds generalizing vs n with
  | nil => cases h; exact .nil
  | cons e ds ih =>
    cases h with
    | cons y r =>
      cases n with
      | zero => exact .cons x r
      | succ n => exact .cons y (ih n r)
end

inductive Mo where
  | lst (xs : List Dat)
  | ins (c : Nat) (xs : List Dat)
  | dct (kvs : List (Dat × Dat))
inductive Sl where
  | f (d : Dat)
  | own (x : Mo)
inductive Lv where
  | f (d : Dat)
  | o (i : Nat)
abbrev Mem := List Mo
abbrev Env' := List (Option Sl)

structure Nw where
  G : Hp
  al : List Addr
  H : Hp
structure Nw.le (a b : Nw) : Prop where
  g : ∀ p o, a.G p = some o → b.G p = some o
  keepN : ∀ p o, a.H p = some o → p ∉ a.al → NTo o → b.H p = some o
  there : ∀ p, a.H p ≠ none → b.H p ≠ none
  gnew : ∀ p, a.H p ≠ none → b.G p = a.G p
  ale : a.al <+: b.al
  anew : ∀ (k : Nat) p, a.al.length ≤ k → b.al[k]? = some p → a.H p = none
theorem Nw.le.keep {a b : Nw} (l : a.le b) (p : Addr) (o : HO) (h : a.H p = some o) (hn : p ∉ a.al) (nt : NTo o := by first | assumption | (intro ps z; cases z; done) | exact (Calm.dx rfl).nt rfl) : b.H p = some o := l.keepN p o h hn nt
theorem pre_get {α : Type} {a b : List α} (h : a <+: b) (k : Nat) (x : α) (e : a[k]? = some x) : b[k]? = some x := by
  obtain ⟨t, rfl⟩ := h
  rw [List.getElem?_append_left (List.getElem?_eq_some_iff.mp e).1]; exact e
theorem pre_back {α : Type} {a b : List α} (h : a <+: b) {k : Nat} {x : α} (e : b[k]? = some x) (hk : k < a.length) : a[k]? = some x := by
  obtain ⟨t, rfl⟩ := h
  rw [List.getElem?_append_left hk] at e; exact e
theorem Nw.le.nal {a b : Nw} (h : a.le b) {p : Addr} (e : a.H p ≠ none) (n : p ∉ a.al) : p ∉ b.al := fun z => by
  obtain ⟨k, hk⟩ := List.getElem?_of_mem z
  by_cases hl : k < a.al.length
  · exact n (List.mem_of_getElem? (pre_back h.ale hk hl))
  · exact e (h.anew k p (by omega) hk)
theorem Nw.le.trans {a b c : Nw} (h : a.le b) (h' : b.le c) : a.le c where
  g := fun p o e => h'.g p o (h.g p o e)
  keepN := fun p o e n nt => h'.keepN p o (h.keepN p o e n nt) (h.nal (by rw [e]; simp) n) nt
  there := fun p e => h'.there p (h.there p e)
  gnew := fun p e => (h'.gnew p (h.there p e)).trans (h.gnew p e)
  ale := h.ale.trans h'.ale
  anew := fun k p hk e => by
    by_cases hl : k < b.al.length
    · exact h.anew k p hk (pre_back h'.ale e hl)
    · have q := h'.anew k p (by omega) e
      cases z : a.H p with
      | none => rfl
      | some o => exact absurd q (h.there p (by rw [z]; simp))

section
variable (C : Ct) (w : World) (K : PySem.W.Frag)
abbrev FzN (n : Nw) : V → Dat → Prop := Fz C w K n.al n.G
abbrev FzAllN (n : Nw) : List V → List Dat → Prop := FzAll C w K n.al n.G
def MoOk (n : Nw) (a : Addr) : Mo → Prop
  | .lst xs => ∃ vs, n.H a = some (.lst vs) ∧ FzAllN C w K n vs xs
  | .ins c xs => ∃ dx vs, n.H a = some (.ins (C.addr c) dx ((C.flds c).zip vs)) ∧ vs.length ≤ (C.flds c).length ∧ FzAllN C w K n vs xs
  | .dct kvs => ∃ es, n.H a = some (dxo a es) ∧ (a == sysModules) = false ∧ FzEs C w K n.al n.G es.toList kvs
structure Good (n : Nw) (m : Mem) : Prop where
  sub : ∀ p o, n.G p = some o → n.H p = some o
  nd : n.al.Nodup
  len : m.length = n.al.length
  at_ : ∀ (k : Nat) x a, m[k]? = some x → n.al[k]? = some a → MoOk C w K n a x ∧ n.G a = none
  tab : LamX.Tabs C.tabs n.H
  tg : ∀ q ∈ C.tabs, n.G q.1 = none
structure OwnAt (B n : Nw) (a : Addr) (x : Mo) : Prop where
  ok : MoOk C w K n a x
  g : n.G a = none
  al : a ∉ n.al
  new : B.H a = none
structure EnvOk (B n : Nw) (env : Env') (σ : L2.St) : Prop where
  len : env.length = σ.length
  fz : ∀ (i : Nat) d, env[i]? = some (some (.f d)) → ∃ v, σ[i]? = some (some v) ∧ FzN C w K n v d
  own : ∀ (i : Nat) x, env[i]? = some (some (.own x)) → ∃ a, σ[i]? = some (some (.ref a)) ∧ OwnAt C w K B n a x
  apart : ∀ (i j : Nat) x y a, env[i]? = some (some (.own x)) → env[j]? = some (some (.own y)) → σ[i]? = some (some (.ref a)) → σ[j]? = some (some (.ref a)) → i = j
structure Ok (B n : Nw) (env : Env') (m : Mem) (σ : L2.St) : Prop where
  good : Good C w K n m
  base : B.le n
  env : EnvOk C w K B n env σ
def LvOk (n : Nw) (env : Env') (σ : L2.St) (v : V) : Lv → Prop
  | .f d => FzN C w K n v d
  | .o i => σ[i]? = some (some v) ∧ ∃ x, env[i]? = some (some (.own x))
end

section
variable {C : Ct} {w : World} {K : PySem.W.Frag} {B n n' : Nw} {m m' : Mem} {env : Env'} {σ : L2.St}
theorem FzN.le {v d} (h : FzN C w K n v d) (l : n.le n') : FzN C w K n' v d := Fz.keep l.g (pre_get l.ale) h
theorem FzAllN.le {v d} (h : FzAllN C w K n v d) (l : n.le n') : FzAllN C w K n' v d := FzAll.keep l.g (pre_get l.ale) h
theorem MoOk.there {a : Addr} {x : Mo} (h : MoOk C w K n a x) : n.H a ≠ none := by
  cases x with
  | lst xs => obtain ⟨vs, e, r⟩ := h; rw [e]; simp
  | ins c xs => obtain ⟨dx, vs, e, z, r⟩ := h; rw [e]; simp
  | dct kvs => obtain ⟨es, e, z, r⟩ := h; rw [e]; simp
theorem MoOk.imp {a : Addr} {x : Mo} (hg : ∀ p o, n.G p = some o → n'.G p = some o) (ha : ∀ (k : Nat) a, n.al[k]? = some a → n'.al[k]? = some a) (hH : ∀ u, n.H a = some u → n'.H a = some u) (h : MoOk C w K n a x) : MoOk C w K n' a x := by
  cases x with
  | lst xs => obtain ⟨vs, e, r⟩ := h; exact ⟨vs, hH _ e, FzAll.keep hg ha r⟩
  | ins c xs => obtain ⟨dx, vs, e, z, r⟩ := h; exact ⟨dx, vs, hH _ e, z, FzAll.keep hg ha r⟩
  | dct kvs => obtain ⟨es, e, z, r⟩ := h; exact ⟨es, hH _ e, z, FzEs.keep hg ha r⟩
theorem MoOk.calm {a : Addr} {x : Mo} (h : MoOk C w K n a x) : Calm (n.H a) := by
  cases x with
  | lst xs => obtain ⟨vs, e, r⟩ := h; exact Calm.lst e
  | ins c xs => obtain ⟨dx, vs, e, z, r⟩ := h; exact Calm.ins e
  | dct kvs => obtain ⟨es, e, z, r⟩ := h; exact Calm.dx e
theorem MoOk.impN {a : Addr} {x : Mo} (hg : ∀ p o, n.G p = some o → n'.G p = some o) (ha : ∀ (k : Nat) a, n.al[k]? = some a → n'.al[k]? = some a) (hH : ∀ u, n.H a = some u → NTo u → n'.H a = some u) (h : MoOk C w K n a x) : MoOk C w K n' a x :=
  h.imp hg ha fun u e => hH u e (h.calm.nt e)
theorem OwnAt.le {a : Addr} {x : Mo} (h : OwnAt C w K B n a x) (l : n.le n') : OwnAt C w K B n' a x :=
  ⟨h.ok.impN l.g (pre_get l.ale) fun u e nt => l.keepN a u e h.al nt, (l.gnew a h.ok.there).trans h.g, l.nal h.ok.there h.al, h.new⟩
theorem EnvOk.le (h : EnvOk C w K B n env σ) (l : n.le n') : EnvOk C w K B n' env σ :=
  ⟨h.len, fun i d e => let ⟨v, e1, h1⟩ := h.fz i d e; ⟨v, e1, FzN.le h1 l⟩, fun i x e => let ⟨a, e1, h1⟩ := h.own i x e; ⟨a, e1, h1.le l⟩, h.apart⟩
theorem LvOk.le {v x} (h : LvOk C w K n env σ v x) (l : n.le n') : LvOk C w K n' env σ v x := by
  cases x with
  | f d => exact FzN.le (n := n) h l
  | o k => exact h
theorem Good.free (o : Good C w K n m) {p : Addr} (h : n.H p = none) : n.G p = none ∧ p ∉ n.al := by
  refine ⟨?_, fun z => ?_⟩
  · cases e : n.G p with
    | none => rfl
    | some u => have := o.sub p u e; rw [h] at this; cases this
  · obtain ⟨k, hk⟩ := List.getElem?_of_mem z
    have hk2 : k < m.length := by rw [o.len]; exact (List.getElem?_eq_some_iff.mp hk).1
    exact (o.at_ k _ p (List.getElem?_eq_getElem hk2) hk).1.there h
theorem Good.at {p : Addr} {o : HO} (g : Good C w K n m) (hg : n.G p = none) (ha : p ∉ n.al) (hc : Calm (n.H p) := by first | assumption | exact Calm.none (by assumption) | exact Calm.lst (by assumption) | exact Calm.dx (by assumption) | exact Calm.ins (by assumption) | exact Calm.dK (by assumption) | exact Calm.xd (by assumption) | exact Calm.tup (by assumption) | exact Calm.lst upd_same | exact Calm.dx upd_same | exact Calm.dK upd_same | exact Calm.ins upd_same | exact Calm.xd upd_same) : Good C w K ⟨n.G, n.al, upd n.H p o⟩ m :=
  ⟨fun a u e => by
    show upd n.H p o a = some u
    rw [upd_ne (fun z => by subst z; have e' : n.G a = some u := e; rw [hg] at e'; cases e')]; exact g.sub a u e, g.nd, g.len, fun k x a e1 e2 => by
    obtain ⟨h1, h2⟩ := g.at_ k x a e1 e2
    have na : a ≠ p := fun z => ha (z ▸ List.mem_of_getElem? e2)
    exact ⟨h1.imp (n := n) (fun _ _ e => e) (fun _ _ e => e) (fun u e => by
      show upd n.H p o a = some u
      rw [upd_ne na]; exact e), h2⟩, Tabs_upd g.tab hc, g.tg⟩
theorem Nw.le.at {p : Addr} {o : HO} (l : B.le n) (hb : B.H p = none) : B.le ⟨n.G, n.al, upd n.H p o⟩ :=
  ⟨l.g, fun a u e k nt => by
    show upd n.H p o a = some u
    rw [upd_ne (fun z => by subst z; rw [hb] at e; cases e)]; exact l.keepN a u e k nt, fun a e => by
    show upd n.H p o a ≠ none
    rw [upd_ne (fun z => by subst z; exact e hb)]; exact l.there a e, l.gnew, l.ale, l.anew⟩
theorem OwnAt.at {p a : Addr} {o : HO} {x : Mo} (h : OwnAt C w K B n a x) (ne : a ≠ p) : OwnAt C w K B ⟨n.G, n.al, upd n.H p o⟩ a x :=
  ⟨h.ok.imp (n := n) (fun _ _ e => e) (fun _ _ e => e) fun u e => by
    show upd n.H p o a = some u
    rw [upd_ne ne]; exact e, h.g, h.al, h.new⟩
end
end DL

set_option maxHeartbeats 1000000
namespace DL
open PySem PySem.Spec PyProof.Rows L2

abbrev QD := Dat → Mem → Prop
structure En where
  nx : Env' → Mem → Prop
  rt : Dat → Mem → Prop
  bk : Env' → Mem → Prop := fun _ _ => False
  ct : Env' → Mem → Prop := fun _ _ => False
abbrev Op1 := Env' → Mem → Lv → QD → Prop
abbrev Op2 := Env' → Mem → Lv → Lv → QD → Prop
abbrev OpN := Env' → Mem → List Lv → QD → Prop

inductive LvsOk (C : Ct) (w : World) (K : PySem.W.Frag) (n : Nw) (env : Env') (σ : L2.St) : List V → List Lv → Prop
  | nil : LvsOk C w K n env σ [] []
  | cons {v vs x xs} : LvOk C w K n env σ v x → LvsOk C w K n env σ vs xs → LvsOk C w K n env σ (v :: vs) (x :: xs)
abbrev AftD (C : Ct) (w : World) (K : PySem.W.Frag) (n : Nw) (Q : VK) : QD := fun x m' => ∀ n' v, Good C w K n' m' → n.le n' → FzN C w K n' v x → Q v n'.H
structure Nw.sub (a b : Nw) : Prop where
  g : ∀ p o, a.G p = some o → b.G p = some o
  l : a.al <+: b.al
theorem Nw.sub.trans {a b c : Nw} (h : a.sub b) (h' : b.sub c) : a.sub c := ⟨fun p o e => h'.g p o (h.g p o e), h.l.trans h'.l⟩
theorem Nw.le.sub {a b : Nw} (h : a.le b) : a.sub b := ⟨h.g, h.ale⟩
def lD (C : Ct) (B : Nw) (w : World) (K : PySem.W.Frag) (n₀ : Nw) (D : Ends) : En :=
  ⟨fun env m => ∀ n σ, n₀.sub n → Ok C w K B n env m σ → D.nx σ n.H, fun x m => ∀ n v, B.le n → Good C w K n m → FzN C w K n v x → D.rt v n.H,
    fun env m => ∀ n σ, n₀.sub n → Ok C w K B n env m σ → D.bk σ n.H, fun env m => ∀ n σ, n₀.sub n → Ok C w K B n env m σ → D.ct σ n.H⟩
structure En.le (D D' : En) : Prop where
  nx : ∀ e m, D.nx e m → D'.nx e m
  rt : ∀ x m, D.rt x m → D'.rt x m
  bk : ∀ e m, D.bk e m → D'.bk e m
  ct : ∀ e m, D.ct e m → D'.ct e m
theorem lD.le {C : Ct} {B : Nw} {w : World} {K : PySem.W.Frag} {n n' : Nw} (l : n.sub n') (D : Ends) : En.le (lD C B w K n D) (lD C B w K n' D) :=
  ⟨fun _ _ h n1 σ1 l1 => h n1 σ1 (l.trans l1), fun _ _ h => h, fun _ _ h n1 σ1 l1 => h n1 σ1 (l.trans l1), fun _ _ h n1 σ1 l1 => h n1 σ1 (l.trans l1)⟩
section
variable {C : Ct} {w : World} {K : PySem.W.Frag} {B n n' : Nw} {m m' : Mem} {env : Env'} {σ : L2.St}
theorem LvsOk.le {vs xs} (h : LvsOk C w K n env σ vs xs) (l : n.le n') : LvsOk C w K n' env σ vs xs := by
  induction h with
  | nil => exact .nil
  | cons a _ ih => exact .cons (a.le l) ih
theorem LvsOk.length {vs xs} (h : LvsOk C w K n env σ vs xs) : vs.length = xs.length := by
  induction h with
  | nil => rfl
  | cons _ _ ih => simp [ih]
end

section
variable {X : Cx}
theorem imp {e : Expr} {t t' : TE} (h : PE X e t) (i : ∀ σ H Q, t' σ H Q → t σ H Q) : PE X e t' := ⟨fun pins s σ H Q I q => h.run pins s σ H Q I (i σ H Q q)⟩
end

def r1 (C : Ct) (w : World) (K : PySem.W.Frag) (f : Op1) : V → Hp → VK → Prop := fun v H Q => ∃ B n env m σ x, n.H = H ∧ Ok C w K B n env m σ ∧ LvOk C w K n env σ v x ∧ f env m x (AftD C w K n Q)
def r2 (C : Ct) (w : World) (K : PySem.W.Frag) (f : Op2) : R2 := fun v u H Q => ∃ B n env m σ x y, n.H = H ∧ Ok C w K B n env m σ ∧ LvOk C w K n env σ v x ∧ LvOk C w K n env σ u y ∧ f env m x y (AftD C w K n Q)
section
variable {X : Cx} {C : Ct} {B : Nw} {a b e : Expr} {da db d : TD} {pos : Pos}
variable {p q : TB} {rest : List Expr}
end
end DL

set_option maxHeartbeats 1000000
namespace DL
open PySem PySem.Spec PyProof.Rows L2

section
variable {C : Ct} {w : World} {K : PySem.W.Frag} {B n : Nw} {m : Mem}
end
section
variable {X : Cx} {pos : Pos}
end

section
variable {X : Cx} {C : Ct} {B : Nw} {st : Stmt} {rest : List Stmt} {d u : TSd} {e : Expr} {de : TD} {pos : Pos}
end
end DL

set_option maxHeartbeats 1000000
namespace DL
open PySem PySem.Spec PyProof.Rows L2

section
variable {C : Ct} {w : World} {K : PySem.W.Frag} {B n n' : Nw} {m m' : Mem}
end
section
variable {X : Cx} {C : Ct} {B : Nw}
variable {elt te iter : Expr} {ifs : List Expr} {scope : Scope} {own : List (Str × Nat)} {pos : Pos} {tg : Tg} {dt : TB} {de : TD} {di : TId}
end

abbrev QX := Nat → List Dat → Mem → Prop
abbrev DSp := List Dat → Mem → QD → QX → Prop
section
variable {X : Cx} {C : Ct} {B : Nw} {k : Nat} {f : Addr} {fd : FuncData} {ps : List Str} {p : DSp} {EX : QXe} {x : Str} {p1 pos : Pos} {e : Expr} {es : List Expr} {da : TAd}
end
section
variable {P : Program} {w : World} {K : PySem.W.Frag} {mg : Str → Option Value} {base : Heap} {C : Ct} {x qual : Str} {params : Arguments} {body : List Stmt} {scope : Scope} {f : Addr} {fd : FuncData} {N ps : List Str} {k : Nat} {p : DSp}
end
end DL

set_option maxHeartbeats 1000000
namespace DL
open PySem PySem.Spec PyProof.Rows L2

mutual
def py : Dat → PyData
  | .bl b => .bool b
  | .int i => .int i
  | .str x => .str x
  | .tup xs => .tuple (pys xs)
  | .lst xs => .list (pys xs)
  | .dct kvs => .dict (pyk kvs)
  | _ => .none
def pys : List Dat → List PyData
  | [] => []
  | x :: xs => py x :: pys xs
def pyk : List (Dat × Dat) → List (PyData × PyData)
  | [] => []
  | (k, x) :: r => (py k, py x) :: pyk r
end
def moD : Mo → Option Dat
  | .lst xs => some (.lst xs)
  | .dct kvs => some (.dct kvs)
  | .ins _ _ => none
def der (env : Env') (m : Mem) : Lv → Option Dat
  | .f (.obj k) => match m[k]? with
    | some x => moD x
    | none => none
  | .f d => some d
  | .o i => match env[i]? with
    | some (some (.own x)) => moD x
    | _ => none
section
variable {C : Ct} {w : World} {K : PySem.W.Frag} {B n : Nw} {m : Mem} {env : Env'} {σ : L2.St}
end
section
variable {X : Cx} {C : Ct}
end
section
variable {X : Cx} {C : Ct}
end
end DL

set_option maxHeartbeats 1000000
namespace DL
open PySem PySem.Spec PyProof.Rows L2

section
variable {X : Cx} {C : Ct} {B : Nw} {e : Expr} {es : List Expr} {da : TAd} {f : OpN} {x : Str} {p pos : Pos} {id T : String}
end
section
variable {C : Ct} {w : World} {K : PySem.W.Frag} {B n : Nw} {m : Mem} {env : Env'} {σ : L2.St}
end
section
variable {X : Cx} {C : Ct}
end
section
variable {prog : Program} {w : World} {A : Around} {E : Value → Shared → Prop} {s : Shared} {l : Addr} {its : List Value} {ns : List Int} {Q : Value → Shared → Prop}
end
section
variable {X : Cx} {C : Ct}
end
end DL

set_option maxHeartbeats 1000000
namespace DL
open PySem PySem.Spec PyProof.Rows L2

structure CtOk (C : Ct) (K : PySem.W.Frag) : Prop where
  ii : ∀ c d b, C.isaI c d = some b → PySem.W.kitOne K (.ref (C.addr c)) (.ref (C.addr d)) = some b
  ib : ∀ c T b, C.isaB c T = some b → PySem.W.kitOne K (.ref (C.addr c)) (.type T) = some b
  it : ∀ T d b, C.isaT T d = some b → PySem.W.kitOne K (.type T) (.ref (C.addr d)) = some b
  cls : ∀ c, C.own c = true → Cls K (C.addr c) ∧ PySem.W.findIn K (.ref (C.addr c)) "__class__" = some (some (.builtin "object.__class__")) ∧ PySem.W.specialIn K (.builtin "object.__class__") "__get__" = some (some (.builtin "getset_descriptor.__get__")) ∧
    PySem.W.takesIn K (.builtin "object.__class__") = some true ∧ PySem.W.mroIn K (C.addr c) (.type "object") = some true
def tyN : Dat → Option String
  | .non => some "NoneType"
  | .bl _ => some "bool"
  | .int _ => some "int"
  | .str _ => some "str"
  | .tup _ => some "tuple"
  | .lst _ => some "list"
  | .dct _ => some "dict"
  | _ => none
def isT (t T : String) : Option Bool := if T = "int" then some (t = "int" || t = "bool") else if T = "bool" ∨ T = "str" ∨ T = "tuple" ∨ T = "list" ∨ T = "dict" then some (t == T) else none
def isa1 (C : Ct) (x c : Dat) : Option Bool := match c with
  | .ty T => match tyN x with
    | some t => isT t T
    | none => match x with
      | .ins c _ => if C.own c = true then C.isaB c T else none
      | _ => none
  | .cls d => match tyN x with
    | some t => C.isaT t d
    | none => match x with
      | .ins c _ => if C.own c = true then C.isaI c d else none
      | _ => none
  | _ => none
def isaL (C : Ct) (x : Dat) : List Dat → Option Bool
  | [] => some false
  | c :: r => match isa1 C x c with
    | some true => some true
    | some false => isaL C x r
    | none => none
def isaD (C : Ct) (x c : Dat) : Option Bool := match c with
  | .tup cs => if cs.isEmpty = true then none else isaL C x cs
  | c => isa1 C x c
def derI (env : Env') (m : Mem) (x : Lv) : Option Dat := match x with
  | .f (.obj k) => match m[k]? with
    | some (.ins c xs) => some (.ins c xs)
    | _ => der env m x
  | .o i => match env[i]? with
    | some (some (.own (.ins c xs))) => some (.ins c xs)
    | _ => der env m x
  | _ => der env m x
def oIsi (C : Ct) : OpN := fun env m xs Q => match xs with
  | [x, .f c] => match derI env m x with
    | some d => match isaD C d c with
      | some b => Q (.bl b) m
      | none => False
    | none => False
  | _ => False
section
variable {X : Cx} {C : Ct}
end
end DL

set_option maxHeartbeats 1000000
namespace DL
open PySem PySem.Spec PyProof.Rows L2

section
variable {C : Ct} {w : World} {K : PySem.W.Frag} {B n : Nw} {m : Mem} {env : Env'} {σ : L2.St}
end
section
variable {X : Cx} {C : Ct} {B : Nw} {e o i : Expr} {d de di : TD} {pos apos cpos : Pos}
end
end DL

set_option maxHeartbeats 1000000
namespace DL
open PySem PySem.Spec PyProof.Rows L2

section
variable {X : Cx} {CX : CXT} {k : Nat} {f : Addr} {fd : FuncData} {ps : List Str} {sp : Sp} {E : L2.St → XK} {x : Str} {p pos : Pos} {e : Expr} {es : List Expr} {t : TA}
end
section
variable {X : Cx} {C : Ct} {B : Nw} {k : Nat} {f : Addr} {fd : FuncData} {ps : List Str} {p : DSp} {EX : QXe} {x : Str} {p1 pos : Pos} {e : Expr} {es : List Expr} {da : TAd}
variable {P : Program} {w : World} {K : PySem.W.Frag} {mg : Str → Option Value} {base : Heap} {qual : Str} {params : Arguments} {body : List Stmt} {scope : Scope} {N : List Str}
end

def okR : Nat → Dat → Bool
  | _, .non => true
  | _, .bl _ => true
  | _, .int i => decide (i.natAbs.log2 < 1920)
  | _, .str _ => true
  | k + 1, .tup xs => xs.all (okR k)
  | k + 1, .lst xs => xs.all (okR k)
  | k + 1, .dct kvs => kvs.all fun p => okR k p.1 && okR k p.2
  | _, _ => false
section
variable {X : Cx} {C : Ct} {pins : List (Addr × Obj)} {σ : L2.St} {s : Shared} {n : Nw} {m : Mem}
end
end DL

set_option maxHeartbeats 1000000
namespace DL
open PySem PySem.Spec PyProof.Rows L2

section
variable {prog : Program} {w : World} {A : Around} {E : Value → Shared → Prop} {s : Shared} {β : Type} {bs : List β} {enc : β → PyData} {R : Value → β → Prop}
open PySem.W PySem.Calls in
end
section
variable {X : Cx} {C : Ct}
end
end DL

set_option maxHeartbeats 1000000
namespace DL
open PySem PySem.Spec PyProof.Rows L2

section
variable {X : Cx} {C : Ct} {B : Nw} {w : World} {K : PySem.W.Frag} {n : Nw} {m : Mem} {e e2 : Expr} {d d2 : TD}
end
end DL

set_option maxHeartbeats 1000000
namespace DL
open PySem PySem.Spec PyProof.Rows L2

section
variable {prog : Program} {w : World} {A : Around} {E : Value → Shared → Prop} {s : Shared}
end
section
variable {X : Cx} {C : Ct} {B : Nw} {e : Expr} {d : TD}
end
end DL

set_option maxHeartbeats 1000000
namespace DL
open PySem PySem.Spec PyProof.Rows L2

section
variable {C : Ct} {w : World} {K : PySem.W.Frag} {n n1 : Nw} {m : Mem}
theorem FzN.up {p : Addr} {o : HO} {H' : Hp} {v : V} {d : Dat} (hG : n1.G p = none) (h : FzN C w K n1 v d) : FzN C w K ⟨upd n1.G p o, n1.al, H'⟩ v d := Fz.keep (fun a u e => by
  show upd n1.G p o a = some u
  rw [upd_ne (fun z => by subst z; have e' : n1.G a = some u := e; rw [hG] at e'; cases e')]; exact e) (fun _ _ e => e) h
theorem FzAllN.up {p : Addr} {o : HO} {H' : Hp} {v : List V} {d : List Dat} (hG : n1.G p = none) (h : FzAllN C w K n1 v d) : FzAllN C w K ⟨upd n1.G p o, n1.al, H'⟩ v d := FzAll.keep (fun a u e => by
  show upd n1.G p o a = some u
  rw [upd_ne (fun z => by subst z; have e' : n1.G a = some u := e; rw [hG] at e'; cases e')]; exact e) (fun _ _ e => e) h
end
section
variable {X : Cx} {C : Ct} {B : Nw} {e kx : Expr} {d : TD}
end
end DL

set_option maxHeartbeats 1000000
namespace DL
open PySem PySem.Spec PyProof.Rows L2

section
variable {X : Cx} {C : Ct} {B : Nw} {e o : Expr} {d de : TD} {f : Str} {fi : Nat → Option Nat} {pos pos' : Pos}
end

section
variable {C : Ct} {w : World} {K : PySem.W.Frag} {al : List Addr} {G : Hp} {n n' : Nw} {m : Mem}
end
section
variable {X : Cx} {CX : CXT} {k : Nat} {f C : Addr} {fd : FuncData} {ps : List Str} {sp : Sp} {E : L2.St → XK} {x : Str} {p pos : Pos} {e : Expr} {es : List Expr} {t : TA}
end
section
variable {X : Cx} {C : Ct} {B : Nw} {k c nf : Nat} {f : Addr} {fd : FuncData} {ps : List Str} {p : DSp} {EX : QXe} {x : Str} {p1 pos : Pos} {e : Expr} {es : List Expr} {da : TAd}
end
end DL

set_option maxHeartbeats 4000000
namespace PySem.W
open PySem PySem.Spec PySem.Calls PyProof.Rows
section
variable {prog : Program} {w : World} {A : Around} {E : Value → Shared → Prop} {s : Shared} {K : Frag} {x D : Addr} {ox : Obj} {od : Option Obj}
end
end PySem.W
namespace DL
open PySem PySem.Spec PyProof.Rows L2

section
variable {P : Program} {w : World} {K : PySem.W.Frag} {mg : Str → Option Value} {base : Heap} {y qual : Str} {params : Arguments} {body : List Stmt} {scope : Scope} {fI : Addr} {fd : FuncData} {f1 f2 x0 x1 x2 : Str}
end
section
variable {X : Cx} {C : Ct} {B : Nw} {e : Expr} {es : List Expr} {d : TMd} {EX : QXe} {p pos : Pos} {x : Str} {fI : Addr} {fd : FuncData} {ps fs : List Str} {c k : Nat} {da : TAd}
end
end DL

set_option maxHeartbeats 2000000
namespace DL
open PySem PySem.Spec PyProof.Rows L2

section
variable {C : Ct} {w : World} {K : PySem.W.Frag} {B n n0 : Nw} {m : Mem} {env : Env'} {σ : L2.St}
end
section
variable {X : Cx} {C : Ct} {B : Nw} {x nm : Str} {cv : Value} {i : Nat} {body suite : List Stmt} {b0 : Stmt} {np pos pos' : Pos} {tst : Nat → Option Bool} {dt : QXe → TSd} {ds : Addr → Nat → List Dat → TSd} {EXo : QXe}
end
end DL

set_option maxHeartbeats 1000000
namespace DL
open PySem PySem.Spec PyProof.Rows L2

def pRel (n : Nat) (pre : List Dat → Mem → Prop) (post : List Dat → Mem → Dat → Mem → Prop) (posE : List Dat → Mem → Nat → List Dat → Mem → Prop) : DSp := fun ds m Q E => ds.length = n ∧ pre ds m ∧ (∀ r m', post ds m r m' → Q r m') ∧ ∀ c xs m', posE ds m c xs m' → E c xs m'
theorem pRel.len {n pre post posE} : ∀ ds m Q E, pRel n pre post posE ds m Q E → ds.length = n := fun _ _ _ _ h => h.1
section
variable {X : Cx} {C : Ct} {B : Nw} {k j : Nat} {ps : List Str} {p : DSp} {EX : QXe} {x : Str} {p1 pos : Pos} {e : Expr} {es : List Expr} {da : TAd}
variable {elt te iter : Expr} {ifs : List Expr} {scope : Scope} {own : List (Str × Nat)} {tg : Tg} {dt : TB} {de : TD} {di : TId}
end
end DL

set_option maxHeartbeats 1000000
namespace DL
open PySem PySem.Spec PyProof.Rows L2
section
variable {X : Cx} {C : Ct} {B : Nw} {k j c nf : Nat} {ps : List Str} {p : DSp} {EX : QXe} {x : Str} {p1 pos : Pos} {e : Expr} {es : List Expr} {da : TAd}
end
end DL

set_option maxHeartbeats 2000000
namespace DL
open PySem PySem.Spec PyProof.Rows L2

section
variable {P : Program} {w : World} {K : PySem.W.Frag} {gl bn : Str → Option Value} {CX : CXT} {k : Nat} {f a : Addr} {fd : FuncData} {x : Str} {sp : Sp} {S : Shared} {us : List Value} {is : List Int}
end
def pLaw (n : Nat) : DSp := fun ds m Q _ => ∃ is : List Int, is.length ≤ n ∧ ds = [.lst (is.map Dat.int)] ∧ m = [] ∧ ∀ m', Q (.bl true) m'
theorem pLaw.len {n : Nat} : ∀ ds m Q E, pLaw n ds m Q E → ds.length = 1 := fun ds m Q E ⟨is, h1, h2, h3, h4⟩ => by rw [h2]; rfl
end DL

set_option maxHeartbeats 2000000
namespace DL
open PySem PySem.Spec PyProof.Rows L2

structure Tab where
  names : List Str
  flds : List (List Str) := []
  /-- plain classes of instances -/
  owns : List Nat := []
  ii : List (Nat × Nat × Bool) := []
  ib : List (Nat × String × Bool) := []
  it : List (String × Nat × Bool) := []
  /-- tables of code objects -/
  tbs : PySem.W.Frag → List (Addr × Str) := fun _ => []
def Tab.at (t : Tab) (K : PySem.W.Frag) (c : Nat) : Addr := He.ga K (t.names.getD c Str.empty)
def fi2 (tab : List (Nat × Nat × Bool)) (c d : Nat) : Option Bool := match tab with
  | [] => none
  | (a, b, r) :: l => if a = c ∧ b = d then some r else fi2 l c d
def fiB (tab : List (Nat × String × Bool)) (c : Nat) (T : String) : Option Bool := match tab with
  | [] => none
  | (a, b, r) :: l => if a = c ∧ b = T then some r else fiB l c T
def fiT (tab : List (String × Nat × Bool)) (T : String) (d : Nat) : Option Bool := match tab with
  | [] => none
  | (a, b, r) :: l => if a = T ∧ b = d then some r else fiT l T d
theorem fi2_mem : ∀ {tab : List (Nat × Nat × Bool)} {c d : Nat} {r : Bool}, fi2 tab c d = some r → (c, d, r) ∈ tab
  | [], _, _, _, h => by cases h
  | (a, b, q) :: l, c, d, r, h => by
    unfold fi2 at h
    split at h
    · rename_i e; obtain ⟨rfl, rfl⟩ := e; cases h; exact List.mem_cons_self
    · exact List.mem_cons_of_mem _ (fi2_mem h)
theorem fiB_mem : ∀ {tab : List (Nat × String × Bool)} {c : Nat} {d : String} {r : Bool}, fiB tab c d = some r → (c, d, r) ∈ tab
  | [], _, _, _, h => by cases h
  | (a, b, q) :: l, c, d, r, h => by
    unfold fiB at h
    split at h
    · rename_i e; obtain ⟨rfl, rfl⟩ := e; cases h; exact List.mem_cons_self
    · exact List.mem_cons_of_mem _ (fiB_mem h)
theorem fiT_mem : ∀ {tab : List (String × Nat × Bool)} {c : String} {d : Nat} {r : Bool}, fiT tab c d = some r → (c, d, r) ∈ tab
  | [], _, _, _, h => by cases h
  | (a, b, q) :: l, c, d, r, h => by
    unfold fiT at h
    split at h
    · rename_i e; obtain ⟨rfl, rfl⟩ := e; cases h; exact List.mem_cons_self
    · exact List.mem_cons_of_mem _ (fiT_mem h)
def Tab.ct (t : Tab) (K : PySem.W.Frag) : Ct where
  addr := t.at K
  flds := fun c => t.flds.getD c []
  own := fun c => decide (c ∈ t.owns)
  isaI := fi2 t.ii
  isaB := fiB t.ib
  isaT := fiT t.it
  tabs := t.tbs K
def clsB (K : PySem.W.Frag) (C : Addr) : Bool := PySem.W.plainGet K C Str.empty && (PySem.W.hasDictIn K C && (PySem.W.plainOver K C && decide (PySem.W.findIn K (.ref C) "__setattr__" = some (some (.builtin "object.__setattr__")))))
theorem and2 {a b : Bool} (h : (a && b) = true) : a = true ∧ b = true := Bool.and_eq_true_iff.mp h
theorem clsB_ok {K : PySem.W.Frag} {C : Addr} (h : clsB K C = true) : Cls K C := by
  obtain ⟨h1, h⟩ := and2 h
  obtain ⟨h2, h⟩ := and2 h
  obtain ⟨h3, h4⟩ := and2 h
  exact ⟨h1, h2, h3, of_decide_eq_true h4⟩
def ownB (K : PySem.W.Frag) (C : Addr) : Bool := clsB K C && (decide (PySem.W.findIn K (.ref C) "__class__" = some (some (.builtin "object.__class__"))) &&
  (decide (PySem.W.specialIn K (.builtin "object.__class__") "__get__" = some (some (.builtin "getset_descriptor.__get__"))) && (decide (PySem.W.takesIn K (.builtin "object.__class__") = some true) && decide (PySem.W.mroIn K C (.type "object") = some true))))
def Tab.chk (t : Tab) (K : PySem.W.Frag) : Bool := (t.ii.all fun p => decide (PySem.W.kitOne K (.ref (t.at K p.1)) (.ref (t.at K p.2.1)) = some p.2.2)) &&
  ((t.ib.all fun p => decide (PySem.W.kitOne K (.ref (t.at K p.1)) (.type p.2.1) = some p.2.2)) &&
  ((t.it.all fun p => decide (PySem.W.kitOne K (.type p.1) (.ref (t.at K p.2.1)) = some p.2.2)) && t.owns.all fun c => ownB K (t.at K c)))
theorem Tab.ok {t : Tab} {K : PySem.W.Frag} (h : t.chk K = true) : CtOk (t.ct K) K := by
  obtain ⟨h1, h⟩ := and2 h
  obtain ⟨h2, h⟩ := and2 h
  obtain ⟨h3, h4⟩ := and2 h
  refine ⟨fun c d b e => ?_, fun c T b e => ?_, fun T d b e => ?_, fun c e => ?_⟩
  · exact of_decide_eq_true (List.all_eq_true.mp h1 _ (fi2_mem e))
  · exact of_decide_eq_true (List.all_eq_true.mp h2 _ (fiB_mem e))
  · exact of_decide_eq_true (List.all_eq_true.mp h3 _ (fiT_mem e))
  · obtain ⟨q1, q⟩ := and2 (List.all_eq_true.mp h4 c (of_decide_eq_true e))
    obtain ⟨q2, q⟩ := and2 q
    obtain ⟨q3, q⟩ := and2 q
    obtain ⟨q4, q5⟩ := and2 q
    exact ⟨clsB_ok q1, of_decide_eq_true q2, of_decide_eq_true q3, of_decide_eq_true q4, of_decide_eq_true q5⟩
def Tab.fiC (t : Tab) (f : Str) (tab : List (Nat × Nat)) (K : PySem.W.Frag) : Bool := tab.all fun p => clsB K (t.at K p.1) && (decide (PySem.W.findIn K (.ref (t.at K p.1)) f = some none) &&
  (decide ((t.flds.getD p.1 []).Nodup) && (decide ((t.flds.getD p.1 []).length < 1000) && decide ((t.flds.getD p.1 [])[p.2]? = some f))))
def Tab.xfC (t : Tab) (f : Str) (tab : List (Nat × Nat)) (K : PySem.W.Frag) : Bool := tab.all fun p => xfB K (t.at K p.1) && (decide (PySem.W.findIn K (.ref (t.at K p.1)) f = some none) &&
  (decide ((t.flds.getD p.1 [])[p.2]? = some f) && decide ((t.flds.getD p.1 []).Nodup)))
def excB (K : PySem.W.Frag) (D : Addr) : Bool := decide (PySem.W.findIn K (.ref D) "__getattribute__" = some (some (.builtin "BaseException.__getattribute__"))) && (decide (PySem.W.findIn K (.ref D) "__getattr__" = some none) &&
  (decide (PySem.W.subIn K (.ref D) (.type "BaseException") = some true) && (PySem.W.hasDictIn K D && (decide (PySem.W.findIn K (.ref D) "__class__" = some (some (.builtin "object.__class__"))) &&
  (decide (PySem.W.specialIn K (.builtin "object.__class__") "__get__" = some (some (.builtin "getset_descriptor.__get__"))) && (decide (PySem.W.takesIn K (.builtin "object.__class__") = some true) && decide (PySem.W.mroIn K D (.type "object") = some true)))))))
def Tab.ieC (t : Tab) (tab : List (Nat × Nat × Bool)) (K : PySem.W.Frag) : Bool := tab.all fun p => excB K (t.at K p.1) && decide (PySem.W.kitOne K (.ref (t.at K p.1)) (.ref (t.at K p.2.1)) = some p.2.2)
def Tab.exC (t : Tab) (d : Nat) (tab : List (Nat × Bool)) (K : PySem.W.Frag) : Bool := tab.all fun p => decide (PySem.W.exmOne K (.ref (t.at K p.1)) (.ref (t.at K d)) = some p.2)
def oexB (K : PySem.W.Frag) (C : Addr) : Bool := match K.lookup C with
  | some ⟨.type "type", _, .cls cd, sl⟩ => (match cd.mro, sl.toList with
    | .ref C2 :: bm, [_, _, _, _, some (.builtin n), _] => C2 == C && (n == "ValueError.__new__" && (!cd.hasDel && (cd.hasDict && PySem.HandSPX.refsVE bm)))
    | _, _ => false)
  | _ => false
def Tab.xcC (t : Tab) (c : Nat) (fs : List Str) (K : PySem.W.Frag) : Bool := oexB K (t.at K c) && (decide (PySem.W.findIn K (.ref (t.at K c)) "__setattr__" = some (some (.builtin "object.__setattr__"))) && (decide (PySem.W.subIn K (.ref (t.at K c)) (.type "BaseException") = some true) &&
  (decide (PySem.W.typeIn K (.ref (t.at K c)) = some (.type "type")) && (PySem.W.keepIn K (.ref (t.at K c)) && ((fs.all fun f => decide (PySem.W.findIn K (.ref (t.at K c)) f = some none)) &&
  (decide (PySem.W.findIn K (.ref (t.at K c)) "__init__" = some (some (.ref (He.fAd K (t.names.getD c Str.empty, some "__init__"))))) && decide (PySem.W.typeIn K (.ref (He.fAd K (t.names.getD c Str.empty, some "__init__"))) = some (.type "function"))))))))
def Tab.mkC (t : Tab) (c : Nat) (K : PySem.W.Frag) : Bool := PySem.W.makesIn K (t.at K c) && (decide (PySem.W.findIn K (.ref (t.at K c)) "__init__" = some (some (.ref (He.fAd K (t.names.getD c Str.empty, some "__init__"))))) &&
  (PySem.W.isFn K (.ref (He.fAd K (t.names.getD c Str.empty, some "__init__"))) && PySem.W.keepIn K (.ref (t.at K c))))
def noSysB (K : PySem.W.Frag) : Bool := match K.lookup sysModules with
  | some o => !(decide (o.cls = .type "list"))
  | none => false
def noLstB (K : PySem.W.Frag) : Bool := K.all fun p => !(decide (p.2.cls = .type "list"))
abbrev Fk : Type := PySem.W.Frag → Bool
section
variable {ex : List Fk} {fn : List He.DefD} {K : PySem.W.Frag}
end
end DL

set_option maxHeartbeats 2000000
namespace DL
open PySem PySem.Spec PyProof.Rows L2
def pNo : DSp := fun _ _ _ _ => False
theorem pNo.len {n : Nat} : ∀ ds m Q E, pNo ds m Q E → ds.length = n := fun _ _ _ _ h => h.elim
section
variable {P : Program} {w : World} {K : PySem.W.Frag} {mg : Str → Option Value} {base : Heap} {C : Ct} {k : Nat} {f : Addr} {fd : FuncData} {ps : List Str}
end
end DL

set_option maxHeartbeats 2000000
namespace DL
open PySem PySem.Spec PyProof.Rows L2

section
variable {C : Ct} {w : World} {K : PySem.W.Frag} {B n : Nw} {m : Mem} {env : Env'} {σ : L2.St} {c : Nat}
end
section
variable {X : Cx} {CX : CXT} {k : Nat} {f : Addr} {fd : FuncData} {ps : List Str} {sp : Sp} {E : XK}
end
section
variable {X : Cx} {C : Ct} {B : Nw} {k j c : Nat} {ps : List Str} {p : DSp} {EX : QXe} {x y : Str} {pos apos : Pos} {o e : Expr} {es : List Expr} {d : TD} {da : TAd}
end
end DL

set_option maxHeartbeats 3200000
namespace DL
open PySem PySem.Spec PyProof.Rows L2

section
variable {prog : Program} {w : World} {A : Around} {E : Value → Shared → Prop} {S : Shared}
open AutoSeq1 MeetsSeq MeetsSeq2 MeetsSeq3 SeqRoads2 in
end
section
variable {X : Cx} {C : Ct} {B : Nw} {a : Expr} {da : TD} {p p2 q pos : Pos}
end
end DL

set_option maxHeartbeats 2000000
namespace DL
open PySem PySem.Spec PyProof.Rows L2

inductive Wh where
  | g (x : Str)
  | m (y x : Str)
  | p (y x : Str)
  | c (y x : Str)
def recF (K : PySem.W.Frag) (T : String) (p : Addr) : Addr := match PySem.W.recIn K p T with
  | some (.ref g :: _) => g
  | _ => 0
def Wh.ad (K : PySem.W.Frag) : Wh → Addr
  | .g x => He.ga K x
  | .m y x => He.fAd K (y, some x)
  | .p y x => recF K "property" (He.fAd K (y, some x))
  | .c y x => recF K "classmethod" (He.fAd K (y, some x))
structure DefX where
  wh : Wh
  name : Str
  qual : Str
  params : Arguments
  body : List Stmt
  scope : Scope
abbrev FnY : Type := Option (Str × Str × Arguments × FuncBody × Scope × Addr × List (Str × Addr) × Addr)
def fnY (K : PySem.W.Frag) (a : Addr) : FnY := match K.lookup a with
  | some ⟨_, _, .func fd, _⟩ => some (fd.name, fd.qualname, fd.params, fd.body, fd.scope, fd.globals, fd.closure, fd.builtins)
  | _ => none
def fdY (K : PySem.W.Frag) (a : Addr) : FuncData := match K.lookup a with
  | some ⟨_, _, .func fd, _⟩ => fd
  | _ => default
def DefX.val (d : DefX) : FnY := some (d.name, d.qual, d.params, .stmts d.body, d.scope, mainGlobals, [], builtinsNs)
def isNone : Value → Bool
  | .none => true
  | _ => false
def DefX.ok (K : PySem.W.Frag) (d : DefX) : Bool := PySem.W.keepIn K (.ref (d.wh.ad K)) && (match K.lookup (d.wh.ad K) with
  | some ⟨_, _, .func fd, _⟩ => PySem.W.codeIn K fd.code d.qual && (He.dflB K fd.defaults [] && He.kwdB K fd.kwdefaults [])
  | _ => false)
abbrev AlY : Type := Bool × List FnY
def obsY (ex : List Fk) (fn : List DefX) (K : PySem.W.Frag) : AlY := ((ex.all fun g => g K) && fn.all fun d => d.ok K, fn.map fun d => fnY K (d.wh.ad K))
def valY (fn : List DefX) : AlY := (true, fn.map DefX.val)
def SaysY (ex : List Fk) (fn : List DefX) (K : PySem.W.Frag) : Prop := obsY ex fn K = valY fn
section
variable {ex : List Fk} {fn : List DefX} {K : PySem.W.Frag}
end
section
variable {P : Program} {w : World} {K : PySem.W.Frag} {mg : Str → Option Value} {base : Heap} {t : Tab} {c k : Nat} {y x : Str} {ps : List Str} {p : DSp}
end
end DL

set_option maxHeartbeats 2000000
namespace DL
open PySem PySem.Spec PyProof.Rows L2

section
variable {X : Cx} {C : Ct} {B : Nw} {a b e : Expr} {d de : TD} {r : TRd} {p pos : Pos}
end
end DL

set_option maxHeartbeats 1000000
namespace DL
open PySem PySem.Spec PyProof.Rows L2

section
variable {X : Cx} {C : Ct}
end
section
variable {X : Cx} {C : Ct} {B : Nw} {e o i : Expr} {d de di : TD} {pos apos cpos : Pos}
end
section
variable {X : Cx} {C : Ct} {B : Nw} {e : Expr} {d : TD} {pos : Pos}
end
end DL

set_option maxHeartbeats 1000000
namespace DL
open PySem PySem.Spec PyProof.Rows L2

section
variable {X : Cx} {C : Ct} {B : Nw} {pos : Pos}
end
section
variable {P : Program} {w : World} {K : PySem.W.Frag} {mg : Str → Option Value} {base : Heap} {C : Ct} {x : Str} {k : Nat} {ps : List Str} {p p' : DSp}
end
end DL

set_option maxHeartbeats 1000000
namespace DL
open PySem PySem.Spec PyProof.Rows L2

section
variable {C : Ct} {w : World} {P : Program} {K : PySem.W.Frag} {al : List Addr} {G : Hp} {n : Nw}
end
section
variable {X : Cx} {C : Ct}
end
end DL

set_option maxHeartbeats 1000000
namespace DL
open PySem PySem.Spec PyProof.Rows L2

section
variable {X : Cx} {C : Ct}
end
end DL

set_option maxHeartbeats 1000000
namespace DL
open PySem PySem.Spec PyProof.Rows L2

section
variable {X : Cx} {C : Ct} {B : Nw} {e o i : Expr} {d de di : TD} {pos : Pos}
end
end DL

set_option maxHeartbeats 1000000
namespace DL
open PySem PySem.Spec PyProof.Rows L2

section
variable {X : Cx} {C : Ct} {B : Nw} {d de dc : TD}
end
end DL

set_option maxHeartbeats 1000000
namespace DL
open PySem PySem.Spec PyProof.Rows L2

section
variable {X : Cx} {C : Ct}
end
end DL

set_option maxHeartbeats 1000000
namespace DL
open PySem PySem.Spec PyProof.Rows L2

section
variable {X : Cx} {C : Ct} {B : Nw}
variable {elt te iter : Expr} {ifs : List Expr} {scope : Scope} {own : List (Str × Nat)} {pos : Pos} {tg : Tg} {dt : TB} {de : TD} {di : TId}
end
end DL

set_option maxHeartbeats 2000000
namespace DL
open PySem PySem.Spec PyProof.Rows L2

section
variable {P : Program} {w : World} {K : PySem.W.Frag} {mg : Str → Option Value} {base : Heap} {C : Ct} {x qual : Str} {params : Arguments} {body : List Stmt} {scope : Scope} {f : Addr} {fd : FuncData} {N ps : List Str} {k : Nat} {p : DSp}
end
section
variable {X : Cx} {C : Ct} {B : Nw} {k j c : Nat} {p : DSp} {EX : QXe} {x y : Str} {pos apos np : Pos} {o e : Expr} {es : List Expr} {da : TAd}
end
end DL

set_option maxHeartbeats 2000000
namespace DL
open PySem PySem.Spec PyProof.Rows L2

section
variable {P : Program} {w : World} {K : PySem.W.Frag} {mg : Str → Option Value} {base : Heap} {t : Tab} {c k : Nat} {y x : Str} {ps : List Str} {p : DSp}
end
section
variable {X : Cx} {C : Ct} {B : Nw} {k j c nf : Nat} {ps : List Str} {p : DSp} {EX : QXe} {x z : Str} {np pos : Pos} {e : Expr} {es : List Expr} {da : TAd}
end
section
variable {X : Cx} {C : Ct}
end
end DL

set_option maxHeartbeats 1000000
namespace DL
open PySem PySem.Spec PyProof.Rows L2

def isTupK : Dat → Bool
  | .tup _ => true
  | _ => false
def tKey (d : Dat) : Option NestedKey := if isTupK d = true then (match keyN d with
  | some k => if k.depth ≤ 8 then some k else none
  | none => none) else none
def getT (kvs : List (Dat × Dat)) (k : NestedKey) : Option Dat := (kvs.find? fun p => decide (tKey p.1 = some k)).map (·.2)
section
variable {C : Ct} {K : PySem.W.Frag} {al : List Addr} {G : Hp} {n : Nw} {P : Program} {w : World}
abbrev TK (C : Ct) (w : World) (K : PySem.W.Frag) (al : List Addr) (G : Hp) : List (NestedKey × Addr × Value) → List (Dat × Dat) → Prop :=
  Paired fun x p => tKey p.1 = some x.1 ∧ Fz C w K al G (.ref x.2.1) p.1 ∧ ∃ v, RelV v x.2.2 ∧ Fz C w K al G v p.2
end
section
variable {X : Cx} {C : Ct} {pins : List (Addr × Obj)} {σ : L2.St} {s : Shared} {n : Nw}
end
section
variable {X : Cx} {C : Ct} {B : Nw} {e o i : Expr} {d de di : TD} {pos : Pos}
end
end DL

set_option maxHeartbeats 1000000
namespace DL
open PySem PySem.Spec PyProof.Rows L2

section
variable {X : Cx} {C : Ct} {B : Nw}
end
end DL

set_option maxHeartbeats 1000000
namespace DL
open PySem PySem.Spec PyProof.Rows L2

section
variable {X : Cx}
end
end DL

set_option maxHeartbeats 1000000
namespace DL
open PySem PySem.Spec PyProof.Rows L2

section
variable {X : Cx} {C : Ct} {B : Nw}
end
end DL

set_option maxHeartbeats 1000000
namespace DL
open PySem PySem.Spec PyProof.Rows L2

section
variable {X : Cx} {C : Ct}
end
end DL

set_option maxHeartbeats 1000000
namespace DL
open PySem PySem.Spec PyProof.Rows L2

section
variable {X : Cx} {C : Ct} {B : Nw} {k : Nat} {o e : Expr} {es : List Expr} {d : TD} {da : TAd} {apos cpos : Pos}
end
end DL

set_option maxHeartbeats 1000000
namespace DL
open PySem PySem.Spec PyProof.Rows L2

section
variable {X : Cx} {C : Ct} {B : Nw}
end
end DL

set_option maxHeartbeats 1000000
namespace DL
open PySem PySem.Spec PyProof.Rows L2

section
variable {X : Cx} {C : Ct} {B : Nw} {e : Expr} {d : TD}
end
end DL

set_option maxHeartbeats 2000000
namespace DL
open PySem PySem.Spec PyProof.Rows L2 LamX

section
variable {X : Cx} {pins : List (Addr × Obj)} {σ : L2.St} {H : Hp} {s : Shared}
end
end DL

set_option maxHeartbeats 2000000
namespace DL
open PySem PySem.Spec PyProof.Rows L2 LamX

section
variable {X : Cx} {C : Ct}
end
end DL

set_option maxHeartbeats 2000000
namespace DL
open PySem PySem.Spec PyProof.Rows L2 LamX

def tabAd (K : PySem.W.Frag) (a : Addr) : Addr × Addr := match (fdY K a).code with
  | .ref c => match K.lookup c with
    | some ⟨_, _, .fields vs, _⟩ => match (vs[11]? : Option Value) with
      | some (.ref P) => (c, P)
      | _ => (c, c)
    | _ => (c, c)
  | _ => (0, 0)
def tblB : Option Obj → Bool
  | some ⟨.none, none, .fields vs, sl⟩ => vs.toList.isEmpty && sl.toList.isEmpty
  | _ => false
def tabB (K : PySem.W.Frag) (a : Addr) : Bool := PySem.W.codeHdIn K (tabAd K a).1 (tabAd K a).2 && ((K.lookup (tabAd K a).2).isNone && (match (fdY K a).code with
  | .ref c => c == (tabAd K a).1
  | _ => false))
def obsT (ts : List Wh) (ex : List Fk) (fn : List DefX) (g : Addr → Option Obj) (K : PySem.W.Frag) : AlY × Bool := (obsY ex fn K, ts.all fun t => tabB K (t.ad K) && tblB (g (tabAd K (t.ad K)).2))
section
variable {P : Program} {w : World} {K : PySem.W.Frag} {mg : Str → Option Value} {base : Heap} {C : Ct} {x qual : Str} {params : Arguments} {body : List Stmt} {scope : Scope} {f : Addr} {fd : FuncData} {N ps : List Str} {p : DSp} {k : Nat}
end

section
variable {P : Program} {w : World} {K : PySem.W.Frag} {gl bn : Str → Option Value} {CX : CXT} {k : Nat} {f a : Addr} {fd : FuncData} {x : Str} {sp : Sp} {S : Shared} {us : List Value} {is : List Int} {cs : List (Addr × Addr)}
end
end DL

set_option maxHeartbeats 1000000
namespace DL
open PySem PySem.Spec PyProof.Rows L2

section
variable {X : Cx} {C : Ct} {B : Nw} {de d di d2 di2 : TD} {e o i o2 i2 : Expr} {pos pt sp sp2 : Pos} {kt : Nat}
end
end DL

set_option maxHeartbeats 1000000
namespace DL
open PySem PySem.Spec PyProof.Rows L2

section
variable {X : Cx} {C : Ct} {B : Nw} {pos : Pos}
end
end DL

set_option maxHeartbeats 1000000
namespace DL
open PySem PySem.Spec PyProof.Rows L2

section
variable {X : Cx} {C : Ct} {B : Nw} {pos : Pos}
end
end DL

set_option maxHeartbeats 2000000
namespace DL
open PySem PySem.Spec PySem.W PyProof.Rows L2 LamX

def RunP (R : OpenRow) (M : Nat) (w : World) {β : Type} (f : SharedT → β) (v : β) : Prop :=
  ∀ os : OsState, (HandSHeadRun.endF (HandSHeadRun.stepQ (HandSHeadRun.denQ HandSHeadRun.tabQ) R.prog w) M R.prog w os).map f = some v
section
variable {R : OpenRow} {M : Nat} {w : World} {α β : Type}
theorem RunP.pair {f : SharedT → α} {g : SharedT → β} {a : α} {b : β} (h : RunP R M w f a) (h' : RunP R M w g b) : RunP R M w (fun s => (f s, g s)) (a, b) := fun os => by
  have e := h os
  have e' := h' os
  revert e e'
  generalize HandSHeadRun.endF _ _ _ _ _ = o
  cases o with
  | none => intro e; cases e
  | some s =>
    intro e e'
    have e : f s = a := Option.some.inj e
    have e' : g s = b := Option.some.inj e'
    show some (f s, g s) = _
    rw [e, e']
theorem RunP.imp {f : SharedT → α} {g : SharedT → β} {a : α} {b : β} (h : RunP R M w f a) (k : ∀ s, f s = a → g s = b) : RunP R M w g b := fun os => by
  have e := h os
  revert e
  generalize HandSHeadRun.endF _ _ _ _ _ = o
  cases o with
  | none => intro e; cases e
  | some s =>
    intro e
    exact congrArg some (k s (Option.some.inj e))
theorem RunP.tabs {ts : List Wh} {ex : List Fk} {fn : List DefX} {F : SharedT → Frag} {G : SharedT → Addr → Option Obj} (h : RunP R M w (fun s => obsY ex fn (F s)) (valY fn)) (h' : RunP R M w (fun s => ts.all fun t => tabB (F s) (t.ad (F s)) && tblB (G s (tabAd (F s) (t.ad (F s))).2)) true) :
    RunP R M w (fun s => obsT ts ex fn (G s) (F s)) (valY fn, true) := RunP.pair h h'
end
def asR (g : Addr → Option Obj) (n : Nat) : List Addr := (List.range n).filter fun a => match g a with
  | some o => !(decide (o.cls = .type "list"))
  | none => false
def obsRG (n : Nat) (ex : List Fk) (fn : List DefX) (g : Addr → Option Obj) : AlY := obsY ex fn (He.frG g (asR g n))
def hookR (n : Nat) (ex : List Fk) (fn : List DefX) : PySem.W.Hook where
  α := AlY
  obs := fun s => obsRG n ex fn s.heap.get?
  val := fun _ => valY fn
  says := fun _ h => ∃ K : PySem.W.Frag, K.In h ∧ SaysY ex fn K
  of := fun _ _ e => ⟨_, He.frG_in, e⟩
  keeps := fun _ _ _ ⟨K, inK, c⟩ k => ⟨K, PySem.W.Frag.In.keeps inK k, c⟩
end DL

set_option maxHeartbeats 2000000
namespace DL
open PySem PySem.Spec PyProof.Rows L2

section
variable {prog : Program} {w : World} {A : Around} {E : Value → Shared → Prop} {s : Shared}
end
section
variable {X : Cx} {C : Ct} {B : Nw} {e : Expr} {de : TD} {pos : Pos}
end
section
variable {env : Env'} {m : Mem} {D : En} {d : TD}
end
end DL

set_option maxHeartbeats 2000000
namespace DL
open PySem PySem.Spec PyProof.Rows L2

section
variable {X : Cx} {C : Ct} {B : Nw} {k : Nat} {o e : Expr} {es : List Expr} {d : TD} {da : TAd} {apos cpos pos : Pos}
end

section
variable {X : Cx} {C : Ct} {B : Nw} {k : Nat} {o e : Expr} {es : List Expr} {d : TD} {da : TAd} {apos cpos : Pos}
end
end DL

set_option maxHeartbeats 2000000
namespace DL
open PySem PySem.Spec PyProof.Rows L2

section
variable {prog : Program} {w : World} {A : Around} {E : Value → Shared → Prop} {s : Shared} {K : Type} [DecidableEq K]
end
section
variable {X : Cx} {C : Ct} {B : Nw} {e : Expr} {pos : Pos}
end
section
variable {env : Env'} {m : Mem} {D : En} {d : TD}
end
end DL

set_option maxHeartbeats 1000000
namespace DL
open PySem PySem.Spec PyProof.Rows L2
section
variable {X : Cx} {C : Ct} {c j k : Nat} {p : DSp}
end
end DL

set_option maxHeartbeats 1000000
namespace DL
open PySem PySem.Spec PyProof.Rows L2
section
variable {X : Cx} {C : Ct} {B : Nw} {e o i : Expr} {d de di : TD} {pos apos cpos : Pos}
end
end DL

set_option maxHeartbeats 1000000
namespace DL
open PySem PySem.Spec PyProof.Rows
section
variable {prog : Program} {w : World} {A : Around} {E : Value → Shared → Prop} {s : Shared} {K : PySem.W.Frag} {x c L f : Addr} {h₀ : Heap} {m : Str → Option Value} {ox : Obj} {od : Option Obj} {b tb : Value}
end
end DL
namespace DL
open PySem PySem.Spec PyProof.Rows L2
section
variable {X : Cx} {C : Ct} {c j k : Nat} {p : DSp}
end
end DL

set_option maxHeartbeats 1000000
namespace DL
open PySem PySem.Spec PyProof.Rows PySem.W
section
variable {prog : Program} {w : World} {K : Type} [DecidableEq K] {knd : HeapKind prog w K} {A : Around} {E : Value → Shared → Prop} {s : Shared}
end
end DL

set_option maxHeartbeats 1000000
namespace DL
open PySem PySem.Spec PyProof.Rows L2
section
variable {X : Cx} {C : Ct} {pins : List (Addr × Obj)} {s : Shared} {σ : L2.St} {n : Nw} {m : Mem}
theorem TK.len {K : PySem.W.Frag} {al : List Addr} {G : Hp} {w : World} : ∀ {xs : List (NestedKey × Addr × Value)} {kvs : List (Dat × Dat)}, TK C w K al G xs kvs → xs.length = kvs.length
  | _, _, .nil => rfl
  | _, _, .cons _ t => congrArg (· + 1) (TK.len t)
end
end DL

set_option maxHeartbeats 1000000
namespace DL
open PySem PySem.Spec PyProof.Rows L2
section
variable {X : Cx} {C : Ct} {B : Nw} {e o o2 i : Expr} {d d2 di : TD} {pos apos bpos cpos ppos : Pos}
end
end DL

set_option maxHeartbeats 1000000
namespace DL
open PySem PySem.Spec PyProof.Rows L2
section
variable {X : Cx} {C : Ct} {B : Nw}
end
end DL

set_option maxHeartbeats 1000000
namespace DL
open PySem PySem.Spec PyProof.Rows L2
section
variable {X : Cx} {C : Ct} {B : Nw}
end
end DL

set_option maxHeartbeats 1000000
namespace DL
open PySem PySem.Spec PyProof.Rows L2
section
variable {X : Cx} {C : Ct} {B : Nw} {e o i : Expr} {d de di : TD} {pos : Pos}
end
end DL

set_option maxHeartbeats 1000000
namespace PySem.W
open PySem PySem.Spec
end PySem.W
namespace DL
open PySem PySem.Spec PyProof.Rows L2
section
variable {X : Cx} {C : Ct} {c j k : Nat} {p : DSp}
end
end DL

set_option maxHeartbeats 1000000
namespace ZZ
open PySem PySem.Spec PyProof.Rows L2

end ZZ

set_option maxHeartbeats 1000000
namespace ZZ
open PySem PySem.Spec PyProof.Rows L2
variable {P : Program} {w : World} {A : Around} {E : Value → Shared → Prop} {s : Shared} {a b : Addr} {S T : Int → Bool} {n m : Nat} {es : Array (Int × Value)} {ep : Nat} {t : SetTable}
structure SetS (w : World) (h : Heap) (a : Addr) (es : Array (Int × Value)) (ep : Nat) (t : SetTable) : Prop where
  ob : ∃ o, h.get? a = some o ∧ o.ExactSet ∧ o.data = .set es ep t
  good : ∀ e ∈ es.toList, GoodE e
  nd : (es.toList.map keyOf).Nodup
  sz : es.size < scanBound
  fits : t.fits es.size = true
  ris : Ris t.place.toList
  led : w.params.followText "set-order" = true ∨ t.led = true
theorem SetS.at {h h' : Heap} (x : SetS w h a es ep t) (k : ∀ o, h.get? a = some o → h'.get? a = some o) : SetS w h' a es ep t :=
  ⟨let ⟨o, h1, h2⟩ := x.ob; ⟨o, k o h1, h2⟩, x.good, x.nd, x.sz, x.fits, x.ris, x.led⟩
end ZZ

set_option maxHeartbeats 1000000
namespace ZZ
open PySem PySem.Spec PyProof.Rows L2
variable {P : Program} {w : World} {A : Around} {E : Value → Shared → Prop} {s : Shared} {a b r : Addr} {S T : Int → Bool} {n m : Nat} {es : Array (Int × Value)} {ep : Nat} {t : SetTable}
end ZZ

set_option maxHeartbeats 1000000
namespace ZZ
open PySem PySem.Spec PyProof.Rows L2
variable {P : Program} {w : World} {A : Around} {E : Value → Shared → Prop} {s : Shared} {a b r : Addr} {S T : Int → Bool} {n m : Nat} {es : Array (Int × Value)} {ep : Nat} {t : SetTable}
theorem SetS.type (x : SetS w s.heap a es ep t) : s.TypeIs (.ref a) "set" := by
  obtain ⟨o, h1, h2, h3⟩ := x.ob
  exact ⟨o, h1, h2.1⟩
end ZZ

set_option maxHeartbeats 1000000
namespace ZZ
open PySem PySem.Spec PyProof.Rows L2
variable {P : Program} {w : World} {A : Around} {E : Value → Shared → Prop} {s : Shared} {a b r : Addr} {S T : Int → Bool} {n m : Nat} {es eb : Array (Int × Value)} {ep pb : Nat} {t tb : SetTable}
end ZZ

set_option maxHeartbeats 1000000
namespace ZZ
open PySem PySem.Spec PyProof.Rows L2
variable {P : Program} {w : World} {A : Around} {E : Value → Shared → Prop} {s : Shared} {a b r : Addr} {S T : Int → Bool} {n m : Nat} {es eb : Array (Int × Value)} {ep pb : Nat} {t tb : SetTable}
end ZZ

set_option maxHeartbeats 3200000
namespace ZZ
open PySem PySem.Spec PyProof.Rows L2
section
variable {P : Program} {w : World} {A : Around} {E : Value → Shared → Prop} {S : Shared}
open AutoSeq1 MeetsSeq MeetsSeq2 MeetsSeq3 SeqRoads2 in
open AutoSeq1 MeetsSeq MeetsSeq2 MeetsSeq3 SeqRoads2 in
end
end ZZ

set_option maxHeartbeats 1000000
namespace DL
open PySem PySem.Spec PyProof.Rows L2 ZZ
section
variable {X : Cx}
end
section
variable {X : Cx} {C : Ct} {B : Nw} {a b e : Expr} {d : TD} {da db : TZ} {p pos : Pos}
end
end DL

set_option maxHeartbeats 1000000
namespace DL
open PySem PySem.Spec PyProof.Rows L2
inductive Pk where
  | slot (i : Nat)
  | new (xs : List Dat)
section
variable (C : Ct) (w : World) (K : PySem.W.Frag)
def PkOk (n n' : Nw) (env : Env') (σ : L2.St) (v : V) : Pk → Prop
  | .slot i => ∃ xs, env[i]? = some (some (.own (.lst xs))) ∧ σ[i]? = some (some v)
  | .new xs => ∃ p, v = .ref p ∧ OwnAt C w K n n' p (.lst xs)
inductive PksOk (n n' : Nw) (env : Env') (σ : L2.St) : List V → List Pk → Prop
  | nil : PksOk n n' env σ [] []
  | cons {v vs x xs} : PkOk C w K n n' env σ v x → PksOk n n' env σ vs xs → PksOk n n' env σ (v :: vs) (x :: xs)
end
section
variable {C : Ct} {w : World} {K : PySem.W.Frag} {n n1 n' n'' : Nw} {env : Env'} {σ : L2.St}
theorem PkOk.le {v x} (h : PkOk C w K n n' env σ v x) (l : n'.le n'') : PkOk C w K n n'' env σ v x := by
  cases x with
  | slot i => exact h
  | new xs => obtain ⟨p, e, o⟩ := h; exact ⟨p, e, o.le l⟩
theorem PksOk.le {vs xs} (h : PksOk C w K n n' env σ vs xs) (l : n'.le n'') : PksOk C w K n n'' env σ vs xs := by
  induction h with
  | nil => exact .nil
  | cons a _ ih => exact .cons (a.le l) ih
theorem PksOk.get {vs xs} (h : PksOk C w K n n' env σ vs xs) {i : Nat} {x : Pk} (e : xs[i]? = some x) : ∃ v, vs[i]? = some v ∧ PkOk C w K n n' env σ v x := by
  induction h generalizing i with
  | nil => simp at e
  | cons a _ ih =>
    cases i with
    | zero => simp at e; subst e; exact ⟨_, rfl, a⟩
    | succ i => simp at e; obtain ⟨v, h1, h2⟩ := ih e; exact ⟨v, by simpa using h1, h2⟩
theorem PksOk.length {vs xs} (h : PksOk C w K n n' env σ vs xs) : vs.length = xs.length := by
  induction h with
  | nil => rfl
  | cons _ _ ih => simp [ih]
end
section
variable {X : Cx} {C : Ct} {B : Nw} {e o i : Expr} {es : List Expr} {d : TPk} {dn : TN} {di : TD} {pos : Pos}
end
end DL

set_option maxHeartbeats 1000000
namespace ZZ
open PySem PySem.W PySem.Calls PyProof.Rows PySem.SeqAt
section
variable {prog : Program} {w : World} {A : Around} {E : Value → Shared → Prop} {s : Shared}
end
end ZZ

set_option maxHeartbeats 1000000
namespace DL
open PySem PySem.Spec PyProof.Rows L2
open PySem.W in
section
variable {X : Cx} {C : Ct}
end
end DL

set_option maxHeartbeats 1000000
namespace DL
open PySem PySem.Spec PyProof.Rows L2
section
variable {X : Cx} {C : Ct}
end
end DL
namespace DL
open PySem PySem.Spec PyProof.Rows L2
section
variable {X : Cx} {C : Ct}
end
end DL
namespace DL
open PySem PySem.Spec PyProof.Rows L2
end DL

set_option maxHeartbeats 1000000
namespace ZZ
open PySem PySem.Spec PyProof.Rows L2
variable {P : Program} {w : World} {A : Around} {E : Value → Shared → Prop} {s : Shared} {a b r : Addr} {S T : Int → Bool} {n m : Nat} {es eb er : Array (Int × Value)} {ep pb pr : Nat} {t tb tr : SetTable}
end ZZ
namespace ZZ
open PySem PySem.Spec PyProof.Rows L2
variable {P : Program} {w : World} {A : Around} {E : Value → Shared → Prop} {s : Shared} {a b r : Addr} {S T : Int → Bool} {n m : Nat} {es eb er : Array (Int × Value)} {ep pb pr : Nat} {t tb tr : SetTable}
end ZZ
namespace ZZ
open PySem PySem.Spec PyProof.Rows L2
variable {P : Program} {w : World} {A : Around} {E : Value → Shared → Prop} {s : Shared} {a b r : Addr} {S T : Int → Bool} {n m : Nat} {es eb er : Array (Int × Value)} {ep pb pr : Nat} {t tb tr : SetTable}
end ZZ

set_option maxHeartbeats 1000000
namespace DL
open PySem PySem.Spec PyProof.Rows L2 ZZ
section
variable {X : Cx} {C : Ct} {B : Nw} {a b e : Expr} {d : TD} {da db : TZ} {p pos : Pos}
end
end DL

set_option maxHeartbeats 1000000
namespace DL
open PySem PySem.Spec PyProof.Rows L2
section
variable {X : Cx} {C : Ct} {B : Nw}
end
end DL

set_option maxHeartbeats 1000000
namespace DL
open PySem PySem.Spec PyProof.Rows L2
section
variable {X : Cx} {C : Ct}
end
end DL

set_option maxHeartbeats 1000000
namespace DL
open PySem PySem.Spec PyProof.Rows L2
section
variable {X : Cx} {C : Ct} {B : Nw} {k : Nat} {o e : Expr} {es : List Expr} {d : TD} {da : TAd} {apos cpos : Pos}
end
end DL

set_option maxHeartbeats 1000000
namespace DL
open PySem PySem.Spec PyProof.Rows L2
section
variable {X : Cx} {C : Ct} {B : Nw} {pos : Pos}
end
end DL

set_option maxHeartbeats 2000000
namespace DL
open PySem PySem.Spec PyProof.Rows L2 LamX
section
variable {X : Cx} {C : Ct}
end
end DL

set_option maxHeartbeats 1000000
namespace DL
open PySem PySem.Spec PyProof.Rows L2
section
variable {X : Cx} {C : Ct} {B : Nw} {pos : Pos}
end
end DL

set_option maxHeartbeats 1000000
namespace DL
open PySem PySem.Spec PyProof.Rows L2
section
variable {X : Cx} {C : Ct} {B : Nw} {pos : Pos}
end
end DL

set_option maxHeartbeats 1000000
namespace DL
open PySem PySem.Spec PyProof.Rows L2
section
variable {X : Cx} {C : Ct}
end
end DL

set_option maxHeartbeats 1000000
namespace DL
open PySem PySem.Spec PyProof.Rows L2
section
variable {X : Cx} {C : Ct} {B : Nw} {e o i : Expr} {d de di : TD} {pos apos cpos : Pos}
end
end DL

set_option maxHeartbeats 1000000
namespace DL
open PySem PySem.Spec PyProof.Rows L2
section
variable {X : Cx} {CX : CXT} {C : Ct} {B : Nw} {j k n : Nat} {f : Addr} {fd : FuncData} {ps ks : List Str} {sp : Sp} {E : L2.St → XK} {x kx : Str} {p1 pos kpos : Pos} {e ek : Expr} {es : List Expr} {kws : List Keyword} {t tk : TA} {g : List Value → List Value → List Value} {gV : List V → List V → List V} {p : DSp} {EX : QXe} {da : TAd} {dk : TD} {i : Int}
end
def pGhE {γ : Type} (n : Nat) (pre : γ → List Dat → Mem → Prop) (post : γ → List Dat → Mem → Dat → Mem → Prop) (posE : γ → List Dat → Mem → Nat → List Dat → Mem → Prop) : DSp := fun ds m Q E => ds.length = n ∧ ∃ g, pre g ds m ∧ (∀ r m', post g ds m r m' → Q r m') ∧ ∀ c xs m', posE g ds m c xs m' → E c xs m'
theorem pGhE.len {γ : Type} {n pre post posE} : ∀ ds m Q E, pGhE (γ := γ) n pre post posE ds m Q E → ds.length = n := fun _ _ _ _ h => h.1
end DL

set_option maxHeartbeats 1000000
namespace DL
open PySem PySem.Spec PyProof.Rows L2

theorem sz {n : Nat} (h : n ≤ 16777216) : n ≤ sizeLine := by rw [sizeLine_eq]; exact h
end DL

set_option maxHeartbeats 1000000
namespace DL
open PySem PySem.Spec PyProof.Rows L2

def EvM (f : OpN) (env : Env') (m : Mem) (xs : List Lv) (z : Dat) : Prop := ∀ Q : QD, Q z m → f env m xs Q
section
variable {env : Env'} {m : Mem} {d da db : TD} {v x y : Lv} {z : Dat} {b : Bool}
end
section
variable {D : En} {env : Env'} {m : Mem} {d : TD} {v : Lv} {a : Dat}
end
end DL

set_option maxHeartbeats 1000000
namespace DL.S
open PySem PySem.Spec PyProof.Rows L2 DL
end DL.S

set_option maxHeartbeats 1000000
namespace DL.S
open PySem PySem.Spec PyProof.Rows L2 DL

end DL.S

set_option maxHeartbeats 1000000
namespace DL.S
open PySem PySem.Spec PyProof.Rows L2 DL

end DL.S

set_option maxHeartbeats 1000000
namespace DL.S
open PySem PySem.Spec PyProof.Rows L2 DL

def good : Nat → Dat → Bool
  | _, .non => true
  | _, .bl _ => true
  | _, .int i => decide (i.natAbs.log2 < 1920)
  | _, .str x => PyData.strOk x
  | k + 1, .tup xs => decide (xs.length ≤ 10000) && xs.all (good k)
  | k + 1, .lst xs => decide (xs.length ≤ 10000) && xs.all (good k)
  | _, .dct kvs => okR 60 (.dct kvs) && (decide ((py (.dct kvs)).shown.length ≤ 10000) && PyData.strOk (py (.dct kvs)).shown)
  | _, _ => false
end DL.S

set_option maxHeartbeats 1000000
namespace K02
open PySem PySem.Spec PyProof.Rows L2 DL DL.S

def plain (d : Dat) : Bool := (tyN d).isSome
end K02

set_option maxHeartbeats 1000000
namespace DL
open PySem PySem.Spec PyProof.Rows L2
end DL

set_option maxHeartbeats 1000000
namespace K02
open PySem PySem.Spec PyProof.Rows L2 DL DL.S

end K02

set_option maxHeartbeats 1000000
namespace DL
open PySem PySem.Spec PyProof.Rows L2
def pT {γ : Type} (n : Nat) (args : γ → List Dat) (pre : γ → Prop) (res : γ → Dat) : DSp := fun ds m Q _ => ds.length = n ∧ ∃ g, ds = args g ∧ pre g ∧ Q (res g) m
theorem pT.len {γ : Type} {n args pre res} : ∀ ds m Q E, pT (γ := γ) n args pre res ds m Q E → ds.length = n := fun _ _ _ _ h => h.1
section
variable {env : Env'} {m : Mem} {d : TD} {da : TAd} {x : Lv} {s : Dat} {ls : List Lv} {ds : List Dat} {EX : QXe} {γ : Type} {n c : Nat} {args : γ → List Dat} {pre : γ → Prop} {res : γ → Dat}
end
section
variable {D : En} {env : Env'} {m : Mem} {da : TAd} {ls : List Lv} {n : Nat}
end
end DL

set_option maxHeartbeats 1000000
namespace K02
open PySem PySem.Spec PyProof.Rows L2 DL DL.S

end K02

set_option maxHeartbeats 1000000
namespace K02
open PySem PySem.Spec PyProof.Rows L2 DL DL.S

def pGh {γ : Type} (n : Nat) (pre : γ → List Dat → Mem → Prop) (post : γ → List Dat → Mem → Dat → Mem → Prop) : DSp := fun ds m Q E => ds.length = n ∧ ∃ g, pre g ds m ∧ ∀ r m', post g ds m r m' → Q r m'
theorem pGh.len {γ : Type} {n pre post} : ∀ ds m Q E, pGh (γ := γ) n pre post ds m Q E → ds.length = n := fun _ _ _ _ h => h.1
end K02

set_option maxHeartbeats 1000000
namespace K02
open PySem PySem.Spec PyProof.Rows L2 DL DL.S

end K02

set_option maxHeartbeats 1000000
namespace K02
open PySem PySem.Spec PyProof.Rows L2 DL DL.S

theorem strOk_app (a b : Str) : PyData.strOk (a ++ b) = (PyData.strOk a && PyData.strOk b) := by
  show (a.cps ++ b.cps).all _ = _
  rw [Array.all_append]; rfl
theorem so1 : PyData.strOk (Str.ofString ", ") = true := by decide +kernel
theorem so2 : PyData.strOk (Str.ofString "") = true := by decide +kernel
theorem so3 : PyData.strOk (Str.ofString "[") = true := by decide +kernel
theorem so4 : PyData.strOk (Str.ofString "]") = true := by decide +kernel
theorem so5 : PyData.strOk (Str.ofString "(") = true := by decide +kernel
theorem so6 : PyData.strOk (Str.ofString ")") = true := by decide +kernel
theorem so7 : PyData.strOk (Str.ofString ",)") = true := by decide +kernel
theorem so8 : PyData.strOk ((Str.ofString ", ").join []) = true := by decide +kernel
theorem strOk_text : ∀ (ts : List Str) (k : Nat) (acc : Str), PyData.strOk acc = true → (∀ t ∈ ts, PyData.strOk t = true) → PyData.strOk (textFrom k acc ts) = true
  | [], k, acc, h, _ => h
  | t :: r, k, acc, h, ht => by
    have h1 : PyData.strOk (acc ++ ((if k > 0 then ", " else "" : String) : Str) ++ t) = true := by
      rw [strOk_app, strOk_app, h, ht t (by simp)]
      split <;> simp [so1, so2]
    exact strOk_text r (k + 1) _ h1 fun x hx => ht x (by simp [hx])
theorem strOk_list {ts : List Str} (h : ∀ t ∈ ts, PyData.strOk t = true) : PyData.strOk (listText ts) = true := by
  unfold listText
  rw [strOk_app, strOk_text ts 0 _ so3 h, so4]; rfl
theorem strOk_join : ∀ {ts : List Str}, (∀ t ∈ ts, PyData.strOk t = true) → PyData.strOk (Str.join ", " ts) = true
  | [], _ => so8
  | [x], h => h x (by simp)
  | x :: y :: r, h => by
    show PyData.strOk (x ++ ", " ++ Str.join ", " (y :: r)) = true
    rw [strOk_app, strOk_app, h x (by simp), strOk_join (ts := y :: r) fun t ht => h t (by simp at ht ⊢; exact .inr ht), so1]; rfl
theorem strOk_tuple {ts : List Str} (h : ∀ t ∈ ts, PyData.strOk t = true) : PyData.strOk (tupleText ts) = true := by
  unfold tupleText
  rw [strOk_app, strOk_app, strOk_join h, so5]
  split <;> simp [so6, so7]
theorem shownAll_mem : ∀ {xs : List Dat} {t : Str}, t ∈ PyData.shownAll (pys xs) → ∃ x ∈ xs, t = (py x).shown
  | [], t, h => by cases h
  | x :: xs, t, h => by
    rw [pys, PyData.shownAll] at h
    rcases List.mem_cons.mp h with rfl | h
    · exact ⟨x, by simp, rfl⟩
    · obtain ⟨y, hy, e⟩ := shownAll_mem h
      exact ⟨y, by simp [hy], e⟩
end K02

set_option maxHeartbeats 1000000
namespace K02
open PySem PySem.Spec PyProof.Rows L2 DL DL.S

theorem leaves_all {B : Nat} : ∀ {xs : List Dat}, PyData.leavesShortAll B (pys xs) = true ↔ ∀ x ∈ xs, (py x).leavesShort B = true
  | [] => by simp [pys, PyData.leavesShortAll]
  | x :: xs => by
    rw [pys, PyData.leavesShortAll, Bool.and_eq_true, leaves_all (xs := xs)]
    simp
end K02

set_option maxHeartbeats 1000000
namespace K02
open PySem PySem.Spec PyProof.Rows L2 DL DL.S

end K02

set_option maxHeartbeats 1000000
namespace K02
open PySem PySem.Spec PyProof.Rows L2 DL DL.S
end K02

set_option maxHeartbeats 1000000
namespace DL.S
open PySem PySem.Spec PyProof.Rows L2 DL
end DL.S

set_option maxHeartbeats 1000000
namespace K02
open PySem PySem.Spec PyProof.Rows L2 DL DL.S

abbrev Lk : Type := Nat × Nat
def Lk.lt (p q : Lk) : Prop := p.1 < q.1 ∨ (p.1 = q.1 ∧ p.2 < q.2)
def Lk.le (p q : Lk) : Bool := decide (p.1 < q.1 ∨ (p.1 = q.1 ∧ p.2 ≤ q.2))
structure NetOk (n : Nat) (ps : List Lk) : Prop where
  n1 : 1 ≤ n
  n7 : n ≤ 7
  l8 : ps.length ≤ 8
  ord : ∀ p ∈ ps, p.1 < p.2 ∧ p.2 < n
  asc : ps.Pairwise Lk.lt
theorem Lk.le_trans (p q r : Lk) (h1 : Lk.le p q = true) (h2 : Lk.le q r = true) : Lk.le p r = true := by
  unfold Lk.le at *
  simp only [decide_eq_true_eq] at *
  omega
end K02

set_option maxHeartbeats 1000000
namespace K02
open PySem PySem.Spec PyProof.Rows L2 DL DL.S

section
variable {n : Nat} {ps : List Lk}
end
end K02

set_option maxHeartbeats 1000000
namespace DL.S
open PySem PySem.Spec PyProof.Rows L2 DL K02

def vd (k B : Nat) (d : Dat) : Bool := (good k d && okR k d) && ((py d).leavesShort 40 && (decide ((py d).bulk ≤ B) && PyData.strOk (py d).shown))
structure Vd (k B : Nat) (d : Dat) : Prop where
  good : DL.S.good k d = true
  okR : DL.okR k d = true
  short : (py d).leavesShort 40 = true
  bulk : (py d).bulk ≤ B
  str : PyData.strOk (py d).shown = true
theorem vd_iff {k B : Nat} {d : Dat} : vd k B d = true ↔ Vd k B d := by
  unfold vd
  rw [Bool.and_eq_true, Bool.and_eq_true, Bool.and_eq_true, Bool.and_eq_true, decide_eq_true_iff]
  exact ⟨fun h => ⟨h.1.1, h.1.2, h.2.1, h.2.2.1, h.2.2.2⟩, fun h => ⟨⟨h.1, h.2⟩, h.3, h.4, h.5⟩⟩
theorem good_up1 {d : Dat} {k : Nat} (h : good k d = true) : good (k + 1) d = true := by
  induction k generalizing d with
  | zero => cases d <;> first | exact h | (simp [good] at h)
  | succ k ih =>
    cases d with
    | tup xs =>
      rw [good, Bool.and_eq_true, List.all_eq_true] at h ⊢
      exact ⟨h.1, fun x hx => ih (h.2 x hx)⟩
    | lst xs =>
      rw [good, Bool.and_eq_true, List.all_eq_true] at h ⊢
      exact ⟨h.1, fun x hx => ih (h.2 x hx)⟩
    | _ => exact h
theorem okR_up1 : ∀ {k : Nat} {d : Dat}, okR k d = true → okR (k + 1) d = true := by
  intro k
  induction k with
  | zero => intro d h; cases d <;> first | exact h | (simp [okR] at h)
  | succ k ih =>
    intro d h
    cases d with
    | tup xs =>
      rw [okR, List.all_eq_true] at h ⊢
      exact fun x hx => ih (h x hx)
    | lst xs =>
      rw [okR, List.all_eq_true] at h ⊢
      exact fun x hx => ih (h x hx)
    | dct kvs =>
      rw [okR, List.all_eq_true] at h ⊢
      intro x hx
      have := h x hx
      rw [Bool.and_eq_true] at this ⊢
      exact ⟨ih this.1, ih this.2⟩
    | _ => exact h
theorem good_le {j k : Nat} {d : Dat} (e : j ≤ k) (h : good j d = true) : good k d = true := by
  obtain ⟨i, rfl⟩ : ∃ i, k = j + i := ⟨k - j, by omega⟩
  induction i with
  | zero => exact h
  | succ i ih => exact good_up1 (ih (by omega))
theorem okR_le1 {j k : Nat} {d : Dat} (e : j ≤ k) (h : okR j d = true) : okR k d = true := by
  obtain ⟨i, rfl⟩ : ∃ i, k = j + i := ⟨k - j, by omega⟩
  induction i with
  | zero => exact h
  | succ i ih => exact okR_up1 (ih (by omega))
theorem Vd.up {j k A B : Nat} {d : Dat} (h : Vd j A d) (e : j ≤ k) (e2 : A ≤ B) : Vd k B d := ⟨good_le e h.good, okR_le1 e h.okR, h.short, Nat.le_trans h.bulk e2, h.str⟩
theorem bulk_all {B : Nat} : ∀ {xs : List Dat}, (∀ x ∈ xs, (py x).bulk ≤ B) → PyData.bulkAll (pys xs) ≤ (B + 1) * xs.length
  | [], _ => Nat.zero_le _
  | x :: xs, h => by
    have h1 := h x (by simp)
    have h2 := bulk_all (xs := xs) fun y hy => h y (by simp [hy])
    rw [pys, PyData.bulkAll, List.length_cons, Nat.mul_add]
    omega
theorem Vd.tup {k B L A : Nat} {xs : List Dat} (h : ∀ x ∈ xs, Vd k B x) (hl : xs.length ≤ L) (hL : L ≤ 10000) (hA : (B + 1) * L ≤ A) : Vd (k + 1) A (.tup xs) := by
  refine ⟨?_, ?_, leaves_all.mpr fun x hx => (h x hx).short, ?_, strOk_tuple fun t ht => ?_⟩
  · rw [DL.S.good, Bool.and_eq_true, List.all_eq_true]
    exact ⟨decide_eq_true (by omega), fun x hx => (h x hx).good⟩
  · rw [DL.okR, List.all_eq_true]
    exact fun x hx => (h x hx).okR
  · have h1 := bulk_all (xs := xs) fun x hx => (h x hx).bulk
    exact Nat.le_trans (Nat.le_trans h1 (Nat.mul_le_mul_left _ hl)) hA
  · obtain ⟨x, hx, rfl⟩ := shownAll_mem ht
    exact (h x hx).str
theorem Vd.lst {k B L A : Nat} {xs : List Dat} (h : ∀ x ∈ xs, Vd k B x) (hl : xs.length ≤ L) (hL : L ≤ 10000) (hA : (B + 1) * L ≤ A) : Vd (k + 1) A (.lst xs) := by
  refine ⟨?_, ?_, leaves_all.mpr fun x hx => (h x hx).short, ?_, strOk_list fun t ht => ?_⟩
  · rw [DL.S.good, Bool.and_eq_true, List.all_eq_true]
    exact ⟨decide_eq_true (by omega), fun x hx => (h x hx).good⟩
  · rw [DL.okR, List.all_eq_true]
    exact fun x hx => (h x hx).okR
  · have h1 := bulk_all (xs := xs) fun x hx => (h x hx).bulk
    exact Nat.le_trans (Nat.le_trans h1 (Nat.mul_le_mul_left _ hl)) hA
  · obtain ⟨x, hx, rfl⟩ := shownAll_mem ht
    exact (h x hx).str
theorem Vd.int {k : Nat} {i : Int} (h : vd 0 0 (.int i) = true) : Vd k 0 (.int i) := (vd_iff.mp h).up (Nat.zero_le _) (Nat.le_refl _)
theorem Vd.bl {k B : Nat} (b : Bool) : Vd k B (.bl b) := by
  cases b
  · exact (vd_iff.mp (show vd 0 0 (.bl false) = true by decide +kernel)).up (Nat.zero_le _) (Nat.zero_le _)
  · exact (vd_iff.mp (show vd 0 0 (.bl true) = true by decide +kernel)).up (Nat.zero_le _) (Nat.zero_le _)
theorem Vd.non {k B : Nat} : Vd k B .non := (vd_iff.mp (show vd 0 0 .non = true by decide +kernel)).up (Nat.zero_le _) (Nat.zero_le _)
theorem Vd.shown {k B : Nat} {d : Dat} (h : Vd k B d) (hB : B ≤ 100000) : (py d).shown.length ≤ sizeLine := by
  have h1 := PyData.shown_le_bulk 40 (by omega) _ h.short
  have h2 := h.bulk
  refine Nat.le_trans (m := 10000000) (by omega) (sz (by decide))
end DL.S

set_option maxHeartbeats 1000000
namespace DL.S
open PySem PySem.Spec PyProof.Rows L2 DL
end DL.S

set_option maxHeartbeats 1000000
namespace DL.S
open PySem PySem.Spec PyProof.Rows L2 DL K02
local macro_rules | `(tactic| walk_at "ev") => `(tactic| repeat' (first
  | exact ev_c | exact ev_v rfl | exact ev_o rfl | exact eva_nil | exact e2_i0 | exact e2_add | exact e1_u | exact e2_isn | exact evo_no | exact sz (Nat.le_of_ble_eq_true rfl)
  | ((with_reducible show DL.frs _ = some _); exact rfl)
  | apply ev_bin | apply ev_un | apply ev_n | apply eva_cons | apply ev_new | apply evn_lst | apply em_tup | apply evo_p))

def isTup : Dat → Bool
  | .tup _ => true
  | _ => false
theorem isi_tup {C : Ct} {env : Env'} {m : Mem} {d : Dat} (h : plain d = true) : EvM (oIsi C) env m [.f d, .f (.ty "tuple")] (.bl (isTup d)) := fun Q q => by
  cases d <;> first | exact q | (cases h)
end DL.S

set_option maxHeartbeats 1000000
namespace DL
open PySem PySem.Spec PyProof.Rows L2
end DL
namespace DL.S
open PySem PySem.Spec PyProof.Rows L2 DL K02

structure OutOk (many : Nat) (o : List Nat) : Prop where
  asc : o.Pairwise (· < ·)
  lt : ∀ l ∈ o, l < many
def outD (o : List Nat) : Dat := .tup (o.map fun l : Nat => .int (l : Nat))
theorem asc_len {many : Nat} : ∀ {o : List Nat} {k : Nat}, o.Pairwise (· < ·) → (∀ l ∈ o, k ≤ l ∧ l < many) → o.length ≤ many - k
  | [], _, _, _ => Nat.zero_le _
  | l :: o, k, h, hl => by
    rw [List.pairwise_cons] at h
    have h0 := hl l (by simp)
    have := asc_len (many := many) (k := l + 1) h.2 fun x hx => ⟨h.1 x hx, (hl x (by simp [hx])).2⟩
    rw [List.length_cons]
    omega
theorem OutOk.len {many : Nat} {o : List Nat} (h : OutOk many o) : o.length ≤ many := by
  have := asc_len (k := 0) h.asc fun l hl => ⟨Nat.zero_le _, h.lt l hl⟩
  omega
end DL.S

set_option maxHeartbeats 1000000
namespace DL.S
open PySem PySem.Spec PyProof.Rows L2 DL K02

end DL.S

set_option maxHeartbeats 1000000
namespace DL.S
open PySem PySem.Spec PyProof.Rows L2 DL K02
def subs : List Nat → List (List Nat)
  | [] => [[]]
  | x :: xs => subs xs ++ (subs xs).map (x :: ·)
theorem mem_subs : ∀ {xs o : List Nat}, xs.Pairwise (· < ·) → o.Pairwise (· < ·) → (∀ l ∈ o, l ∈ xs) → o ∈ subs xs
  | [], o, _, _, h => by
    cases o with
    | nil => simp [subs]
    | cons l o => exact absurd (h l (by simp)) (by simp)
  | x :: xs, o, hx, ho, h => by
    rw [List.pairwise_cons] at hx
    rw [subs, List.mem_append]
    by_cases hm : x ∈ o
    · refine .inr ?_
      cases o with
      | nil => cases hm
      | cons l o =>
        rw [List.pairwise_cons] at ho
        have e : l = x := by
          rcases List.mem_cons.mp (h l (by simp)) with q | q
          · exact q
          · rcases List.mem_cons.mp hm with z | z
            · exact z.symm
            · have := ho.1 x z
              have := hx.1 l q
              omega
        subst e
        refine List.mem_map.mpr ⟨o, mem_subs hx.2 ho.2 fun y hy => ?_, rfl⟩
        rcases List.mem_cons.mp (h y (by simp [hy])) with q | q
        · have := ho.1 y hy; omega
        · exact q
    · refine .inl (mem_subs hx.2 ho fun y hy => ?_)
      rcases List.mem_cons.mp (h y hy) with q | q
      · rw [q] at hy; exact absurd hy hm
      · exact q
theorem OutOk.subs {many : Nat} {o : List Nat} (h : OutOk many o) (h8 : many ≤ 8) : o ∈ DL.S.subs (List.range 8) :=
  mem_subs (by decide) h.asc fun l hl => List.mem_range.mpr (Nat.lt_of_lt_of_le (h.lt l hl) h8)
theorem outs_shown : ((subs (List.range 8)).all fun o => vd 0 30 (.str (py (outD o)).shown)) = true := by decide +kernel
theorem OutOk.shown {many : Nat} {o : List Nat} (h : OutOk many o) (h8 : many ≤ 8) : Vd 0 30 (.str (py (outD o)).shown) := vd_iff.mp (List.all_eq_true.mp outs_shown o (h.subs h8))
end DL.S

set_option maxHeartbeats 1000000
namespace DL
open PySem PySem.Spec PyProof.Rows L2
end DL
namespace DL.S
open PySem PySem.Spec PyProof.Rows L2 DL K02
section
variable {da : TAd} {env : Env'} {m tl : Mem} {Q : QL} {c : Nat}
end
end DL.S
namespace DL
open PySem PySem.Spec PyProof.Rows L2 DL.S K02
end DL

set_option maxHeartbeats 1000000
namespace K02
open PySem PySem.Spec PyProof.Rows L2 DL DL.S

section
variable {n : Nat} {qs : List (Lk × Bool)}
end
end K02

set_option maxHeartbeats 1000000
namespace DL.S
open PySem PySem.Spec PyProof.Rows L2 DL
end DL.S

set_option maxHeartbeats 1000000
namespace DL
open PySem PySem.Spec PyProof.Rows L2
end DL
namespace DL.S
open PySem PySem.Spec PyProof.Rows L2 DL K02

def atL (ps : List Lk) (i : Int) : List Nat := (ps.zipIdx.filter fun p => decide ((p.1.1 : Int) = i ∨ (p.1.2 : Int) = i)).map (·.2)
def isPl (C : Ct) (d : Dat) : Prop := plain d = true ∨ ∃ c xs, d = .ins c xs ∧ C.own c = true ∧ C.isaB c "tuple" = some false
theorem isPl.tup {C : Ct} {env : Env'} {m : Mem} {d : Dat} (h : isPl C d) : EvM (oIsi C) env m [.f d, .f (.ty "tuple")] (.bl (isTup d)) := by
  rcases h with h | ⟨c, xs, rfl, ho, hb⟩
  · exact isi_tup h
  · intro Q q
    simp [oIsi, derI, der, isaD, isa1, tyN, ho, hb]
    exact q
end DL.S

set_option maxHeartbeats 1000000
namespace DL.S
open PySem PySem.Spec PyProof.Rows L2 DL
end DL.S

set_option maxHeartbeats 1000000
namespace DL.S
open PySem PySem.Spec PyProof.Rows L2 DL
def ft_cells : List (Nat × Nat) := [(21, 1)]
def ft_widthO : List (Nat × Nat) := [(21, 0)]
end DL.S

set_option maxHeartbeats 1000000
namespace DL.S
open PySem PySem.Spec PyProof.Rows L2 DL
end DL.S

set_option maxHeartbeats 1000000
namespace DL.S
open PySem PySem.Spec PyProof.Rows L2 DL
end DL.S

set_option maxHeartbeats 1000000
namespace DL.S
open PySem PySem.Spec PyProof.Rows L2 DL
end DL.S

set_option maxHeartbeats 1000000
namespace DL.S
open PySem PySem.Spec PyProof.Rows L2 DL
end DL.S

set_option maxHeartbeats 1000000
namespace DL.S
open PySem PySem.Spec PyProof.Rows L2 DL
end DL.S

set_option maxHeartbeats 1000000
namespace DL.S
open PySem PySem.Spec PyProof.Rows L2 DL
end DL.S

set_option maxHeartbeats 1000000
namespace DL.S
open PySem PySem.Spec PyProof.Rows L2 DL
end DL.S

set_option maxHeartbeats 1000000
namespace DL.S
open PySem PySem.Spec PyProof.Rows L2 DL
end DL.S

set_option maxHeartbeats 1000000
namespace DL.S
open PySem PySem.Spec PyProof.Rows L2 DL
end DL.S

set_option maxHeartbeats 1000000
namespace DL.S
open PySem PySem.Spec PyProof.Rows L2 DL
end DL.S

set_option maxHeartbeats 1000000
namespace DL.S
open PySem PySem.Spec PyProof.Rows L2 DL
end DL.S

set_option maxHeartbeats 1000000
namespace DL.S
open PySem PySem.Spec PyProof.Rows L2 DL
end DL.S

set_option maxHeartbeats 2000000
namespace K09
open PySem PySem.Spec PyProof.Rows L2 DL DL.S
def top (i : Nat) : Stmt := PySem.Challenge.pw_sparerows_k09_sets_refused.main.body.getD i (.Pass ⟨0, 0, 0, 0⟩)
def inCls (s : Stmt) (i : Nat) : Stmt := match s with
  | .ClassDef _ _ _ body _ _ _ _ _ _ _ => body.getD i (.Pass ⟨0, 0, 0, 0⟩)
  | _ => .Pass ⟨0, 0, 0, 0⟩
def tab : Tab := { names := ["SpareError", "", "", "", "", "", "", "", "BadOutages", "", "", "", "", "", "", "", "", "", "", "", "", "Outages"], flds := [[], [], [], [], [], [], [], [], ["error"], [], [], [], [], [], [], [], [], [], [], [], [], ["width", "cells"]], owns := [21], ii := [], ib := [], it := [] }
def ft_error : List (Nat × Nat) := [(8, 0)]
def ise : List (Nat × Nat × Bool) := [(8, 8, true)]
def ts_SpareError : List (Nat × Bool) := [(8, true)]
section
variable {P : Program} {w : World} {K : PySem.W.Frag} {mg : Str → Option Value} {base : Heap} {C : Ct}
abbrev st_law_deck : Stmt := (top 16)
abbrev st_law_next : Stmt := (top 17)
abbrev st_law_every : Stmt := (top 19)
abbrev st_law_outage : Stmt := (top 18)
abbrev st_law_some : Stmt := (top 20)
abbrev st_law_same : Stmt := (top 21)
abbrev st_law_bent : Stmt := (top 24)
abbrev st_law_whole : Stmt := (top 22)
abbrev st_law_ascends : Stmt := (top 23)
abbrev st_law_due : Stmt := (top 25)
abbrev st_is_whole : Stmt := (top 6)
abbrev st_is_below : Stmt := (top 7)
abbrev st_ascends : Stmt := (top 8)
abbrev st_outages_error : Stmt := (top 10)
abbrev st_number_of : Stmt := (top 11)
abbrev st_Outages_init : Stmt := (inCls (top 14) 0)
abbrev st_law_told : Stmt := (top 26)
abbrev st_law : Stmt := (top 27)
end
end K09

set_option maxHeartbeats 1000000
namespace DL
end DL
namespace K09
open PySem PySem.Spec PyProof.Rows L2 DL DL.S
open K02
local macro_rules | `(tactic| walk_at "ev") => `(tactic| repeat' (first
  | exact ev_c | exact ev_v rfl | exact ev_o rfl | exact eva_nil | exact e2_i0 | exact e2_add | exact e1_u | exact e2_isn | exact evo_no | exact sz (Nat.le_of_ble_eq_true rfl)
  | ((with_reducible show DL.frs _ = some _); exact rfl) | ((with_reducible show der _ _ _ = some _); exact rfl) | ((with_reducible show lstOf _ _ _ = some _); exact rfl) | ((with_reducible show seqOf _ _ _ = some _); exact rfl)
  | apply ev_bin | apply ev_un | apply ev_n | apply eva_cons | apply ev_new | apply evn_lst | apply em_tup | apply evo_p | apply ev_slT | apply ev_backT | apply evn_list | apply evn_cat | apply e2_addT | apply ev_tupRg))

end K09

set_option maxHeartbeats 1000000
namespace DL
open PySem PySem.Spec PyProof.Rows L2
section
variable {env : Env'} {m : Mem} {d da db : TD} {x y : Lv}
end
end DL
namespace DL.S
open PySem PySem.Spec PyProof.Rows L2 DL K02

abbrev Bk : Type := Nat × Option Nat × Nat
abbrev Tn : Type := Nat × Nat
abbrev Rws : Type := List (Bk × List Tn)
end DL.S

set_option maxHeartbeats 1000000
namespace DL.S
open PySem PySem.Spec PyProof.Rows L2 DL K02

section
variable (n : Nat) (A : Nat → List Nat) (g : Nat)
def lev : Nat → Nat → Option Nat
  | 0, v => if v = g then some 0 else none
  | k + 1, v => match lev k v with
    | some d => some d
    | none => if ((List.range n).any fun u => decide (lev k u = some k) && decide (v ∈ A u)) = true then some (k + 1) else none
end
section
variable {n : Nat} {A : Nat → List Nat} {g : Nat}
def getN (kn : List (Nat × Nat)) (v : Nat) : Option Nat := (kn.find? fun p => decide (p.1 = v)).map (·.2)
theorem getN_none {kn : List (Nat × Nat)} {v : Nat} : getN kn v = none ↔ v ∉ kn.map (·.1) := by
  induction kn with
  | nil => simp [getN]
  | cons p kn ih =>
    by_cases e : p.1 = v
    · simp [getN, List.find?_cons, e]
    · have : getN (p :: kn) v = getN kn v := by simp [getN, List.find?_cons, e]
      rw [this, ih, List.map_cons, List.mem_cons, not_or]
      exact ⟨fun h => ⟨fun z => e z.symm, h⟩, fun h => h.2⟩
theorem getN_snoc {kn : List (Nat × Nat)} {w d v : Nat} (h : getN kn w = none) : getN (kn ++ [(w, d)]) v = if v = w then some d else getN kn v := by
  induction kn with
  | nil =>
    by_cases e : w = v
    · simp [getN, List.find?_cons, e]
    · have e' : ¬ v = w := fun z => e z.symm
      simp [getN, List.find?_cons, e, e']
  | cons p kn ih =>
    by_cases e : p.1 = v
    · have ne : ¬ v = w := fun z => by
        rw [getN_none, List.map_cons, List.mem_cons, not_or] at h
        exact h.1 (by rw [e]; exact z.symm)
      simp [getN, List.find?_cons, e, ne]
    · have h' : getN kn w = none := by
        rw [getN_none] at h ⊢
        exact fun z => h (List.mem_cons_of_mem _ z)
      have a : getN (p :: kn ++ [(w, d)]) v = getN (kn ++ [(w, d)]) v := by simp [getN, List.find?_cons, e]
      have b : getN (p :: kn) v = getN kn v := by simp [getN, List.find?_cons, e]
      rw [a, b, ih h']
structure Mid (n : Nat) (A : Nat → List Nat) (g k : Nat) (acc : List Nat) (kn : List (Nat × Nat)) (more : List Nat) : Prop where
  mem : ∀ v, v ∈ more ↔ v ∈ acc ∧ lev n A g k v = none
  get : ∀ v, getN kn v = match lev n A g k v with
    | some d => some d
    | none => if v ∈ more then some (k + 1) else none
  nd : (kn.map (·.1)).Nodup
  lt : ∀ p ∈ kn, p.1 < n ∧ p.2 ≤ n
  ml : more.length ≤ kn.length
theorem Mid.new {k w : Nat} {acc : List Nat} {kn : List (Nat × Nat)} {more : List Nat} (h : Mid n A g k acc kn more) (hw : getN kn w = none) (hn : w < n) (hk : k < n) : Mid n A g k (acc ++ [w]) (kn ++ [(w, k + 1)]) (more ++ [w]) := by
  have hl : lev n A g k w = none ∧ w ∉ more := by
    have := h.get w
    rw [hw] at this
    cases e : lev n A g k w with
    | some d => rw [e] at this; cases this
    | none =>
      rw [e] at this
      refine ⟨rfl, fun z => ?_⟩
      simp [z] at this
  refine ⟨fun v => ?_, fun v => ?_, ?_, fun p hp => ?_, by simp; exact h.ml⟩
  · rw [List.mem_append, List.mem_append, List.mem_singleton, h.mem]
    constructor
    · rintro (⟨a, b⟩ | rfl)
      · exact ⟨.inl a, b⟩
      · exact ⟨.inr rfl, hl.1⟩
    · rintro ⟨a | rfl, b⟩
      · exact .inl ⟨a, b⟩
      · exact .inr rfl
  · rw [getN_snoc hw, h.get v]
    by_cases e : v = w
    · subst e
      rw [if_pos rfl, hl.1]
      simp
    · rw [if_neg e]
      cases lev n A g k v with
      | some d => rfl
      | none => simp [e]
  · rw [List.map_append, List.nodup_append]
    refine ⟨h.nd, by simp, fun a ha b hb e => ?_⟩
    simp at hb
    subst hb e
    exact getN_none.mp hw ha
  · rcases List.mem_append.mp hp with q | q
    · exact h.lt p q
    · rw [List.mem_singleton.mp q]; exact ⟨hn, by show k + 1 ≤ n; omega⟩
end
end DL.S

set_option maxHeartbeats 1000000
namespace DL.S
open PySem PySem.Spec PyProof.Rows L2 DL K02

theorem nodup_len : ∀ {n : Nat} {l : List Nat}, l.Nodup → (∀ x ∈ l, x < n) → l.length ≤ n
  | 0, l, _, h => by
    cases l with
    | nil => simp
    | cons a l => exact absurd (h a (by simp)) (by omega)
  | n + 1, l, hn, h => by
    by_cases hm : n ∈ l
    · have e := List.length_erase_of_mem hm
      have := nodup_len (n := n) (l := l.erase n) (hn.erase n) fun x hx => by
        have h1 := h x (List.mem_of_mem_erase hx)
        have h2 : x ≠ n := fun z => by
          subst z
          exact (List.Nodup.not_mem_erase hn) hx
        omega
      omega
    · have := nodup_len (n := n) (l := l) hn fun x hx => by
        have h1 := h x hx
        have h2 : x ≠ n := fun z => hm (z ▸ hx)
        omega
      omega
section
variable {n g k : Nat} {A : Nat → List Nat} {ps : List Lk} {o : List Nat} {m : Mem} {x4 : Option Sl}
end
end DL.S

set_option maxHeartbeats 1000000
namespace DL
open PySem PySem.Spec PyProof.Rows L2
end DL
namespace DL.S
open PySem PySem.Spec PyProof.Rows L2 DL K02

theorem mem_atL {ps : List Lk} {v c : Nat} : c ∈ atL ps (v : Int) ↔ ∃ p, ps[c]? = some p ∧ (p.1 = v ∨ p.2 = v) := by
  unfold atL
  rw [List.mem_map]
  constructor
  · rintro ⟨⟨p, j⟩, hq, rfl⟩
    obtain ⟨h1, h2⟩ := List.mem_filter.mp hq
    have h3 := of_decide_eq_true h2
    exact ⟨p, List.mk_mem_zipIdx_iff_getElem?.mp h1, by dsimp only at h3; omega⟩
  · rintro ⟨p, h1, h2⟩
    exact ⟨(p, c), List.mem_filter.mpr ⟨List.mk_mem_zipIdx_iff_getElem?.mpr h1, decide_eq_true (by dsimp only; omega)⟩, rfl⟩
theorem atL_lt {ps : List Lk} {v c : Nat} (h : c ∈ atL ps (v : Int)) : c < ps.length := by
  obtain ⟨p, h1, _⟩ := mem_atL.mp h
  exact (List.getElem?_eq_some_iff.mp h1).1
structure KeyOk (n : Nat) (ps : List Lk) (t mk : Nat) (k : Bk) : Prop where
  lt : k.1 < n
  ne : k.1 ≠ t
  mkl : k.2.2 < mk
  came : ∀ c, k.2.1 = some c → c ∈ atL ps (k.1 : Int)
  zero : k.2.1 = none → k.2.2 = 0
structure RowOk (ps : List Lk) (v mk : Nat) (r : List Tn) : Prop where
  at_ : ∀ t ∈ r, t.1 ∈ atL ps (v : Int) ∧ t.2 < mk
  nd : (r.map (·.1)).Nodup
theorem RowOk.len {ps : List Lk} {v mk : Nat} {r : List Tn} (h : RowOk ps v mk r) : r.length ≤ ps.length := by
  have := nodup_len (n := ps.length) h.nd fun x hx => by
    obtain ⟨t, ht, rfl⟩ := List.mem_map.mp hx
    exact atL_lt (h.at_ t ht).1
  simpa using this
structure RowsOk (n : Nat) (ps : List Lk) (t mk : Nat) (rs : Rws) : Prop where
  key : ∀ p ∈ rs, KeyOk n ps t mk p.1
  row : ∀ p ∈ rs, RowOk ps p.1.1 mk p.2
  nd : (rs.map (·.1)).Nodup
  len : rs.length ≤ 300
section
variable {env : Env'} {m : Mem} {da : TAd} {d : TD} {n : Nat} {ps : List Lk}
end
abbrev BkG : Type := (Nat × List Lk) × (Nat × Nat)
end DL.S

set_option maxHeartbeats 1000000
namespace DL
open PySem PySem.Spec PyProof.Rows L2
end DL
namespace DL.S
open PySem PySem.Spec PyProof.Rows L2 DL K02

section
variable {env : Env'} {m : Mem} {da : TAd} {n : Nat} {ps : List Lk} {t mk : Nat}
end
def keysAt (ps : List Lk) (mk v : Nat) : List Bk := (v, none, 0) :: (atL ps (v : Int)).flatMap fun c => (List.range mk).map fun j => (v, some c, j)
def keysL (n : Nat) (ps : List Lk) (t mk : Nat) : List Bk := (List.range n).flatMap fun v => if v = t then [] else keysAt ps mk v
end DL.S

set_option maxHeartbeats 1000000
namespace DL
open PySem PySem.Spec PyProof.Rows L2
end DL
namespace DL.S
open PySem PySem.Spec PyProof.Rows L2 DL K02

abbrev BG : Type := BkG × Rws
end DL.S

set_option maxHeartbeats 1000000
namespace DL
open PySem PySem.Spec PyProof.Rows L2
end DL
namespace DL.S
open PySem PySem.Spec PyProof.Rows L2 DL K02

def code (ps : List Lk) (k : Bk) : Nat := match k.2.1 with
  | none => 0
  | some c => 1 + (c * 2 + (if k.1 = (ps.getD c (0, 0)).1 then 0 else 1)) * 3 + k.2.2
section
variable {n : Nat} {ps : List Lk} {t mk : Nat} {rs : Rws} {o : List Nat} {start : Nat}
end
end DL.S

set_option maxHeartbeats 1000000
namespace DL
open PySem PySem.Spec PyProof.Rows L2
end DL
namespace DL.S
open PySem PySem.Spec PyProof.Rows L2 DL K02

section
variable {D : En} {m : Mem} {ps : List Lk} {mk : Nat} {x0 x2 : Option Sl}
end
end DL.S

set_option maxHeartbeats 1000000
namespace DL
open PySem PySem.Spec PyProof.Rows L2
end DL
namespace DL.S
open PySem PySem.Spec PyProof.Rows L2 DL K02

end DL.S

set_option maxHeartbeats 1000000
namespace DL.S
open PySem PySem.Spec PyProof.Rows L2 DL K02

end DL.S

set_option maxHeartbeats 1000000
namespace DL
open PySem PySem.Spec PyProof.Rows L2
end DL
namespace DL.S
open PySem PySem.Spec PyProof.Rows L2 DL K02
section
variable {D : En} {n : Nat} {ps : List Lk} {t mk : Nat} {few kind : Int} {x10 : Option Sl}
end
end DL.S

set_option maxHeartbeats 1000000
namespace DL.S
open PySem PySem.Spec PyProof.Rows L2 DL K02

end DL.S

set_option maxHeartbeats 1000000
namespace DL.S
open PySem PySem.Spec PyProof.Rows L2 DL K02

def OutsOk (many : Nat) (os : List (List Nat)) : Prop := (∀ o ∈ os, OutOk many o) ∧ os.Nodup ∧ os.length ≤ 256
end DL.S

set_option maxHeartbeats 1000000
namespace DL.S
open PySem PySem.Spec PyProof.Rows L2 DL K02

end DL.S

set_option maxHeartbeats 1000000
namespace DL.S
open PySem PySem.Spec PyProof.Rows L2 DL K02

end DL.S

set_option maxHeartbeats 1000000
namespace DL.S
open PySem PySem.Spec PyProof.Rows L2 DL K02

def BkOk (g : BG) : Prop := NetOk g.1.1.1 g.1.1.2 ∧ RowsOk g.1.1.1 g.1.1.2 g.1.2.1 g.1.2.2 g.2 ∧ g.1.2.2 ≤ 3
end DL.S

set_option maxHeartbeats 1000000
namespace DL.S
open PySem PySem.Spec PyProof.Rows L2 DL K02

end DL.S

set_option maxHeartbeats 1000000
namespace DL.S
open PySem PySem.Spec PyProof.Rows L2 DL K02

def FarOk (n : Nat) (fs : List Nat) : Prop := fs.length = n ∧ ∀ x ∈ fs, x ≤ 7
theorem FarOk.set {n : Nat} {fs : List Nat} (h : FarOk n fs) {a v : Nat} (hv : v ≤ 7) : FarOk n (fs.set a v) := ⟨by rw [List.length_set]; exact h.1, fun x hx => by
  rcases List.mem_or_eq_of_mem_set hx with z | z
  · exact h.2 x z
  · rw [z]; exact hv⟩
theorem FarOk.at {n : Nat} {fs : List Nat} (h : FarOk n fs) {a : Nat} (ha : a < n) : fs.getD a 0 ≤ 7 := by
  have hl : a < fs.length := by rw [h.1]; exact ha
  have e : fs.getD a 0 = fs[a] := by simp [List.getD, hl]
  rw [e]
  exact h.2 _ (List.getElem_mem hl)
section
variable {D : En} {m : Mem} {n : Nat} {x0 x1 x2 x4 x7 : Option Sl}
end
end DL.S

set_option maxHeartbeats 1000000
namespace DL.S
open PySem PySem.Spec PyProof.Rows L2 DL K02

section
variable {m : Mem} {n t mk : Nat} {ps : List Lk} {fs : List Nat} {kind : Int}
end
end DL.S

set_option maxHeartbeats 1000000
namespace DL.S
open PySem PySem.Spec PyProof.Rows L2 DL K02
theorem RowsOk.set {n : Nat} {ps : List Lk} {t mk : Nat} {rs : Rws} (h : RowsOk n ps t mk rs) {i : Nat} (hi : i < rs.length) {r : List Tn} (hr : RowOk ps (rs[i]).1.1 mk r) : RowsOk n ps t mk (rs.set i ((rs[i]).1, r)) := by
  have ek : (rs.set i ((rs[i]).1, r)).map (·.1) = rs.map (·.1) := by
    rw [List.map_set]
    refine List.ext_getElem (by simp) fun j h1 h2 => ?_
    rw [List.getElem_set]
    split
    · rename_i e; subst e; simp
    · rfl
  have mem : ∀ p ∈ rs.set i ((rs[i]).1, r), p ∈ rs ∨ p = ((rs[i]).1, r) := fun p hp => List.mem_or_eq_of_mem_set hp
  refine ⟨fun p hp => ?_, fun p hp => ?_, by rw [ek]; exact h.nd, by rw [List.length_set]; exact h.len⟩
  · rcases mem p hp with z | z
    · exact h.key p z
    · rw [z]; exact (show KeyOk n ps t mk (rs[i]).1 from h.key _ (List.getElem_mem hi))
  · rcases mem p hp with z | z
    · exact h.row p z
    · rw [z]; exact hr
end DL.S

set_option maxHeartbeats 1000000
namespace K02
open PySem PySem.Spec PyProof.Rows L2 DL DL.S
end K02

set_option maxHeartbeats 1000000
namespace DL.S
open PySem PySem.Spec PyProof.Rows L2 DL K02

structure ScOk (g : BG) : Prop where
  net : NetOk g.1.1.1 g.1.1.2
  rows : RowsOk g.1.1.1 g.1.1.2 g.1.2.1 g.1.2.2 g.2
  mk0 : 0 < g.1.2.2
  mk3 : g.1.2.2 ≤ 3
  tg : g.1.2.1 < g.1.1.1
  keys : g.2.map (·.1) = keysL g.1.1.1 g.1.1.2 g.1.2.1 g.1.2.2
theorem ScOk.bk {g : BG} (h : ScOk g) : BkOk g := ⟨h.net, h.rows, h.mk3⟩
section
variable {env : Env'} {m : Mem} {d : TD} {b : BG}
end
end DL.S

set_option maxHeartbeats 1000000
namespace DL.S
open PySem PySem.Spec PyProof.Rows L2 DL K02

end DL.S

set_option maxHeartbeats 1000000
namespace DL.S
open PySem PySem.Spec PyProof.Rows L2 DL K02
section
variable {n g k : Nat} {ps : List Lk} {o : List Nat} {m : Mem}
end
end DL.S

set_option maxHeartbeats 1000000
namespace DL.S
open PySem PySem.Spec PyProof.Rows L2 DL K02

def cls (n : Nat) (f : Nat → Nat) : Nat := ((List.range n).filter fun v => decide (f v = v)).length
end DL.S

set_option maxHeartbeats 1000000
namespace DL.S
open PySem PySem.Spec PyProof.Rows L2 DL K02
section
variable {n g : Nat} {A : Nat → List Nat}
end
section
variable {n g : Nat} {ps : List Lk} {o : List Nat} {m : Mem}
end
end DL.S

set_option maxHeartbeats 1000000
namespace DL.S
open PySem PySem.Spec PyProof.Rows L2 DL K02
section
variable {n : Nat} {ps : List Lk} {o : List Nat}
end
end DL.S

set_option maxHeartbeats 1000000
namespace DL.S
open PySem PySem.Spec PyProof.Rows L2 DL K02

section
variable {D : En} {m : Mem} {b : BG} {rs : Rws} {x2 : Option Sl}
end
end DL.S
namespace DL.S
end DL.S

set_option maxHeartbeats 1000000
namespace DL.S
open PySem PySem.Spec PyProof.Rows L2 DL K02

end DL.S

set_option maxHeartbeats 1000000
namespace DL.S
open PySem PySem.Spec PyProof.Rows L2 DL K02
section
variable {env : Env'} {m : Mem} {d1 d2 : TD} {l : Nat} {P R : OP}
end
end DL.S

set_option maxHeartbeats 1000000
namespace DL.S
open PySem PySem.Spec PyProof.Rows L2 DL K02
end DL.S

set_option maxHeartbeats 1000000
namespace DL.S
open PySem PySem.Spec PyProof.Rows L2 DL K02

section
variable {C : Ct} {env : Env'} {m : Mem} {da db : TD}
end
end DL.S

set_option maxHeartbeats 1000000
namespace DL.S
open PySem PySem.Spec PyProof.Rows L2 DL K02
end DL.S

set_option maxHeartbeats 1000000
namespace DL.S
open PySem PySem.Spec PyProof.Rows L2 DL K02
end DL.S

set_option maxHeartbeats 1000000
namespace DL.S
open PySem PySem.Spec PyProof.Rows L2 DL K02
section
variable {env : Env'} {m : Mem} {d1 d2 : TD} {l l' : Nat} {P R : OP}
end
end DL.S

set_option maxHeartbeats 1000000
namespace DL.S
open PySem PySem.Spec PyProof.Rows L2 DL K02
section
variable {env : Env'} {m : Mem} {da : TAd} {l k : Nat} {nb : Int}
end
end DL.S

set_option maxHeartbeats 1000000
namespace DL.S
open PySem PySem.Spec PyProof.Rows L2 DL K02
section
variable {l : Nat} {os qs : List (List Nat)} {P : OP}
theorem OutsOk.sub (h : OutsOk l os) (s : List.Sublist qs os) : OutsOk l qs := ⟨fun o ho => h.1 o (s.mem ho), h.2.1.sublist s, Nat.le_trans s.length_le h.2.2⟩
end
end DL.S
namespace DL.S
open PySem PySem.Spec PyProof.Rows L2 DL K02
end DL.S
namespace DL.S
open PySem PySem.Spec PyProof.Rows L2 DL K02
end DL.S
namespace DL.S
open PySem PySem.Spec PyProof.Rows L2 DL K02
end DL.S
namespace DL.S
open PySem PySem.Spec PyProof.Rows L2 DL K02
end DL.S

set_option maxHeartbeats 1000000
namespace DL.S
open PySem PySem.Spec PyProof.Rows L2 DL K02
end DL.S
namespace DL.S
open PySem PySem.Spec PyProof.Rows L2 DL K02
end DL.S
namespace DL.S
open PySem PySem.Spec PyProof.Rows L2 DL K02
end DL.S

set_option maxHeartbeats 1000000
namespace DL.S
open PySem PySem.Spec PyProof.Rows L2 DL K02
end DL.S

set_option maxHeartbeats 1000000
namespace DL.S
open PySem PySem.Spec PyProof.Rows L2 DL K02
end DL.S

set_option maxHeartbeats 1000000
namespace DL.AU
open PySem PySem.Spec PyProof.Rows L2 DL DL.S K02
section
variable {env : Env'} {m : Mem} {d da db : TD} {x y : Lv} {z : Dat}
end
end DL.AU

set_option maxHeartbeats 1000000
namespace DL.S
open PySem PySem.Spec PyProof.Rows L2 DL K02

end DL.S

set_option maxHeartbeats 1000000
namespace K09
open PySem PySem.Spec PyProof.Rows L2 DL DL.S
open K02
set_option hygiene false
local macro_rules | `(tactic| trivial) => `(tactic| with_reducible exact eva_nil)
local macro_rules | `(tactic| trivial) => `(tactic| ((with_reducible apply ev_bin) <;> trivial))
local macro_rules | `(tactic| trivial) => `(tactic| ((with_reducible apply ev_if) <;> trivial))
local macro_rules | `(tactic| trivial) => `(tactic| ((with_reducible apply AU.aTup) <;> first | rfl | trivial))
local macro_rules | `(tactic| trivial) => `(tactic| ((with_reducible apply AU.aLst) <;> first | rfl | trivial))
local macro_rules | `(tactic| trivial) => `(tactic| ((with_reducible apply AU.aLstN) <;> first | rfl | trivial))
local macro_rules | `(tactic| trivial) => `(tactic| ((with_reducible apply AU.aLen) <;> first | rfl | trivial))
local macro_rules | `(tactic| trivial) => `(tactic| ((with_reducible apply AU.aTupL) <;> first | rfl | trivial))
local macro_rules | `(tactic| trivial) => `(tactic| ((with_reducible apply eva_cons) <;> trivial))
local macro_rules | `(tactic| trivial) => `(tactic| with_reducible exact ev_c)
local macro_rules | `(tactic| trivial) => `(tactic| ((with_reducible apply AU.ao) <;> rfl))
local macro_rules | `(tactic| trivial) => `(tactic| ((with_reducible apply AU.av) <;> rfl))
local macro_rules | `(tactic| trivial) => `(tactic| with_reducible exact e2_add)
local macro_rules | `(tactic| trivial) => `(tactic| with_reducible exact e2_i0)
local macro_rules | `(tactic| trivial) => `(tactic| with_reducible exact e2_isn)
local macro_rules | `(tactic| trivial) => `(tactic| ((with_reducible apply e2_ix) <;> rfl))
local macro_rules | `(tactic| trivial) => `(tactic| ((with_reducible apply AU.aEq) <;> first | rfl | trivial))
local macro_rules | `(tactic| trivial) => `(tactic| ((with_reducible apply AU.aSame) <;> first | trivial | rfl))
local macro_rules | `(tactic| trivial) => `(tactic| ((with_reducible apply evb_tst) <;> trivial))
local macro_rules | `(tactic| trivial) => `(tactic| ((with_reducible apply evb_not) <;> trivial))
local macro_rules | `(tactic| trivial) => `(tactic| with_reducible exact AU.gNil)
local macro_rules | `(tactic| trivial) => `(tactic| ((with_reducible apply AU.gCons) <;> trivial))
local macro_rules | `(tactic| trivial) => `(tactic| ((with_reducible apply AU.gLst) <;> first | rfl | trivial))
local macro_rules | `(tactic| trivial) => `(tactic| ((with_reducible apply AU.gTup) <;> first | rfl | trivial))
local macro_rules | `(tactic| trivial) => `(tactic| with_reducible assumption)

section
variable {D : En} {x0 x2 : Option Sl} {m : Mem} {c n : Nat} {vs : List Dat}
end
end K09

set_option maxHeartbeats 0
namespace K09
open PySem PySem.Spec PyProof.Rows L2 DL DL.S
open K02
abbrev st_BadOutages_xi : Stmt := (inCls (top 4) 0)
def fn : List DefX := [⟨(.g "_law_deck"), "_law_deck", "_law_deck", defArgs st_law_deck, defBody st_law_deck, defScope st_law_deck⟩,
  ⟨(.g "_law_next"), "_law_next", "_law_next", defArgs st_law_next, defBody st_law_next, defScope st_law_next⟩,
  ⟨(.g "_law_every"), "_law_every", "_law_every", defArgs st_law_every, defBody st_law_every, defScope st_law_every⟩,
  ⟨(.g "_law_outage"), "_law_outage", "_law_outage", defArgs st_law_outage, defBody st_law_outage, defScope st_law_outage⟩,
  ⟨(.g "_law_some"), "_law_some", "_law_some", defArgs st_law_some, defBody st_law_some, defScope st_law_some⟩,
  ⟨(.g "_law_same"), "_law_same", "_law_same", defArgs st_law_same, defBody st_law_same, defScope st_law_same⟩,
  ⟨(.g "_law_bent"), "_law_bent", "_law_bent", defArgs st_law_bent, defBody st_law_bent, defScope st_law_bent⟩,
  ⟨(.g "_law_whole"), "_law_whole", "_law_whole", defArgs st_law_whole, defBody st_law_whole, defScope st_law_whole⟩,
  ⟨(.g "_law_ascends"), "_law_ascends", "_law_ascends", defArgs st_law_ascends, defBody st_law_ascends, defScope st_law_ascends⟩,
  ⟨(.g "_law_due"), "_law_due", "_law_due", defArgs st_law_due, defBody st_law_due, defScope st_law_due⟩,
  ⟨(.g "is_whole"), "is_whole", "is_whole", defArgs st_is_whole, defBody st_is_whole, defScope st_is_whole⟩,
  ⟨(.g "is_below"), "is_below", "is_below", defArgs st_is_below, defBody st_is_below, defScope st_is_below⟩,
  ⟨(.g "ascends"), "ascends", "ascends", defArgs st_ascends, defBody st_ascends, defScope st_ascends⟩,
  ⟨(.g "outages_error"), "outages_error", "outages_error", defArgs st_outages_error, defBody st_outages_error, defScope st_outages_error⟩,
  ⟨(.g "number_of"), "number_of", "number_of", defArgs st_number_of, defBody st_number_of, defScope st_number_of⟩,
  ⟨(.m "Outages" "__init__"), "__init__", "Outages.__init__", defArgs st_Outages_init, defBody st_Outages_init, defScope st_Outages_init⟩,
  ⟨(.g "_law_told"), "_law_told", "_law_told", defArgs st_law_told, defBody st_law_told, defScope st_law_told⟩,
  ⟨(.g "law"), "law", "law", defArgs st_law, defBody st_law, defScope st_law⟩,
  ⟨(.m "BadOutages" "__init__"), "__init__", "BadOutages.__init__", defArgs st_BadOutages_xi, defBody st_BadOutages_xi, defScope st_BadOutages_xi⟩]
def ex : List Fk := [noSysB,
  tab.chk,
  (fun K => (He.Fa.free "abs").ok K),
  (fun K => (He.Fa.free "all").ok K),
  (fun K => (He.Fa.free "bool").ok K),
  (fun K => (He.Fa.free "dict").ok K),
  (fun K => (He.Fa.free "enumerate").ok K),
  (fun K => (He.Fa.free "int").ok K),
  (fun K => (He.Fa.free "isinstance").ok K),
  (fun K => (He.Fa.free "len").ok K),
  (fun K => (He.Fa.free "list").ok K),
  (fun K => (He.Fa.free "range").ok K),
  (fun K => (He.Fa.free "repr").ok K),
  (fun K => (He.Fa.free "set").ok K),
  (fun K => (He.Fa.free "sorted").ok K),
  (fun K => (He.Fa.free "str").ok K),
  (fun K => (He.Fa.free "sum").ok K),
  (fun K => (He.Fa.free "tuple").ok K),
  (fun K => (He.Fa.free "zip").ok K),
  (fun K => (He.Fa.int "MAX_LINKS" 8).ok K),
  (fun K => (He.Fa.glo "BadOutages").ok K),
  (tab.fiC "cells" ft_cells),
  (tab.fiC "width" ft_widthO),
  (tab.xfC "error" ft_error),
  (tab.ieC ise),
  (fun K => (He.Fa.glo "SpareError").ok K),
  (tab.exC 0 ts_SpareError),
  noLstB,
  (fun K => (He.Fa.glo "_law_deck").ok K),
  (fun K => (He.Fa.glo "_law_next").ok K),
  (fun K => (He.Fa.glo "_law_every").ok K),
  (fun K => (He.Fa.glo "_law_outage").ok K),
  (fun K => (He.Fa.glo "_law_some").ok K),
  (fun K => (He.Fa.glo "_law_same").ok K),
  (fun K => (He.Fa.glo "_law_bent").ok K),
  (fun K => (He.Fa.glo "_law_whole").ok K),
  (fun K => (He.Fa.glo "_law_ascends").ok K),
  (fun K => (He.Fa.glo "_law_due").ok K),
  (fun K => (He.Fa.glo "is_whole").ok K),
  (fun K => (He.Fa.glo "is_below").ok K),
  (fun K => (He.Fa.glo "ascends").ok K),
  (fun K => (He.Fa.glo "outages_error").ok K),
  (fun K => (He.Fa.glo "number_of").ok K),
  (fun K => (He.Fa.glo "_law_told").ok K),
  (fun K => (He.Fa.glo "law").ok K),
  (fun K => (He.Fa.glo "Outages").ok K),
  (tab.mkC 21),
  (fun K => (He.Fa.glo "BadOutages").ok K),
  (tab.xcC 8 ["error"])]
abbrev R : PySem.W.OpenRow := PySem.W.OpenLaw.row PySem.Challenge.rw_sparerows_k09_sets_refused
abbrev hk : PySem.W.Hook := hookR 2000 ex fn
def ob (s : PySem.W.SharedT) : AlY := obsRG 2000 ex fn (HandSHeadRun.getT s)
def loose0 : List Str := ["_wall", "MAX_LINKS", "SpareError", "BadOutages", "is_whole", "is_below", "ascends", "outages_error", "number_of", "outage_of", "made", "Outages", "_law_deck", "_law_next", "_law_outage", "_law_every", "_law_some", "_law_same", "_law_whole", "_law_ascends", "_law_bent", "_law_due", "_law_told"]
def loose : List Str := loose0
theorem run (w : World) : HandSHeadRun.RunEq R (PySem.W.view R.prog [27]) hk ob 20000 loose w := by
  intro os
  kernel_rfl
end K09
set_option Elab.async false
set_option linter.all false
set_option maxRecDepth 100000
set_option maxHeartbeats 1000000
namespace DL
open PySem PySem.Spec PyProof.Rows L2

theorem tg_upd {T : List (Addr × Str)} {H G : Hp} {p : Addr} {o : HO} (t : LamX.Tabs T H) (h : Calm (H p)) (g : ∀ q ∈ T, G q.1 = none) : ∀ q ∈ T, upd G p o q.1 = none := fun q hq => by
  obtain ⟨ps, h1, h2, h3⟩ := t q hq
  rw [upd_ne (fun z => h.1 ps (by rw [← z]; exact h1))]
  exact g q hq

section
variable {C : Ct} {w : World} {K : PySem.W.Frag} {al al' : List Addr} {G G' : Hp}
theorem FzAll.get' {vs ds} {i : Nat} {v : V} (h : FzAll C w K al G vs ds) (e : vs[i]? = some v) : ∃ d, ds[i]? = some d ∧ Fz C w K al G v d := by
  have hl := h.length
  have hi : i < vs.length := (List.getElem?_eq_some_iff.mp e).1
  have hd : ds[i]? = some ds[i] := List.getElem?_eq_getElem (by omega)
  obtain ⟨v', h1, h2⟩ := h.get hd
  rw [e] at h1; cases h1
  exact ⟨_, hd, h2⟩
theorem FzAll.append {vs ds us es} (h : FzAll C w K al G vs ds) (h' : FzAll C w K al G us es) : FzAll C w K al G (vs ++ us) (ds ++ es) := by
  induction ds generalizing vs with
  | nil => cases h; exact h'
  | cons d ds ih => cases h with | cons x r => exact .cons x (ih r)
theorem FzAll.take {vs ds} (n : Nat) (h : FzAll C w K al G vs ds) : FzAll C w K al G (vs.take n) (ds.take n) := by
  induction ds generalizing vs n with
  | nil => cases h; simp; exact .nil
  | cons d ds ih =>
    cases h with
    | cons x r =>
      cases n with
      | zero => exact .nil
      | succ n => exact .cons x (ih n r)
theorem FzAll.drop {vs ds} (n : Nat) (h : FzAll C w K al G vs ds) : FzAll C w K al G (vs.drop n) (ds.drop n) := by
  induction ds generalizing vs n with
  | nil => cases h; simp; exact .nil
  | cons d ds ih =>
    cases h with
    | cons x r =>
      cases n with
      | zero => exact .cons x r
      | succ n => exact ih n r
theorem FzAll.reverse {vs ds} (h : FzAll C w K al G vs ds) : FzAll C w K al G vs.reverse ds.reverse := by
  induction ds generalizing vs with
  | nil => cases h; exact .nil
  | cons d ds ih =>
    cases h with
    | cons x r => rw [List.reverse_cons, List.reverse_cons]; exact (ih r).append (.cons x .nil)
theorem FzAll.eraseIdx {vs ds} (n : Nat) (h : FzAll C w K al G vs ds) : FzAll C w K al G (vs.eraseIdx n) (ds.eraseIdx n) := by
  induction ds generalizing vs n with
  | nil => cases h; exact .nil
  | cons e ds ih =>
    cases h with
    | cons y r =>
      cases n with
      | zero => exact r
      | succ n => exact .cons y (ih n r)
end

theorem Nw.le.refl (a : Nw) : a.le a := ⟨fun _ _ h => h, fun _ _ h _ _ => h, fun _ h => h, fun _ _ => rfl, List.prefix_rfl, fun k p h e => by
  rw [List.getElem?_eq_none h] at e; cases e⟩
section
variable (C : Ct) (w : World) (K : PySem.W.Frag)
end

section
variable {C : Ct} {w : World} {K : PySem.W.Frag} {B n n' : Nw} {m m' : Mem} {env : Env'} {σ : L2.St}
theorem Ok.go (o : Ok C w K B n env m σ) (g : Good C w K n' m') (l : n.le n') : Ok C w K B n' env m' σ := ⟨g, o.base.trans l, o.env.le l⟩
theorem Nw.le.base {p : Addr} (l : B.le n) (h : n.H p = none) : B.H p = none := by
  cases e : B.H p with
  | none => rfl
  | some u => exact absurd h (l.there p (by rw [e]; simp))
theorem Good.freeze {p : Addr} {o : HO} (g : Good C w K n m) (hp : n.H p = none) : Good C w K ⟨upd n.G p o, n.al, upd n.H p o⟩ m ∧ n.le ⟨upd n.G p o, n.al, upd n.H p o⟩ := by
  obtain ⟨b2, b4⟩ := g.free hp
  have ne : ∀ a u, n.H a = some u → a ≠ p := fun a u e z => by subst z; rw [hp] at e; cases e
  have neg : ∀ a u, n.G a = some u → a ≠ p := fun a u e z => by subst z; rw [b2] at e; cases e
  have l : n.le ⟨upd n.G p o, n.al, upd n.H p o⟩ := ⟨fun a u e => by
    show upd n.G p o a = some u
    rw [upd_ne (neg a u e)]; exact e, fun a u e _ _ => by
    show upd n.H p o a = some u
    rw [upd_ne (ne a u e)]; exact e, fun a e => by
    show upd n.H p o a ≠ none
    rw [upd_ne (fun z => by subst z; exact e hp)]; exact e, fun a e => by
    show upd n.G p o a = _
    rw [upd_ne (fun z => by subst z; exact e hp)], List.prefix_rfl, fun k a hk e => by
    have e' : n.al[k]? = some a := e
    rw [List.getElem?_eq_none hk] at e'; cases e'⟩
  refine ⟨⟨fun a u e => ?_, g.nd, g.len, fun k x a e1 e2 => ?_, Tabs_upd g.tab (Calm.none hp), tg_upd g.tab (Calm.none hp) g.tg⟩, l⟩
  · have e' : upd n.G p o a = some u := e
    show upd n.H p o a = some u
    by_cases z : a = p
    · subst z; rw [upd_same] at e'; rw [upd_same]; exact e'
    · rw [upd_ne z] at e'; rw [upd_ne z]; exact g.sub a u e'
  · obtain ⟨h1, h2⟩ := g.at_ k x a e1 e2
    have na : a ≠ p := fun z => b4 (z ▸ List.mem_of_getElem? e2)
    refine ⟨h1.imp l.g (pre_get l.ale) fun u e => ?_, ?_⟩
    · show upd n.H p o a = some u
      rw [upd_ne na]; exact e
    · show upd n.G p o a = none
      rw [upd_ne na]; exact h2
theorem EnvOk.setF {i : Nat} {v : V} {d : Dat} (h : EnvOk C w K B n env σ) (hx : FzN C w K n v d) : EnvOk C w K B n (env.set i (some (.f d))) (σ.set i (some v)) := by
  refine ⟨by simp [h.len], fun j y e => ?_, fun j y e => ?_, fun j k x y a e1 e2 f1 f2 => ?_⟩
  · by_cases hj : i = j
    · subst hj
      have hlt : i < env.length := by
        have := (List.getElem?_eq_some_iff.mp e).1
        simpa using this
      rw [List.getElem?_set_self hlt] at e
      cases e
      exact ⟨v, List.getElem?_set_self (by rw [← h.len]; exact hlt), hx⟩
    · rw [List.getElem?_set_ne hj] at e
      rw [List.getElem?_set_ne hj]
      exact h.fz j y e
  · by_cases hj : i = j
    · subst hj
      have hlt : i < env.length := by
        have := (List.getElem?_eq_some_iff.mp e).1
        simpa using this
      rw [List.getElem?_set_self hlt] at e
      cases e
    · rw [List.getElem?_set_ne hj] at e
      rw [List.getElem?_set_ne hj]
      exact h.own j y e
  · by_cases hj : i = j
    · subst hj
      have hlt : i < env.length := by
        have := (List.getElem?_eq_some_iff.mp e1).1
        simpa using this
      rw [List.getElem?_set_self hlt] at e1
      cases e1
    · by_cases hk : i = k
      · subst hk
        have hlt : i < env.length := by
          have := (List.getElem?_eq_some_iff.mp e2).1
          simpa using this
        rw [List.getElem?_set_self hlt] at e2
        cases e2
      · rw [List.getElem?_set_ne hj] at e1 f1
        rw [List.getElem?_set_ne hk] at e2 f2
        exact h.apart j k x y a e1 e2 f1 f2
theorem EnvOk.setO {i : Nat} {a : Addr} {z : Mo} (h : EnvOk C w K B n env σ) (hx : OwnAt C w K B n a z) (ha : ∀ (j : Nat) y, j ≠ i → env[j]? = some (some (.own y)) → σ[j]? ≠ some (some (.ref a))) :
    EnvOk C w K B n (env.set i (some (.own z))) (σ.set i (some (.ref a))) := by
  refine ⟨by simp [h.len], fun j y e => ?_, fun j y e => ?_, fun j k x y b e1 e2 f1 f2 => ?_⟩
  · by_cases hj : i = j
    · subst hj
      have hlt : i < env.length := by
        have := (List.getElem?_eq_some_iff.mp e).1
        simpa using this
      rw [List.getElem?_set_self hlt] at e
      cases e
    · rw [List.getElem?_set_ne hj] at e
      rw [List.getElem?_set_ne hj]
      exact h.fz j y e
  · by_cases hj : i = j
    · subst hj
      have hlt : i < env.length := by
        have := (List.getElem?_eq_some_iff.mp e).1
        simpa using this
      rw [List.getElem?_set_self hlt] at e
      cases e
      exact ⟨a, List.getElem?_set_self (by rw [← h.len]; exact hlt), hx⟩
    · rw [List.getElem?_set_ne hj] at e
      rw [List.getElem?_set_ne hj]
      exact h.own j y e
  · have hi : ∀ {j : Nat} {y : Mo}, i = j → (env.set i (some (.own z)))[j]? = some (some (.own y)) → (σ.set i (some (V.ref a)))[j]? = some (some (.ref a)) := by
      intro j y q e
      subst q
      have hlt : i < env.length := by
        have := (List.getElem?_eq_some_iff.mp e).1
        simpa using this
      exact List.getElem?_set_self (by rw [← h.len]; exact hlt)
    by_cases hj : i = j
    · by_cases hk : i = k
      · exact hj.symm.trans hk
      · have q := hi hj e1
        rw [q] at f1
        cases f1
        rw [List.getElem?_set_ne hk] at e2 f2
        exact absurd f2 (ha k y (Ne.symm hk) e2)
    · by_cases hk : i = k
      · have q := hi hk e2
        rw [q] at f2
        cases f2
        rw [List.getElem?_set_ne hj] at e1 f1
        exact absurd f1 (ha j x (Ne.symm hj) e1)
      · rw [List.getElem?_set_ne hj] at e1 f1
        rw [List.getElem?_set_ne hk] at e2 f2
        exact h.apart j k x y b e1 e2 f1 f2
theorem Ok.setF {i : Nat} {v : V} {d : Dat} (h : Ok C w K B n env m σ) (hx : FzN C w K n v d) : Ok C w K B n (env.set i (some (.f d))) m (σ.set i (some v)) := ⟨h.good, h.base, h.env.setF hx⟩
theorem Ok.newO {i : Nat} {p : Addr} {o : HO} {z : Mo} (h : Ok C w K B n env m σ) (hp : n.H p = none) (hz : MoOk C w K ⟨n.G, n.al, upd n.H p o⟩ p z) :
    Ok C w K B ⟨n.G, n.al, upd n.H p o⟩ (env.set i (some (.own z))) m (σ.set i (some (.ref p))) := by
  obtain ⟨b2, b4⟩ := h.good.free hp
  have bn := h.base.base hp
  have ne : ∀ a u, n.H a = some u → a ≠ p := fun a u e z => by subst z; rw [hp] at e; cases e
  have e1 : EnvOk C w K B ⟨n.G, n.al, upd n.H p o⟩ env σ := ⟨h.env.len, h.env.fz, fun j y e => by
    obtain ⟨a, f, q⟩ := h.env.own j y e
    exact ⟨a, f, q.at (fun z => q.ok.there (z ▸ hp))⟩, h.env.apart⟩
  refine ⟨h.good.at b2 b4 (Calm.none hp), h.base.at bn, e1.setO ⟨hz, b2, b4, bn⟩ fun j y hj e f => ?_⟩
  obtain ⟨a, f', q⟩ := h.env.own j y e
  rw [f] at f'; cases f'
  exact q.ok.there hp
theorem Ok.chgO {i : Nat} {a : Addr} {o : HO} {x z : Mo} (h : Ok C w K B n env m σ) (hi : env[i]? = some (some (.own x))) (ha : σ[i]? = some (some (.ref a))) (hz : MoOk C w K ⟨n.G, n.al, upd n.H a o⟩ a z) :
    Ok C w K B ⟨n.G, n.al, upd n.H a o⟩ (env.set i (some (.own z))) m σ := by
  obtain ⟨a', f', q⟩ := h.env.own i x hi
  rw [ha] at f'; cases f'
  have e1 : EnvOk C w K B ⟨n.G, n.al, upd n.H a o⟩ (env.set i (some (.own z))) (σ.set i (some (.ref a))) := by
    have hlt : i < env.length := (List.getElem?_eq_some_iff.mp hi).1
    refine ⟨by simp [h.env.len], fun j y e => ?_, fun j y e => ?_, fun j k x' y b e1 e2 f1 f2 => ?_⟩
    · by_cases hj : i = j
      · subst hj; rw [List.getElem?_set_self hlt] at e; cases e
      · rw [List.getElem?_set_ne hj] at e; rw [List.getElem?_set_ne hj]; exact h.env.fz j y e
    · by_cases hj : i = j
      · subst hj
        rw [List.getElem?_set_self hlt] at e; cases e
        exact ⟨a, List.getElem?_set_self (by rw [← h.env.len]; exact hlt), hz, q.g, q.al, q.new⟩
      · rw [List.getElem?_set_ne hj] at e
        rw [List.getElem?_set_ne hj]
        obtain ⟨b, f, q'⟩ := h.env.own j y e
        exact ⟨b, f, q'.at fun z => hj (h.env.apart i j x y a hi e ha (z ▸ f))⟩
    · have tr : ∀ {j : Nat} {y : Mo}, (env.set i (some (.own z)))[j]? = some (some (.own y)) → ∃ y', env[j]? = some (some (.own y')) := by
        intro j y e
        by_cases hj : i = j
        · subst hj; exact ⟨x, hi⟩
        · rw [List.getElem?_set_ne hj] at e; exact ⟨y, e⟩
      have ts : ∀ {j : Nat}, (σ.set i (some (V.ref a)))[j]? = some (some (.ref b)) → σ[j]? = some (some (.ref b)) := by
        intro j e
        by_cases hj : i = j
        · subst hj
          rw [List.getElem?_set_self (by rw [← h.env.len]; exact hlt)] at e
          rw [ha]; exact e
        · rw [List.getElem?_set_ne hj] at e; exact e
      obtain ⟨y1, g1⟩ := tr e1
      obtain ⟨y2, g2⟩ := tr e2
      exact h.env.apart j k y1 y2 b g1 g2 (ts f1) (ts f2)
  have eσ : σ.set i (some (V.ref a)) = σ := by
    have hs : i < σ.length := (List.getElem?_eq_some_iff.mp ha).1
    have : σ[i] = some (V.ref a) := (List.getElem?_eq_some_iff.mp ha).2
    rw [← this]; exact List.set_getElem_self hs
  rw [eσ] at e1
  exact ⟨h.good.at q.g q.al q.ok.calm, h.base.at q.new, e1⟩
theorem Good.chgM {k : Nat} {a : Addr} {o : HO} {x y : Mo} (g : Good C w K n m) (hk : n.al[k]? = some a) (hx : m[k]? = some x) (hy : MoOk C w K ⟨n.G, n.al, upd n.H a o⟩ a y) :
    Good C w K ⟨n.G, n.al, upd n.H a o⟩ (m.set k y) ∧ n.le ⟨n.G, n.al, upd n.H a o⟩ := by
  have hg := (g.at_ k x a hx hk).2
  have hm : a ∈ n.al := List.mem_of_getElem? hk
  refine ⟨⟨fun b u e => ?_, g.nd, by simp [g.len], fun j z b e1 e2 => ?_, Tabs_upd g.tab (g.at_ k x a hx hk).1.calm, g.tg⟩, ⟨fun b u e => e, fun b u e hn _ => ?_, fun b e => ?_, fun _ _ => rfl, List.prefix_rfl, fun j b hj e => ?_⟩⟩
  · show upd n.H a o b = some u
    rw [upd_ne (fun z => by subst z; have e' : n.G b = some u := e; rw [hg] at e'; cases e')]; exact g.sub b u e
  · by_cases hj : k = j
    · subst hj
      have e2' : n.al[k]? = some b := e2
      rw [hk] at e2'; cases e2'
      rw [List.getElem?_set_self (List.getElem?_eq_some_iff.mp hx).1] at e1
      cases e1
      exact ⟨hy, hg⟩
    · rw [List.getElem?_set_ne hj] at e1
      obtain ⟨h1, h2⟩ := g.at_ j z b e1 e2
      have nb : b ≠ a := fun q => hj (by
        subst q
        exact (List.getElem?_inj (List.getElem?_eq_some_iff.mp hk).1 g.nd).mp (hk.trans (Eq.symm e2)))
      refine ⟨h1.imp (n := n) (fun _ _ e => e) (fun _ _ e => e) fun u e => ?_, h2⟩
      show upd n.H a o b = some u
      rw [upd_ne nb]; exact e
  · show upd n.H a o b = some u
    rw [upd_ne (fun z => by subst z; exact hn hm)]; exact e
  · show upd n.H a o b ≠ none
    by_cases z : b = a
    · subst z; rw [upd_same]; simp
    · rw [upd_ne z]; exact e
  · have e' : n.al[j]? = some b := e
    rw [List.getElem?_eq_none hj] at e'; cases e'
theorem Good.newM {p : Addr} {o : HO} {x : Mo} (g : Good C w K n m) (hp : n.H p = none) (hx : MoOk C w K ⟨n.G, n.al ++ [p], upd n.H p o⟩ p x) :
    Good C w K ⟨n.G, n.al ++ [p], upd n.H p o⟩ (m ++ [x]) ∧ n.le ⟨n.G, n.al ++ [p], upd n.H p o⟩ := by
  obtain ⟨b2, b4⟩ := g.free hp
  have pre : n.al <+: n.al ++ [p] := List.prefix_append _ _
  refine ⟨⟨fun b u e => ?_, ?_, by simp [g.len], fun j z b e1 e2 => ?_, Tabs_upd g.tab (Calm.none hp), g.tg⟩, ⟨fun b u e => e, fun b u e hn _ => ?_, fun b e => ?_, fun _ _ => rfl, pre, fun j b hj e => ?_⟩⟩
  · show upd n.H p o b = some u
    rw [upd_ne (fun z => by subst z; have e' : n.G b = some u := e; rw [b2] at e'; cases e')]; exact g.sub b u e
  · show (n.al ++ [p]).Nodup
    rw [List.nodup_append]
    refine ⟨g.nd, by simp, fun a ha b hb z => ?_⟩
    have : b = p := by simpa using hb
    subst this; subst z; exact b4 ha
  · have e2' : (n.al ++ [p])[j]? = some b := e2
    by_cases hj : j < m.length
    · rw [List.getElem?_append_left hj] at e1
      rw [List.getElem?_append_left (by rw [← g.len]; exact hj)] at e2'
      obtain ⟨h1, h2⟩ := g.at_ j z b e1 e2'
      have nb : b ≠ p := fun q => h1.there (q ▸ hp)
      refine ⟨h1.imp (n := n) (fun _ _ e => e) (pre_get (a := n.al) pre) fun u e => ?_, h2⟩
      show upd n.H p o b = some u
      rw [upd_ne nb]; exact e
    · have hk2 : j = m.length := by
        have := (List.getElem?_eq_some_iff.mp e1).1
        rw [List.length_append] at this
        simp at this; omega
      rw [hk2, List.getElem?_append_right (Nat.le_refl _)] at e1
      rw [hk2, g.len, List.getElem?_append_right (Nat.le_refl _)] at e2'
      simp at e1 e2'
      subst e1; subst e2'
      exact ⟨hx, b2⟩
  · show upd n.H p o b = some u
    rw [upd_ne (fun z => by subst z; rw [hp] at e; cases e)]; exact e
  · show upd n.H p o b ≠ none
    rw [upd_ne (fun z => by subst z; exact e hp)]; exact e
  · have e' : (n.al ++ [p])[j]? = some b := e
    rw [List.getElem?_append_right hj] at e'
    have : b = p := by
      cases q : j - n.al.length with
      | zero => rw [q] at e'; simpa using e'.symm
      | succ r => rw [q] at e'; simp at e'
    subst this; exact hp
end
end DL

set_option maxHeartbeats 1000000
namespace DL
open PySem PySem.Spec PyProof.Rows L2

abbrev QL := Lv → Mem → Prop
abbrev TD := Env' → Mem → QL → Prop
abbrev TB := Env' → Mem → (Bool → Mem → Prop) → Prop
abbrev TAd := Env' → Mem → (List Lv → Mem → Prop) → Prop
abbrev TSd := En → Env' → Mem → Prop
abbrev AftL (C : Ct) (w : World) (K : PySem.W.Frag) (n : Nw) (env : Env') (σ : L2.St) (Q : VK) : QL := fun x m' => ∀ n' v, Good C w K n' m' → n.le n' → LvOk C w K n' env σ v x → Q v n'.H
def lE (C : Ct) (B : Nw) (w : World) (K : PySem.W.Frag) (d : TD) : TE := fun σ H Q => ∃ n env m, n.H = H ∧ Ok C w K B n env m σ ∧ d env m (AftL C w K n env σ Q)
def lB (C : Ct) (B : Nw) (w : World) (K : PySem.W.Frag) (d : TB) : TT := fun σ H Q => ∃ n env m, n.H = H ∧ Ok C w K B n env m σ ∧ d env m fun b m' => ∀ n', Good C w K n' m' → n.le n' → Q b n'.H
def lA (C : Ct) (B : Nw) (w : World) (K : PySem.W.Frag) (d : TAd) : TA := fun σ H Q => ∃ n env m, n.H = H ∧ Ok C w K B n env m σ ∧ d env m fun xs m' => ∀ n' vs, Good C w K n' m' → n.le n' → LvsOk C w K n' env σ vs xs → Q vs n'.H
theorem Nw.sub.refl (a : Nw) : a.sub a := ⟨fun _ _ h => h, List.prefix_rfl⟩
def lS (C : Ct) (B : Nw) (w : World) (K : PySem.W.Frag) (d : TSd) : TS := fun D σ H => ∃ n env m, n.H = H ∧ Ok C w K B n env m σ ∧ d (lD C B w K n D) env m
theorem En.le.refl (D : En) : En.le D D := ⟨fun _ _ h => h, fun _ _ h => h, fun _ _ h => h, fun _ _ h => h⟩

section
variable {C : Ct} {w : World} {K : PySem.W.Frag} {B n n' : Nw} {m m' : Mem} {env : Env'} {σ : L2.St}
end

section
variable {X : Cx}
theorem impT {e : Expr} {t t' : TT} (h : PT X e t) (i : ∀ σ H Q, t' σ H Q → t σ H Q) : PT X e t' := ⟨fun pins s σ H Q I q => h.run pins s σ H Q I (i σ H Q q)⟩
theorem impW {e : Expr} {t t' : TT} (h : PW X e t) (i : ∀ σ H Q, t' σ H Q → t σ H Q) : PW X e t' := ⟨fun wh pins s σ H Q I q => h.run wh pins s σ H Q I (i σ H Q q)⟩
theorem impA {es : List Expr} {t t' : TA} (h : PA X es t) (i : ∀ σ H Q, t' σ H Q → t σ H Q) : PA X es t' := ⟨fun pos pins s σ H Q I q => h.run pos pins s σ H Q I (i σ H Q q)⟩
theorem impS {st : Stmt} {t t' : TS} (h : PS X st t) (i : ∀ D σ H, t' D σ H → t D σ H) : PS X st t' := ⟨fun pins s σ H D I q => h.run pins s σ H D I (i D σ H q)⟩
theorem impSs {st : List Stmt} {t t' : TS} (h : PSs X st t) (i : ∀ D σ H, t' D σ H → t D σ H) : PSs X st t' := ⟨fun pins s σ H D I q => h.run pins s σ H D I (i D σ H q)⟩
end

def MonoD (d : TD) : Prop := ∀ env m (Q Q' : QL), (∀ x m', Q x m' → Q' x m') → d env m Q → d env m Q'
def MonoB (d : TB) : Prop := ∀ env m (Q Q' : Bool → Mem → Prop), (∀ x m', Q x m' → Q' x m') → d env m Q → d env m Q'
def MonoA (d : TAd) : Prop := ∀ env m (Q Q' : List Lv → Mem → Prop), (∀ x m', Q x m' → Q' x m') → d env m Q → d env m Q'
def MonoS (d : TSd) : Prop := ∀ env m D D', En.le D D' → d D env m → d D' env m
def Mono1 (f : Op1) : Prop := ∀ env m x (Q Q' : QD), (∀ x m', Q x m' → Q' x m') → f env m x Q → f env m x Q'
def Mono2 (f : Op2) : Prop := ∀ env m x y (Q Q' : QD), (∀ x m', Q x m' → Q' x m') → f env m x y Q → f env m x y Q'
def MonoN (f : OpN) : Prop := ∀ env m xs (Q Q' : QD), (∀ x m', Q x m' → Q' x m') → f env m xs Q → f env m xs Q'

structure DE (X : Cx) (C : Ct) (B : Nw) (e : Expr) (d : TD) : Prop where
  mono : MonoD d
  run : PE X e (lE C B X.w X.K d)
structure DT (X : Cx) (C : Ct) (B : Nw) (e : Expr) (d : TB) : Prop where
  mono : MonoB d
  run : PT X e (lB C B X.w X.K d)
structure DW (X : Cx) (C : Ct) (B : Nw) (e : Expr) (d : TB) : Prop where
  mono : MonoB d
  run : PW X e (lB C B X.w X.K d)
structure DA (X : Cx) (C : Ct) (B : Nw) (es : List Expr) (d : TAd) : Prop where
  mono : MonoA d
  run : PA X es (lA C B X.w X.K d)
structure DS (X : Cx) (C : Ct) (B : Nw) (st : Stmt) (d : TSd) : Prop where
  mono : MonoS d
  run : PS X st (lS C B X.w X.K d)
structure DSs (X : Cx) (C : Ct) (B : Nw) (st : List Stmt) (d : TSd) : Prop where
  mono : MonoS d
  run : PSs X st (lS C B X.w X.K d)

def rN (C : Ct) (w : World) (K : PySem.W.Frag) (f : OpN) : List V → Hp → VK → Prop := fun vs H Q => ∃ B n env m σ xs, n.H = H ∧ Ok C w K B n env m σ ∧ LvsOk C w K n env σ vs xs ∧ f env m xs (AftD C w K n Q)
structure OpD (X : Cx) (C : Ct) (F : Value → Value → Sem Value) (f : Op2) : Prop where
  mono : Mono2 f
  run : OpR X F (r2 C X.w X.K f)
structure UnD (X : Cx) (C : Ct) (F : Value → Sem Value) (f : Op1) : Prop where
  mono : Mono1 f
  run : UnR X F (r1 C X.w X.K f)
structure CallD (X : Cx) (C : Ct) (F : Value) (f : OpN) : Prop where
  mono : MonoN f
  run : CallR X F (rN C X.w X.K f)
structure IxD (X : Cx) (C : Ct) (f : Op2) : Prop where
  mono : Mono2 f
  run : IxR X (r2 C X.w X.K f)

def dBin (f : Op2) (da db : TD) : TD := fun env m Q => da env m fun x m1 => db env m1 fun y m2 => f env m2 x y fun z m3 => Q (.f z) m3
def dUn (f : Op1) (da : TD) : TD := fun env m Q => da env m fun x m1 => f env m1 x fun z m3 => Q (.f z) m3
theorem dBin.mono {f : Op2} {da db : TD} (hf : Mono2 f) (ha : MonoD da) (hb : MonoD db) : MonoD (dBin f da db) := fun env m Q Q' i h =>
  ha env m _ _ (fun x m1 h1 => hb env m1 _ _ (fun y m2 h2 => hf env m2 x y _ _ (fun z m3 => i _ _) h2) h1) h
theorem dUn.mono {f : Op1} {da : TD} (hf : Mono1 f) (ha : MonoD da) : MonoD (dUn f da) := fun env m Q Q' i h => ha env m _ _ (fun x m1 h1 => hf env m1 x _ _ (fun z m3 => i _ _) h1) h

section
variable {X : Cx} {C : Ct} {B : Nw} {a b e : Expr} {da db d : TD} {pos : Pos}
theorem bin_imp {f : Op2} (hf : Mono2 f) (ha : MonoD da) (hb : MonoD db) : ∀ σ H Q, lE C B X.w X.K (dBin f da db) σ H Q → tOp (r2 C X.w X.K f) (lE C B X.w X.K da) (lE C B X.w X.K db) σ H Q := by
  rintro σ H Q ⟨n, env, m, rfl, ok, h⟩
  refine ⟨n, env, m, rfl, ok, ha _ _ _ _ (fun x m1 h1 n1 v ok1 l1 lx => ?_) h⟩
  refine ⟨n1, env, m1, rfl, ok.go ok1 l1, hb _ _ _ _ (fun y m2 h2 n2 u ok2 l2 ly => ?_) h1⟩
  exact ⟨B, n2, env, m2, σ, x, y, rfl, ok.go ok2 (l1.trans l2), lx.le l2, ly, hf _ _ _ _ _ _ (fun z m3 h3 n3 v3 ok3 l3 lz => h3 n3 v3 ok3 (l1.trans (l2.trans l3)) lz) h2⟩
theorem un_imp {f : Op1} (hf : Mono1 f) (ha : MonoD da) : ∀ σ H Q, lE C B X.w X.K (dUn f da) σ H Q → tUn (r1 C X.w X.K f) (lE C B X.w X.K da) σ H Q := by
  rintro σ H Q ⟨n, env, m, rfl, ok, h⟩
  refine ⟨n, env, m, rfl, ok, ha _ _ _ _ (fun x m1 h1 n1 v ok1 l1 lx => ?_) h⟩
  exact ⟨B, n1, env, m1, σ, x, rfl, ok.go ok1 l1, lx, hf _ _ _ _ _ (fun z m3 h3 n3 v3 ok3 l3 lz => h3 n3 v3 ok3 (l1.trans l3) lz) h1⟩
theorem de_bin {op : Operator} {f : Op2} (ho : OpD X C (binaryOp op) f) (ha : DE X C B a da) (hb : DE X C B b db) : DE X C B (.BinOp a op b pos) (dBin f da db) :=
  ⟨dBin.mono ho.mono ha.mono hb.mono, imp (pe_op ho.run ha.run hb.run) (bin_imp ho.mono ha.mono hb.mono)⟩
theorem de_un {op : UnaryOp} {f : Op1} (ho : UnD X C (unaryOp op) f) (ha : DE X C B a da) : DE X C B (.UnaryOp op a pos) (dUn f da) :=
  ⟨dUn.mono ho.mono ha.mono, imp (pe_un ho.run ha.run) (un_imp ho.mono ha.mono)⟩
theorem de_cmp {op : CmpOp} {f : Op2} (ho : OpD X C (compareOp op) f) (ha : DE X C B a da) (hb : DE X C B b db) (hm : behindInMarks op b = false := by first | exact nomark _ | rfl) : DE X C B (.Compare a [op] [b] pos) (dBin f da db) :=
  ⟨dBin.mono ho.mono ha.mono hb.mono, imp (pe_cmpR ho.run ha.run hb.run hm) (bin_imp ho.mono ha.mono hb.mono)⟩
theorem de_ix {f : Op2} (ho : IxD X C f) (ha : DE X C B a da) (hb : DE X C B b db) (hs : PlainIx b := by exact fun _ _ => rfl) : DE X C B (.Subscript a b pos) (dBin f da db) :=
  ⟨dBin.mono ho.mono ha.mono hb.mono, imp (pe_ix ho.run ha.run hb.run hs) (bin_imp ho.mono ha.mono hb.mono)⟩

def dVar (i : Nat) : TD := fun env m Q => match env[i]? with
  | some (some (.f d)) => Q (.f d) m
  | some (some (.own _)) => Q (.o i) m
  | _ => False
def dC (d : Dat) : TD := fun _ m Q => Q (.f d) m
theorem dVar.mono (i : Nat) : MonoD (dVar i) := fun env m Q Q' h => by
  unfold dVar
  split
  · exact h _ _
  · exact h _ _
  · exact id
theorem dC.mono (d : Dat) : MonoD (dC d) := fun env m Q Q' h => h _ _
theorem de_var (i : Nat) {x : Str} {pos : Pos} (hN : X.N[i]? = some x := by rfl) (hv : Vis X.env.scope x := by first | exact Or.inl rfl | exact Or.inr (Or.inl rfl) | exact Or.inr (Or.inr rfl)) (hd : (x == ("__debug__" : Str)) = false := by decide)
    (hcd : (x == ("__classdict__" : Str)) = false := by decide) : DE X C B (.Name x pos) (dVar i) := by
  refine ⟨dVar.mono i, imp (pe_var hN hv hd hcd) ?_⟩
  rintro σ H Q ⟨n, env, m, rfl, ok, h⟩
  unfold dVar at h
  split at h
  · rename_i d hx
    obtain ⟨v, e1, h1⟩ := ok.env.fz i d hx
    exact ⟨v, e1, h n v ok.good (.refl _) h1⟩
  · rename_i x hx
    obtain ⟨a, e1, h1⟩ := ok.env.own i x hx
    exact ⟨_, e1, h n _ ok.good (.refl _) ⟨e1, x, hx⟩⟩
  · exact h.elim
theorem const_imp {d : Dat} {v : V} (hz : ∀ C w K al G, Fz C w K al G v d) : ∀ σ H Q, lE C B X.w X.K (dC d) σ H Q → tC v σ H Q := by
  rintro σ H Q ⟨n, env, m, rfl, ok, h⟩
  exact h n v ok.good (.refl _) (hz ..)
theorem de_int {i j} {pos : Pos} : DE X C B (.Constant (.int i) j pos) (dC (.int i)) := ⟨dC.mono _, imp pe_int (const_imp fun _ _ _ _ _ => .int _)⟩
theorem de_bl {i j} {pos : Pos} : DE X C B (.Constant (.bool i) j pos) (dC (.bl i)) := ⟨dC.mono _, imp pe_bl (const_imp fun _ _ _ _ _ => .bl _)⟩
theorem de_non {j} {pos : Pos} : DE X C B (.Constant .none j pos) (dC .non) := ⟨dC.mono _, imp pe_non (const_imp fun _ _ _ _ _ => .non)⟩
theorem de_str {i j} {pos : Pos} : DE X C B (.Constant (.str i) j pos) (dC (.str i)) := ⟨dC.mono _, imp pe_str (const_imp fun _ _ _ _ _ => .str _)⟩
theorem de_glob {x : Str} {v : V} {d : Dat} {u : Value} {pos : Pos} (hg : Gl X x) (hm : X.mg x = some u) (r : RelV v u) (hz : ∀ C w K al G, Fz C w K al G v d) (hd : (x == ("__debug__" : Str)) = false := by decide) : DE X C B (.Name x pos) (dC d) :=
  ⟨dC.mono _, imp (pe_glob hg hm r hd) (const_imp hz)⟩
theorem de_bltn {x : Str} {v : V} {d : Dat} {u : Value} {pos : Pos} (hg : Gl X x) (hm : X.mg x = none) (hv : bootBuiltins x = some u) (r : RelV v u) (hz : ∀ C w K al G, Fz C w K al G v d) (hn : x ≠ "__name__" := by decide) (hd : (x == ("__debug__" : Str)) = false := by decide) :
    DE X C B (.Name x pos) (dC d) := ⟨dC.mono _, imp (pe_bltn hg hm hv r hn hd) (const_imp hz)⟩

def dTst (d : TD) : TB := fun env m Q => d env m fun x m1 => match x with
  | .f (.bl b) => Q b m1
  | _ => False
theorem dTst.mono (h : MonoD d) : MonoB (dTst d) := fun env m Q Q' i => h env m _ _ fun x m1 => by
  cases x with
  | o k => exact id
  | f y => cases y <;> first | exact id | exact i _ _
theorem tst_imp {f : Op2} (hf : Mono2 f) (ha : MonoD da) (hb : MonoD db) : ∀ σ H Q, lB C B X.w X.K (dTst (dBin f da db)) σ H Q → tTest (tOp (r2 C X.w X.K f) (lE C B X.w X.K da) (lE C B X.w X.K db)) σ H Q := by
  rintro σ H Q ⟨n, env, m, rfl, ok, h⟩
  refine bin_imp (B := B) hf ha hb σ _ _ ⟨n, env, m, rfl, ok, dBin.mono hf ha hb _ _ _ _ (fun x m1 h1 n1 v ok1 l1 lx => ?_) h⟩
  cases x with
  | o k => exact h1.elim
  | f y =>
    cases y with
    | bl c => cases lx; exact ⟨c, rfl, h1 n1 ok1 l1⟩
    | _ => exact h1.elim
theorem dt_cmp {op : CmpOp} {f : Op2} (ho : OpD X C (compareOp op) f) (ha : DE X C B a da) (hb : DE X C B b db) (hm : behindInMarks op b = false := by first | exact nomark _ | rfl) : DT X C B (.Compare a [op] [b] pos) (dTst (dBin f da db)) :=
  ⟨dTst.mono (dBin.mono ho.mono ha.mono hb.mono), impT (pt_cmpR ho.run ha.run hb.run hm) (tst_imp ho.mono ha.mono hb.mono)⟩
theorem dt_val (h : DE X C B e d) (he : ∀ whole, isTrue e X.env whole = (do let v ← whole; standAt e.pos; holding [v] (truthy v)) := by intro _; rfl) : DT X C B e (dTst d) := by
  refine ⟨dTst.mono h.mono, impT (pt_val h.run he) ?_⟩
  rintro σ H Q ⟨n, env, m, rfl, ok, q⟩
  refine ⟨n, env, m, rfl, ok, h.mono _ _ _ _ (fun x m1 h1 n1 v ok1 l1 lx => ?_) q⟩
  cases x with
  | o k => exact h1.elim
  | f y =>
    cases y with
    | bl c => cases lx; exact ⟨c, rfl, h1 n1 ok1 l1⟩
    | _ => exact h1.elim
def dAnd (p q : TB) : TB := fun env m Q => p env m fun b m1 => if b = true then q env m1 Q else Q false m1
def dOr (p q : TB) : TB := fun env m Q => p env m fun b m1 => if b = true then Q true m1 else q env m1 Q
def dNot (p : TB) : TB := fun env m Q => p env m fun b m1 => Q (!b) m1
theorem dAnd.mono {p q : TB} (hp : MonoB p) (hq : MonoB q) : MonoB (dAnd p q) := fun env m Q Q' i => hp env m _ _ fun b m1 => by
  cases b with
  | true => exact hq env m1 _ _ i
  | false => exact i _ _
theorem dOr.mono {p q : TB} (hp : MonoB p) (hq : MonoB q) : MonoB (dOr p q) := fun env m Q Q' i => hp env m _ _ fun b m1 => by
  cases b with
  | true => exact i _ _
  | false => exact hq env m1 _ _ i
theorem dNot.mono {p : TB} (hp : MonoB p) : MonoB (dNot p) := fun env m Q Q' i => hp env m _ _ fun b m1 => i _ _
variable {p q : TB} {rest : List Expr}
theorem DW.dt {e : Expr} (h : DW X C B e p) : DT X C B e p := ⟨h.mono, h.run.pt⟩
theorem dw_or1 (ha : DT X C B a p) : DW X C B (.BoolOp .Or [a] pos) p := ⟨ha.mono, pw_or1 ha.run⟩
theorem dw_or (ha : DT X C B a p) (hb : DW X C B (.BoolOp .Or (b :: rest) pos) q) : DW X C B (.BoolOp .Or (a :: b :: rest) pos) (dOr p q) := by
  refine ⟨dOr.mono ha.mono hb.mono, impW (pw_or ha.run hb.run) ?_⟩
  rintro σ H Q ⟨n, env, m, rfl, ok, h⟩
  refine ⟨n, env, m, rfl, ok, ha.mono _ _ _ _ (fun c m1 h1 n1 ok1 l1 => ?_) h⟩
  cases c with
  | true => exact h1 n1 ok1 l1
  | false => exact ⟨n1, env, m1, rfl, ok.go ok1 l1, hb.mono _ _ _ _ (fun c m2 h2 n2 ok2 l2 => h2 n2 ok2 (l1.trans l2)) h1⟩
theorem dt_not (ha : DT X C B a p) : DT X C B (.UnaryOp .Not a pos) (dNot p) := by
  refine ⟨dNot.mono ha.mono, impT (pt_not ha.run) ?_⟩
  rintro σ H Q ⟨n, env, m, rfl, ok, h⟩
  exact ⟨n, env, m, rfl, ok, ha.mono _ _ _ _ (fun c m1 h1 n1 ok1 l1 => h1 n1 ok1 l1) h⟩
def dAndV (da db : TD) : TD := fun env m Q => da env m fun x m1 => match x with
  | .f (.bl true) => db env m1 Q
  | .f (.bl false) => Q (.f (.bl false)) m1
  | _ => False
def dOrV (da db : TD) : TD := fun env m Q => da env m fun x m1 => match x with
  | .f (.bl true) => Q (.f (.bl true)) m1
  | .f (.bl false) => db env m1 Q
  | _ => False
def dNotV (da : TD) : TD := fun env m Q => da env m fun x m1 => match x with
  | .f (.bl b) => Q (.f (.bl (!b))) m1
  | _ => False
theorem dAndV.mono (ha : MonoD da) (hb : MonoD db) : MonoD (dAndV da db) := fun env m Q Q' i => ha env m _ _ fun x m1 => by
  cases x with
  | o k => exact id
  | f y =>
    cases y with
    | bl c => cases c with
      | true => exact hb env m1 _ _ i
      | false => exact i _ _
    | _ => exact id
theorem dOrV.mono (ha : MonoD da) (hb : MonoD db) : MonoD (dOrV da db) := fun env m Q Q' i => ha env m _ _ fun x m1 => by
  cases x with
  | o k => exact id
  | f y =>
    cases y with
    | bl c => cases c with
      | false => exact hb env m1 _ _ i
      | true => exact i _ _
    | _ => exact id
theorem dNotV.mono (ha : MonoD da) : MonoD (dNotV da) := fun env m Q Q' i => ha env m _ _ fun x m1 => by
  cases x with
  | o k => exact id
  | f y => cases y <;> first | exact id | exact i _ _
theorem de_one {op} (h : DE X C B a d) : DE X C B (.BoolOp op [a] pos) d := ⟨h.mono, pe_one h.run⟩
theorem de_and (ha : DE X C B a da) (hb : DE X C B (.BoolOp .And (b :: rest) pos) db) : DE X C B (.BoolOp .And (a :: b :: rest) pos) (dAndV da db) := by
  refine ⟨dAndV.mono ha.mono hb.mono, imp (pe_and ha.run hb.run) ?_⟩
  rintro σ H Q ⟨n, env, m, rfl, ok, h⟩
  refine ⟨n, env, m, rfl, ok, ha.mono _ _ _ _ (fun x m1 h1 n1 v ok1 l1 lx => ?_) h⟩
  cases x with
  | o k => exact h1.elim
  | f y =>
    cases y with
    | bl c =>
      cases lx
      refine ⟨c, rfl, ?_⟩
      cases c with
      | true => exact ⟨n1, env, m1, rfl, ok.go ok1 l1, hb.mono _ _ _ _ (fun z m2 h2 n2 v ok2 l2 lz => h2 n2 v ok2 (l1.trans l2) lz) h1⟩
      | false => exact h1 n1 (.bl false) ok1 l1 (.bl false)
    | _ => exact h1.elim
theorem de_not (ha : DE X C B a da) : DE X C B (.UnaryOp .Not a pos) (dNotV da) := by
  refine ⟨dNotV.mono ha.mono, imp (pe_not ha.run) ?_⟩
  rintro σ H Q ⟨n, env, m, rfl, ok, h⟩
  refine ⟨n, env, m, rfl, ok, ha.mono _ _ _ _ (fun x m1 h1 n1 v ok1 l1 lx => ?_) h⟩
  cases x with
  | o k => exact h1.elim
  | f y =>
    cases y with
    | bl c => cases lx; exact ⟨c, rfl, h1 n1 (.bl (!c)) ok1 l1 (.bl _)⟩
    | _ => exact h1.elim
def dIf (p : TB) (da db : TD) : TD := fun env m Q => p env m fun b m1 => if b = true then da env m1 Q else db env m1 Q
theorem dIf.mono (hp : MonoB p) (ha : MonoD da) (hb : MonoD db) : MonoD (dIf p da db) := fun env m Q Q' i => hp env m _ _ fun b m1 => by
  cases b with
  | true => exact ha env m1 _ _ i
  | false => exact hb env m1 _ _ i
theorem de_ifExp {c : Expr} (hc : DT X C B c p) (ha : DE X C B a da) (hb : DE X C B b db) : DE X C B (.IfExp c a b pos) (dIf p da db) := by
  refine ⟨dIf.mono hc.mono ha.mono hb.mono, imp (pe_ifExp hc.run ha.run hb.run) ?_⟩
  rintro σ H Q ⟨n, env, m, rfl, ok, h⟩
  refine ⟨n, env, m, rfl, ok, hc.mono _ _ _ _ (fun c m1 h1 n1 ok1 l1 => ?_) h⟩
  cases c with
  | true => exact ⟨n1, env, m1, rfl, ok.go ok1 l1, ha.mono _ _ _ _ (fun z m2 h2 n2 v ok2 l2 lz => h2 n2 v ok2 (l1.trans l2) lz) h1⟩
  | false => exact ⟨n1, env, m1, rfl, ok.go ok1 l1, hb.mono _ _ _ _ (fun z m2 h2 n2 v ok2 l2 lz => h2 n2 v ok2 (l1.trans l2) lz) h1⟩

def dNil : TAd := fun _ m Q => Q [] m
def dCons (d : TD) (r : TAd) : TAd := fun env m Q => d env m fun x m1 => r env m1 fun xs m2 => Q (x :: xs) m2
theorem dCons.mono {r : TAd} (h : MonoD d) (hr : MonoA r) : MonoA (dCons d r) := fun env m Q Q' i => h env m _ _ fun x m1 => hr env m1 _ _ fun xs m2 => i _ _
theorem da_nil : DA X C B [] dNil := ⟨fun _ _ _ _ i => i _ _, impA pa_nil (by
  rintro σ H Q ⟨n, env, m, rfl, ok, h⟩
  exact h n [] ok.good (.refl _) .nil)⟩
theorem da_cons {es : List Expr} {r : TAd} (he : DE X C B e d) (hr : DA X C B es r) (hs : starEach (e :: es) X.env = (false, eval e X.env) :: starEach es X.env := by rfl) : DA X C B (e :: es) (dCons d r) := by
  refine ⟨dCons.mono he.mono hr.mono, impA (pa_cons he.run hr.run hs) ?_⟩
  rintro σ H Q ⟨n, env, m, rfl, ok, h⟩
  refine ⟨n, env, m, rfl, ok, he.mono _ _ _ _ (fun x m1 h1 n1 v ok1 l1 lx => ?_) h⟩
  exact ⟨n1, env, m1, rfl, ok.go ok1 l1, hr.mono _ _ _ _ (fun xs m2 h2 n2 vs ok2 l2 lxs => h2 n2 (v :: vs) ok2 (l1.trans l2) (.cons (lx.le l2) lxs)) h1⟩
def frs : List Lv → Option (List Dat)
  | [] => some []
  | .f d :: r => match frs r with
    | some ds => some (d :: ds)
    | none => none
  | .o _ :: _ => none
theorem frs_ok {w : World} {K : PySem.W.Frag} {n : Nw} {env : Env'} {σ : L2.St} : ∀ {xs : List Lv} {vs : List V} {ds : List Dat}, LvsOk C w K n env σ vs xs → frs xs = some ds → FzAllN C w K n vs ds
  | [], _, ds, h, e => by cases h; cases e; exact .nil
  | .o k :: r, _, ds, h, e => by cases e
  | .f d :: r, _, ds, h, e => by
    cases h with
    | cons a b =>
      unfold frs at e
      split at e
      · rename_i ds' h1
        cases e
        exact .cons a (frs_ok b h1)
      · cases e
def oTup : OpN := fun _ m xs Q => match frs xs with
  | some ds => ds.length ≤ sizeLine ∧ Q (.tup ds) m
  | none => False
theorem oTup.mono : MonoN oTup := fun env m xs Q Q' i => by
  unfold oTup
  split
  · exact fun z => ⟨z.1, i _ _ z.2⟩
  · exact id
def dN (f : OpN) (d : TAd) : TD := fun env m Q => d env m fun xs m1 => f env m1 xs fun z m2 => Q (.f z) m2
theorem dN.mono {f : OpN} {d : TAd} (hf : MonoN f) (h : MonoA d) : MonoD (dN f d) := fun env m Q Q' i => h env m _ _ fun xs m1 => hf env m1 xs _ _ fun z m2 => i _ _
theorem de_tup {es : List Expr} {x1} {d : TAd} (h : DA X C B es d) : DE X C B (.Tuple es x1 pos) (dN oTup d) := by
  refine ⟨dN.mono oTup.mono h.mono, imp (pe_tup h.run) ?_⟩
  rintro σ H Q ⟨n, env, m, rfl, ok, q⟩
  refine ⟨n, env, m, rfl, ok, h.mono _ _ _ _ (fun xs m1 h1 n1 vs ok1 l1 lxs => ?_) q⟩
  unfold oTup at h1
  split at h1
  · rename_i ds hd
    have hz := frs_ok lxs hd
    refine ⟨by rw [hz.length]; exact h1.1, fun p hp => ?_⟩
    obtain ⟨ok3, l3⟩ := ok1.freeze (o := .tup vs) hp
    exact h1.2 _ _ ok3 (l1.trans l3) (.tup (SqT.of upd_same) (FzAllN.le hz l3))
  · exact h1.elim

abbrev TN := Env' → Mem → (List Dat → Mem → Prop) → Prop
def MonoN' (d : TN) : Prop := ∀ env m (Q Q' : List Dat → Mem → Prop), (∀ x m', Q x m' → Q' x m') → d env m Q → d env m Q'
def lN (C : Ct) (B : Nw) (w : World) (K : PySem.W.Frag) (d : TN) : TE := fun σ H Q => ∃ n env m, n.H = H ∧ Ok C w K B n env m σ ∧
  d env m fun ds m' => ∀ n' p vs, Good C w K n' m' → n.le n' → n'.H p = none → FzAllN C w K n' vs ds → Q (.ref p) (upd n'.H p (.lst vs))
structure DN (X : Cx) (C : Ct) (B : Nw) (e : Expr) (d : TN) : Prop where
  mono : MonoN' d
  run : PE X e (lN C B X.w X.K d)
def dNew (d : TN) : TD := fun env m Q => d env m fun ds m1 => Q (.f (.lst ds)) m1
theorem DN.de {d : TN} (h : DN X C B e d) : DE X C B e (dNew d) := by
  refine ⟨fun env m Q Q' i => h.mono env m _ _ fun ds m1 => i _ _, imp h.run ?_⟩
  rintro σ H Q ⟨n, env, m, rfl, ok, q⟩
  refine ⟨n, env, m, rfl, ok, h.mono _ _ _ _ (fun ds m1 h1 n1 p vs ok1 l1 hp hz => ?_) q⟩
  obtain ⟨ok3, l3⟩ := ok1.freeze (o := .lst vs) hp
  exact h1 _ _ ok3 (l1.trans l3) (.lst (Rd.of upd_same) (FzAllN.le hz l3))
def nLst (d : TAd) : TN := fun env m Q => d env m fun xs m1 => match frs xs with
  | some ds => ds.length ≤ sizeLine ∧ Q ds m1
  | none => False
theorem dn_lst {es : List Expr} {d : TAd} (h : DA X C B es d) : DN X C B (.List es pos) (nLst d) := by
  refine ⟨fun env m Q Q' i => h.mono env m _ _ fun xs m1 => ?_, imp (pe_lst h.run) ?_⟩
  · split
    · exact fun z => ⟨z.1, i _ _ z.2⟩
    · exact id
  rintro σ H Q ⟨n, env, m, rfl, ok, q⟩
  refine ⟨n, env, m, rfl, ok, h.mono _ _ _ _ (fun xs m1 h1 n1 vs ok1 l1 lxs => ?_) q⟩
  split at h1
  · rename_i ds hd
    have hz := frs_ok lxs hd
    exact ⟨by rw [hz.length]; exact h1.1, fun p hp => h1.2 n1 p vs ok1 l1 hp hz⟩
  · exact h1.elim
end
end DL

set_option maxHeartbeats 1000000
namespace DL
open PySem PySem.Spec PyProof.Rows L2

inductive Tg where
  | nm (i : Nat)
  | tp (is : List Nat)
def Tg.ids : Tg → List Nat
  | .nm i => [i]
  | .tp is => is
def setAll : List Nat → List Dat → Env' → Env'
  | i :: is, d :: ds, env => setAll is ds (env.set i (some (.f d)))
  | _, _, env => env
def bind (tg : Tg) (x : Lv) (env : Env') : Option Env' := match tg, x with
  | .nm i, .f d => some (env.set i (some (.f d)))
  | .tp is, .f (.tup ds) => if ds.length = is.length then some (setAll is ds env) else none
  | _, _ => none
def gsOf : List Nat → TGs
  | [] => gNil
  | i :: is => gCons (gName i) (gsOf is)
def gOf (K : PySem.W.Frag) : Tg → TG
  | .nm i => gName i
  | .tp is => gTup K is.length (gsOf is)
theorem wipe_set : ∀ (vs : List Nat) (σ : L2.St) (i : Nat) (v : Option V), i ∈ vs → wipe (σ.set i v) vs = wipe σ vs
  | vs, σ, i, v, h => by
    apply List.ext_getElem?
    intro j
    by_cases hj : j ∈ vs
    · have key : ∀ (τ : L2.St), j ∈ vs → (wipe τ vs)[j]? = if j < τ.length then some none else none := by
        intro τ hj
        have hl := wipe_length τ vs
        by_cases hlt : j < τ.length
        · rw [if_pos hlt]
          have : j < (wipe τ vs).length := by rw [hl]; exact hlt
          rw [List.getElem?_eq_getElem this]
          cases e : (wipe τ vs)[j] with
          | none => rfl
          | some x =>
            have e2 : (wipe τ vs)[j]? = some (some x) := by rw [List.getElem?_eq_getElem this, e]
            exact absurd hj (wipe_some e2).2
        · rw [if_neg hlt]
          exact List.getElem?_eq_none (by rw [hl]; omega)
      rw [key _ hj, key _ hj]
      simp
    · rw [wipe_out hj, wipe_out hj]
      exact List.getElem?_set_ne (fun e => hj (by rw [← e]; exact h))
section
variable {C : Ct} {w : World} {K : PySem.W.Frag} {B n : Nw} {m : Mem}
theorem sets_ok {Q : L2.St → Hp → Prop} : ∀ (is : List Nat) (ds : List Dat) (vs : List V) (env : Env') (σ : L2.St), ds.length = is.length → FzAllN C w K n vs ds → Ok C w K B n env m σ →
    (∀ σ2, Ok C w K B n (setAll is ds env) m σ2 → (∀ ws, (∀ i ∈ is, i ∈ ws) → wipe σ2 ws = wipe σ ws) → Q σ2 n.H) → gsOf is vs σ n.H Q
  | [], [], vs, env, σ, _, hv, ok, h => by
    cases hv
    exact ⟨rfl, h σ ok fun _ _ => rfl⟩
  | i :: is, d :: ds, vs, env, σ, hl, hv, ok, h => by
    cases hv with
    | cons a r =>
      refine ⟨_, _, rfl, ?_⟩
      refine sets_ok is ds _ _ _ (by simpa using hl) r (ok.setF (i := i) a) fun σ2 ok2 hw => ?_
      refine h σ2 ok2 fun ws hws => ?_
      rw [hw ws fun j hj => hws j (List.mem_cons_of_mem _ hj)]
      exact wipe_set ws σ i _ (hws i List.mem_cons_self)
  | [], _ :: _, _, _, _, hl, _, _, _ => by cases hl
  | _ :: _, [], _, _, _, hl, _, _, _ => by cases hl
theorem bind_ok {Q : L2.St → Hp → Prop} {tg : Tg} {x : Lv} {v : V} {env env2 : Env'} {σ : L2.St} (hv : LvOk C w K n env σ v x) (ok : Ok C w K B n env m σ) (e : bind tg x env = some env2)
    (h : ∀ σ2, Ok C w K B n env2 m σ2 → (∀ ws, (∀ i ∈ tg.ids, i ∈ ws) → wipe σ2 ws = wipe σ ws) → Q σ2 n.H) : gOf K tg v σ n.H Q := by
  unfold bind at e
  split at e
  · cases e
    rename_i i d
    exact h _ (ok.setF hv) fun ws hws => wipe_set ws σ i _ (hws i (by simp [Tg.ids]))
  · rename_i is ds
    split at e
    · rename_i hl
      cases e
      have hv : FzN C w K n v (.tup ds) := hv
      cases hv with
      | tup hs ha =>
        refine ⟨_, _, rfl, SqT.keep ok.good.sub hs, by rw [ha.length]; exact hl, ?_⟩
        exact sets_ok is ds _ env σ hl ha ok h
    · cases e
  · cases e
end
structure TgOk (X : Cx) (e : Expr) (tg : Tg) : Prop where
  run : PG X e (gOf X.K tg)
section
variable {X : Cx} {pos : Pos}
theorem tg_nm {i : Nat} {x : Str} (hN : X.N.Nodup) (hi : X.N[i]? = some x) (hx : Loc X.env.scope x) (hf : X.fn x = true ∨ X.env.scope.names.lookup x = some .local := by first | exact .inl rfl | exact .inr rfl | assumption) : TgOk X (.Name x pos) (.nm i) := ⟨pg_name hN hi hx hf⟩
structure TgsOk (X : Cx) (es : List Expr) (is : List Nat) : Prop where
  run : PGs X es (gsOf is)
theorem tgs_nil : TgsOk X [] [] := ⟨pgs_nil⟩
theorem tgs_cons {i : Nat} {x : Str} {es : List Expr} {is : List Nat} (hN : X.N.Nodup) (hi : X.N[i]? = some x) (hx : Loc X.env.scope x) (r : TgsOk X es is) (hf : X.fn x = true ∨ X.env.scope.names.lookup x = some .local := by first | exact .inl rfl | exact .inr rfl | assumption)
    (hs : (assignEach (.Name x pos :: es) X.env).map (·.2) = assign (.Name x pos) X.env :: (assignEach es X.env).map (·.2) := by rfl) : TgsOk X (.Name x pos :: es) (i :: is) := ⟨pgs_cons (pg_name hN hi hx hf) r.run hs⟩
theorem tg_tp {es : List Expr} {is : List Nat} {k : Nat} (hc : X.calm = true) (h : TgsOk X es is) (hn : (assignEach es X.env).length = is.length := by rfl) (hst : (assignEach es X.env).findIdx? (·.1) = none := by rfl) : TgOk X (.Tuple es k pos) (.tp is) := ⟨pg_tup hc h.run hn hst⟩
end

section
variable {X : Cx} {C : Ct} {B : Nw} {st : Stmt} {rest : List Stmt} {d u : TSd} {e : Expr} {de : TD} {pos : Pos}
def sNext : TSd := fun D env m => D.nx env m
def sSeq (d u : TSd) : TSd := fun D env m => d { D with nx := u D } env m
theorem sSeq.mono (hd : MonoS d) (hu : MonoS u) : MonoS (sSeq d u) := fun env m D D' l h => hd env m { D with nx := u D } { D' with nx := u D' } ⟨fun e m' h' => hu e m' D D' l h', l.rt, l.bk, l.ct⟩ h
theorem dss_nil : DSs X C B [] sNext := ⟨fun env m D D' l h => l.nx _ _ h, impSs pss_nil (by
  rintro D σ H ⟨n, env, m, rfl, ok, h⟩
  exact h n σ (.refl _) ok)⟩
theorem dss_one (h : DS X C B st d) : DSs X C B [st] d := ⟨h.mono, pss_one h.run⟩
theorem dss_cons (h1 : DS X C B st d) (h2 : DSs X C B rest u) : DSs X C B (st :: rest) (sSeq d u) := by
  refine ⟨sSeq.mono h1.mono h2.mono, impSs (pss_cons h1.run h2.run) ?_⟩
  rintro D σ H ⟨n, env, m, rfl, ok, h⟩
  refine ⟨n, env, m, rfl, ok, h1.mono _ _ { lD C B X.w X.K n D with nx := u (lD C B X.w X.K n D) } _ ⟨fun e1 m1 h' => ?_, fun _ _ h' => h', fun _ _ h' => h', fun _ _ h' => h'⟩ h⟩
  intro n1 σ1 s1 ok1
  exact ⟨n1, e1, m1, rfl, ok1, h2.mono _ _ _ _ (lD.le s1 D) h'⟩
def sDrop (de : TD) : TSd := fun D env m => de env m fun _ m1 => D.nx env m1
theorem ds_expr (he : DE X C B e de) (hs : swapsWith e none pos.line X.env = pure false := by rfl) : DS X C B (.Expr e pos) (sDrop de) := by
  refine ⟨fun env m D D' l h => he.mono _ _ _ _ (fun _ _ h' => l.nx _ _ h') h, impS (ps_expr he.run hs) ?_⟩
  rintro D σ H ⟨n, env, m, rfl, ok, h⟩
  exact ⟨n, env, m, rfl, ok, he.mono _ _ _ _ (fun x m1 h1 n1 v g1 l1 _ => h1 n1 σ l1.sub (ok.go g1 l1)) h⟩
def sRet (de : TD) : TSd := fun D env m => de env m fun x m1 => match x with
  | .f d => D.rt d m1
  | .o _ => False
theorem sRet.mono (h : MonoD de) : MonoS (sRet de) := fun env m D D' l => h _ _ _ _ fun x m1 => by
  cases x with
  | f d => exact l.rt _ _
  | o k => exact id
theorem ds_ret (he : DE X C B e de) : DS X C B (.Return (some e) pos) (sRet de) := by
  refine ⟨sRet.mono he.mono, impS (ps_ret he.run) ?_⟩
  rintro D σ H ⟨n, env, m, rfl, ok, h⟩
  refine ⟨n, env, m, rfl, ok, he.mono _ _ _ _ (fun x m1 h1 n1 v g1 l1 lx => ?_) h⟩
  cases x with
  | f d => exact h1 n1 v (ok.base.trans l1) g1 lx
  | o k => exact h1.elim
def sIf (c : TB) (d u : TSd) : TSd := fun D env m => c env m fun b m1 => if b = true then d D env m1 else u D env m1
theorem sIf.mono {c : TB} (hc : MonoB c) (hd : MonoS d) (hu : MonoS u) : MonoS (sIf c d u) := fun env m D D' l => hc _ _ _ _ fun b m1 => by
  cases b with
  | true => exact hd _ _ _ _ l
  | false => exact hu _ _ _ _ l
theorem ds_if {c : Expr} {a b : List Stmt} {dc : TB} (hc : DT X C B c dc) (ha : DSs X C B a d) (hb : DSs X C B b u) : DS X C B (.If c a b pos) (sIf dc d u) := by
  refine ⟨sIf.mono hc.mono ha.mono hb.mono, impS (ps_if hc.run ha.run hb.run) ?_⟩
  rintro D σ H ⟨n, env, m, rfl, ok, h⟩
  refine ⟨n, env, m, rfl, ok, hc.mono _ _ _ _ (fun b m1 h1 n1 g1 l1 => ?_) h⟩
  cases b with
  | true => exact ⟨n1, env, m1, rfl, ok.go g1 l1, ha.mono _ _ _ _ (lD.le l1.sub D) h1⟩
  | false => exact ⟨n1, env, m1, rfl, ok.go g1 l1, hb.mono _ _ _ _ (lD.le l1.sub D) h1⟩
def sAsg (tg : Tg) (de : TD) : TSd := fun D env m => de env m fun x m1 => match bind tg x env with
  | some env2 => D.nx env2 m1
  | none => False
theorem sAsg.mono {tg : Tg} (h : MonoD de) : MonoS (sAsg tg de) := fun env m D D' l => h _ _ _ _ fun x m1 => by
  split
  · exact l.nx _ _
  · exact id
theorem asg_imp {tg : Tg} (he : MonoD de) : ∀ D σ H, lS C B X.w X.K (sAsg tg de) D σ H → tAsg (lE C B X.w X.K de) (gOf X.K tg) D σ H := by
  rintro D σ H ⟨n, env, m, rfl, ok, h⟩
  refine ⟨n, env, m, rfl, ok, he _ _ _ _ (fun x m1 h1 n1 v g1 l1 lx => ?_) h⟩
  split at h1
  · rename_i env2 hb
    exact bind_ok lx (ok.go g1 l1) hb fun σ2 ok2 _ => h1 n1 σ2 l1.sub ok2
  · exact h1.elim
theorem ds_asg {te : Expr} {tg : Tg} (he : DE X C B e de) (ht : TgOk X te tg) (hs : swapsWithSole [te] e pos.line X.env = pure false := by rfl) (hw : swappedStores [te] e X.env = pure none := by rfl)
    (h1 : (assignEach [te] X.env).map (·.2) = [assign te X.env] := by rfl) : DS X C B (.Assign [te] e pos) (sAsg tg de) :=
  ⟨sAsg.mono he.mono, impS (ps_asg he.run ht.run hs hw h1) (asg_imp he.mono)⟩
theorem ds_set {i : Nat} {x : Str} {pos' : Pos} (hN : X.N.Nodup) (hi : X.N[i]? = some x) (hx : Loc X.env.scope x) (he : DE X C B e de) (hs : swapsWith e (some (.Name x pos')) pos.line X.env = pure false := by rfl)
    (hf : X.fn x = true ∨ X.env.scope.names.lookup x = some .local := by first | exact .inl rfl | exact .inr rfl | assumption) : DS X C B (.Assign [.Name x pos'] e pos) (sAsg (.nm i) de) :=
  ⟨sAsg.mono he.mono, impS (ps_set hN hi hx he.run hs hf) (asg_imp (tg := .nm i) he.mono)⟩
def sSetN (i : Nat) (dn : TN) : TSd := fun D env m => dn env m fun ds m1 => D.nx (env.set i (some (.own (.lst ds)))) m1
theorem setN_imp {i : Nat} {dn : TN} (he : MonoN' dn) : ∀ D σ H, lS C B X.w X.K (sSetN i dn) D σ H → tAsg (lN C B X.w X.K dn) (gName i) D σ H := by
  rintro D σ H ⟨n, env, m, rfl, ok, h⟩
  refine ⟨n, env, m, rfl, ok, he _ _ _ _ (fun ds m1 h1 n1 p vs g1 l1 hp hz => ?_) h⟩
  have ok1 := ok.go g1 l1
  have ok2 := ok1.newO (i := i) (o := .lst vs) (z := .lst ds) hp ⟨vs, upd_same, hz⟩
  exact h1 ⟨n1.G, n1.al, upd n1.H p (.lst vs)⟩ _ ⟨l1.g, l1.ale⟩ ok2
theorem ds_setN {i : Nat} {x : Str} {dn : TN} {pos' : Pos} (hN : X.N.Nodup) (hi : X.N[i]? = some x) (hx : Loc X.env.scope x) (he : DN X C B e dn) (hs : swapsWith e (some (.Name x pos')) pos.line X.env = pure false := by rfl)
    (hf : X.fn x = true ∨ X.env.scope.names.lookup x = some .local := by first | exact .inl rfl | exact .inr rfl | assumption) : DS X C B (.Assign [.Name x pos'] e pos) (sSetN i dn) :=
  ⟨fun env m D D' l => he.mono _ _ _ _ fun ds m1 => l.nx _ _, impS (ps_set hN hi hx he.run hs hf) (setN_imp he.mono)⟩
def sKeep (i : Nat) (d : TSd) : TSd := fun D env m => match env[i]? with
  | some (some (.own (.lst xs))) => d D (env.set i (some (.f (.lst xs)))) m
  | some (some (.own (.dct xs))) => d D (env.set i (some (.f (.dct xs)))) m
  | _ => d D env m
theorem sKeep.mono {i : Nat} (h : MonoS d) : MonoS (sKeep i d) := fun env m D D' l => by
  unfold sKeep
  split <;> exact h _ _ _ _ l
def whGo (c : TB) (tb : TSd) (D : En) : Nat → Env' → Mem → Prop
  | 0, _, _ => False
  | k + 1, env, m => c env m fun b m1 => if b = true then tb { D with nx := whGo c tb D k, ct := whGo c tb D k, bk := D.nx } env m1 else D.nx env m1
def sWhile (c : TB) (tb : TSd) : TSd := fun D env m => ∃ k, whGo c tb D k env m
theorem whGo.mono {c : TB} {tb : TSd} (hc : MonoB c) (hb : MonoS tb) {D D' : En} (l : En.le D D') : ∀ k env m, whGo c tb D k env m → whGo c tb D' k env m
  | 0, _, _, h => h
  | k + 1, env, m, h => by
    refine hc _ _ _ _ (fun b m1 h1 => ?_) h
    cases b with
    | true => exact hb env m1 { D with nx := whGo c tb D k, ct := whGo c tb D k, bk := D.nx } { D' with nx := whGo c tb D' k, ct := whGo c tb D' k, bk := D'.nx } ⟨fun e m h => whGo.mono hc hb l k e m h, l.rt, fun e m h => l.nx e m h, fun e m h => whGo.mono hc hb l k e m h⟩ h1
    | false => exact l.nx _ _ h1
theorem ds_while {c : Expr} {body : List Stmt} {dc : TB} {db : TSd} (hp : PassesOwn (model X.prog X.w) X.A X.env X.xe) (hc : DT X C B c dc) (hb : DSs X C B body db) : DS X C B (.While c body [] pos) (sWhile dc db) := by
  refine ⟨fun env m D D' l ⟨k, h⟩ => ⟨k, whGo.mono hc.mono hb.mono l k env m h⟩, impS (ps_while hp hc.run hb.run) ?_⟩
  rintro D σ H ⟨n, env, m, rfl, ok, k, h⟩
  refine ⟨fun k σ H => ∃ n1 env m, n1.H = H ∧ n.sub n1 ∧ Ok C X.w X.K B n1 env m σ ∧ whGo dc db (lD C B X.w X.K n D) k env m, ⟨k, n, env, m, rfl, .refl _, ok, h⟩, ?_⟩
  rintro k σ H ⟨n1, env, m, rfl, s1, ok1, h⟩
  cases k with
  | zero => exact h.elim
  | succ k =>
    refine ⟨n1, env, m, rfl, ok1, hc.mono _ _ _ _ (fun b m1 h1 n2 g2 l2 => ?_) h⟩
    cases b with
    | true =>
      refine ⟨fun σ' H' => ∃ n3 env m, n3.H = H' ∧ n.sub n3 ∧ Ok C X.w X.K B n3 env m σ' ∧ whGo dc db (lD C B X.w X.K n D) k env m, fun σ' H' q => ⟨k, Nat.lt_succ_self _, q⟩, ?_⟩
      refine ⟨n2, env, m1, rfl, ok1.go g2 l2, hb.mono _ _ { lD C B X.w X.K n D with nx := whGo dc db (lD C B X.w X.K n D) k, ct := whGo dc db (lD C B X.w X.K n D) k, bk := (lD C B X.w X.K n D).nx } _ ⟨fun e3 m3 h3 n3 σ3 s3 ok3 => ⟨n3, e3, m3, rfl, (s1.trans l2.sub).trans s3, ok3, h3⟩, fun _ _ h3 => h3, fun e3 m3 h3 n3 σ3 s3 ok3 => h3 n3 σ3 ((s1.trans l2.sub).trans s3) ok3,
        fun e3 m3 h3 n3 σ3 s3 ok3 => ⟨n3, e3, m3, rfl, (s1.trans l2.sub).trans s3, ok3, h3⟩⟩ h1⟩
    | false => exact h1 n2 _ (s1.trans l2.sub) (ok1.go g2 l2)

abbrev TId := Env' → Mem → (List Dat → Mem → Prop) → Prop
def MonoI (d : TId) : Prop := ∀ env m (Q Q' : List Dat → Mem → Prop), (∀ x m', Q x m' → Q' x m') → d env m Q → d env m Q'
def WalkD (C : Ct) (w : World) (K : PySem.W.Frag) (n : Nw) (J : It) (xs : List Dat) : Prop := ∃ Gp Y, Walk J xs.length Gp Y ∧ ∀ n' m', n.sub n' → Good C w K n' m' → Gp n'.H ∧
  ∀ i x H', i < xs.length → Y i n'.H x H' → ∃ n'' d, n''.H = H' ∧ Good C w K n'' m' ∧ n'.le n'' ∧ xs[i]? = some d ∧ FzN C w K n'' x d
def lI (C : Ct) (B : Nw) (w : World) (K : PySem.W.Frag) (d : TId) : TI := fun σ H R => ∃ n env m, n.H = H ∧ Ok C w K B n env m σ ∧ d env m fun xs m' => ∀ n' J, Good C w K n' m' → n.le n' → WalkD C w K n' J xs → R J n'.H
structure DI (X : Cx) (C : Ct) (B : Nw) (tg iter : Expr) (d : TId) : Prop where
  mono : MonoI d
  run : PI X tg iter (lI C B X.w X.K d)
def forGo (tg : Tg) (tb : TSd) (D : En) : List Dat → Env' → Mem → Prop
  | [], env, m => D.nx env m
  | x :: xs, env, m => match bind tg (.f x) env with
    | some env2 => tb { D with nx := forGo tg tb D xs, ct := forGo tg tb D xs, bk := D.nx } env2 m
    | none => False
def sFor (tg : Tg) (di : TId) (tb : TSd) : TSd := fun D env m => di env m fun xs m1 => forGo tg tb D xs env m1
theorem forGo.mono {tg : Tg} {tb : TSd} (hb : MonoS tb) {D D' : En} (l : En.le D D') : ∀ xs env m, forGo tg tb D xs env m → forGo tg tb D' xs env m
  | [], _, _, h => l.nx _ _ h
  | x :: xs, env, m, h => by
    unfold forGo at h ⊢
    split
    · rename_i e2 he
      rw [he] at h
      exact hb e2 m { D with nx := forGo tg tb D xs, ct := forGo tg tb D xs, bk := D.nx } { D' with nx := forGo tg tb D' xs, ct := forGo tg tb D' xs, bk := D'.nx } ⟨fun e m h => forGo.mono hb l xs e m h, l.rt, fun e m h => l.nx e m h, fun e m h => forGo.mono hb l xs e m h⟩ h
    · rename_i he
      rw [he] at h
      exact h
theorem ds_for {te iter : Expr} {body : List Stmt} {di : TId} {db : TSd} {tg : Tg} (hp : PassesOwn (model X.prog X.w) X.A X.env X.xe) (hc : X.calm = true) (hi : DI X C B te iter di) (hg : TgOk X te tg) (hb : DSs X C B body db)
    (hs : ∀ x, foldedSetIterable iter X.env x = pure x := by intro _; rfl) : DS X C B (.For te iter body [] pos) (sFor tg di db) := by
  refine ⟨fun env m D D' l h => hi.mono _ _ _ _ (fun xs m1 h1 => forGo.mono hb.mono l xs env m1 h1) h, impS (ps_for hp hc hi.run hg.run hb.run hs) ?_⟩
  rintro D σ H ⟨n, env, m, rfl, ok, h⟩
  refine ⟨n, env, m, rfl, ok, hi.mono _ _ _ _ (fun xs m1 h1 n1 J g1 l1 wk => ?_) h⟩
  obtain ⟨Gp, Y, wk, st⟩ := wk
  refine for_it wk (fun i σ H => ∃ n2 env m, n2.H = H ∧ n1.sub n2 ∧ Ok C X.w X.K B n2 env m σ ∧ forGo tg db (lD C B X.w X.K n D) (xs.drop i) env m) ⟨n1, env, m1, rfl, .refl _, ok.go g1 l1, h1⟩ ?_ ?_ ?_
  · rintro i σ H hi ⟨n2, env, m, rfl, s2, ok2, h2⟩
    exact (st n2 m s2 ok2.good).1
  · rintro i x σ H H' hi ⟨n2, env, m, rfl, s2, ok2, h2⟩ hy
    obtain ⟨n3, d, rfl, g3, l3, hd, hz⟩ := (st n2 m s2 ok2.good).2 i x _ hi hy
    have hdr : xs.drop i = d :: xs.drop (i + 1) := by
      rw [List.drop_eq_getElem_cons hi]
      rw [List.getElem?_eq_getElem hi] at hd
      rw [Option.some.inj hd]
    rw [hdr] at h2
    unfold forGo at h2
    split at h2
    · rename_i env2 hb2
      refine bind_ok (x := .f d) hz (ok2.go g3 l3) hb2 fun σ2 ok3 _ => ?_
      exact ⟨n3, env2, m, rfl, ok3, hb.mono _ _ { lD C B X.w X.K n D with nx := forGo tg db (lD C B X.w X.K n D) (xs.drop (i + 1)), ct := forGo tg db (lD C B X.w X.K n D) (xs.drop (i + 1)), bk := (lD C B X.w X.K n D).nx } _ ⟨fun e4 m4 h4 n4 σ4 s4 ok4 => ⟨n4, e4, m4, rfl, (s2.trans l3.sub).trans s4, ok4, h4⟩, fun _ _ h4 => h4,
        fun e4 m4 h4 n4 σ4 s4 ok4 => h4 n4 σ4 (((l1.sub.trans s2).trans l3.sub).trans s4) ok4, fun e4 m4 h4 n4 σ4 s4 ok4 => ⟨n4, e4, m4, rfl, (s2.trans l3.sub).trans s4, ok4, h4⟩⟩ h2⟩
    · exact h2.elim
  · rintro σ H ⟨n2, env, m, rfl, s2, ok2, h2⟩
    rw [List.drop_length] at h2
    exact h2 n2 σ (l1.sub.trans s2) ok2
end
end DL

set_option maxHeartbeats 1000000
namespace DL
open PySem PySem.Spec PyProof.Rows L2

def wipeE (env : Env') : List Nat → Env'
  | [] => env
  | v :: vs => (wipeE env vs).set v none
section
variable {C : Ct} {w : World} {K : PySem.W.Frag} {B n n' : Nw} {m m' : Mem}
theorem EnvOk.set0 {env : Env'} {σ : L2.St} {i : Nat} (h : EnvOk C w K B n env σ) : EnvOk C w K B n (env.set i none) (σ.set i none) := by
  have back : ∀ {j : Nat} {x : Sl}, (env.set i none)[j]? = some (some x) → i ≠ j ∧ env[j]? = some (some x) := by
    intro j x e
    by_cases hj : i = j
    · subst hj
      have hlt : i < env.length := by
        have := (List.getElem?_eq_some_iff.mp e).1
        simpa using this
      rw [List.getElem?_set_self hlt] at e
      cases e
    · rw [List.getElem?_set_ne hj] at e
      exact ⟨hj, e⟩
  refine ⟨by simp [h.len], fun j d e => ?_, fun j x e => ?_, fun j k x y a e1 e2 f1 f2 => ?_⟩
  · obtain ⟨hj, e⟩ := back e
    rw [List.getElem?_set_ne hj]; exact h.fz j d e
  · obtain ⟨hj, e⟩ := back e
    rw [List.getElem?_set_ne hj]; exact h.own j x e
  · obtain ⟨hj, e1⟩ := back e1
    obtain ⟨hk, e2⟩ := back e2
    rw [List.getElem?_set_ne hj] at f1
    rw [List.getElem?_set_ne hk] at f2
    exact h.apart j k x y a e1 e2 f1 f2
theorem EnvOk.wipe {env : Env'} {σ : L2.St} (h : EnvOk C w K B n env σ) : ∀ vs, EnvOk C w K B n (wipeE env vs) (wipe σ vs)
  | [] => h
  | v :: vs => (EnvOk.wipe h vs).set0
theorem Ok.wipe {env : Env'} {σ : L2.St} (h : Ok C w K B n env m σ) (vs : List Nat) : Ok C w K B n (wipeE env vs) m (L2.wipe σ vs) := ⟨h.good, h.base, h.env.wipe vs⟩
end
theorem wipe_idem (σ : L2.St) (vs : List Nat) : wipe (wipe σ vs) vs = wipe σ vs := by
  apply List.ext_getElem?
  intro j
  by_cases hj : j ∈ vs
  · have key : ∀ (τ : L2.St), (wipe τ vs)[j]? = if j < τ.length then some none else none := by
      intro τ
      have hl := wipe_length τ vs
      by_cases hlt : j < τ.length
      · rw [if_pos hlt]
        have : j < (wipe τ vs).length := by rw [hl]; exact hlt
        rw [List.getElem?_eq_getElem this]
        cases e : (wipe τ vs)[j] with
        | none => rfl
        | some x =>
          have e2 : (wipe τ vs)[j]? = some (some x) := by rw [List.getElem?_eq_getElem this, e]
          exact absurd hj (wipe_some e2).2
      · rw [if_neg hlt]
        exact List.getElem?_eq_none (by rw [hl]; omega)
    rw [key, key, wipe_length]
  · rw [wipe_out hj]
def del (H : Hp) (D : Addr) : Hp := fun a => if a = D then none else H a
theorem del_same {H : Hp} {D : Addr} : del H D D = none := by simp [del]
theorem del_ne {H : Hp} {a D : Addr} (h : a ≠ D) : del H D a = H a := by simp [del, h]
theorem Tabs_del {T : List (Addr × Str)} {H : Hp} {p : Addr} (t : LamX.Tabs T H) (h : Calm (H p)) : LamX.Tabs T (del H p) := fun q hq => by
  obtain ⟨ps, h1, h2, h3⟩ := t q hq
  refine ⟨ps, ?_, h2, fun pos cv hc => ?_⟩
  · rw [del_ne (fun z => h.1 ps (by rw [← z]; exact h1))]
    exact h1
  · obtain ⟨c, e1, e2⟩ := h3 pos cv hc
    refine ⟨c, e1, ?_⟩
    rw [del_ne (fun z => h.2 c q.2 (by rw [← z]; exact e2))]
    exact e2
theorem upd_del {H : Hp} {D : Addr} {o : HO} (h : H D = some o) : upd (del H D) D o = H := by
  funext a
  by_cases e : a = D
  · subst e; rw [upd_same, h]
  · rw [upd_ne e, del_ne e]

def lcGo (tg : Tg) (dt : TB) (de : TD) (env : Env') : List Dat → Mem → (List Dat → Mem → Prop) → Prop
  | [], m, Q => Q [] m
  | x :: xs, m, Q => match bind tg (.f x) env with
    | some env2 => dt env2 m fun b m1 => if b = true then de env2 m1 fun y m2 => match y with
        | .f d => lcGo tg dt de env xs m2 fun ds m3 => Q (d :: ds) m3
        | .o _ => False
      else lcGo tg dt de env xs m1 Q
    | none => False
theorem lcGo.mono {tg : Tg} {dt : TB} {de : TD} (ht : MonoB dt) (hd : MonoD de) (env : Env') : ∀ xs m (Q Q' : List Dat → Mem → Prop), (∀ x m', Q x m' → Q' x m') → lcGo tg dt de env xs m Q → lcGo tg dt de env xs m Q'
  | [], m, Q, Q', i, h => i _ _ h
  | x :: xs, m, Q, Q', i, h => by
    unfold lcGo at h ⊢
    split
    · rename_i e2 he
      rw [he] at h
      refine ht _ _ _ _ (fun b m1 h1 => ?_) h
      cases b with
      | true =>
        refine hd _ _ _ _ (fun y m2 h2 => ?_) h1
        cases y with
        | f d => exact lcGo.mono ht hd env xs m2 _ _ (fun ds m3 h3 => i _ _ h3) h2
        | o k => exact h2
      | false => exact lcGo.mono ht hd env xs m1 _ _ i h1
    · rename_i he
      rw [he] at h
      exact h
def nLc (tg : Tg) (dt : TB) (de : TD) (vs : List Nat) (di : TId) : TN := fun env m Q => di env m fun xs m1 => xs.length ≤ sizeLine ∧ lcGo tg dt de (wipeE env vs) xs m1 Q
theorem nLc.mono {tg : Tg} {dt : TB} {de : TD} {vs : List Nat} {di : TId} (hi : MonoI di) (ht : MonoB dt) (hd : MonoD de) : MonoN' (nLc tg dt de vs di) := fun env m Q Q' i h =>
  hi _ _ _ _ (fun xs m1 h1 => ⟨h1.1, lcGo.mono ht hd _ _ _ _ _ i h1.2⟩) h
section
variable {X : Cx} {C : Ct} {B : Nw}
theorem lc_imp {tg : Tg} {dt : TB} {de : TD} {vs : List Nat} {di : TId} (hi : MonoI di) (ht : MonoB dt) (hd : MonoD de) (htg : ∀ i ∈ tg.ids, i ∈ vs) :
    ∀ σ H Q, lN C B X.w X.K (nLc tg dt de vs di) σ H Q → tLc (lI C B X.w X.K di) (gOf X.K tg) (lB C B X.w X.K dt) (lE C B X.w X.K de) vs σ H Q := by
  rintro σ H Q ⟨n, env, m, rfl, ok, h⟩
  refine ⟨n, env, m, rfl, ok, hi _ _ _ _ (fun xs m1 h1 n1 J g1 l1 wk => ?_) h⟩
  obtain ⟨Gp, Y, wk, st⟩ := wk
  intro D hD
  have ok1 := (ok.go g1 l1).wipe vs
  obtain ⟨f1, f2⟩ := g1.free hD
  refine lc_it wk (fun i H => ∃ n2 m2 aV acc, n2.H = H ∧ n1.le n2 ∧ Good C X.w X.K n2 m2 ∧ n2.H D = some (.lst aV) ∧ n2.G D = none ∧ D ∉ n2.al ∧ FzAllN C X.w X.K n2 aV acc ∧ acc.length ≤ i ∧ i ≤ xs.length ∧
    lcGo tg dt de (wipeE env vs) (xs.drop i) m2 (fun ds m' => ∀ n' p us, Good C X.w X.K n' m' → n.le n' → n'.H p = none → FzAllN C X.w X.K n' us (acc ++ ds) → Q (.ref p) (upd n'.H p (.lst us)))) ?_ ?_ ?_ ?_
  · exact ⟨⟨n1.G, n1.al, upd n1.H D (.lst [])⟩, m1, [], [], rfl, (Nw.le.refl n1).at hD, g1.at f1 f2, upd_same, f1, f2, .nil, Nat.le_refl _, Nat.zero_le _, h1.2⟩
  · rintro i H hi ⟨n2, m2, aV, acc, rfl, l2, g2, _⟩
    exact (st n2 m2 l2.sub g2).1
  · rintro i x H H' hi ⟨n2, m2, aV, acc, rfl, l2, g2, hD2, hG2, ha2, hz2, hl2, hi2, h2⟩ hy
    obtain ⟨n3, d, rfl, g3, l3, hd3, hz3⟩ := (st n2 m2 l2.sub g2).2 i x _ hi hy
    have hdr : xs.drop i = d :: xs.drop (i + 1) := by
      rw [List.drop_eq_getElem_cons hi]
      rw [List.getElem?_eq_getElem hi] at hd3
      rw [Option.some.inj hd3]
    rw [hdr] at h2
    unfold lcGo at h2
    split at h2
    · rename_i env2 hb2
      have D2 : n2.H D ≠ none := by rw [hD2]; simp
      refine bind_ok (x := .f d) hz3 (ok1.go g3 (l2.trans l3)) hb2 fun σ2 ok3 hw => ⟨?_, ?_⟩
      · rw [hw vs htg, wipe_idem]
      · refine ⟨n3, env2, m2, rfl, ok3, ht _ _ _ _ (fun b m4 h4 n4 g4 l4 => ?_) h2⟩
        have l24 := l3.trans l4
        cases b with
        | false =>
          exact ⟨n4, m4, aV, acc, rfl, l2.trans l24, g4, l24.keep D _ hD2 ha2, (l24.gnew D D2).trans hG2, l24.nal D2 ha2, FzAllN.le hz2 l24, by omega, by omega, h4⟩
        | true =>
          refine ⟨n4, env2, m4, rfl, ok3.go g4 l4, hd _ _ _ _ (fun y m5 h5 n5 v g5 l5 ly => ?_) h4⟩
          have l25 := l24.trans l5
          have e5 := l25.keep D _ hD2 ha2
          have hG5 := (l25.gnew D D2).trans hG2
          have ha5 := l25.nal D2 ha2
          refine ⟨aV, e5, ?_, ?_⟩
          · rw [hz2.length]
            have := h1.1
            omega
          · cases y with
            | o k => exact h5.elim
            | f d5 =>
              have ly : FzN C X.w X.K n5 v d5 := ly
              refine ⟨⟨n5.G, n5.al, upd n5.H D (.lst (aV ++ [v]))⟩, m5, aV ++ [v], acc ++ [d5], rfl, (l2.trans l25).at hD, g5.at hG5 ha5, upd_same, hG5, ha5, ?_, by simp; omega, by omega, ?_⟩
              · exact FzAll.append (FzAllN.le (n' := n5) hz2 l25) (.cons ly .nil)
              · refine lcGo.mono ht hd _ _ _ _ _ (fun ds m6 h6 n' p us g' l' hp hu => ?_) h5
                refine h6 n' p us g' l' hp ?_
                rw [List.append_assoc] at hu
                exact hu
    · exact h2.elim
  · rintro H ⟨n2, m2, aV, acc, rfl, l2, g2, hD2, hG2, ha2, hz2, hl2, hi2, h2⟩
    rw [List.drop_length] at h2
    have ne : ∀ {a u}, n1.H a = some u → a ≠ D := fun e z => by subst z; rw [hD] at e; cases e
    have h3 := h2 ⟨n2.G, n2.al, del n2.H D⟩ D aV ⟨fun p o e => ?_, g2.nd, g2.len, fun k y a e1 e2 => ?_, Tabs_del g2.tab (Calm.lst hD2), g2.tg⟩ ⟨fun p o e => l2.g p o (l1.g p o e), fun p o e hn nt => ?_, fun p e => ?_, fun p e => ?_, l1.ale.trans l2.ale, fun k p hk e => ?_⟩ del_same (by rw [List.append_nil]; exact hz2)
    · have : upd (del n2.H D) D (.lst aV) = n2.H := upd_del hD2
      rw [← this]; exact h3
    · show del n2.H D p = some o
      rw [del_ne (fun z => by subst z; have e' : n2.G p = some o := e; rw [hG2] at e'; cases e')]; exact g2.sub p o e
    · obtain ⟨q1, q2⟩ := g2.at_ k y a e1 e2
      refine ⟨q1.imp (n := n2) (fun _ _ e => e) (fun _ _ e => e) fun u e => ?_, q2⟩
      show del n2.H D a = some u
      rw [del_ne (fun z => by subst z; exact ha2 (List.mem_of_getElem? e2))]; exact e
    · have e1 := l1.keepN p o e hn nt
      have e2 := l2.keepN p o e1 (l1.nal (by rw [e]; simp) hn) nt
      show del n2.H D p = some o
      rw [del_ne (ne e1)]; exact e2
    · have e1 := l1.there p e
      have e2 := l2.there p e1
      show del n2.H D p ≠ none
      rw [del_ne (fun z => by subst z; exact e1 hD)]; exact e2
    · exact (l2.gnew p (l1.there p e)).trans (l1.gnew p e)
    · exact (l1.trans l2).anew k p hk e
variable {elt te iter : Expr} {ifs : List Expr} {scope : Scope} {own : List (Str × Nat)} {pos : Pos} {tg : Tg} {dt : TB} {de : TD} {di : TId}
structure DTs (X : Cx) (C : Ct) (B : Nw) (ifs : List Expr) (d : TB) : Prop where
  mono : MonoB d
  run : PTs X ifs (lB C B X.w X.K d)
def dYes : TB := fun _ m Q => Q true m
theorem dts_nil : DTs X C B [] dYes := ⟨fun _ _ _ _ i => i _ _, ⟨fun pins s σ H Q I h => pts_nil.run pins s σ H Q I (by
  obtain ⟨n, env, m, rfl, ok, h⟩ := h
  exact h n ok.good (.refl _))⟩⟩
theorem dts_one {c : Expr} {d : TB} (h : DT X C B c d) : DTs X C B [c] d := ⟨h.mono, pts_one h.run⟩
abbrev Blk (X : Cx) (scope : Scope) (P : Cx → Prop) : Prop := ∀ (s : Shared) (H : Hp) (C : Addr) (cl : List (Str × Addr)) (fp : List Addr), P (X.blk s H scope (compEnvC scope cl C X.env) fp)
theorem dn_lc (hc : X.calm = true) (hN : X.N.Nodup) (hi : DI X C B te iter di) (ok : BlkOk X.N X.env.scope scope own) (mt : MonoB dt) (md : MonoD de) (hg : Blk X scope fun Y => TgOk Y te tg) (ht : Blk X scope fun Y => DTs Y C B ifs dt) (he : Blk X scope fun Y => DE Y C B elt de)
    (htg : ∀ i ∈ tg.ids, i ∈ own.map (·.2)) (hs : ∀ x, foldedSetIterable iter X.env x = pure x := by intro _; rfl) : DN X C B (.ListComp elt [⟨te, iter, ifs, 0⟩] scope pos) (nLc tg dt de (own.map (·.2)) di) :=
  ⟨nLc.mono hi.mono mt md, imp (pe_lc hc hN hi.run ok (fun s H C cl fp => (hg s H C cl fp).run) (fun s H C cl fp => (ht s H C cl fp).run) (fun s H C cl fp => (he s H C cl fp).run) hs) (lc_imp hi.mono mt md htg)⟩
theorem ds_setLc {i : Nat} {y : Str} {py spos : Pos} (hc : X.calm = true) (hN : X.N.Nodup) (hy : X.N[i]? = some y) (hyl : X.env.scope.names.lookup y = some .local) (hsw : swapsWith (.ListComp elt [⟨te, iter, ifs, 0⟩] scope pos) (some (.Name y py)) spos.line X.env = pure true)
    (hi : DI X C B te iter di) (ok : BlkOk X.N X.env.scope scope own) (mt : MonoB dt) (md : MonoD de) (hg : Blk X scope fun Y => TgOk Y te tg) (ht : Blk X scope fun Y => DTs Y C B ifs dt) (he : Blk X scope fun Y => DE Y C B elt de)
    (htg : ∀ i ∈ tg.ids, i ∈ own.map (·.2)) (hs : ∀ x, foldedSetIterable iter X.env x = pure x := by intro _; rfl) : DS X C B (.Assign [.Name y py] (.ListComp elt [⟨te, iter, ifs, 0⟩] scope pos) spos) (sAsg (.nm i) (dNew (nLc tg dt de (own.map (·.2)) di))) := by
  have mm := nLc.mono (tg := tg) (vs := own.map (·.2)) hi.mono mt md
  refine ⟨sAsg.mono (fun env m Q Q' i h => mm _ _ _ _ (fun ds m1 => i _ _) h), impS (ps_setLc (g := gOf X.K tg) (tt := lB C B X.w X.K dt) (te := lE C B X.w X.K de) hc hN hy hyl hsw hi.run ok (fun s H C cl fp => (hg s H C cl fp).run) (fun s H C cl fp => (ht s H C cl fp).run) (fun s H C cl fp => (he s H C cl fp).run) hs) ?_⟩
  rintro D σ H ⟨n, env, m, rfl, ok, h⟩
  refine lc_imp hi.mono mt md htg σ _ _ ⟨n, env, m, rfl, ok, mm _ _ _ _ (fun ds m1 h1 n1 p vs g1 l1 hp hz => ?_) h⟩
  obtain ⟨g2, l2⟩ := g1.freeze (o := .lst vs) hp
  exact h1 _ _ (l1.trans l2).sub ((ok.go g2 (l1.trans l2)).setF (.lst (Rd.of upd_same) (FzAllN.le hz l2)))
theorem ds_setLcN {i : Nat} {y : Str} {py spos : Pos} (hc : X.calm = true) (hN : X.N.Nodup) (hy : X.N[i]? = some y) (hyl : X.env.scope.names.lookup y = some .local) (hsw : swapsWith (.ListComp elt [⟨te, iter, ifs, 0⟩] scope pos) (some (.Name y py)) spos.line X.env = pure true)
    (hi : DI X C B te iter di) (ok : BlkOk X.N X.env.scope scope own) (mt : MonoB dt) (md : MonoD de) (hg : Blk X scope fun Y => TgOk Y te tg) (ht : Blk X scope fun Y => DTs Y C B ifs dt) (he : Blk X scope fun Y => DE Y C B elt de)
    (htg : ∀ i ∈ tg.ids, i ∈ own.map (·.2)) (hs : ∀ x, foldedSetIterable iter X.env x = pure x := by intro _; rfl) : DS X C B (.Assign [.Name y py] (.ListComp elt [⟨te, iter, ifs, 0⟩] scope pos) spos) (sSetN i (nLc tg dt de (own.map (·.2)) di)) := by
  have mm := nLc.mono (tg := tg) (vs := own.map (·.2)) hi.mono mt md
  refine ⟨fun env m D D' l => mm _ _ _ _ fun ds m1 => l.nx _ _, impS (ps_setLc (g := gOf X.K tg) (tt := lB C B X.w X.K dt) (te := lE C B X.w X.K de) hc hN hy hyl hsw hi.run ok (fun s H C cl fp => (hg s H C cl fp).run) (fun s H C cl fp => (ht s H C cl fp).run) (fun s H C cl fp => (he s H C cl fp).run) hs) ?_⟩
  rintro D σ H ⟨n, env, m, rfl, ok, h⟩
  refine lc_imp hi.mono mt md htg σ _ _ ⟨n, env, m, rfl, ok, mm _ _ _ _ (fun ds m1 h1 n1 p vs g1 l1 hp hz => ?_) h⟩
  have ok2 := (ok.go g1 l1).newO (i := i) (o := .lst vs) (z := .lst ds) hp ⟨vs, upd_same, hz⟩
  exact h1 ⟨n1.G, n1.al, upd n1.H p (.lst vs)⟩ _ ⟨l1.g, l1.ale⟩ ok2
end

abbrev QXe := Nat → List Dat → Env' → Mem → Prop
def MonoP (p : DSp) : Prop := ∀ ds m (Q Q' : QD) (E E' : QX), (∀ x m', Q x m' → Q' x m') → (∀ c xs m', E c xs m' → E' c xs m') → p ds m Q E → p ds m Q' E'
def XAt (C : Ct) (B n : Nw) (c : Nat) (dx : Option Addr) (vs : List V) : Prop := vs.length = (C.flds c).length ∧ ((dx = none ∧ vs = []) ∨ ∃ a, dx = some a ∧ B.H a = none ∧ n.H a = some (.xd ((C.flds c).zip vs)))
def AftX (C : Ct) (w : World) (K : PySem.W.Frag) (n : Nw) (E : XK) : QX := fun c xs m' => ∀ n' dx vs, Good C w K n' m' → n.le n' → XAt C n n' c dx vs → FzAllN C w K n' vs xs → E (.ref (C.addr c)) dx n'.H
def spD (C : Ct) (w : World) (K : PySem.W.Frag) (k : Nat) (p : DSp) : Sp := fun vs H Q E => vs.length = k ∧ ∃ n m ds, n.H = H ∧ Good C w K n m ∧ FzAllN C w K n vs ds ∧ p ds m (AftD C w K n Q) (AftX C w K n E)
structure DF (P : Program) (w : World) (K : PySem.W.Frag) (mg : Str → Option Value) (base : Heap) (C : Ct) (k : Nat) (f : Addr) (fd : FuncData) (ps : List Str) (p : DSp) : Prop where
  mono : MonoP p
  ok : FnOk P w K mg base (L2.CX P w) k f fd ps (spD C w K ps.length p)
theorem XAt.base {C : Ct} {B n n' : Nw} {c : Nat} {dx : Option Addr} {vs : List V} (l : B.le n) (h : XAt C n n' c dx vs) : XAt C B n' c dx vs := by
  obtain ⟨h1, h2⟩ := h
  refine ⟨h1, ?_⟩
  rcases h2 with h2 | ⟨a, h3, h4, h5⟩
  · exact .inl h2
  · exact .inr ⟨a, h3, l.base h4, h5⟩
def atX (C : Ct) (B : Nw) (w : World) (K : PySem.W.Frag) (EX : QXe) (σ : L2.St) : XK := fun cls dx H => ∃ n env m c xs vs, n.H = H ∧ Ok C w K B n env m σ ∧ cls = .ref (C.addr c) ∧ XAt C B n c dx vs ∧ FzAllN C w K n vs xs ∧ EX c xs env m
def TakesD (X : Cx) (C : Ct) (B : Nw) (EX : QXe) : Prop := Takes X (fun cls dx σ H => atX C B X.w X.K EX σ cls dx H)
def PassD (X : Cx) (C : Ct) (B : Nw) (EX : QXe) : Prop := ∀ σ, PassesAt (L2.CX X.prog X.w) X σ (atX C B X.w X.K EX σ)
theorem TakesD.pass {X : Cx} {C : Ct} {B : Nw} {EX : QXe} (t : TakesD X C B EX) : PassD X C B EX := fun σ => passAt t σ
def EX0 : QXe := fun _ _ _ _ => False
theorem passD0 {X : Cx} {C : Ct} {B : Nw} : PassD X C B EX0 := fun σ pins H s e s' I h => by
  obtain ⟨_, _, _, _, _, _, _, _, _, _, _, _, z⟩ := h
  obtain ⟨_, _, _, _, _, _, _, _, _, _, _, z⟩ := z
  exact z.elim
def dCall (p : DSp) (EX : QXe) (da : TAd) : TD := fun env m Q => da env m fun xs m1 => match frs xs with
  | some ds => p ds m1 (fun d m2 => Q (.f d) m2) (fun c ys m2 => EX c ys env m2)
  | none => False
theorem dCall.mono {p : DSp} {EX : QXe} {da : TAd} (hp : MonoP p) (ha : MonoA da) : MonoD (dCall p EX da) := fun env m Q Q' i => ha _ _ _ _ fun xs m1 => by
  split
  · exact hp _ _ _ _ _ _ (fun d m2 => i _ _) fun _ _ _ h => h
  · exact id
section
variable {X : Cx} {C : Ct} {B : Nw} {k : Nat} {f : Addr} {fd : FuncData} {ps : List Str} {p : DSp} {EX : QXe} {x : Str} {p1 pos : Pos} {e : Expr} {es : List Expr} {da : TAd}
theorem call_imp (hp : MonoP p) (ha : MonoA da) {n' : Nat} (hn : ∀ {vs ds n}, FzAllN C X.w X.K n vs ds → (∃ m Q E, p ds m Q E) → vs.length = n') : ∀ σ H Q, lE C B X.w X.K (dCall p EX da) σ H Q → tCallSD (spD C X.w X.K n' p) [] (atX C B X.w X.K EX) (lA C B X.w X.K da) σ H Q := by
  rintro σ H Q ⟨n, env, m, rfl, ok, h⟩
  refine ⟨n, env, m, rfl, ok, ha _ _ _ _ (fun xs m1 h1 n1 vs g1 l1 lx => ?_) h⟩
  split at h1
  · rename_i ds hd
    have hz := frs_ok lx hd
    refine ⟨by rw [List.append_nil]; exact hn hz ⟨_, _, _, h1⟩, n1, m1, ds, rfl, g1, by rw [List.append_nil]; exact hz, hp _ _ _ _ _ _ (fun d m2 h2 n2 v g2 l2 hv => h2 n2 v g2 (l1.trans l2) hv) (fun c ys m2 h2 n2 dx us g2 l2 hx hu => ?_) h1⟩
    exact ⟨n2, env, m2, c, ys, us, rfl, ok.go g2 (l1.trans l2), rfl, hx.base (ok.go g1 l1).base, hu, h2⟩
  · exact h1.elim
theorem de_call (F : DF X.prog X.w X.K X.mg X.base C k f fd ps p) (hl : ∀ ds m Q E, p ds m Q E → ds.length = ps.length) (hr : Room k X.A) (hg : Gl X x) (hm : X.mg x = some (.ref f)) (hk : PySem.W.keepIn X.K (.ref f) = true) (hb : Binds X.K fd ps []) (hx : PassD X C B EX) (ha : DA X C B (e :: es) da)
    (hdb : (x == ("__debug__" : Str)) = false := by decide) (he : starEach (e :: es) X.env = (false, eval e X.env) :: starEach es X.env := by rfl) (hpl : (backTo pos (starEach es X.env)).any (·.1) = false := by rfl) :
    DE X C B (.Call (.Name x p1) (e :: es) [] pos) (dCall p EX da) :=
  ⟨dCall.mono F.mono ha.mono, imp (pe_callSD F.ok hr hg hm hk hb .nil hx ha.run hdb he hpl) (call_imp F.mono ha.mono fun hz ⟨m, Q, E, h⟩ => hz.length.trans (hl _ _ _ _ h))⟩
end
def env0 (N : Nat) (ds : List Dat) : Env' := ds.map (fun d => some (.f d)) ++ List.replicate (N - ds.length) none
section
variable {P : Program} {w : World} {K : PySem.W.Frag} {mg : Str → Option Value} {base : Heap} {C : Ct} {x qual : Str} {params : Arguments} {body : List Stmt} {scope : Scope} {f : Addr} {fd : FuncData} {N ps : List Str} {k : Nat} {p : DSp}
theorem env_start {n : Nw} {vs : List V} {ds : List Dat} (h : FzAllN C w K n vs ds) : EnvOk C w K n n (env0 N.length ds) (L2.start N vs) := by
  have hl := h.length
  have key : ∀ {i : Nat} {y : Sl}, (env0 N.length ds)[i]? = some (some y) → ∃ d, ds[i]? = some d ∧ y = .f d := by
    intro i y e
    unfold env0 at e
    by_cases hi : i < ds.length
    · rw [List.getElem?_append_left (by simpa using hi), List.getElem?_map] at e
      rw [List.getElem?_eq_getElem hi] at e
      simp only [Option.map_some, Option.some.injEq] at e
      exact ⟨_, List.getElem?_eq_getElem hi, e.symm⟩
    · rw [List.getElem?_append_right (by simpa using hi), List.getElem?_replicate] at e
      split at e <;> cases e
  refine ⟨?_, fun i d e => ?_, fun i y e => ?_, fun i j y z a e => ?_⟩
  · unfold env0 L2.start
    simp [hl]
  · obtain ⟨d', h1, h2⟩ := key e
    cases h2
    obtain ⟨v, h3, h4⟩ := h.get h1
    refine ⟨v, ?_, h4⟩
    unfold L2.start
    have hi := (List.getElem?_eq_some_iff.mp h3).1
    rw [List.getElem?_append_left (by simpa using hi), List.getElem?_map, h3]
    rfl
  · obtain ⟨d', h1, h2⟩ := key e
    cases h2
  · obtain ⟨d', h1, h2⟩ := key e
    cases h2
theorem df_of {d : QXe → TSd} (F : FunD K x qual params body scope [] [] f fd) (S : FnScope N ps scope) (mono : MonoP p) (len : ∀ ds m Q E, p ds m Q E → ds.length = ps.length)
    (walk : ∀ (cdv : Value) (A : Around) (outer : List Env) (s : Shared) (H : Hp) (E : XK) (B : Nw) (EX : QXe), Room k (A.deeper (envOfC qual scope s.heap.objs.size f cdv)) → TakesD (cxOf (L2.CX P w) P w K mg base N qual scope f cdv A outer s H E) C B EX →
      DSs (cxOf (L2.CX P w) P w K mg base N qual scope f cdv A outer s H E) C B body (d EX))
    (law : ∀ ds m (Q : QD) (E : QX), p ds m Q E → d (fun c xs _ m => E c xs m) { nx := fun _ m => Q .non m, rt := Q } (env0 N.length ds) m) : DF P w K mg base C (k + 1) f fd ps p := by
  refine ⟨mono, F.ok S (fun vs H Q E h => h.1) fun cdv A outer s H vs Q E hr h => ?_⟩
  obtain ⟨hl, n, m, ds, rfl, g, hz, h⟩ := h
  let X := cxOf (L2.CX P w) P w K mg base N qual scope f cdv A outer s n.H E
  have ok : Ok C w K n n (env0 N.length ds) m (L2.start N vs) := ⟨g, .refl _, env_start hz⟩
  have tk : Takes X (fun cls dx _ H => E cls dx H) := takes_of rfl rfl rfl rfl
  have pd : TakesD X C n (fun c xs _ m' => AftX C w K n E c xs m') := tk.imp (fun cls dx σ' H' hq => by
    obtain ⟨n', env', m', c, xs, us, rfl, ok', rfl, hx, hu, hE⟩ := hq
    exact hE n' dx us ok'.good ok'.base hx hu)
  have W := walk cdv A outer s n.H E n (fun c xs _ m' => AftX C w K n E c xs m') hr pd
  refine ⟨_, W.run, n, _, m, rfl, ok, ?_⟩
  refine W.mono _ _ { nx := fun _ m => AftD C w K n Q .non m, rt := AftD C w K n Q } _ ⟨fun e1 m1 h1 n1 σ1 _ ok1 => ?_, fun d1 m1 h1 n1 v1 l1 g1 hv => ?_, fun _ _ h1 => h1.elim, fun _ _ h1 => h1.elim⟩ (law ds m (AftD C w K n Q) (AftX C w K n E) h)
  · exact h1 n1 .non ok1.good ok1.base .non
  · exact h1 n1 v1 g1 l1 hv
end
end DL

set_option maxHeartbeats 1000000
namespace DL
open PySem PySem.Spec PyProof.Rows L2

def okN : Nat → Dat → Bool
  | _, .non => true
  | _, .bl _ => true
  | _, .int _ => true
  | _, .str x => PyData.strOk x
  | k + 1, .tup xs => xs.all (okN k)
  | k + 1, .lst xs => xs.all (okN k)
  | _, _ => false
mutual
def eqd : Dat → Dat → Bool
  | .non, .non => true
  | .bl a, .bl b => a == b
  | .bl a, .int j => (if a = true then 1 else 0) == j
  | .int i, .bl b => i == (if b = true then 1 else 0)
  | .int i, .int j => i == j
  | .str x, .str y => x == y
  | .tup xs, .tup ys => eqds xs ys
  | .lst xs, .lst ys => eqds xs ys
  | _, _ => false
def eqds : List Dat → List Dat → Bool
  | [], [] => true
  | x :: xs, y :: ys => eqd x y && eqds xs ys
  | _, _ => false
end
theorem okN_lay : ∀ (k : Nat) (d : Dat), okN k d = true → (py d).canLay0 = true ∧ (py d).depth ≤ k
  | k, .non, _ => by cases k <;> exact ⟨rfl, Nat.zero_le _⟩
  | k, .bl b, _ => by cases k <;> exact ⟨rfl, Nat.zero_le _⟩
  | k, .int i, _ => by cases k <;> exact ⟨rfl, Nat.zero_le _⟩
  | k, .str x, h => by
    have h : PyData.strOk x = true := by cases k <;> exact h
    exact ⟨by rw [py, PyData.canLay0]; exact h, by rw [py, PyData.depth]; exact Nat.zero_le _⟩
  | 0, .tup xs, h => by cases h
  | 0, .lst xs, h => by cases h
  | k + 1, .tup xs, h => by
    have h : xs.all (okN k) = true := h
    have key : ∀ ys : List Dat, ys.all (okN k) = true → PyData.canLayAll0 (pys ys) = true ∧ PyData.depthAll (pys ys) ≤ k := by
      intro ys
      induction ys with
      | nil => intro _; rw [pys]; exact ⟨by rw [PyData.canLayAll0], by rw [PyData.depthAll]; exact Nat.zero_le _⟩
      | cons y ys ih =>
        intro hy
        rw [List.all_cons, Bool.and_eq_true] at hy
        obtain ⟨h1, h2⟩ := okN_lay k y hy.1
        obtain ⟨h3, h4⟩ := ih hy.2
        rw [pys, PyData.canLayAll0, PyData.depthAll, h1, h3]
        exact ⟨rfl, by omega⟩
    obtain ⟨h1, h2⟩ := key xs h
    rw [py, PyData.canLay0, PyData.depth]
    exact ⟨h1, by omega⟩
  | k + 1, .lst xs, h => by
    have h : xs.all (okN k) = true := h
    have key : ∀ ys : List Dat, ys.all (okN k) = true → PyData.canLayAll0 (pys ys) = true ∧ PyData.depthAll (pys ys) ≤ k := by
      intro ys
      induction ys with
      | nil => intro _; rw [pys]; exact ⟨by rw [PyData.canLayAll0], by rw [PyData.depthAll]; exact Nat.zero_le _⟩
      | cons y ys ih =>
        intro hy
        rw [List.all_cons, Bool.and_eq_true] at hy
        obtain ⟨h1, h2⟩ := okN_lay k y hy.1
        obtain ⟨h3, h4⟩ := ih hy.2
        rw [pys, PyData.canLayAll0, PyData.depthAll, h1, h3]
        exact ⟨rfl, by omega⟩
    obtain ⟨h1, h2⟩ := key xs h
    rw [py, PyData.canLay0, PyData.depth]
    exact ⟨h1, by omega⟩
  | k, .dct _, h => by cases k <;> cases h
  | k, .ins _ _, h => by cases k <;> cases h
  | k, .obj _, h => by cases k <;> cases h
  | k, .ref _, h => by cases k <;> cases h
  | k, .ty _, h => by cases k <;> cases h
  | k, .cls _, h => by cases k <;> cases h
theorem okN_shaped {k : Nat} {d : Dat} (hk : k ≤ 64) (h : okN k d = true) : SeqAt.shaped (py d) = true := by
  obtain ⟨h1, h2⟩ := okN_lay k d h
  unfold SeqAt.shaped
  rw [h1, decide_eq_true (Nat.le_trans h2 hk)]
  rfl
theorem eqv_eqd : ∀ (k j : Nat) (a b : Dat), okN k a = true → okN j b = true → PyData.eqv (py a) (py b) = eqd a b := by
  intro k
  induction k with
  | zero =>
    intro j a b ha hb
    cases a with
    | tup xs => cases ha
    | lst xs => cases ha
    | dct _ => cases ha
    | ins _ _ => cases ha
    | obj _ => cases ha
    | ref _ => cases ha
    | ty _ => cases ha
    | cls _ => cases ha
    | _ => cases b <;> first | (cases j <;> cases hb; done) | rfl | (simp only [py, PyData.eqv, eqd])
  | succ k ih =>
    intro j a b ha hb
    have key : ∀ (j : Nat) (xs ys : List Dat), xs.all (okN k) = true → ys.all (okN j) = true → PyData.eqvAll (pys xs) (pys ys) = eqds xs ys := by
      intro j xs
      induction xs with
      | nil => intro ys _ _; cases ys <;> simp [pys, PyData.eqvAll, eqds]
      | cons x xs ihx =>
        intro ys hx hy
        cases ys with
        | nil => simp [pys, PyData.eqvAll, eqds]
        | cons y ys =>
          rw [List.all_cons, Bool.and_eq_true] at hx hy
          simp only [pys, PyData.eqvAll, eqds]
          rw [ih j x y hx.1 hy.1, ihx ys hx.2 hy.2]
    cases a with
    | tup xs =>
      cases b with
      | tup ys =>
        cases j with
        | zero => cases hb
        | succ j => simp only [py, PyData.eqv, eqd]; exact key j xs ys ha hb
      | dct _ => cases j <;> cases hb
      | ins _ _ => cases j <;> cases hb
      | obj _ => cases j <;> cases hb
      | ref _ => cases j <;> cases hb
      | ty _ => cases j <;> cases hb
      | cls _ => cases j <;> cases hb
      | _ => simp only [py, PyData.eqv, eqd]
    | lst xs =>
      cases b with
      | lst ys =>
        cases j with
        | zero => cases hb
        | succ j => simp only [py, PyData.eqv, eqd]; exact key j xs ys ha hb
      | dct _ => cases j <;> cases hb
      | ins _ _ => cases j <;> cases hb
      | obj _ => cases j <;> cases hb
      | ref _ => cases j <;> cases hb
      | ty _ => cases j <;> cases hb
      | cls _ => cases j <;> cases hb
      | _ => simp only [py, PyData.eqv, eqd]
    | dct _ => cases ha
    | ins _ _ => cases ha
    | obj _ => cases ha
    | ref _ => cases ha
    | ty _ => cases ha
    | cls _ => cases ha
    | _ => cases b <;> first | (cases j <;> cases hb; done) | rfl | (simp only [py, PyData.eqv, eqd])

inductive Nowv (C : Ct) (w : World) (K : PySem.W.Frag) (n : Nw) : V → Dat → Prop
  | fz {v d} : FzN C w K n v d → Nowv C w K n v d
  | lst {a vs xs} : n.H a = some (.lst vs) → FzAllN C w K n vs xs → Nowv C w K n (.ref a) (.lst xs)
  | dct {a es kvs} : n.H a = some (dxo a es) → (a == sysModules) = false → FzEs C w K n.al n.G es.toList kvs → Nowv C w K n (.ref a) (.dct kvs)
section
variable {C : Ct} {w : World} {K : PySem.W.Frag} {B n : Nw} {m : Mem} {env : Env'} {σ : L2.St}
theorem mo_now {a : Addr} {x : Mo} {d : Dat} (h : MoOk C w K n a x) (e : moD x = some d) : Nowv C w K n (.ref a) d := by
  cases x with
  | lst xs => cases e; obtain ⟨vs, h1, h2⟩ := h; exact .lst h1 h2
  | dct kvs => cases e; obtain ⟨es, h1, h3, h2⟩ := h; exact .dct h1 h3 h2
  | ins c xs => cases e
theorem der_ok {v : V} {x : Lv} {d : Dat} (ok : Ok C w K B n env m σ) (h : LvOk C w K n env σ v x) (e : der env m x = some d) : Nowv C w K n v d := by
  cases x with
  | o i =>
    obtain ⟨h1, y, h2⟩ := h
    have e' : (match env[i]? with
      | some (some (.own x)) => moD x
      | _ => none) = some d := e
    rw [h2] at e'
    obtain ⟨a, h3, h4⟩ := ok.env.own i y h2
    rw [h1] at h3
    cases h3
    exact mo_now h4.ok e'
  | f y =>
    by_cases hy : ∃ k, y = .obj k
    · obtain ⟨k, rfl⟩ := hy
      have e' : (match m[k]? with
        | some x => moD x
        | none => none) = some d := e
      have h : FzN C w K n v (.obj k) := h
      cases h with
      | obj hk =>
        cases q : m[k]? with
        | none => rw [q] at e'; cases e'
        | some x => rw [q] at e'; exact mo_now (ok.good.at_ k x _ q hk).1 e'
    · have e' : some y = some d := by
        cases y with
        | obj k => exact absurd ⟨k, rfl⟩ hy
        | _ => exact e
      cases e'
      exact .fz h
def lstOf (env : Env') (m : Mem) (x : Lv) : Option (List Dat) := match der env m x with
  | some (.lst xs) => some xs
  | _ => none
def tupOf (env : Env') (m : Mem) (x : Lv) : Option (List Dat) := match der env m x with
  | some (.tup xs) => some xs
  | _ => none
theorem rdUp {a : Addr} {u : HO} (g : Good C w K n m) (h : Rd n.G a u) : Rd n.H a u := Rd.keep g.sub h
theorem lst_ok {v : V} {x : Lv} {xs : List Dat} (ok : Ok C w K B n env m σ) (h : LvOk C w K n env σ v x) (e : lstOf env m x = some xs) : ∃ a vs, v = .ref a ∧ Rd n.H a (.lst vs) ∧ FzAllN C w K n vs xs := by
  unfold lstOf at e
  split at e
  · rename_i ys hd
    cases e
    cases der_ok ok h hd with
    | fz z => cases z with | lst z1 z2 => exact ⟨_, _, rfl, rdUp ok.good z1, z2⟩
    | lst z1 z2 => exact ⟨_, _, rfl, .inl z1, z2⟩
  · cases e
theorem tup_ok {v : V} {x : Lv} {xs : List Dat} (ok : Ok C w K B n env m σ) (h : LvOk C w K n env σ v x) (e : tupOf env m x = some xs) : ∃ a vs, v = .ref a ∧ SqT K n.H a vs ∧ FzAllN C w K n vs xs := by
  unfold tupOf at e
  split at e
  · rename_i ys hd
    cases e
    cases der_ok ok h hd with
    | fz z => cases z with | tup z1 z2 => exact ⟨_, _, rfl, SqT.keep ok.good.sub z1, z2⟩
  · cases e
def seqOf (env : Env') (m : Mem) (x : Lv) : Option (List Dat) := match der env m x with
  | some (.lst xs) => some xs
  | some (.tup xs) => some xs
  | _ => none
theorem seq_ok {v : V} {x : Lv} {xs : List Dat} (ok : Ok C w K B n env m σ) (h : LvOk C w K n env σ v x) (e : seqOf env m x = some xs) : ∃ a vs, v = .ref a ∧ (SqL K n.H a vs ∨ SqT K n.H a vs) ∧ FzAllN C w K n vs xs := by
  unfold seqOf at e
  split at e
  · rename_i ys hd
    cases e
    obtain ⟨a, vs, h1, h2, h3⟩ := lst_ok ok h (xs := xs) (by unfold lstOf; rw [hd])
    exact ⟨a, vs, h1, .inl (.inl h2), h3⟩
  · rename_i ys hd
    cases e
    obtain ⟨a, vs, h1, h2, h3⟩ := tup_ok ok h (xs := xs) (by unfold tupOf; rw [hd])
    exact ⟨a, vs, h1, .inr h2, h3⟩
  · cases e
mutual
theorem fz_dp (g : Good C w K n m) : ∀ (k : Nat) {v : V} {d : Dat}, FzN C w K n v d → okN k d = true → Dp K n.H v (py d)
  | k, _, .non, h, _ => by cases h; exact .non
  | k, _, .bl b, h, _ => by cases h; exact .bl b
  | k, _, .int i, h, _ => by cases h; exact .int i
  | k, _, .str x, h, _ => by cases h; exact .str x
  | 0, _, .tup xs, h, e => by cases e
  | 0, _, .lst xs, h, e => by cases e
  | k + 1, _, .tup xs, h, e => by
    cases h with
    | tup h1 h2 => rw [py]; exact .tup (SqT.keep g.sub h1) (fzs_dp g k h2 e)
  | k + 1, _, .lst xs, h, e => by
    cases h with
    | lst h1 h2 => rw [py]; exact .lst (.inl (rdUp g h1)) (fzs_dp g k h2 e)
  | k, _, .dct _, h, e => by cases k <;> cases e
  | k, _, .ins _ _, h, e => by cases k <;> cases e
  | k, _, .obj _, h, e => by cases k <;> cases e
  | k, _, .ref _, h, e => by cases k <;> cases e
  | k, _, .ty _, h, e => by cases k <;> cases e
  | k, _, .cls _, h, e => by cases k <;> cases e
theorem fzs_dp (g : Good C w K n m) : ∀ (k : Nat) {vs : List V} {ds : List Dat}, FzAllN C w K n vs ds → ds.all (okN k) = true → DpAll K n.H vs (pys ds)
  | k, _, [], h, _ => by cases h; rw [pys]; exact .nil
  | k, _, d :: ds, h, e => by
    rw [List.all_cons, Bool.and_eq_true] at e
    cases h with
    | cons a b => rw [pys]; exact .cons (fz_dp g k a e.1) (fzs_dp g k b e.2)
end
theorem now_dp (g : Good C w K n m) {k : Nat} {v : V} {d : Dat} (h : Nowv C w K n v d) (e : okN k d = true) : Dp K n.H v (py d) := by
  cases h with
  | fz z => exact fz_dp g k z e
  | lst h1 h2 =>
    cases k with
    | zero => cases e
    | succ k => rw [py]; exact .lst (.inl (.inl h1)) (fzs_dp g k h2 e)
  | dct h1 h2 h3 => cases k <;> cases e
end
section
variable {X : Cx} {C : Ct}
def oEq (f : Bool → Bool) : Op2 := fun env m x y Q => match der env m x, der env m y with
  | some a, some b => okN 60 a = true ∧ okN 60 b = true ∧ Q (.bl (f (eqd a b))) m
  | _, _ => False
theorem oEq.mono {f : Bool → Bool} : Mono2 (oEq f) := fun env m x y Q Q' i => by
  unfold oEq
  split
  · exact fun h => ⟨h.1, h.2.1, i _ _ h.2.2⟩
  · exact id
theorem op_eqd (hu : X.A.units + 64 < cLine) : OpD X C (compareOp .Eq) (oEq id) := by
  refine ⟨oEq.mono, fun pins s σ H x y v u Q I rx ry h => ?_⟩
  obtain ⟨B, n, env, m, σ', a, b, rfl, ok, la, lb, h⟩ := h
  unfold oEq at h
  split at h
  · rename_i da db ha hb
    obtain ⟨h1, h2, h3⟩ := h
    exact op_eqD hu pins s σ n.H x y v u Q I rx ry ⟨_, _, now_dp ok.good (der_ok ok la ha) h1, now_dp ok.good (der_ok ok lb hb) h2, okN_shaped (by decide) h1, okN_shaped (by decide) h2, by rw [eqv_eqd _ _ _ _ h1 h2]; exact h3 n _ ok.good (.refl _) (.bl _)⟩
  · exact h.elim
theorem op_ned (hu : X.A.units + 64 < cLine) : OpD X C (compareOp .NotEq) (oEq not) := by
  refine ⟨oEq.mono, fun pins s σ H x y v u Q I rx ry h => ?_⟩
  obtain ⟨B, n, env, m, σ', a, b, rfl, ok, la, lb, h⟩ := h
  unfold oEq at h
  split at h
  · rename_i da db ha hb
    obtain ⟨h1, h2, h3⟩ := h
    exact op_neD hu pins s σ n.H x y v u Q I rx ry ⟨_, _, now_dp ok.good (der_ok ok la ha) h1, now_dp ok.good (der_ok ok lb hb) h2, okN_shaped (by decide) h1, okN_shaped (by decide) h2, by rw [eqv_eqd _ _ _ _ h1 h2]; exact h3 n _ ok.good (.refl _) (.bl _)⟩
  · exact h.elim
def oIn (f : Bool → Bool) : Op2 := fun env m x y Q => match der env m x, seqOf env m y with
  | some a, some bs => okN 60 a = true ∧ bs.all (okN 59) = true ∧ Q (.bl (f (bs.any fun b => eqd b a))) m
  | _, _ => False
theorem oIn.mono {f : Bool → Bool} : Mono2 (oIn f) := fun env m x y Q Q' i => by
  unfold oIn
  split
  · exact fun h => ⟨h.1, h.2.1, i _ _ h.2.2⟩
  · exact id
theorem any_eqv {a : Dat} (ha : okN 60 a = true) : ∀ bs : List Dat, bs.all (okN 59) = true → ((pys bs).any fun y => PyData.eqv y (py a)) = bs.any fun b => eqd b a
  | [], _ => rfl
  | b :: bs, h => by
    rw [List.all_cons, Bool.and_eq_true] at h
    rw [pys, List.any_cons, List.any_cons, eqv_eqd _ _ _ _ h.1 ha, any_eqv ha bs h.2]
theorem op_ind {op : CmpOp} {f : Bool → Bool} (hu : X.A.units + 65 < cLine)
    (hl : ∀ {s : Shared} {c x : Value} {xs : List PyData} {d : PyData} {as bs : List Addr} {Q : Value → Shared → Prop}, Reads s.heap c (.list xs) as → Reads s.heap x d bs → PyData.canLayAll0 xs = true → d.canLay0 = true → X.A.units + 1 + min (PyData.depthAll xs) d.depth < cLine →
      Q (.bool (f (xs.any fun y => PyData.eqv y d))) s → wpAny (model X.prog X.w) X.A (compareOp op x c) Q X.xe s)
    (ht : ∀ {s : Shared} {c x : Value} {xs : List PyData} {d : PyData} {as bs : List Addr} {Q : Value → Shared → Prop}, Reads s.heap c (.tuple xs) as → Reads s.heap x d bs → PyData.canLayAll0 xs = true → d.canLay0 = true → X.A.units + 1 + min (PyData.depthAll xs) d.depth < cLine →
      Q (.bool (f (xs.any fun y => PyData.eqv y d))) s → wpAny (model X.prog X.w) X.A (compareOp op x c) Q X.xe s) : OpD X C (compareOp op) (oIn f) := by
  refine ⟨oIn.mono, fun pins s σ H x y v u Q I rx ry h => ?_⟩
  obtain ⟨B, n, env, m, σ', a, b, rfl, ok, la, lb, h⟩ := h
  unfold oIn at h
  split at h
  · rename_i da bs ha hb
    obtain ⟨h1, h2, h3⟩ := h
    obtain ⟨as, r1⟩ := Dp.reads I _ x v (now_dp ok.good (der_ok ok la ha) h1) rx
    have fin := any_eqv h1 bs h2
    unfold seqOf at hb
    split at hb
    · rename_i ys hd
      cases hb
      have h2' : okN 60 (.lst bs) = true := h2
      obtain ⟨cs, r2⟩ := Dp.reads I _ y u (now_dp ok.good (der_ok ok lb hd) h2') ry
      rw [py] at r2
      have sh := okN_shaped (by decide) h2'
      rw [py] at sh
      have cl := SeqAt.canLay_of_shaped sh
      rw [PyData.canLay0] at cl
      exact hl r2 r1 cl (SeqAt.canLay_of_shaped (okN_shaped (by decide) h1)) (room_in_shaped (okN_shaped (by decide) h1) hu) ⟨.bl _, _, I, rfl, by rw [fin]; exact h3 n _ ok.good (.refl _) (.bl _)⟩
    · rename_i ys hd
      cases hb
      have h2' : okN 60 (.tup bs) = true := h2
      obtain ⟨cs, r2⟩ := Dp.reads I _ y u (now_dp ok.good (der_ok ok lb hd) h2') ry
      rw [py] at r2
      have sh := okN_shaped (by decide) h2'
      rw [py] at sh
      have cl := SeqAt.canLay_of_shaped sh
      rw [PyData.canLay0] at cl
      exact ht r2 r1 cl (SeqAt.canLay_of_shaped (okN_shaped (by decide) h1)) (room_in_shaped (okN_shaped (by decide) h1) hu) ⟨.bl _, _, I, rfl, by rw [fin]; exact h3 n _ ok.good (.refl _) (.bl _)⟩
    · cases hb
  · exact h.elim
theorem op_inS (hu : X.A.units + 65 < cLine) : OpD X C (compareOp .In) (oIn id) := op_ind hu (fun a b c d e f => SeqAt.in_list_reads a b c d e f) fun a b c d e f => SeqAt.in_tuple_reads a b c d e f
theorem op_notInS (hu : X.A.units + 65 < cLine) : OpD X C (compareOp .NotIn) (oIn not) := op_ind hu (fun a b c d e f => SeqAt.notIn_list_reads a b c d e f) fun a b c d e f => SeqAt.notIn_tuple_reads a b c d e f
def isN : Lv → Bool
  | .f .non => true
  | _ => false
def oIsN (f : Bool → Bool) : Op2 := fun env m x y Q => match y with
  | .f .non => Q (.bl (f (isN x))) m
  | _ => False
theorem oIsN.mono {f : Bool → Bool} : Mono2 (oIsN f) := fun env m x y Q Q' i => by
  unfold oIsN
  split
  · exact i _ _
  · exact id
theorem isN_ok {w : World} {K : PySem.W.Frag} {n : Nw} {env : Env'} {σ : L2.St} {B : Nw} {m : Mem} {v : V} {x : Lv} (ok : Ok C w K B n env m σ) (h : LvOk C w K n env σ v x) : decide (v = .non) = isN x := by
  cases x with
  | o i =>
    obtain ⟨h1, y, h2⟩ := h
    obtain ⟨a, h3, h4⟩ := ok.env.own i y h2
    rw [h1] at h3; cases h3
    rfl
  | f d =>
    have h : FzN C w K n v d := h
    cases h <;> rfl
theorem op_isNd : OpD X C (compareOp .Is) (oIsN id) := by
  refine ⟨oIsN.mono, fun pins s σ H x y v u Q I rx ry h => ?_⟩
  obtain ⟨B, n, env, m, σ', a, b, rfl, ok, la, lb, h⟩ := h
  unfold oIsN at h
  split at h
  · have lb : FzN C X.w X.K n y .non := lb
    cases lb
    exact op_isN pins s σ n.H x .non v u Q I rx ry ⟨rfl, by rw [isN_ok ok la]; exact h n _ ok.good (.refl _) (.bl _)⟩
  · exact h.elim
theorem op_notNd : OpD X C (compareOp .IsNot) (oIsN not) := by
  refine ⟨oIsN.mono, fun pins s σ H x y v u Q I rx ry h => ?_⟩
  obtain ⟨B, n, env, m, σ', a, b, rfl, ok, la, lb, h⟩ := h
  unfold oIsN at h
  split at h
  · have lb : FzN C X.w X.K n y .non := lb
    cases lb
    exact op_notN pins s σ n.H x .non v u Q I rx ry ⟨rfl, by rw [isN_ok ok la]; exact h n _ ok.good (.refl _) (.bl _)⟩
  · exact h.elim
def oI (c : Int → Int → Prop) (g : Int → Int → Dat) : Op2 := fun _ m x y Q => match x, y with
  | .f (.int i), .f (.int j) => c i j ∧ Q (g i j) m
  | _, _ => False
theorem oI.mono {c : Int → Int → Prop} {g : Int → Int → Dat} : Mono2 (oI c g) := fun env m x y Q Q' i => by
  unfold oI
  split
  · exact fun h => ⟨h.1, i _ _ h.2⟩
  · exact id
theorem op_I {F : Value → Value → Sem Value} {c : Int → Int → Prop} {g : Int → Int → V} {g' : Int → Int → Dat} (h : OpR X F (rI c g)) (hg : ∀ i j C w K al G, Fz C w K al G (g i j) (g' i j)) : OpD X C F (oI c g') := by
  refine ⟨oI.mono, fun pins s σ H x y v u Q I rx ry q => ?_⟩
  obtain ⟨B, n, env, m, σ', a, b, rfl, ok, la, lb, q⟩ := q
  unfold oI at q
  split at q
  · rename_i i j
    have la : FzN C X.w X.K n x (.int i) := la
    have lb : FzN C X.w X.K n y (.int j) := lb
    cases la
    cases lb
    exact h pins s σ n.H _ _ v u Q I rx ry ⟨i, j, rfl, rfl, q.1, q.2 n _ ok.good (.refl _) (hg ..)⟩
  · exact q.elim
def oI0 (g : Int → Int → Dat) : Op2 := oI (fun _ _ => True) g
theorem op_I0 {F : Value → Value → Sem Value} {g : Int → Int → V} {g' : Int → Int → Dat} (h : OpR X F (rI0 g)) (hg : ∀ i j C w K al G, Fz C w K al G (g i j) (g' i j)) : OpD X C F (oI0 g') :=
  op_I (c := fun _ _ => True) (g := g) (fun pins s σ H x y v u Q I rx ry ⟨i, j, e1, e2, _, q⟩ => h pins s σ H x y v u Q I rx ry ⟨i, j, e1, e2, q⟩) hg
theorem op_subD : OpD X C (binaryOp .Sub) (oI0 fun i j => .int (i - j)) := op_I0 op_sub fun _ _ _ _ _ _ _ => .int _
theorem op_mulD : OpD X C (binaryOp .Mult) (oI CMul fun i j => .int (i * j)) := op_I op_mul fun _ _ _ _ _ _ _ => .int _
theorem op_fdivWD : OpD X C (binaryOp .FloorDiv) (oI CDivW fun i j => .int (i / j)) := op_I op_fdivW fun _ _ _ _ _ _ _ => .int _
theorem op_modD : OpD X C (binaryOp .Mod) (oI (fun _ j => 0 < j) fun i j => .int (i % j)) := op_I op_mod fun _ _ _ _ _ _ _ => .int _
theorem op_powD : OpD X C (binaryOp .Pow) (oI CPow fun i j => .int (i ^ j.toNat)) := op_I op_pow fun _ _ _ _ _ _ _ => .int _
theorem op_shlD : OpD X C (binaryOp .LShift) (oI CPow fun i j => .int (i * 2 ^ j.toNat)) := op_I op_shl fun _ _ _ _ _ _ _ => .int _
theorem op_ltD : OpD X C (compareOp .Lt) (oI0 fun i j => .bl (decide (i < j))) := op_I0 op_lt fun _ _ _ _ _ _ _ => .bl _
theorem op_leD : OpD X C (compareOp .LtE) (oI0 fun i j => .bl (decide (i ≤ j))) := op_I0 op_le fun _ _ _ _ _ _ _ => .bl _
theorem op_gtD : OpD X C (compareOp .Gt) (oI0 fun i j => .bl (decide (j < i))) := op_I0 op_gt fun _ _ _ _ _ _ _ => .bl _
theorem op_geD : OpD X C (compareOp .GtE) (oI0 fun i j => .bl (decide (j ≤ i))) := op_I0 op_ge fun _ _ _ _ _ _ _ => .bl _
def oU (g : Int → Int) : Op1 := fun _ m x Q => match x with
  | .f (.int i) => Q (.int (g i)) m
  | _ => False
theorem un_negD : UnD X C (unaryOp .USub) (oU fun i => -i) := by
  refine ⟨fun env m x Q Q' i => by unfold oU; split <;> first | exact i _ _ | exact id, fun pins s σ H x v Q I rx q => ?_⟩
  obtain ⟨B, n, env, m, σ', a, rfl, ok, la, q⟩ := q
  unfold oU at q
  split at q
  · rename_i i
    have la : FzN C X.w X.K n x (.int i) := la
    cases la
    exact un_neg pins s σ n.H _ v Q I rx ⟨i, rfl, q n _ ok.good (.refl _) (.int _)⟩
  · exact q.elim
def dChain (f g : Op2) (da db dc : TD) : TD := fun env m Q => da env m fun x m1 => db env m1 fun y m2 => f env m2 x y fun z m3 => match z with
  | .bl true => dc env m3 fun u m4 => g env m4 y u fun r m5 => Q (.f r) m5
  | .bl false => Q (.f (.bl false)) m3
  | _ => False
def oAdd : Op2 := fun env m x y Q => match der env m x, der env m y with
  | some (.int i), some (.int j) => Q (.int (i + j)) m
  | some (.str a), some (.str b) => a.length + b.length ≤ sizeLine ∧ Q (.str (a ++ b)) m
  | some (.tup xs), some (.tup ys) => xs.length + ys.length ≤ sizeLine ∧ Q (.tup (xs ++ ys)) m
  | some (.lst xs), some (.lst ys) => xs.length + ys.length ≤ sizeLine ∧ Q (.lst (xs ++ ys)) m
  | _, _ => False
theorem oAdd.mono : Mono2 oAdd := fun env m x y Q Q' i => by
  unfold oAdd
  split <;> first | exact i _ _ | exact fun h => ⟨h.1, i _ _ h.2⟩ | exact id
end
theorem Rd.lstM {X : Cx} {pins : List (Addr × Obj)} {σ : L2.St} {H : Hp} {s : Shared} {l : Addr} {xs : List V} (I : Inv X pins σ H s) (h : Rd H l (.lst xs)) : xs.length ≤ sizeLine ∧ ∃ (its : List Value) (n : Nat), Vals xs its ∧ xs.length = its.length ∧ s.heap.get? l = some { cls := .type "list", data := .seq its.toArray n } := by
  obtain ⟨z, its, n, r, e⟩ := h.ok I.hok
  exact ⟨z, its, n, r, r.length, e⟩
section
variable {X : Cx} {C : Ct}
def rCatL : R2 := fun x y H Q => ∃ l b xs zs, x = .ref l ∧ y = .ref b ∧ Rd H l (.lst xs) ∧ Rd H b (.lst zs) ∧ xs.length + zs.length ≤ sizeLine ∧ ∀ p, H p = none → Q (.ref p) (upd H p (.lst (xs ++ zs)))
theorem op_catL : OpR X (binaryOp .Add) rCatL := by
  intro pins s σ H x y v u Q I rx ry h
  obtain ⟨l, b, xs, zs, rfl, rfl, hH, hB, hz, q⟩ := h
  cases rx
  cases ry
  obtain ⟨z, its, n, r, hl, e⟩ := Rd.lstM I hH
  obtain ⟨z2, its2, n2, r2, hl2, e2⟩ := Rd.lstM I hB
  refine PySem.P.add_list e e2 ?_ (by rw [List.size_toArray, List.size_toArray]; omega)
  have ea : its.toArray ++ its2.toArray = (its ++ its2).toArray := by simp
  rw [ea]
  exact ⟨.ref _, _, I.lnew (t' := s.toks) (r.append r2) (by rw [List.length_append]; omega), rfl, q _ I.fresh⟩
theorem now_fz {w : World} {K : PySem.W.Frag} {n : Nw} {v : V} {d : Dat} (h : Nowv C w K n v d) (hl : ∀ xs, d ≠ .lst xs) (hd : ∀ xs, d ≠ .dct xs) : FzN C w K n v d := by
  cases h with
  | fz z => exact z
  | lst _ _ => exact absurd rfl (hl _)
  | dct _ _ _ => exact absurd rfl (hd _)
theorem op_addD : OpD X C (binaryOp .Add) oAdd := by
  refine ⟨oAdd.mono, fun pins s σ H x y v u Q I rx ry q => ?_⟩
  obtain ⟨B, n, env, m, σ', a, b, rfl, ok, la, lb, q⟩ := q
  unfold oAdd at q
  split at q
  · rename_i i j h1 h2
    have z1 := now_fz (der_ok ok la h1) (by simp) (by simp)
    have z2 := now_fz (der_ok ok lb h2) (by simp) (by simp)
    cases z1
    cases z2
    exact op_add pins s σ n.H _ _ v u Q I rx ry ⟨i, j, rfl, rfl, q n _ ok.good (.refl _) (.int _)⟩
  · rename_i i j h1 h2
    have z1 := now_fz (der_ok ok la h1) (by simp) (by simp)
    have z2 := now_fz (der_ok ok lb h2) (by simp) (by simp)
    cases z1
    cases z2
    exact op_add_str pins s σ n.H _ _ v u Q I rx ry ⟨i, j, rfl, rfl, q.1, q.2 n _ ok.good (.refl _) (.str _)⟩
  · rename_i xs ys h1 h2
    obtain ⟨p, vs, rfl, s1, z1⟩ := tup_ok ok la (xs := xs) (by unfold tupOf; rw [h1])
    obtain ⟨r, us, rfl, s2, z2⟩ := tup_ok ok lb (xs := ys) (by unfold tupOf; rw [h2])
    have f1 := now_fz (der_ok ok la h1) (by simp) (by simp)
    have f2 := now_fz (der_ok ok lb h2) (by simp) (by simp)
    refine op_catA pins s σ n.H _ _ v u Q I rx ry ⟨p, r, vs, us, rfl, rfl, s1, s2, by rw [z1.length, z2.length]; exact q.1, fun e => ?_, fun _ e => ?_, fun _ _ p' hp => ?_⟩
    · subst e
      cases xs with
      | nil => exact q.2 n _ ok.good (.refl _) f2
      | cons _ _ => cases z1
    · subst e
      cases ys with
      | nil => exact q.2 n _ ok.good (.refl _) (by rw [List.append_nil]; exact f1)
      | cons _ _ => cases z2
    · obtain ⟨g2, l2⟩ := ok.good.freeze (o := .tup (vs ++ us)) hp
      exact q.2 _ _ g2 l2 (.tup (SqT.of upd_same) (FzAllN.le (z1.append z2) l2))
  · rename_i xs ys h1 h2
    obtain ⟨p, vs, rfl, s1, z1⟩ := lst_ok ok la (xs := xs) (by unfold lstOf; rw [h1])
    obtain ⟨r, us, rfl, s2, z2⟩ := lst_ok ok lb (xs := ys) (by unfold lstOf; rw [h2])
    refine op_catL pins s σ n.H _ _ v u Q I rx ry ⟨p, r, vs, us, rfl, rfl, s1, s2, by rw [z1.length, z2.length]; exact q.1, fun p' hp => ?_⟩
    obtain ⟨g2, l2⟩ := ok.good.freeze (o := .lst (vs ++ us)) hp
    exact q.2 _ _ g2 l2 (.lst (Rd.of upd_same) (FzAllN.le (z1.append z2) l2))
  · exact q.elim
def nCat (da db : TD) : TN := fun env m Q => da env m fun x m1 => db env m1 fun y m2 => match lstOf env m2 x, lstOf env m2 y with
  | some xs, some ys => xs.length + ys.length ≤ sizeLine ∧ Q (xs ++ ys) m2
  | _, _ => False
theorem dn_cat {B : Nw} {a b : Expr} {da db : TD} {pos : Pos} (ha : DE X C B a da) (hb : DE X C B b db) : DN X C B (.BinOp a .Add b pos) (nCat da db) := by
  refine ⟨fun env m Q Q' i h => ha.mono _ _ _ _ (fun x m1 h1 => hb.mono _ _ _ _ (fun y m2 h2 => ?_) h1) h, imp (pe_op op_catL ha.run hb.run) ?_⟩
  · split at h2
    · exact ⟨h2.1, i _ _ h2.2⟩
    · exact h2.elim
  rintro σ H Q ⟨n, env, m, rfl, ok, h⟩
  refine ⟨n, env, m, rfl, ok, ha.mono _ _ _ _ (fun x m1 h1 n1 v g1 l1 lx => ?_) h⟩
  refine ⟨n1, env, m1, rfl, ok.go g1 l1, hb.mono _ _ _ _ (fun y m2 h2 n2 u g2 l2 ly => ?_) h1⟩
  have ok2 := ok.go g2 (l1.trans l2)
  split at h2
  · rename_i xs ys e1 e2
    obtain ⟨p, vs, rfl, s1, z1⟩ := lst_ok ok2 (lx.le l2) e1
    obtain ⟨r, us, rfl, s2, z2⟩ := lst_ok ok2 ly e2
    exact ⟨p, r, vs, us, rfl, rfl, s1, s2, by rw [z1.length, z2.length]; exact h2.1, fun p' hp => h2.2 n2 p' _ g2 (l1.trans l2) hp (z1.append z2)⟩
  · exact h2.elim
def oIx : Op2 := fun env m x y Q => match der env m x, y with
  | some (.lst xs), .f (.int i) => match atI xs i with
    | some d => Q d m
    | none => False
  | some (.tup xs), .f (.int i) => match atI xs i with
    | some d => Q d m
    | none => False
  | some (.str z), .f (.int i) => z.length ≤ sizeLine ∧ match atI z.cps.toList i with
    | some c => Q (.str ⟨#[c]⟩) m
    | none => False
  | _, _ => False
theorem oIx.mono : Mono2 oIx := fun env m x y Q Q' i => by
  unfold oIx
  split
  · split <;> first | exact i _ _ | exact id
  · split <;> first | exact i _ _ | exact id
  · split <;> first | exact fun h => ⟨h.1, i _ _ h.2⟩ | exact id
  · exact id
theorem atI_fz {w : World} {K : PySem.W.Frag} {n : Nw} {vs : List V} {xs : List Dat} {i : Int} {d : Dat} (z : FzAllN C w K n vs xs) (h : atI xs i = some d) : ∃ v, atI vs i = some v ∧ FzN C w K n v d := by
  unfold atI at h ⊢
  rw [z.length]
  cases e : ixN xs.length i with
  | none => rw [e] at h; cases h
  | some j =>
    rw [e] at h
    exact z.get h
theorem ix_D : IxD X C oIx := by
  refine ⟨oIx.mono, fun value slice pins s σ H x y v u Q I rx ry q hs => ?_⟩
  obtain ⟨B, n, env, m, σ', a, b, rfl, ok, la, lb, q⟩ := q
  unfold oIx at q
  split at q
  · rename_i xs i h1
    have lb : FzN C X.w X.K n y (.int i) := lb
    cases lb
    obtain ⟨p, vs, rfl, s1, z1⟩ := lst_ok ok la (xs := xs) (by unfold lstOf; rw [h1])
    split at q
    · rename_i d hd
      obtain ⟨z, hz, fz⟩ := atI_fz z1 hd
      exact ix_list value slice pins s σ n.H _ _ v u Q I rx ry ⟨p, vs, i, z, rfl, rfl, .inl s1, hz, q n _ ok.good (.refl _) fz⟩ hs
    · exact q.elim
  · rename_i xs i h1
    have lb : FzN C X.w X.K n y (.int i) := lb
    cases lb
    obtain ⟨p, vs, rfl, s1, z1⟩ := tup_ok ok la (xs := xs) (by unfold tupOf; rw [h1])
    split at q
    · rename_i d hd
      obtain ⟨z, hz, fz⟩ := atI_fz z1 hd
      exact ix_tup value slice pins s σ n.H _ _ v u Q I rx ry ⟨p, vs, i, z, rfl, rfl, s1, hz, q n _ ok.good (.refl _) fz⟩ hs
    · exact q.elim
  · rename_i z i h1
    have lb : FzN C X.w X.K n y (.int i) := lb
    cases lb
    have z1 := now_fz (der_ok ok la h1) (by simp) (by simp)
    cases z1
    obtain ⟨q1, q⟩ := q
    split at q
    · rename_i c hc
      exact ix_str value slice pins s σ n.H _ _ v u Q I rx ry ⟨z, i, c, rfl, rfl, q1, hc, q n _ ok.good (.refl _) (.str _)⟩ hs
    · exact q.elim
  · exact q.elim
def oLen : OpN := fun env m xs Q => match xs with
  | [x] => match der env m x with
    | some (.lst ys) => Q (.int ys.length) m
    | some (.tup ys) => Q (.int ys.length) m
    | some (.str z) => z.length ≤ sizeLine ∧ Q (.int z.length) m
    | _ => False
  | _ => False
theorem call_lenD : CallD X C (.builtin "len") oLen := by
  refine ⟨fun env m xs Q Q' i => ?_, fun pins s σ H xs us Q I r q => ?_⟩
  · unfold oLen
    split
    · split <;> first | exact i _ _ | exact fun h => ⟨h.1, i _ _ h.2⟩ | exact id
    · exact id
  obtain ⟨B, n, env, m, σ', ls, rfl, ok, la, q⟩ := q
  unfold oLen at q
  split at q
  · rename_i x
    cases la with
    | cons l1 l2 =>
      cases l2
      split at q
      · rename_i ys h1
        obtain ⟨p, vs, rfl, s1, z1⟩ := lst_ok ok l1 (xs := ys) (by unfold lstOf; rw [h1])
        exact call_len_seq pins s σ n.H _ us Q I r ⟨p, vs, rfl, .inl (.inl s1), by rw [z1.length]; exact q n _ ok.good (.refl _) (.int _)⟩
      · rename_i ys h1
        obtain ⟨p, vs, rfl, s1, z1⟩ := tup_ok ok l1 (xs := ys) (by unfold tupOf; rw [h1])
        exact call_len_seq pins s σ n.H _ us Q I r ⟨p, vs, rfl, .inr s1, by rw [z1.length]; exact q n _ ok.good (.refl _) (.int _)⟩
      · rename_i z h1
        have z1 := now_fz (der_ok ok l1 h1) (by simp) (by simp)
        cases z1
        exact call_len_str pins s σ n.H _ us Q I r ⟨z, rfl, q.1, q.2 n _ ok.good (.refl _) (.int _)⟩
      · exact q.elim
  · exact q.elim
end
end DL

set_option maxHeartbeats 1000000
namespace DL
open PySem PySem.Spec PyProof.Rows L2

section
variable {X : Cx} {C : Ct} {B : Nw} {e : Expr} {es : List Expr} {da : TAd} {f : OpN} {x : Str} {p pos : Pos} {id T : String}
theorem nar_imp (hf : MonoN f) (ha : MonoA da) : ∀ σ H Q, lE C B X.w X.K (dN f da) σ H Q → tCB (rN C X.w X.K f) (lA C B X.w X.K da) σ H Q := by
  rintro σ H Q ⟨n, env, m, rfl, ok, h⟩
  refine ⟨n, env, m, rfl, ok, ha _ _ _ _ (fun xs m1 h1 n1 vs g1 l1 lx => ?_) h⟩
  exact ⟨B, n1, env, m1, σ, xs, rfl, ok.go g1 l1, lx, hf _ _ _ _ _ (fun z m2 h2 n2 v g2 l2 hz => h2 n2 v g2 (l1.trans l2) hz) h1⟩
theorem de_callB (hc : CallD X C (.builtin id) f) (hg : Gl X x) (hm : X.mg x = none) (hv : bootBuiltins x = some (.builtin id)) (ha : DA X C B (e :: es) da) (hn : x ≠ "__name__" := by decide) (hdb : (x == ("__debug__" : Str)) = false := by decide)
    (he : starEach (e :: es) X.env = (false, eval e X.env) :: starEach es X.env := by rfl) (hpl : (backTo pos (starEach es X.env)).any (·.1) = false := by rfl) : DE X C B (.Call (.Name x p) (e :: es) [] pos) (dN f da) :=
  ⟨dN.mono hc.mono ha.mono, imp (pe_callB hc.run hg hm hv ha.run hn hdb he hpl) (nar_imp hc.mono ha.mono)⟩
theorem de_callTy (hc : CallD X C (.type T) f) (hg : Gl X x) (hm : X.mg x = none) (hv : bootBuiltins x = some (.type T)) (ha : DA X C B (e :: es) da) (hn : x ≠ "__name__" := by decide) (hdb : (x == ("__debug__" : Str)) = false := by decide)
    (he : starEach (e :: es) X.env = (false, eval e X.env) :: starEach es X.env := by rfl) (hpl : (backTo pos (starEach es X.env)).any (·.1) = false := by rfl) : DE X C B (.Call (.Name x p) (e :: es) [] pos) (dN f da) :=
  ⟨dN.mono hc.mono ha.mono, imp (pe_callTy hc.run hg hm hv ha.run hn hdb he hpl) (nar_imp hc.mono ha.mono)⟩
end
def bools : List Dat → Option (List Bool)
  | [] => some []
  | .bl b :: r => (bools r).map (b :: ·)
  | _ => none
def intsD : List Dat → Option (List Int)
  | [] => some []
  | .int b :: r => (intsD r).map (b :: ·)
  | _ => none
section
variable {C : Ct} {w : World} {K : PySem.W.Frag} {B n : Nw} {m : Mem} {env : Env'} {σ : L2.St}
theorem bools_eq : ∀ {xs : List Dat} {bs : List Bool} {vs : List V}, bools xs = some bs → FzAllN C w K n vs xs → vs = bs.map V.bl
  | [], bs, vs, h, z => by cases h; cases z; rfl
  | x :: r, bs, vs, h, z => by
    cases z with
    | cons a b =>
      cases x with
      | bl c =>
        have h : (bools r).map (c :: ·) = some bs := h
        cases e : bools r with
        | none => rw [e] at h; cases h
        | some cs =>
          rw [e] at h
          cases h
          cases a
          rw [bools_eq e b]
          rfl
      | _ => cases h
theorem ints_eq : ∀ {xs : List Dat} {bs : List Int} {vs : List V}, intsD xs = some bs → FzAllN C w K n vs xs → vs = bs.map V.int
  | [], bs, vs, h, z => by cases h; cases z; rfl
  | x :: r, bs, vs, h, z => by
    cases z with
    | cons a b =>
      cases x with
      | int c =>
        have h : (intsD r).map (c :: ·) = some bs := h
        cases e : intsD r with
        | none => rw [e] at h; cases h
        | some cs =>
          rw [e] at h
          cases h
          cases a
          rw [ints_eq e b]
          rfl
      | _ => cases h
theorem LvsOk.one {vs x} (h : LvsOk C w K n env σ vs [x]) : ∃ v, vs = [v] ∧ LvOk C w K n env σ v x := by
  cases h with
  | cons a b => cases b; exact ⟨_, rfl, a⟩
theorem LvsOk.two {vs x y} (h : LvsOk C w K n env σ vs [x, y]) : ∃ v u, vs = [v, u] ∧ LvOk C w K n env σ v x ∧ LvOk C w K n env σ u y := by
  cases h with
  | cons a b => cases b with | cons c d => cases d; exact ⟨_, _, rfl, a, c⟩
end
def oBs (f : List Bool → Bool) : OpN := fun env m xs Q => match xs with
  | [x] => match lstOf env m x with
    | some ys => match bools ys with
      | some bs => Q (.bl (f bs)) m
      | none => False
    | none => False
  | _ => False
theorem oBs.mono {f} : MonoN (oBs f) := fun env m xs Q Q' i => by
  unfold oBs
  split
  · split
    · split <;> first | exact i _ _ | exact id
    · exact id
  · exact id
def oIs (f : List Int → Int) (c : List Int → Prop) : OpN := fun env m xs Q => match xs with
  | [x] => match seqOf env m x with
    | some ys => match intsD ys with
      | some ns => c ns ∧ Q (.int (f ns)) m
      | none => False
    | none => False
  | _ => False
theorem oIs.mono {f c} : MonoN (oIs f c) := fun env m xs Q Q' i => by
  unfold oIs
  split
  · split
    · split <;> first | exact fun h => ⟨h.1, i _ _ h.2⟩ | exact id
    · exact id
  · exact id
section
variable {X : Cx} {C : Ct}
theorem call_bs {id : String} {f : List Bool → Bool} (h : CallR X (.builtin id) (fun vs H Q => ∃ (a : Addr) (bs : List Bool), vs = [V.ref a] ∧ SqL X.K H a (bs.map V.bl) ∧ Q (.bl (f bs)) H)) : CallD X C (.builtin id) (oBs f) := by
  refine ⟨oBs.mono, fun pins s σ H xs us Q I r q => ?_⟩
  obtain ⟨B, n, env, m, σ', ls, rfl, ok, la, q⟩ := q
  unfold oBs at q
  split at q
  · obtain ⟨v, rfl, l1⟩ := la.one
    split at q
    · rename_i ys hy
      obtain ⟨p, vs, rfl, s1, z1⟩ := lst_ok ok l1 hy
      split at q
      · rename_i bs hb
        have e := bools_eq hb z1
        subst e
        exact h pins s σ n.H _ us Q I r ⟨p, bs, rfl, .inl s1, q n _ ok.good (.refl _) (.bl _)⟩
      · exact q.elim
    · exact q.elim
  · exact q.elim
theorem call_allD (hc : X.calm = true) : CallD X C (.builtin "all") (oBs fun bs => bs.all id) := call_bs (cr_all hc)
end
section
variable {prog : Program} {w : World} {A : Around} {E : Value → Shared → Prop} {s : Shared} {l : Addr} {its : List Value} {ns : List Int} {Q : Value → Shared → Prop}
end
section
variable {X : Cx} {C : Ct}
theorem call_isI {id : String} {f : List Int → Int} {c : List Int → Prop} (hl : CallR X (.builtin id) (fun vs H Q => ∃ (a : Addr) (ns : List Int), vs = [V.ref a] ∧ SqL X.K H a (ns.map V.int) ∧ c ns ∧ Q (.int (f ns)) H))
    (ht : CallR X (.builtin id) (fun vs H Q => ∃ (a : Addr) (ns : List Int), vs = [V.ref a] ∧ SqT X.K H a (ns.map V.int) ∧ c ns ∧ Q (.int (f ns)) H)) : CallD X C (.builtin id) (oIs f c) := by
  refine ⟨oIs.mono, fun pins s σ H xs us Q I r q => ?_⟩
  obtain ⟨B, n, env, m, σ', ls, rfl, ok, la, q⟩ := q
  unfold oIs at q
  split at q
  · obtain ⟨v, rfl, l1⟩ := la.one
    split at q
    · rename_i ys hy
      obtain ⟨p, vs, rfl, s1, z1⟩ := seq_ok ok l1 hy
      split at q
      · rename_i bs hb
        have e := ints_eq hb z1
        subst e
        rcases s1 with s1 | s1
        · exact hl pins s σ n.H _ us Q I r ⟨p, bs, rfl, s1, q.1, q.2 n _ ok.good (.refl _) (.int _)⟩
        · exact ht pins s σ n.H _ us Q I r ⟨p, bs, rfl, s1, q.1, q.2 n _ ok.good (.refl _) (.int _)⟩
      · exact q.elim
    · exact q.elim
  · exact q.elim
def oN1 (f : Lv → Option Dat) : OpN := fun _ m xs Q => match xs with
  | [x] => match f x with
    | some d => Q d m
    | none => False
  | _ => False
theorem oN1.mono {f} : MonoN (oN1 f) := fun env m xs Q Q' i => by
  unfold oN1
  split
  · split <;> first | exact i _ _ | exact id
  · exact id
def fAbs : Lv → Option Dat
  | .f (.int i) => some (.int (if i < 0 then -i else i))
  | _ => none
def fInt : Lv → Option Dat
  | .f (.int i) => some (.int i)
  | .f (.bl b) => some (.int (if b = true then 1 else 0))
  | _ => none
theorem call_absD : CallD X C (.builtin "abs") (oN1 fAbs) := by
  refine ⟨oN1.mono, fun pins s σ H xs us Q I r q => ?_⟩
  obtain ⟨B, n, env, m, σ', ls, rfl, ok, la, q⟩ := q
  unfold oN1 at q
  split at q
  · obtain ⟨v, rfl, l1⟩ := la.one
    rename_i x
    cases x with
    | o k => exact q.elim
    | f d =>
      cases d with
      | int i =>
        have l1 : FzN C X.w X.K n v (.int i) := l1
        cases l1
        exact call_abs pins s σ n.H _ us Q I r ⟨i, rfl, q n _ ok.good (.refl _) (.int _)⟩
      | _ => exact q.elim
  · exact q.elim
theorem call_intD : CallD X C (.type "int") (oN1 fInt) := by
  refine ⟨oN1.mono, fun pins s σ H xs us Q I r q => ?_⟩
  obtain ⟨B, n, env, m, σ', ls, rfl, ok, la, q⟩ := q
  unfold oN1 at q
  split at q
  · obtain ⟨v, rfl, l1⟩ := la.one
    rename_i x
    cases x with
    | o k => exact q.elim
    | f d =>
      cases d with
      | int i =>
        have l1 : FzN C X.w X.K n v (.int i) := l1
        cases l1
        exact call_int1 pins s σ n.H _ us Q I r (.inl ⟨i, rfl, q n _ ok.good (.refl _) (.int _)⟩)
      | bl i =>
        have l1 : FzN C X.w X.K n v (.bl i) := l1
        cases l1
        exact call_int1 pins s σ n.H _ us Q I r (.inr ⟨i, rfl, q n _ ok.good (.refl _) (.int _)⟩)
      | _ => exact q.elim
  · exact q.elim
def oTuple : OpN := fun env m xs Q => match xs with
  | [x] => match seqOf env m x with
    | some ys => Q (.tup ys) m
    | none => False
  | _ => False
theorem call_tupleD : CallD X C (.type "tuple") oTuple := by
  refine ⟨fun env m xs Q Q' i => ?_, fun pins s σ H xs us Q I r q => ?_⟩
  · unfold oTuple
    split
    · split <;> first | exact i _ _ | exact id
    · exact id
  obtain ⟨B, n, env, m, σ', ls, rfl, ok, la, q⟩ := q
  unfold oTuple at q
  split at q
  · obtain ⟨v, rfl, l1⟩ := la.one
    split at q
    · rename_i ys hy
      unfold seqOf at hy
      split at hy
      · rename_i zs hd
        cases hy
        obtain ⟨p, vs, rfl, s1, z1⟩ := lst_ok ok l1 (xs := ys) (by unfold lstOf; rw [hd])
        refine call_tuple_of pins s σ n.H _ us Q I r ⟨p, vs, rfl, .inl ⟨.inl s1, fun l hl => ?_⟩⟩
        obtain ⟨g2, l2⟩ := ok.good.freeze (o := .tup vs) hl
        exact q _ _ g2 l2 (.tup (SqT.of upd_same) (FzAllN.le z1 l2))
      · rename_i zs hd
        cases hy
        obtain ⟨p, vs, rfl, s1, z1⟩ := tup_ok ok l1 (xs := ys) (by unfold tupOf; rw [hd])
        exact call_tuple_of pins s σ n.H _ us Q I r ⟨p, vs, rfl, .inr ⟨s1, q n _ ok.good (.refl _) (now_fz (der_ok ok l1 hd) (by simp) (by simp))⟩⟩
      · cases hy
    · exact q.elim
  · exact q.elim
def nList (da : TD) : TN := fun env m Q => da env m fun x m1 => match seqOf env m1 x with
  | some ys => Q ys m1
  | none => False
theorem dn_list {B : Nw} {a : Expr} {da : TD} {p pos : Pos} (hg : Gl X "list") (hm : X.mg "list" = none) (hv : bootBuiltins "list" = some (.type "list")) (ha : DE X C B a da)
    (he : starEach [a] X.env = (false, eval a X.env) :: starEach [] X.env := by rfl) (hpl : (backTo pos (starEach [] X.env)).any (·.1) = false := by rfl) : DN X C B (.Call (.Name "list" p) [a] [] pos) (nList da) := by
  refine ⟨fun env m Q Q' i h => ha.mono _ _ _ _ (fun x m1 h1 => ?_) h, imp (pe_callTy call_list_of hg hm hv (pa_cons ha.run pa_nil he) (by decide) (by decide) he hpl) ?_⟩
  · split at h1
    · exact i _ _ h1
    · exact h1.elim
  rintro σ H Q ⟨n, env, m, rfl, ok, h⟩
  refine ⟨n, env, m, rfl, ok, ha.mono _ _ _ _ (fun x m1 h1 n1 v g1 l1 lx => ?_) h⟩
  split at h1
  · rename_i ys hy
    obtain ⟨p, vs, rfl, s1, z1⟩ := seq_ok (ok.go g1 l1) lx hy
    exact ⟨p, vs, rfl, s1, fun l hl => h1 n1 l vs g1 l1 hl z1⟩
  · exact h1.elim
def cutD {α : Type} (xs : List α) (lo hi : Option Int) : List α := (xs.drop (HT.sIx xs.length 0 lo)).take (HT.sIx xs.length xs.length hi - HT.sIx xs.length 0 lo)
abbrev TOd := Env' → Mem → (Option Int → Mem → Prop) → Prop
def lO (C : Ct) (B : Nw) (w : World) (K : PySem.W.Frag) (d : TOd) : TO := fun σ H Q => ∃ n env m, n.H = H ∧ Ok C w K B n env m σ ∧ d env m fun i m' => ∀ n', Good C w K n' m' → n.le n' → Q i n'.H
structure DO (X : Cx) (C : Ct) (B : Nw) (e : Option Expr) (d : TOd) : Prop where
  mono : ∀ env m (Q Q' : Option Int → Mem → Prop), (∀ x m', Q x m' → Q' x m') → d env m Q → d env m Q'
  run : PO X e (lO C B X.w X.K d)
def dNo : TOd := fun _ m Q => Q none m
def dPart (d : TD) : TOd := fun env m Q => d env m fun x m1 => match x with
  | .f (.int i) => Q (some i) m1
  | _ => False
theorem impO {e : Option Expr} {t t' : TO} (h : PO X e t) (i : ∀ σ H Q, t' σ H Q → t σ H Q) : PO X e t' := ⟨fun pins s σ H Q I q => h.run pins s σ H Q I (i σ H Q q)⟩
theorem do_none {B : Nw} : DO X C B none dNo := ⟨fun _ _ _ _ i => i _ _, impO po_none (by
  rintro σ H Q ⟨n, env, m, rfl, ok, h⟩
  exact h n ok.good (.refl _))⟩
theorem do_some {B : Nw} {e : Expr} {d : TD} (h : DE X C B e d) : DO X C B (some e) (dPart d) := by
  refine ⟨fun env m Q Q' i q => h.mono _ _ _ _ (fun x m1 h1 => ?_) q, impO (po_some h.run) ?_⟩
  · cases x with
    | o k => exact h1
    | f y => cases y <;> first | exact i _ _ h1 | exact h1
  rintro σ H Q ⟨n, env, m, rfl, ok, q⟩
  refine ⟨n, env, m, rfl, ok, h.mono _ _ _ _ (fun x m1 h1 n1 v g1 l1 lx => ?_) q⟩
  cases x with
  | o k => exact h1.elim
  | f y =>
    cases y with
    | int i => cases lx; exact ⟨i, rfl, h1 n1 g1 l1⟩
    | _ => exact h1.elim
def dSl (d : TD) (lo hi : TOd) : TD := fun env m Q => d env m fun x m1 => lo env m1 fun a m2 => hi env m2 fun b m3 => match der env m3 x with
  | some (.lst xs) => Q (.f (.lst (cutD xs a b))) m3
  | some (.tup xs) => Q (.f (.tup (cutD xs a b))) m3
  | _ => False
theorem FzAll.cut {w : World} {K : PySem.W.Frag} {n : Nw} {vs : List V} {ds : List Dat} (z : FzAllN C w K n vs ds) (a b : Option Int) : FzAllN C w K n (cutV vs a b) (cutD ds a b) := by
  unfold cutV cutD
  rw [z.length]
  exact (z.drop _).take _
theorem cut_whole {w : World} {K : PySem.W.Frag} {n : Nw} {vs : List V} {ds : List Dat} (z : FzAllN C w K n vs ds) {a b : Option Int} (h : HT.sIx vs.length 0 a = 0 ∧ HT.sIx vs.length vs.length b = vs.length) : cutD ds a b = ds := by
  unfold cutD
  rw [← z.length, h.1, h.2]
  simp [z.length]
def rSlD (C : Ct) (w : World) (K : PySem.W.Frag) : V → Option Int → Option Int → Hp → VK → Prop := fun v a b H Q => (∃ p vs, v = .ref p ∧ Rd H p (.lst vs) ∧ ∀ q, H q = none → Q (.ref q) (upd H q (.lst (cutV vs a b)))) ∨ rSlA K v a b H Q
theorem sl_D : SlR X (rSlD C X.w X.K) := SlR.or (r := fun v a b H Q => ∃ p vs, v = .ref p ∧ Rd H p (.lst vs) ∧ ∀ q, H q = none → Q (.ref q) (upd H q (.lst (cutV vs a b))))
  (fun pins s σ H x v vl vu lo hi sl Q I rx hs pl pu ⟨p, vs, e, hr, h⟩ => sl_list pins s σ H x v vl vu lo hi sl Q I rx hs pl pu ⟨p, vs, e, .inl hr, h⟩) sl_tupA
theorem de_sl {B : Nw} {e : Expr} {lo hi : Option Expr} {d : TD} {dl dh : TOd} {p2 pos : Pos} (he : DE X C B e d) (hl : DO X C B lo dl) (hh : DO X C B hi dh) : DE X C B (.Subscript e (.Slice lo hi none p2) pos) (dSl d dl dh) := by
  refine ⟨fun env m Q Q' i q => he.mono _ _ _ _ (fun x m1 h1 => hl.mono _ _ _ _ (fun a m2 h2 => hh.mono _ _ _ _ (fun b m3 h3 => ?_) h2) h1) q, imp (pe_slice (sl_D (C := C)) he.run hl.run hh.run) ?_⟩
  · split at h3 <;> first | exact i _ _ h3 | exact h3.elim
  rintro σ H Q ⟨n, env, m, rfl, ok, q⟩
  refine ⟨n, env, m, rfl, ok, he.mono _ _ _ _ (fun x m1 h1 n1 v g1 l1 lx => ?_) q⟩
  refine ⟨n1, env, m1, rfl, ok.go g1 l1, hl.mono _ _ _ _ (fun a m2 h2 n2 g2 l2 => ?_) h1⟩
  have l12 := l1.trans l2
  refine ⟨n2, env, m2, rfl, ok.go g2 l12, hh.mono _ _ _ _ (fun b m3 h3 n3 g3 l3 => ?_) h2⟩
  have l13 := l12.trans l3
  have ok3 := ok.go g3 l13
  have lx3 := (lx.le l2).le l3
  split at h3
  · rename_i xs hd
    obtain ⟨p, vs, rfl, s1, z1⟩ := lst_ok ok3 lx3 (xs := xs) (by unfold lstOf; rw [hd])
    refine .inl ⟨p, vs, rfl, s1, fun q hq => ?_⟩
    obtain ⟨g4, l4⟩ := g3.freeze (o := .lst (cutV vs a b)) hq
    exact h3 _ _ g4 (l13.trans l4) (.lst (Rd.of upd_same) (FzAllN.le (z1.cut a b) l4))
  · rename_i xs hd
    obtain ⟨p, vs, rfl, s1, z1⟩ := tup_ok ok3 lx3 (xs := xs) (by unfold tupOf; rw [hd])
    refine .inr ⟨p, vs, rfl, s1, fun hw => ?_, fun hw q hq => ?_⟩
    · rw [cut_whole z1 hw] at h3
      exact h3 n3 _ g3 l13 (now_fz (der_ok ok3 lx3 hd) (by simp) (by simp))
    · obtain ⟨g4, l4⟩ := g3.freeze (o := .tup (cutV vs a b)) hq
      exact h3 _ _ g4 (l13.trans l4) (.tup (SqT.of upd_same) (FzAllN.le (z1.cut a b) l4))
  · exact h3.elim
end
end DL

set_option maxHeartbeats 1000000
namespace DL
open PySem PySem.Spec PyProof.Rows L2

theorem oIsi.mono {C : Ct} : MonoN (oIsi C) := fun env m xs Q Q' i => by
  unfold oIsi
  split
  · split
    · split <;> first | exact i _ _ | exact id
    · exact id
  · exact id
theorem isT_ok {K : PySem.W.Frag} {d : Dat} {t T : String} {b : Bool} (h : tyN d = some t) (e : isT t T = some b) : PySem.W.kitOne K (.type t) (.type T) = some b := by
  have ht : t = "NoneType" ∨ t = "bool" ∨ t = "int" ∨ t = "str" ∨ t = "tuple" ∨ t = "list" ∨ t = "dict" := by
    cases d <;> first | cases h; simp | cases h
  have hT : T = "int" ∨ T = "bool" ∨ T = "str" ∨ T = "tuple" ∨ T = "list" ∨ T = "dict" := by
    unfold isT at e
    split at e
    · exact .inl ‹_›
    · split at e
      · exact .inr ‹_›
      · cases e
  apply kit_ty
  rcases ht with rfl | rfl | rfl | rfl | rfl | rfl | rfl <;> rcases hT with rfl | rfl | rfl | rfl | rfl | rfl <;> (rw [← e]; decide +kernel)
section
variable {X : Cx} {C : Ct}
theorem kit_dat {B n : Nw} {env : Env'} {m : Mem} {σ σ' : L2.St} {pins : List (Addr × Obj)} {s : Shared} {v : V} {u : Value} {x : Lv} {d : Dat} (T : CtOk C X.K) (I : Inv X pins σ n.H s) (ok : Ok C X.w X.K B n env m σ') (lx : LvOk C X.w X.K n env σ' v x)
    (hd : derI env m x = some d) (rx : RelV v u) : (∀ t, tyN d = some t → ∃ P, PySem.W.KitX X.K u (.type t) P ∧ P s.heap ∧ u ≠ .builtin "__main__.__loader__#opaque") ∧
      (∀ c xs, d = .ins c xs → C.own c = true → ∃ P, PySem.W.KitX X.K u (.ref (C.addr c)) P ∧ P s.heap ∧ u ≠ .builtin "__main__.__loader__#opaque") := by
  have viaIns : ∀ {a : Addr} {c : Nat} {dx : Addr} {fs : List (Str × V)}, C.own c = true → v = .ref a → n.H a = some (.ins (C.addr c) dx fs) → ∃ P, PySem.W.KitX X.K u (.ref (C.addr c)) P ∧ P s.heap ∧ u ≠ .builtin "__main__.__loader__#opaque" := by
    intro a c dx fs ho hv he
    subst hv
    obtain ⟨c1, c2, c3, c4, c5⟩ := T.cls c ho
    exact kit_of I rx (.base (.ins he c1 c2 c3 c4 c5))
  have viaNow : ∀ {d : Dat}, Nowv C X.w X.K n v d → ∀ t, tyN d = some t → ∃ P, PySem.W.KitX X.K u (.type t) P ∧ P s.heap ∧ u ≠ .builtin "__main__.__loader__#opaque" := by
    intro d hz t ht
    cases hz with
    | lst h1 h2 => cases ht; exact kit_of I rx (.base (.lst h1))
    | @dct a es kvs h1 h2 h3 =>
      cases ht
      cases (show u = Value.ref a from rx)
      have q := I.hok a _ h1
      obtain ⟨⟨o, ep, e1, e2, _⟩, _⟩ := (show _ ∧ _ from q)
      exact ⟨_, PySem.W.kitx_dict, ⟨o, e1, e2.1⟩, fun z => nomatch z⟩
    | fz z =>
      cases z with
      | non => cases ht; exact kit_of I rx (.base .non)
      | bl b => cases ht; exact kit_of I rx (.base (.bl b))
      | int i => cases ht; exact kit_of I rx (.base (.int i))
      | str y => cases ht; exact kit_of I rx (.base (.str y))
      | tup h1 h2 =>
        cases ht
        rename_i a vs ds
        cases (show u = Value.ref a from rx)
        obtain ⟨its, r, ⟨o, e1, e2, _⟩, _⟩ := I.tuple (SqT.keep ok.good.sub h1)
        exact ⟨_, PySem.W.kitx_tuple, ⟨o, e1, e2⟩, fun z => nomatch z⟩
      | lst h1 h2 =>
        cases ht
        rename_i a vs ds
        cases (show u = Value.ref a from rx)
        obtain ⟨_, its, k, _, _, e1⟩ := Rd.lstM I (rdUp ok.good h1)
        exact ⟨_, PySem.W.kitx_list, ⟨_, e1, rfl⟩, fun z => nomatch z⟩
      | @dct a es kvs h1 h2 h3 =>
        cases ht
        cases (show u = Value.ref a from rx)
        have q := I.hok a _ (ok.good.sub _ _ h1)
        obtain ⟨⟨o, ep, e1, e2, _⟩, _⟩ := (show _ ∧ _ from q)
        exact ⟨_, PySem.W.kitx_dict, ⟨o, e1, e2.1⟩, fun z => nomatch z⟩
      | _ => cases ht
  have viaDer : der env m x = some d → (∀ t, tyN d = some t → ∃ P, PySem.W.KitX X.K u (.type t) P ∧ P s.heap ∧ u ≠ .builtin "__main__.__loader__#opaque") ∧
      (∀ c xs, d = .ins c xs → C.own c = true → ∃ P, PySem.W.KitX X.K u (.ref (C.addr c)) P ∧ P s.heap ∧ u ≠ .builtin "__main__.__loader__#opaque") := by
    intro hd
    have hz := der_ok ok lx hd
    refine ⟨viaNow hz, fun c xs e ho => ?_⟩
    subst e
    cases hz with
    | fz z => cases z with | ins h1 h2 h3 => exact viaIns ho rfl (ok.good.sub _ _ h1)
  cases x with
  | f y =>
    by_cases hy : ∃ k, y = .obj k
    · obtain ⟨k, rfl⟩ := hy
      have hd' : (match m[k]? with
        | some (.ins c xs) => some (.ins c xs)
        | _ => der env m (.f (.obj k))) = some d := hd
      split at hd'
      · rename_i c xs hk
        cases hd'
        have lx : FzN C X.w X.K n v (.obj k) := lx
        cases lx with
        | obj ha =>
          obtain ⟨⟨dx, vs, e, _⟩, _⟩ := ok.good.at_ k _ _ hk ha
          exact ⟨(fun t ht => by cases ht), fun c' xs' e' ho => by cases e'; exact viaIns ho rfl e⟩
      · exact viaDer hd'
    · refine viaDer ?_
      cases y with
      | obj k => exact absurd ⟨k, rfl⟩ hy
      | _ => exact hd
  | o i =>
    have hd' : (match env[i]? with
      | some (some (.own (.ins c xs))) => some (.ins c xs)
      | _ => der env m (.o i)) = some d := hd
    split at hd'
    · rename_i c xs hk
      cases hd'
      obtain ⟨h1, _⟩ := lx
      obtain ⟨a, h2, h3⟩ := ok.env.own i _ hk
      rw [h1] at h2; cases h2
      obtain ⟨dx, vs, e, _⟩ := h3.ok
      exact ⟨(fun t ht => by cases ht), fun c' xs' e' ho => by cases e'; exact viaIns ho rfl e⟩
    · exact viaDer hd'
def clV (C : Ct) : Dat → Option Value
  | .ty T => some (.type T)
  | .cls d => some (.ref (C.addr d))
  | _ => none
theorem isa1_ok {K : PySem.W.Frag} {d c : Dat} {b : Bool} (T : CtOk C K) (h : isa1 C d c = some b) : ∃ u, clV C c = some u ∧ ((∃ t, tyN d = some t ∧ PySem.W.kitOne K (.type t) u = some b) ∨ ∃ k xs, d = .ins k xs ∧ C.own k = true ∧ PySem.W.kitOne K (.ref (C.addr k)) u = some b) := by
  unfold isa1 at h
  split at h
  · split at h
    · rename_i t ht
      exact ⟨_, rfl, .inl ⟨t, ht, isT_ok ht h⟩⟩
    · split at h
      · rename_i k xs _
        split at h
        · exact ⟨_, rfl, .inr ⟨k, xs, rfl, ‹_›, T.ib _ _ _ h⟩⟩
        · cases h
      · cases h
  · split at h
    · rename_i t ht
      exact ⟨_, rfl, .inl ⟨t, ht, T.it _ _ _ h⟩⟩
    · split at h
      · rename_i k xs _
        split at h
        · exact ⟨_, rfl, .inr ⟨k, xs, rfl, ‹_›, T.ii _ _ _ h⟩⟩
        · cases h
      · cases h
  · cases h
theorem clV_fz {w : World} {K : PySem.W.Frag} {n : Nw} {v : V} {c : Dat} {u x : Value} (h : FzN C w K n v c) (e : clV C c = some u) (r : RelV v x) : x = u := by
  cases c with
  | ty T => cases h; cases e; exact r
  | cls d => cases h; cases e; exact r
  | _ => cases e
theorem isaL_ok {K : PySem.W.Frag} {d : Dat} (T : CtOk C K) {t : Value} (ht : (∃ s, tyN d = some s ∧ t = .type s) ∨ ∃ k xs, d = .ins k xs ∧ t = .ref (C.addr k)) : ∀ {cs : List Dat} {b : Bool}, isaL C d cs = some b → ∀ {w : World} {n : Nw} {vs : List V} {us : List Value}, FzAllN C w K n vs cs → Vals vs us → PySem.W.kitAny K t us = some b
  | [], b, h, w, n, vs, us, hz, r => by cases hz; cases r; exact h
  | c :: cs, b, h, w, n, vs, us, hz, r => by
    cases hz with
    | cons z1 z2 =>
      cases r with
      | cons r1 r2 =>
        unfold isaL at h
        rename_i v0 vs0 u0 us0
        have key : ∀ {b'}, isa1 C d c = some b' → PySem.W.kitOne K t u0 = some b' := by
          intro b' h'
          obtain ⟨u, e1, e2⟩ := isa1_ok T h'
          have := clV_fz z1 e1 r1
          subst this
          rcases ht with ⟨s, h1, rfl⟩ | ⟨k, xs, rfl, rfl⟩
          · rcases e2 with ⟨s', h2, h3⟩ | ⟨k, xs, rfl, _, _⟩
            · rw [h1] at h2; cases h2; exact h3
            · cases h1
          · rcases e2 with ⟨s', h2, h3⟩ | ⟨k', xs', h2, _, h3⟩
            · cases h2
            · cases h2; exact h3
        unfold PySem.W.kitAny
        split at h
        · rename_i h1
          cases h
          rw [key h1]
        · rename_i h1
          rw [key h1]
          exact isaL_ok T ht h z2 r2
        · cases h
theorem call_isiD (T : CtOk C X.K) : CallD X C (.builtin "isinstance") (oIsi C) := by
  refine ⟨oIsi.mono, fun pins s σ H xs us Q I r q => ?_⟩
  obtain ⟨B, n, env, m, σ', ls, rfl, ok, la, q⟩ := q
  unfold oIsi at q
  split at q
  · rename_i x c
    obtain ⟨v1, v2, rfl, l1, l2⟩ := la.two
    have l2 : FzN C X.w X.K n v2 c := l2
    split at q
    · rename_i d hd
      obtain ⟨u1, u2, rfl, r1, r2⟩ := vals2 r
      obtain ⟨k1, k2⟩ := kit_dat T I ok l1 hd r1
      split at q
      · rename_i b hb
        have fin : ∀ tk, EP X pins σ Q (.bool b) { s with toks := tk } := fun tk => ⟨.bl b, n.H, I.tok tk, rfl, q n _ ok.good (.refl _) (.bl _)⟩
        unfold isaD at hb
        split at hb
        · rename_i cs _
          split at hb
          · cases hb
          rename_i hne
          cases l2 with
          | tup h1 h2 =>
            rename_i a vs
            cases (show u2 = Value.ref a from r2)
            obtain ⟨its, rv, ⟨o, e1, e2, nn, e3⟩, _⟩ := I.tuple (SqT.keep ok.good.sub h1)
            obtain ⟨oc, od, dt, sl⟩ := o
            simp only at e2 e3
            subst e2 e3
            have go : ∀ {t : Value} {P : Heap → Prop}, ((∃ s, tyN d = some s ∧ t = .type s) ∨ ∃ k xs, d = .ins k xs ∧ t = .ref (C.addr k)) → PySem.W.KitX X.K u1 t P → P s.heap → u1 ≠ .builtin "__main__.__loader__#opaque" → _ := fun {t P} ht Z p hx =>
              PySem.W.kia_tup (E := X.xe) (A := X.A) (prog := X.prog) (w := X.w) Z I.kIn p e1 (isaL_ok T ht hb h2 rv) hx fin
            cases hN : tyN d with
            | some t =>
              obtain ⟨P, Z, p, hx⟩ := k1 t hN
              exact go (.inl ⟨t, hN, rfl⟩) Z p hx
            | none =>
              by_cases hi : ∃ k xs, d = .ins k xs ∧ C.own k = true
              · obtain ⟨k, xs, e, ho⟩ := hi
                obtain ⟨P, Z, p, hx⟩ := k2 k xs e ho
                exact go (.inr ⟨k, xs, e, rfl⟩) Z p hx
              · exfalso
                cases cs with
                | nil => exact hne rfl
                | cons c1 cs1 =>
                  unfold isaL at hb
                  cases h1 : isa1 C d c1 with
                  | none => rw [h1] at hb; cases hb
                  | some b' =>
                    obtain ⟨u, _, e2⟩ := isa1_ok T h1
                    rcases e2 with ⟨t, h3, _⟩ | ⟨k, xs, h3, h4, _⟩
                    · rw [hN] at h3; cases h3
                    · exact hi ⟨k, xs, h3, h4⟩
        · obtain ⟨u, e1, e2⟩ := isa1_ok T hb
          have := clV_fz l2 e1 r2
          subst this
          rcases e2 with ⟨t, h3, h4⟩ | ⟨k, xs, h3, h5, h4⟩
          · obtain ⟨P, Z, p, hx⟩ := k1 t h3
            exact PySem.W.kia_one Z I.kIn p h4 hx fin
          · obtain ⟨P, Z, p, hx⟩ := k2 k xs h3 h5
            exact PySem.W.kia_one Z I.kIn p h4 hx fin
      · exact q.elim
    · exact q.elim
  · exact q.elim
end
end DL

set_option maxHeartbeats 1000000
namespace DL
open PySem PySem.Spec PyProof.Rows L2

def moOf (env : Env') (m : Mem) : Lv → Option Mo
  | .o i => match env[i]? with
    | some (some (.own x)) => some x
    | _ => none
  | .f (.obj k) => m[k]?
  | _ => none
def setE (x : Lv) (z : Mo) (env : Env') : Env' := match x with
  | .o i => env.set i (some (.own z))
  | _ => env
def setM (x : Lv) (z : Mo) (m : Mem) : Mem := match x with
  | .f (.obj k) => m.set k z
  | _ => m
section
variable {C : Ct} {w : World} {K : PySem.W.Frag} {B n : Nw} {m : Mem} {env : Env'} {σ : L2.St}
theorem mut_ok {v : V} {x : Lv} {y : Mo} (ok : Ok C w K B n env m σ) (h : LvOk C w K n env σ v x) (e : moOf env m x = some y) : ∃ a, v = .ref a ∧ MoOk C w K n a y ∧
    ∀ o z, MoOk C w K ⟨n.G, n.al, upd n.H a o⟩ a z → Ok C w K B ⟨n.G, n.al, upd n.H a o⟩ (setE x z env) (setM x z m) σ := by
  cases x with
  | o i =>
    obtain ⟨h1, y', h2⟩ := h
    have e' : (match env[i]? with
      | some (some (.own x)) => some x
      | _ => none) = some y := e
    rw [h2] at e'
    cases e'
    obtain ⟨a, h3, h4⟩ := ok.env.own i _ h2
    rw [h1] at h3; cases h3
    exact ⟨a, rfl, h4.ok, fun o z hz => ok.chgO h2 h1 hz⟩
  | f d =>
    cases d with
    | obj k =>
      have h : FzN C w K n v (.obj k) := h
      cases h with
      | obj hk =>
        rename_i a
        have hx : m[k]? = some y := e
        refine ⟨a, rfl, (ok.good.at_ k y a hx hk).1, fun o z hz => ?_⟩
        obtain ⟨g2, l2⟩ := ok.good.chgM hk hx hz
        exact ok.go g2 l2
    | _ => cases e
theorem sub_upd {n : Nw} {a : Addr} {o : HO} : n.sub ⟨n.G, n.al, upd n.H a o⟩ := ⟨fun _ _ h => h, List.prefix_rfl⟩
end
section
variable {X : Cx} {C : Ct} {B : Nw} {e o i : Expr} {d de di : TD} {pos apos cpos : Pos}
def sApp (d de : TD) : TSd := fun D env m => d env m fun x m1 => match moOf env m1 x with
  | some (.lst _) => de env m1 fun y m2 => match moOf env m2 x, y with
    | some (.lst xs), .f z => xs.length < sizeLine ∧ D.nx (setE x (.lst (xs ++ [z])) env) (setM x (.lst (xs ++ [z])) m2)
    | _, _ => False
  | _ => False
theorem sApp.mono (hd : MonoD d) (he : MonoD de) : MonoS (sApp d de) := fun env m D D' l h => hd _ _ _ _ (fun x m1 h1 => by
  try dsimp only at h1 ⊢
  split at h1
  · refine he _ _ _ _ (fun y m2 h2 => ?_) h1
    try dsimp only at h2 ⊢
    split at h2
    · exact ⟨h2.1, l.nx _ _ h2.2⟩
    · exact h2
  · exact h1) h
theorem tyL {K : PySem.W.Frag} {H : Hp} {a : Addr} {vs : List V} (h : H a = some (.lst vs)) : tyV K "list" (.ref a) H := .inl ⟨rfl, vs, .inl (.inl h)⟩
theorem ds_app (ho : DE X C B o d) (he : DE X C B e de) (hbase : attributeBase o "append" X.env (eval o X.env) = eval o X.env := by rfl)
    (hfew : ((backTo cpos (starEach [e] X.env)).all (fun x => !x.1) && (backToKw cpos (keywordEach [] X.env)).all (fun x => x.1.isSome)
      && decide (([e]).length + ([] : List Keyword).length + (if ([] : List Keyword).isEmpty then 0 else 1) < 30)) = true := by rfl)
    (hline : (apos.endLine == cpos.line) = true := by rfl) (hs : starEach [e] X.env = (false, eval e X.env) :: starEach [] X.env := by rfl) (hplain : (backTo cpos (starEach [] X.env)).any (·.1) = false := by rfl)
    (hsw : swapsWith (.Call (.Attribute o "append" apos) [e] [] cpos) none pos.line X.env = pure false := by rfl) : DS X C B (.Expr (.Call (.Attribute o "append" apos) [e] [] cpos) pos) (sApp d de) := by
  refine ⟨sApp.mono ho.mono he.mono, impS (ps_expr (pe_bm PySem.F.plainAttrs_list PySem.F.slot_list_append PySem.F.type_list_append mt_append ho.run (pa_cons he.run pa_nil hs) hbase hfew hline hs hplain) hsw) ?_⟩
  rintro D σ H ⟨n, env, m, rfl, ok, q⟩
  refine ⟨n, env, m, rfl, ok, ho.mono _ _ _ _ (fun x m1 h1 n1 v g1 l1 lx => ?_) q⟩
  have ok1 := ok.go g1 l1
  split at h1
  · rename_i xs0 hx0
    obtain ⟨a0, rfl, ⟨vs0, e0, _⟩, _⟩ := mut_ok ok1 lx hx0
    refine ⟨tyL e0, n1, env, m1, rfl, ok1, he.mono _ _ _ _ (fun y m2 h2 n2 u g2 l2 ly => ?_) h1⟩
    have ok2 := ok1.go g2 l2
    split at h2
    · rename_i xs z hx
      obtain ⟨a, ea, ⟨vs, e1, z1⟩, hset⟩ := mut_ok ok2 (lx.le l2) hx
      cases ea
      refine ⟨a0, vs, u, rfl, rfl, e1, by rw [z1.length]; exact h2.1, ?_⟩
      have ly : FzN C X.w X.K n2 u z := ly
      have ok3 := hset (.lst (vs ++ [u])) (.lst (xs ++ [z])) ⟨vs ++ [u], upd_same, FzAll.append (FzAll.keep (fun _ _ e => e) (fun _ _ e => e) z1) (.cons (Fz.keep (fun _ _ e => e) (fun _ _ e => e) ly) .nil)⟩
      exact h2.2 ⟨n2.G, n2.al, upd n2.H a0 (.lst (vs ++ [u]))⟩ σ ((l1.trans l2).sub.trans sub_upd) ok3
    · exact h2.elim
  · exact h1.elim
def sExt (d de : TD) : TSd := fun D env m => d env m fun x m1 => match moOf env m1 x with
  | some (.lst _) => de env m1 fun y m2 => match moOf env m2 x, lstOf env m2 y with
    | some (.lst xs), some ys => xs.length + ys.length ≤ sizeLine ∧ D.nx (setE x (.lst (xs ++ ys)) env) (setM x (.lst (xs ++ ys)) m2)
    | _, _ => False
  | _ => False
theorem sExt.mono (hd : MonoD d) (he : MonoD de) : MonoS (sExt d de) := fun env m D D' l h => hd _ _ _ _ (fun x m1 h1 => by
  try dsimp only at h1 ⊢
  split at h1
  · refine he _ _ _ _ (fun y m2 h2 => ?_) h1
    try dsimp only at h2 ⊢
    split at h2
    · exact ⟨h2.1, l.nx _ _ h2.2⟩
    · exact h2
  · exact h1) h
def sPop0 (d : TD) : TSd := fun D env m => d env m fun x m1 => match moOf env m1 x with
  | some (.lst (_ :: xs)) => D.nx (setE x (.lst xs) env) (setM x (.lst xs) m1)
  | _ => False
theorem ds_pop0 {j c} (ho : DE X C B o d) (hbase : attributeBase o "pop" X.env (eval o X.env) = eval o X.env := by rfl)
    (hfew : ((backTo cpos (starEach [.Constant (.int 0) j c] X.env)).all (fun x => !x.1) && (backToKw cpos (keywordEach [] X.env)).all (fun x => x.1.isSome)
      && decide (([Expr.Constant (.int 0) j c]).length + ([] : List Keyword).length + (if ([] : List Keyword).isEmpty then 0 else 1) < 30)) = true := by rfl)
    (hline : (apos.endLine == cpos.line) = true := by rfl) (hs : starEach [.Constant (.int 0) j c] X.env = (false, eval (.Constant (.int 0) j c) X.env) :: starEach [] X.env := by rfl) (hplain : (backTo cpos (starEach [] X.env)).any (·.1) = false := by rfl)
    (hsw : swapsWith (.Call (.Attribute o "pop" apos) [.Constant (.int 0) j c] [] cpos) none pos.line X.env = pure false := by rfl) : DS X C B (.Expr (.Call (.Attribute o "pop" apos) [.Constant (.int 0) j c] [] cpos) pos) (sPop0 d) := by
  refine ⟨fun env m D D' l h => ho.mono _ _ _ _ (fun x m1 h1 => ?_) h, impS (ps_expr (pe_bm PySem.F.plainAttrs_list PySem.F.slot_list_pop PySem.F.type_list_pop mt_popAt ho.run (pa_cons pe_int pa_nil hs) hbase hfew hline hs hplain) hsw) ?_⟩
  · try dsimp only at h1 ⊢
    split at h1
    · exact l.nx _ _ h1
    · exact h1
  rintro D σ H ⟨n, env, m, rfl, ok, q⟩
  refine ⟨n, env, m, rfl, ok, ho.mono _ _ _ _ (fun x m1 h1 n1 v g1 l1 lx => ?_) q⟩
  have ok1 := ok.go g1 l1
  split at h1
  · rename_i y xs hx0
    obtain ⟨a, rfl, ⟨vs, e1, z1⟩, hset⟩ := mut_ok ok1 lx hx0
    refine ⟨tyL e1, ?_⟩
    cases z1 with
    | cons c1 c2 =>
      rename_i u us
      refine ⟨a, u :: us, 0, 0, u, rfl, rfl, e1, by decide, by decide, ?_, rfl, ?_⟩
      · rw [seqIndex_of (by decide) (by simp)]
        rfl
      · have ok3 := hset (.lst us) (.lst xs) ⟨us, upd_same, FzAll.keep (fun _ _ e => e) (fun _ _ e => e) c2⟩
        exact h1 ⟨n1.G, n1.al, upd n1.H a (.lst us)⟩ σ (l1.sub.trans sub_upd) ok3
  · exact h1.elim
def sSetI (de d di : TD) : TSd := fun D env m => de env m fun y m1 => d env m1 fun x m2 => di env m2 fun i m3 => match moOf env m3 x, i, y with
  | some (.lst xs), .f (.int k), .f z => match ixN xs.length k with
    | some j => D.nx (setE x (.lst (xs.set j z)) env) (setM x (.lst (xs.set j z)) m3)
    | none => False
  | _, _, _ => False
theorem sSetI.mono (he : MonoD de) (hd : MonoD d) (hi : MonoD di) : MonoS (sSetI de d di) := fun env m D D' l h => he _ _ _ _ (fun y m1 h1 => hd _ _ _ _ (fun x m2 h2 => hi _ _ _ _ (fun i m3 h3 => by
  try dsimp only at h3 ⊢
  split at h3
  · split at h3
    · exact l.nx _ _ h3
    · exact h3
  · exact h3) h2) h1) h
theorem ds_setI {sp : Pos} (he : DE X C B e de) (ho : DE X C B o d) (hi : DE X C B i di)
    (ha : ∀ v, assign (.Subscript o i sp) X.env v = (do
      let ov ← holding [v] (eval o X.env)
      let iv ← holding [v, ov] (eval i X.env)
      standAt sp
      holding [v, ov, iv] (setItem ov iv v)
      release [v, ov, iv] []) := by intro _; rfl) (hs : swapsWithSole [.Subscript o i sp] e pos.line X.env = pure false := by rfl) (hw : swappedStores [.Subscript o i sp] e X.env = pure none := by rfl)
    (h1 : (assignEach [.Subscript o i sp] X.env).map (·.2) = [assign (.Subscript o i sp) X.env] := by rfl) : DS X C B (.Assign [.Subscript o i sp] e pos) (sSetI de d di) := by
  refine ⟨sSetI.mono he.mono ho.mono hi.mono, impS (ps_asg he.run (pg_sub ho.run hi.run set_list ha) hs hw h1) ?_⟩
  rintro D σ H ⟨n, env, m, rfl, ok, q⟩
  refine ⟨n, env, m, rfl, ok, he.mono _ _ _ _ (fun y m1 h1 n1 u g1 l1 ly => ?_) q⟩
  have ok1 := ok.go g1 l1
  refine ⟨n1, env, m1, rfl, ok1, ho.mono _ _ _ _ (fun x m2 h2 n2 v g2 l2 lx => ?_) h1⟩
  have ok2 := ok1.go g2 l2
  refine ⟨n2, env, m2, rfl, ok2, hi.mono _ _ _ _ (fun i m3 h3 n3 iv g3 l3 li => ?_) h2⟩
  have ok3 := ok2.go g3 l3
  split at h3
  · rename_i xs k z hx
    split at h3
    · rename_i j hj
      have li : FzN C X.w X.K n3 iv (.int k) := li
      cases li
      have ly3 : FzN C X.w X.K n3 u z := FzN.le (FzN.le (n := n1) ly l2) l3
      obtain ⟨a, rfl, ⟨vs, e1, z1⟩, hset⟩ := mut_ok ok3 (lx.le l3) hx
      refine ⟨a, vs, k, j, rfl, rfl, e1, by rw [z1.length]; exact hj, ?_⟩
      have ok4 := hset (.lst (vs.set j u)) (.lst (xs.set j z)) ⟨vs.set j u, upd_same, FzAll.set j (FzAll.keep (fun _ _ e => e) (fun _ _ e => e) z1) (Fz.keep (fun _ _ e => e) (fun _ _ e => e) ly3)⟩
      exact h3 ⟨n3.G, n3.al, upd n3.H a (.lst (vs.set j u))⟩ σ (((l1.trans l2).trans l3).sub.trans sub_upd) ok4
    · exact h3.elim
  · exact h3.elim
def iVal (d : TD) : TId := fun env m Q => d env m fun x m1 => match x with
  | .f (.lst xs) => Q xs m1
  | .f (.tup xs) => Q xs m1
  | _ => False
theorem iVal.mono (h : MonoD d) : MonoI (iVal d) := fun env m Q Q' i => h _ _ _ _ fun x m1 => by
  try dsimp only
  split <;> first | exact i _ _ | exact id
theorem walkL {w : World} {K : PySem.W.Frag} {n : Nw} {m : Mem} {a : Addr} {vs : List V} {xs : List Dat} (h : Rd n.G a (.lst vs)) (z : FzAllN C w K n vs xs) : WalkD C w K n (Itl K a) xs := by
  have e := z.length
  refine ⟨_, _, by rw [← e]; exact walk_list (xs := vs), fun n' m' s g => ⟨Or.inl (rdUp g (Rd.keep s.g h)), fun i x H' hi hy => ?_⟩⟩
  obtain ⟨rfl, hx⟩ := hy
  obtain ⟨d, h1, h2⟩ := z.get' hx
  exact ⟨n', d, rfl, g, .refl _, h1, Fz.keep s.g (pre_get s.l) h2⟩
theorem walkT {w : World} {K : PySem.W.Frag} {n : Nw} {m : Mem} {a : Addr} {vs : List V} {xs : List Dat} (h : SqT K n.G a vs) (z : FzAllN C w K n vs xs) : WalkD C w K n (Itt K a) xs := by
  have e := z.length
  refine ⟨_, _, by rw [← e]; exact walk_tup (xs := vs), fun n' m' s g => ⟨SqT.keep g.sub (SqT.keep s.g h), fun i x H' hi hy => ?_⟩⟩
  obtain ⟨rfl, hx⟩ := hy
  obtain ⟨d, h1, h2⟩ := z.get' hx
  exact ⟨n', d, rfl, g, .refl _, h1, Fz.keep s.g (pre_get s.l) h2⟩
theorem pi_any {tg l : Expr} {tl : TE} (hl : PE X l tl) : PI X tg l (fun σ H R => tl σ H fun x H1 => ∃ a, x = .ref a ∧ (((∃ xs, SqL X.K H1 a xs) ∧ R (Itl X.K a) H1) ∨ ((∃ xs, SqT X.K H1 a xs) ∧ R (Itt X.K a) H1))) := by
  refine ⟨fun pins s σ H R I h => ?_⟩
  refine thn (hl.run pins s σ H _ I h) fun v s1 ⟨x, H1, I1, r1, q1⟩ => ?_
  obtain ⟨a, e, q⟩ := q1
  subst e
  cases r1
  rcases q with ⟨⟨xs, hq⟩, q⟩ | ⟨⟨xs, hq⟩, q⟩
  · obtain ⟨its, rv, p, hz⟩ := I1.list hq
    refine wpAny_pyIter_list p.isList ?_
    refine ⟨s1.heap.objs.size, [s1.heap.objs.size], _, _, H1, rfl, I1.kept (t' := s1.toks) fun b o e => Heap.get?_push_of_some _ e, turn_list a _, ⟨_, Heap.get?_push_size _ rfl, rfl, rfl⟩, fun b hb => ?_, q⟩
    have e : b = s1.heap.objs.size := by simpa using hb
    subst e
    exact I1.fpOk (Nat.le_refl _) (I1.hok.fresh (Nat.le_refl _))
  · obtain ⟨its, rv, p, hz⟩ := I1.tuple hq
    refine wpAny_pyIter_tuple (show s1.heap.IsTuple a its.toArray from p) ?_
    refine ⟨s1.heap.objs.size, [s1.heap.objs.size], _, _, H1, rfl, I1.kept (t' := s1.toks) fun b o e => Heap.get?_push_of_some _ e, turn_tuple a _, ⟨_, Heap.get?_push_size _ rfl, rfl, rfl⟩, fun b hb => ?_, q⟩
    have e : b = s1.heap.objs.size := by simpa using hb
    subst e
    exact I1.fpOk (Nat.le_refl _) (I1.hok.fresh (Nat.le_refl _))
theorem impI {tg l : Expr} {t t' : TI} (h : PI X tg l t) (i : ∀ σ H R, t' σ H R → t σ H R) : PI X tg l t' := ⟨fun pins s σ H R I q => h.run pins s σ H R I (i σ H R q)⟩
theorem di_val {tg : Expr} (h : DE X C B e d) : DI X C B tg e (iVal d) := by
  refine ⟨iVal.mono h.mono, impI (pi_any h.run) ?_⟩
  rintro σ H R ⟨n, env, m, rfl, ok, q⟩
  refine ⟨n, env, m, rfl, ok, h.mono _ _ _ _ (fun x m1 h1 n1 v g1 l1 lx => ?_) q⟩
  split at h1
  · rename_i xs
    have lx : FzN C X.w X.K n1 v (.lst xs) := lx
    cases lx with
    | lst r z => exact ⟨_, rfl, .inl ⟨⟨_, .inl (rdUp g1 r)⟩, h1 n1 _ g1 l1 (walkL (m := m1) r z)⟩⟩
  · rename_i xs
    have lx : FzN C X.w X.K n1 v (.tup xs) := lx
    cases lx with
    | tup r z => exact ⟨_, rfl, .inr ⟨⟨_, SqT.keep g1.sub r⟩, h1 n1 _ g1 l1 (walkT (m := m1) r z)⟩⟩
  · exact h1.elim
def rangeD (lo : Int) (k : Nat) : List Dat := (List.range k).map fun i => .int (lo + (i : Nat))
def iRg1 (d : TD) : TId := fun env m Q => d env m fun x m1 => match x with
  | .f (.int j) => -(2 ^ 62) ≤ j ∧ j < 2 ^ 62 ∧ Q (rangeD 0 j.toNat) m1
  | _ => False
theorem walkR {w : World} {K : PySem.W.Frag} {n : Nw} {lo : Int} {k : Nat} : WalkD C w K n (Itr lo k) (rangeD lo k) := by
  refine ⟨_, _, by rw [show (rangeD lo k).length = k by simp [rangeD]]; exact walk_range, fun n' m' s g => ⟨trivial, fun i x H' hi hy => ?_⟩⟩
  obtain ⟨rfl, rfl⟩ := hy
  have hi' : i < k := by simpa [rangeD] using hi
  exact ⟨n', _, rfl, g, .refl _, by simp [rangeD, hi'], .int _⟩
theorem di_range1 {tg a : Expr} {p pos : Pos} (hg : Gl X "range") (hm : X.mg "range" = none) (ha : DE X C B a d) (hs : starEach [a] X.env = [(false, eval a X.env)] := by rfl) : DI X C B tg (.Call (.Name "range" p) [a] [] pos) (iRg1 d) := by
  refine ⟨fun env m Q Q' i h => ha.mono _ _ _ _ (fun x m1 h1 => ?_) h, impI (pi_range1 hg hm (pa_cons ha.run pa_nil hs) hs) ?_⟩
  · try dsimp only at h1 ⊢
    split at h1
    · exact ⟨h1.1, h1.2.1, i _ _ h1.2.2⟩
    · exact h1
  rintro σ H R ⟨n, env, m, rfl, ok, q⟩
  refine ⟨n, env, m, rfl, ok, ha.mono _ _ _ _ (fun x m1 h1 n1 v g1 l1 lx => ?_) q⟩
  split at h1
  · rename_i j
    have lx : FzN C X.w X.K n1 v (.int j) := lx
    cases lx
    exact ⟨j, rfl, h1.1, h1.2.1, h1.2.2 n1 _ g1 l1 walkR⟩
  · exact h1.elim
def sPar (i j : Nat) (d de : TD) : TSd := fun D env m => d env m fun x m1 => de env m1 fun y m2 => match x, y with
  | .f a, .f b => D.nx ((env.set i (some (.f a))).set j (some (.f b))) m2
  | _, _ => False
theorem ds_par {i j : Nat} {x y : Str} {a b : Expr} {px py pt : Pos} {kt k2 pt2} (hc : X.calm = true) (hN : X.N.Nodup) (hi : X.N[i]? = some x) (hj : X.N[j]? = some y) (hij : i ≠ j)
    (hx : X.env.scope.names.lookup x = some .local) (hy : X.env.scope.names.lookup y = some .local) (ha : DE X C B a d) (hb : DE X C B b de)
    (hw : swappedStores [.Tuple [.Name x px, .Name y py] kt pt] (.Tuple [a, b] k2 pt2) X.env = pure (some [x, y]))
    (hs : swapsWithSole [.Tuple [.Name x px, .Name y py] kt pt] (.Tuple [a, b] k2 pt2) pos.line X.env = pure false := by rfl) (hs1 : starEach [a, b] X.env = (false, eval a X.env) :: starEach [b] X.env := by rfl) (hs2 : starEach [b] X.env = (false, eval b X.env) :: starEach [] X.env := by rfl) :
    DS X C B (.Assign [.Tuple [.Name x px, .Name y py] kt pt] (.Tuple [a, b] k2 pt2) pos) (sPar i j d de) := by
  refine ⟨fun env m D D' l h => ha.mono _ _ _ _ (fun x m1 h1 => hb.mono _ _ _ _ (fun y m2 h2 => ?_) h1) h, impS (ps_par hc hN hi hj hij hx hy (pa_cons ha.run (pa_cons hb.run pa_nil hs2) hs1) hw hs) ?_⟩
  · try dsimp only at h2 ⊢
    split at h2
    · exact l.nx _ _ h2
    · exact h2
  rintro D σ H ⟨n, env, m, rfl, ok, q⟩
  refine ⟨n, env, m, rfl, ok, ha.mono _ _ _ _ (fun x m1 h1 n1 v g1 l1 lx => ?_) q⟩
  refine ⟨n1, env, m1, rfl, ok.go g1 l1, hb.mono _ _ _ _ (fun y m2 h2 n2 u g2 l2 ly => ?_) h1⟩
  split at h2
  · rename_i a b
    have lx : FzN C X.w X.K n1 v a := lx
    have ly : FzN C X.w X.K n2 u b := ly
    exact ⟨v, u, rfl, h2 n2 _ (l1.trans l2).sub (((ok.go g2 (l1.trans l2)).setF (FzN.le lx l2)).setF ly)⟩
  · exact h2.elim
theorem dChain.mono {f g : Op2} {da db dc : TD} (hf : Mono2 f) (hg : Mono2 g) (ha : MonoD da) (hb : MonoD db) (hc : MonoD dc) : MonoD (dChain f g da db dc) := fun env m Q Q' i h =>
  ha _ _ _ _ (fun x m1 h1 => hb _ _ _ _ (fun y m2 h2 => hf _ _ _ _ _ _ (fun z m3 h3 => by
    try dsimp only at h3 ⊢
    split at h3
    · exact hc _ _ _ _ (fun u m4 h4 => hg _ _ _ _ _ _ (fun r m5 h5 => i _ _ h5) h4) h3
    · exact i _ _ h3
    · exact h3) h2) h1) h
theorem chain_imp {f g : Op2} {da db dc : TD} (hf : Mono2 f) (hg : Mono2 g) (ha : MonoD da) (hb : MonoD db) (hc : MonoD dc) :
    ∀ σ H Q, lE C B X.w X.K (dChain f g da db dc) σ H Q → tChain (r2 C X.w X.K f) (r2 C X.w X.K g) (lE C B X.w X.K da) (lE C B X.w X.K db) (lE C B X.w X.K dc) σ H Q := by
  rintro σ H Q ⟨n, env, m, rfl, ok, h⟩
  refine ⟨n, env, m, rfl, ok, ha _ _ _ _ (fun x m1 h1 n1 v ok1 l1 lx => ?_) h⟩
  refine ⟨n1, env, m1, rfl, ok.go ok1 l1, hb _ _ _ _ (fun y m2 h2 n2 u ok2 l2 ly => ?_) h1⟩
  refine ⟨B, n2, env, m2, σ, x, y, rfl, ok.go ok2 (l1.trans l2), lx.le l2, ly, hf _ _ _ _ _ _ (fun z m3 h3 n3 v3 ok3 l3 lz => ?_) h2⟩
  have l13 := l1.trans (l2.trans l3)
  cases z with
  | bl c =>
    cases lz
    refine ⟨c, rfl, ?_⟩
    cases c with
    | true =>
      show if (true = true) then _ else _
      rw [if_pos rfl]
      refine ⟨n3, env, m3, rfl, ok.go ok3 l13, hc _ _ _ _ (fun r m4 h4 n4 v4 ok4 l4 lr => ?_) h3⟩
      exact ⟨B, n4, env, m4, σ, y, r, rfl, ok.go ok4 (l13.trans l4), (ly.le l3).le l4, lr, hg _ _ _ _ _ _ (fun z5 m5 h5 n5 v5 ok5 l5 lz5 => h5 n5 v5 ok5 (l13.trans (l4.trans l5)) lz5) h4⟩
    | false =>
      show if (false = true) then _ else _
      rw [if_neg (by decide)]
      exact h3 n3 (.bl false) ok3 l13 (.bl false)
  | _ => exact h3.elim
theorem de_chain {op op' : CmpOp} {f g : Op2} {a b c : Expr} {da db dc : TD} (ho : OpD X C (compareOp op) f) (ho' : OpD X C (compareOp op') g) (ha : DE X C B a da) (hb : DE X C B b db) (hc : DE X C B c dc)
    (hm : lastMarks [op, op'] [b, c] = false := by with_unfolding_all rfl) : DE X C B (.Compare a [op, op'] [b, c] pos) (dChain f g da db dc) :=
  ⟨dChain.mono ho.mono ho'.mono ha.mono hb.mono hc.mono, imp (pe_chain ho.run ho'.run ha.run hb.run hc.run hm) (chain_imp ho.mono ho'.mono ha.mono hb.mono hc.mono)⟩
theorem dt_chain {op op' : CmpOp} {f g : Op2} {a b c : Expr} {da db dc : TD} (ho : OpD X C (compareOp op) f) (ho' : OpD X C (compareOp op') g) (ha : DE X C B a da) (hb : DE X C B b db) (hc : DE X C B c dc)
    (hm : lastMarks [op, op'] [b, c] = false := by with_unfolding_all rfl) : DT X C B (.Compare a [op, op'] [b, c] pos) (dTst (dChain f g da db dc)) := by
  refine ⟨dTst.mono (dChain.mono ho.mono ho'.mono ha.mono hb.mono hc.mono), impT (pt_chain ho.run ho'.run ha.run hb.run hc.run hm) ?_⟩
  rintro σ H Q ⟨n, env, m, rfl, ok, h⟩
  refine chain_imp (B := B) ho.mono ho'.mono ha.mono hb.mono hc.mono σ _ _ ⟨n, env, m, rfl, ok, dChain.mono ho.mono ho'.mono ha.mono hb.mono hc.mono _ _ _ _ (fun x m1 h1 n1 v ok1 l1 lx => ?_) h⟩
  cases x with
  | o k => exact h1.elim
  | f y =>
    cases y with
    | bl c => cases lx; exact ⟨c, rfl, h1 n1 ok1 l1⟩
    | _ => exact h1.elim
end
end DL

set_option maxHeartbeats 1000000
namespace DL
open PySem PySem.Spec PyProof.Rows L2

structure RoomG (k : Nat) (A : Around) : Prop where
  room : Room k A
  gd : A.guards = some []
structure FnG (P : Program) (w : World) (K : PySem.W.Frag) (mg : Str → Option Value) (base : Heap) (CX : CXT) (k : Nat) (f : Addr) (fd : FuncData) (ps : List Str) (sp : Sp) : Prop where
  len : ∀ vs H Q E, sp vs H Q E → vs.length = ps.length
  run : ∀ (A : Around) (outer : List Env) (s : Shared) (H : Hp) (args : Args) (us : List Value) (vs : List V) (Q : VK) (E : XK), RoomG k A → Env0 P w K mg base A outer s H → BindsTo s fd args (ps.zip us) → Vals vs us → sp vs H Q E →
    codeAny (model P w) A (.call (.ref f) args) (CR CX outer P w H s Q E) s
theorem fnG_of {CX : CXT} {P : Program} {w : World} {K : PySem.W.Frag} {mg : Str → Option Value} {base : Heap} {k : Nat} {f : Addr} {x qual : Str} {params : Arguments} {body : List Stmt} {scope : Scope} {fd : FuncData} {N ps : List Str} {sp : Sp}
    (F : FunD K x qual params body scope [] [] f fd) (S : FnScope N ps scope) (len : ∀ vs H Q E, sp vs H Q E → vs.length = ps.length)
    (hbody : ∀ (cdv : Value) (A : Around) (outer : List Env) (s : Shared) (H : Hp) (vs : List V) (Q : VK) (E : XK), RoomG k (A.deeper (envOfC qual scope s.heap.objs.size f cdv)) → sp vs H Q E →
      ∃ t, PSs (cxOf CX P w K mg base N qual scope f cdv A outer s H E) body t ∧ t { nx := fun _ H' => Q .non H', rt := Q } (L2.start N vs) H) : FnG P w K mg base CX (k + 1) f fd ps sp := by
  obtain ⟨oc, od, dV, kV, doc, pm, an, cdv, ct, osl, rfl, lk, hcd, _, _⟩ := F.ex
  refine ⟨len, fun A outer s H args us vs Q E hr e0 hb r hsp => ?_⟩
  have hl := len _ _ _ _ hsp
  have KX : K.In s.heap := e0.mod.kin.keeps fun b o e => (e0.bs b o e).1
  have lim : s.heap.NoLimit := e0.mod.nolimit.keeps fun b o e => (e0.bs b o e).1
  have hkind : ∀ y ∈ ps.zip us, scope.names.lookup y.1 = some .local ∨ (scope.names.lookup y.1 = some .cell ∧ ((cellsFrom (s.heap.objs.size + 1) scope.names []).lookup y.1).isSome = true) := fun ⟨n, v⟩ hy => by
    rcases S.par n (List.of_mem_zip hy).1 with q | q
    · exact .inl q
    · exact .inr ⟨q, PySem.W.cellsFrom_some _ _ _ (.inl q)⟩
  refine codeAny_call_function hr.room.depth (KX _ _ lk) rfl S.co S.gen rfl (PySem.W.codeRec_of KX hcd) (hb _ _ _ _ ?_)
  refine wpAny_newFunctionEnv_cells S.kind hkind fun env he s1 x1 => ?_
  subst he
  refine ⟨lim.keeps x1.toInCall.keep, codeAny_func ?_⟩
  obtain ⟨t, ht, hq⟩ := hbody cdv A outer s H vs Q E ⟨hr.room.deeper _, hr.gd⟩ hsp
  have I : Inv (cxOf CX P w K mg base N qual scope f cdv A outer s H E) [] (L2.start N vs) H s1 := inv_start S hr.room.hd e0 hl r x1
  refine wpAny_mono (ht.run [] s1 (L2.start N vs) H _ I hq) (fun fl s' hs => ?_) fun e s' hs => hs
  have fin : ∀ {σ' : L2.St} {H' : Hp} {v : V} {u : Value}, Inv (cxOf CX P w K mg base N qual scope f cdv A outer s H E) [] σ' H' s' → RelV v u → Q v H' → CE outer P w H s Q u s' :=
    fun {σ' H' v u} J rv q => ⟨v, H', J.os, J.bare, J.base, J.hok, rv, q⟩
  cases fl with
  | ret u =>
    obtain ⟨v, σ', H', J, rv, q⟩ := hs
    exact fin J rv q
  | next =>
    obtain ⟨σ', H', J, q⟩ := hs
    exact fin (v := V.non) (u := Value.none) J rfl q
  | brk =>
    obtain ⟨_, _, _, q⟩ := hs
    exact False.elim q
  | cont =>
    obtain ⟨_, _, _, q⟩ := hs
    exact False.elim q
section
variable {X : Cx} {CX : CXT} {k : Nat} {f : Addr} {fd : FuncData} {ps : List Str} {sp : Sp} {E : L2.St → XK} {x : Str} {p pos : Pos} {e : Expr} {es : List Expr} {t : TA}
theorem run_fnG {pins : List (Addr × Obj)} {σ : L2.St} {H : Hp} {s : Shared} {Q : VK} {us : List Value} {vs : List V} (F : FnG X.prog X.w X.K X.mg X.base CX k f fd ps sp) (hr : RoomG k X.A) (hb : Binds X.K fd ps []) (hx : PassesAt CX X σ (E σ))
    (I : Inv X pins σ H s) (r : Vals vs us) (h : sp vs H Q (E σ)) : wpAny (model X.prog X.w) X.A (call (.ref f) us) (EP X pins σ Q) X.xe s := by
  have hl : (us ++ []).length = ps.length := by rw [List.append_nil, ← r.length]; exact F.len _ _ _ _ h
  have hb' := hb s us I.kIn hl
  rw [List.append_nil] at hb'
  refine wpAny_call (codeAny_mono (F.run X.A X.stack s H ⟨us, []⟩ us vs Q (E σ) hr I.env0 hb' r h) fun r s' hq => ?_)
  cases r with
  | error e => exact hx pins H s e s' I hq
  | ok fl =>
    cases fl with
    | ret u => exact I.after hq
    | next => exact False.elim hq
    | brk => exact False.elim hq
    | cont => exact False.elim hq
theorem pe_callG (F : FnG X.prog X.w X.K X.mg X.base CX k f fd ps sp) (hr : RoomG k X.A) (hg : Gl X x) (hm : X.mg x = some (.ref f)) (hk : PySem.W.keepIn X.K (.ref f) = true) (hb : Binds X.K fd ps []) (hx : ∀ σ, PassesAt CX X σ (E σ))
    (ha : PA X (e :: es) t) (hdb : (x == ("__debug__" : Str)) = false := by decide) (he : starEach (e :: es) X.env = (false, eval e X.env) :: starEach es X.env := by rfl) (hpl : (backTo pos (starEach es X.env)).any (·.1) = false := by rfl) :
    PE X (.Call (.Name x p) (e :: es) [] pos) (tCallSD sp [] E t) := by
  refine ⟨fun pins s σ H Q I h => ?_⟩
  refine wpAny_Call_Name_kw (ld_glob I hg hm ?_ hdb)
  refine PySem.W.callWith_K (h₀ := X.base) I.ok.mod.kin hk (thn (ha.run pos pins s σ H _ I h) fun us s1 ⟨vs, H1, I1, r, q⟩ => ⟨I1.kIn, ?_⟩) he hpl
  have q' : sp (vs ++ []) H1 Q (E σ) := q
  rw [List.append_nil] at q'
  exact run_fnG F hr hb (hx σ) I1 r q'
end
structure DG (P : Program) (w : World) (K : PySem.W.Frag) (mg : Str → Option Value) (base : Heap) (C : Ct) (k : Nat) (f : Addr) (fd : FuncData) (ps : List Str) (p : DSp) : Prop where
  mono : MonoP p
  ok : FnG P w K mg base (L2.CX P w) k f fd ps (spD C w K ps.length p)
section
variable {X : Cx} {C : Ct} {B : Nw} {k : Nat} {f : Addr} {fd : FuncData} {ps : List Str} {p : DSp} {EX : QXe} {x : Str} {p1 pos : Pos} {e : Expr} {es : List Expr} {da : TAd}
theorem de_callG (F : DG X.prog X.w X.K X.mg X.base C k f fd ps p) (hl : ∀ ds m Q E, p ds m Q E → ds.length = ps.length) (hr : RoomG k X.A) (hg : Gl X x) (hm : X.mg x = some (.ref f)) (hk : PySem.W.keepIn X.K (.ref f) = true) (hb : Binds X.K fd ps []) (hx : PassD X C B EX) (ha : DA X C B (e :: es) da)
    (hdb : (x == ("__debug__" : Str)) = false := by decide) (he : starEach (e :: es) X.env = (false, eval e X.env) :: starEach es X.env := by rfl) (hpl : (backTo pos (starEach es X.env)).any (·.1) = false := by rfl) :
    DE X C B (.Call (.Name x p1) (e :: es) [] pos) (dCall p EX da) :=
  ⟨dCall.mono F.mono ha.mono, imp (pe_callG F.ok hr hg hm hk hb hx ha.run hdb he hpl) (call_imp F.mono ha.mono fun hz ⟨m, Q, E, h⟩ => hz.length.trans (hl _ _ _ _ h))⟩
variable {P : Program} {w : World} {K : PySem.W.Frag} {mg : Str → Option Value} {base : Heap} {qual : Str} {params : Arguments} {body : List Stmt} {scope : Scope} {N : List Str}
theorem dg_of {d : QXe → TSd} (F : FunD K x qual params body scope [] [] f fd) (S : FnScope N ps scope) (mono : MonoP p) (len : ∀ ds m Q E, p ds m Q E → ds.length = ps.length)
    (walk : ∀ (cdv : Value) (A : Around) (outer : List Env) (s : Shared) (H : Hp) (E : XK) (B : Nw) (EX : QXe), RoomG k (A.deeper (envOfC qual scope s.heap.objs.size f cdv)) → TakesD (cxOf (L2.CX P w) P w K mg base N qual scope f cdv A outer s H E) C B EX →
      DSs (cxOf (L2.CX P w) P w K mg base N qual scope f cdv A outer s H E) C B body (d EX))
    (law : ∀ ds m (Q : QD) (E : QX), p ds m Q E → d (fun c xs _ m => E c xs m) { nx := fun _ m => Q .non m, rt := Q } (env0 N.length ds) m) : DG P w K mg base C (k + 1) f fd ps p := by
  refine ⟨mono, fnG_of F S (fun vs H Q E h => h.1) fun cdv A outer s H vs Q E hr h => ?_⟩
  obtain ⟨hl, n, m, ds, rfl, g, hz, h⟩ := h
  let X := cxOf (L2.CX P w) P w K mg base N qual scope f cdv A outer s n.H E
  have ok : Ok C w K n n (env0 N.length ds) m (L2.start N vs) := ⟨g, .refl _, env_start hz⟩
  have tk : Takes X (fun cls dx _ H => E cls dx H) := takes_of rfl rfl rfl rfl
  have pd : TakesD X C n (fun c xs _ m' => AftX C w K n E c xs m') := tk.imp (fun cls dx σ' H' hq => by
    obtain ⟨n', env', m', c, xs, us, rfl, ok', rfl, hx, hu, hE⟩ := hq
    exact hE n' dx us ok'.good ok'.base hx hu)
  have W := walk cdv A outer s n.H E n (fun c xs _ m' => AftX C w K n E c xs m') hr pd
  refine ⟨_, W.run, n, _, m, rfl, ok, ?_⟩
  refine W.mono _ _ { nx := fun _ m => AftD C w K n Q .non m, rt := AftD C w K n Q } _ ⟨fun e1 m1 h1 n1 σ1 _ ok1 => ?_, fun d1 m1 h1 n1 v1 l1 g1 hv => ?_, fun _ _ h1 => h1.elim, fun _ _ h1 => h1.elim⟩ (law ds m (AftD C w K n Q) (AftX C w K n E) h)
  · exact h1 n1 .non ok1.good ok1.base .non
  · exact h1 n1 v1 g1 l1 hv
end

def NoSys (K : PySem.W.Frag) : Prop := ∃ o, K.lookup sysModules = some o ∧ o.cls ≠ .type "list"
theorem pyk_1 : ∀ kvs : List (Dat × Dat), (pyk kvs).map (·.1) = kvs.map fun p => py p.1
  | [] => by rw [pyk]; rfl
  | (k, x) :: r => by rw [pyk, List.map_cons, pyk_1 r]; rfl
theorem pyk_2 : ∀ kvs : List (Dat × Dat), (pyk kvs).map (·.2) = kvs.map fun p => py p.2
  | [] => by rw [pyk]; rfl
  | (k, x) :: r => by rw [pyk, List.map_cons, pyk_2 r]; rfl
theorem okR_show : ∀ (k : Nat) (d : Dat), okR k d = true → (py d).showable = true ∧ (py d).depth ≤ k
  | k, .non, _ => by cases k <;> exact ⟨rfl, Nat.zero_le _⟩
  | k, .bl b, _ => by cases k <;> exact ⟨rfl, Nat.zero_le _⟩
  | k, .int i, h => by
    have h : decide (i.natAbs.log2 < 1920) = true := by cases k <;> exact h
    exact ⟨by rw [py, PyData.showable]; exact h, by rw [py, PyData.depth]; exact Nat.zero_le _⟩
  | k, .str x, h => ⟨by rw [py, PyData.showable], by rw [py, PyData.depth]; exact Nat.zero_le _⟩
  | 0, .tup xs, h => by cases h
  | 0, .lst xs, h => by cases h
  | 0, .dct xs, h => by cases h
  | k + 1, .tup xs, h => by
    have h : xs.all (okR k) = true := h
    have key : ∀ ys : List Dat, ys.all (okR k) = true → PyData.showableAll (pys ys) = true ∧ PyData.depthAll (pys ys) ≤ k := by
      intro ys
      induction ys with
      | nil => intro _; rw [pys]; exact ⟨by rw [PyData.showableAll], by rw [PyData.depthAll]; exact Nat.zero_le _⟩
      | cons y ys ih =>
        intro hy
        rw [List.all_cons, Bool.and_eq_true] at hy
        obtain ⟨h1, h2⟩ := okR_show k y hy.1
        obtain ⟨h3, h4⟩ := ih hy.2
        rw [pys, PyData.showableAll, PyData.depthAll, h1, h3]
        exact ⟨rfl, by omega⟩
    obtain ⟨h1, h2⟩ := key xs h
    rw [py, PyData.showable, PyData.depth]
    exact ⟨h1, by omega⟩
  | k + 1, .lst xs, h => by
    have h : xs.all (okR k) = true := h
    have key : ∀ ys : List Dat, ys.all (okR k) = true → PyData.showableAll (pys ys) = true ∧ PyData.depthAll (pys ys) ≤ k := by
      intro ys
      induction ys with
      | nil => intro _; rw [pys]; exact ⟨by rw [PyData.showableAll], by rw [PyData.depthAll]; exact Nat.zero_le _⟩
      | cons y ys ih =>
        intro hy
        rw [List.all_cons, Bool.and_eq_true] at hy
        obtain ⟨h1, h2⟩ := okR_show k y hy.1
        obtain ⟨h3, h4⟩ := ih hy.2
        rw [pys, PyData.showableAll, PyData.depthAll, h1, h3]
        exact ⟨rfl, by omega⟩
    obtain ⟨h1, h2⟩ := key xs h
    rw [py, PyData.showable, PyData.depth]
    exact ⟨h1, by omega⟩
  | k + 1, .dct kvs, h => by
    have h : (kvs.all fun p => okR k p.1 && okR k p.2) = true := h
    have key : ∀ ys : List (Dat × Dat), (ys.all fun p => okR k p.1 && okR k p.2) = true → PyData.showableKv (pyk ys) = true ∧ PyData.depthKv (pyk ys) ≤ k := by
      intro ys
      induction ys with
      | nil => intro _; rw [pyk]; exact ⟨by rw [PyData.showableKv], by rw [PyData.depthKv]; exact Nat.zero_le _⟩
      | cons y ys ih =>
        obtain ⟨a, b⟩ := y
        intro hy
        rw [List.all_cons, Bool.and_eq_true, Bool.and_eq_true] at hy
        obtain ⟨h1, h2⟩ := okR_show k a hy.1.1
        obtain ⟨h5, h6⟩ := okR_show k b hy.1.2
        obtain ⟨h3, h4⟩ := ih hy.2
        rw [pyk, PyData.showableKv, PyData.depthKv, h1, h3, h5]
        exact ⟨rfl, by omega⟩
    obtain ⟨h1, h2⟩ := key kvs h
    rw [py, PyData.showable, PyData.depth]
    exact ⟨h1, by omega⟩
  | k, .ins _ _, h => by cases k <;> cases h
  | k, .obj _, h => by cases k <;> cases h
  | k, .ref _, h => by cases k <;> cases h
  | k, .ty _, h => by cases k <;> cases h
  | k, .cls _, h => by cases k <;> cases h
section
variable {X : Cx} {C : Ct} {pins : List (Addr × Obj)} {σ : L2.St} {s : Shared} {n : Nw} {m : Mem}
theorem list_ns (I : Inv X pins σ n.H s) (ns : NoSys X.K) {a : Addr} {o : Obj} (e : s.heap.get? a = some o) (c : o.cls = .type "list") : a ≠ sysModules := by
  rintro rfl
  obtain ⟨o', h1, h2⟩ := ns
  have := I.kIn _ _ h1
  rw [e] at this
  cases this
  exact h2 c
mutual
theorem fz_rd (I : Inv X pins σ n.H s) (g : Good C X.w X.K n m) (ns : NoSys X.K) : ∀ (k : Nat) {v : V} {d : Dat} {u : Value}, FzN C X.w X.K n v d → RelV v u → okR k d = true → ∃ as, Reads s.heap u (py d) as ∧ sysModules ∉ as
  | k, _, .non, _, h, r, _ => by cases h; cases r; exact ⟨[], show Reads s.heap .none .none [] from .none, by simp⟩
  | k, _, .bl b, _, h, r, _ => by cases h; cases r; rw [py]; exact ⟨_, .bool b, by simp⟩
  | k, _, .int i, _, h, r, _ => by cases h; obtain ⟨t, rfl⟩ := r; rw [py]; exact ⟨_, .int i t, by simp⟩
  | k, _, .str x, _, h, r, _ => by cases h; obtain ⟨t, rfl⟩ := r; rw [py]; exact ⟨_, .str x t, by simp⟩
  | 0, _, .tup xs, _, h, r, e => by cases e
  | 0, _, .lst xs, _, h, r, e => by cases e
  | 0, _, .dct xs, _, h, r, e => by cases e
  | k + 1, _, .tup xs, _, h, r, e => by
    cases h with
    | tup h1 h2 =>
      cases r
      obtain ⟨its, rv, ⟨o, ho, hc, nn, hd⟩, _⟩ := I.tuple (SqT.keep g.sub h1)
      obtain ⟨as, q1, q2⟩ := fzs_rd I g ns k h2 rv e
      rw [py]
      exact ⟨_, .tuple ho hc hd (by simpa using q1), q2⟩
  | k + 1, _, .lst xs, _, h, r, e => by
    cases h with
    | lst h1 h2 =>
      cases r
      obtain ⟨its, rv, ⟨o, nn, ho, hc, _, hd⟩, _⟩ := I.list (.inl (rdUp g h1))
      obtain ⟨as, q1, q2⟩ := fzs_rd I g ns k h2 rv e
      rw [py]
      refine ⟨_, .list ho hc hd (by simpa using q1), fun z => ?_⟩
      rcases List.mem_cons.mp z with z | z
      · exact list_ns I ns ho hc z.symm
      · exact q2 z
  | k + 1, _, .dct kvs, _, h, r, e => by
    cases h with
    | dct h1 h2 h3 =>
      cases r
      obtain ⟨⟨o, ep, ho, hx, hd⟩, _⟩ : (∃ o ep, s.heap.get? _ = some o ∧ o.ExactDict ∧ o.data = .dict _ ep) ∧ _ := I.hok _ _ (g.sub _ _ h1)
      obtain ⟨as, bs, q1, q2, q3, q4⟩ := fze_rd I g ns k h3 e
      rw [py]
      refine ⟨_, .dict ho hx.1 hd (by rw [pyk_1]; exact q1) (by rw [pyk_2]; exact q2), fun z => ?_⟩
      rcases List.mem_append.mp z with z | z
      · rcases List.mem_cons.mp z with z | z
        · exact absurd z.symm (by simpa using h2)
        · exact q3 z
      · exact q4 z
  | k, _, .ins _ _, _, h, r, e => by cases k <;> cases e
  | k, _, .obj _, _, h, r, e => by cases k <;> cases e
  | k, _, .ref _, _, h, r, e => by cases k <;> cases e
  | k, _, .ty _, _, h, r, e => by cases k <;> cases e
  | k, _, .cls _, _, h, r, e => by cases k <;> cases e
theorem fzs_rd (I : Inv X pins σ n.H s) (g : Good C X.w X.K n m) (ns : NoSys X.K) : ∀ (k : Nat) {vs : List V} {ds : List Dat} {us : List Value}, FzAllN C X.w X.K n vs ds → Vals vs us → ds.all (okR k) = true → ∃ as, ReadsAll s.heap us (pys ds) as ∧ sysModules ∉ as
  | k, _, [], _, h, r, _ => by cases h; cases r; rw [pys]; exact ⟨_, .nil, by simp⟩
  | k, _, d :: ds, _, h, r, e => by
    rw [List.all_cons, Bool.and_eq_true] at e
    cases h with
    | cons a b =>
      cases r with
      | cons r1 r2 =>
        obtain ⟨as, q1, q2⟩ := fz_rd I g ns k a r1 e.1
        obtain ⟨bs, q3, q4⟩ := fzs_rd I g ns k b r2 e.2
        rw [pys]
        exact ⟨_, .cons q1 q3, fun z => (List.mem_append.mp z).elim q2 q4⟩
theorem fze_rd (I : Inv X pins σ n.H s) (g : Good C X.w X.K n m) (ns : NoSys X.K) : ∀ (k : Nat) {es : List DictEntry} {kvs : List (Dat × Dat)}, FzEs C X.w X.K n.al n.G es kvs → (kvs.all fun p => okR k p.1 && okR k p.2) = true →
    ∃ as bs, ReadsAll s.heap (es.map (·.key)) (kvs.map fun p => py p.1) as ∧ ReadsAll s.heap (es.map (·.val)) (kvs.map fun p => py p.2) bs ∧ sysModules ∉ as ∧ sysModules ∉ bs
  | k, _, [], h, _ => by cases h; exact ⟨_, _, .nil, .nil, by simp, by simp⟩
  | k, _, (a, b) :: ds, h, e => by
    rw [List.all_cons, Bool.and_eq_true, Bool.and_eq_true] at e
    cases h with
    | cons r1 x r2 y _ t =>
      obtain ⟨as, q1, q2⟩ := fz_rd I g ns k x r1 e.1.1
      obtain ⟨bs, q3, q4⟩ := fz_rd I g ns k y r2 e.1.2
      obtain ⟨cs, ds, q5, q6, q7, q8⟩ := fze_rd I g ns k t e.2
      exact ⟨_, _, .cons q1 q5, .cons q3 q6, fun z => (List.mem_append.mp z).elim q2 q7, fun z => (List.mem_append.mp z).elim q4 q8⟩
end
theorem now_rd (I : Inv X pins σ n.H s) (g : Good C X.w X.K n m) (ns : NoSys X.K) {k : Nat} {v : V} {d : Dat} {u : Value} (h : Nowv C X.w X.K n v d) (r : RelV v u) (e : okR k d = true) : ∃ as, Reads s.heap u (py d) as ∧ sysModules ∉ as := by
  cases h with
  | fz z => exact fz_rd I g ns k z r e
  | lst h1 h2 =>
    cases k with
    | zero => cases e
    | succ k =>
      cases r
      obtain ⟨its, rv, ⟨o, nn, ho, hc, _, hd⟩, _⟩ := I.list (.inl (.inl h1))
      obtain ⟨as, q1, q2⟩ := fzs_rd I g ns k h2 rv e
      rw [py]
      refine ⟨_, .list ho hc hd (by simpa using q1), fun z => ?_⟩
      rcases List.mem_cons.mp z with z | z
      · exact list_ns I ns ho hc z.symm
      · exact q2 z
  | dct h1 h2 h3 =>
    cases k with
    | zero => cases e
    | succ k =>
      cases r
      obtain ⟨⟨o, ep, ho, hx, hd⟩, _⟩ : (∃ o ep, s.heap.get? _ = some o ∧ o.ExactDict ∧ o.data = .dict _ ep) ∧ _ := I.hok _ _ h1
      obtain ⟨as, bs, q1, q2, q3, q4⟩ := fze_rd I g ns k h3 e
      rw [py]
      refine ⟨_, .dict ho hx.1 hd (by rw [pyk_1]; exact q1) (by rw [pyk_2]; exact q2), fun z => ?_⟩
      rcases List.mem_append.mp z with z | z
      · rcases List.mem_cons.mp z with z | z
        · exact absurd z.symm (by simpa using h2)
        · exact q3 z
      · exact q4 z
def oRepr : OpN := fun env m xs Q => match xs with
  | [x] => match der env m x with
    | some d => okR 60 d = true ∧ (py d).shown.length ≤ sizeLine ∧ Q (.str (py d).shown) m
    | none => False
  | _ => False
theorem call_reprD (hg : X.A.guards = some []) (hu : X.A.units + 64 < cLine) (ns : NoSys X.K) : CallD X C (.builtin "repr") oRepr := by
  refine ⟨fun env m xs Q Q' i => ?_, fun pins s σ H vs us Q I rv h => ?_⟩
  · unfold oRepr
    split
    · split
      · exact fun h => ⟨h.1, h.2.1, i _ _ h.2.2⟩
      · exact id
    · exact id
  · obtain ⟨B, n, env, m, σ', xs, rfl, ok, lx, h⟩ := h
    unfold oRepr at h
    split at h
    · rename_i x
      split at h
      · rename_i d hd
        obtain ⟨h1, h2, h3⟩ := h
        cases lx with
        | cons lx z =>
          cases z
          obtain ⟨u, rfl, r⟩ := vals1 rv
          obtain ⟨as, r1, r2⟩ := now_rd I ok.good ns (der_ok ok lx hd) r h1
          obtain ⟨s1, s2⟩ := okR_show _ _ h1
          have fin : ∀ (h' : Heap) (t : Tok) (tk : Tok), (∀ b o, s.heap.get? b = some o → h'.get? b = some o) → EP X pins σ Q (.str (py d).shown t) { s with heap := h', toks := tk } := fun h' t tk k =>
            ⟨.str _, n.H, I.kept k, ⟨_, rfl⟩, h3 n _ ok.good (.refl _) (.str _)⟩
          have same : ∀ b o, s.heap.get? b = some o → s.heap.get? b = some o := fun _ _ e => e
          have far : ∀ a, u = .ref a → wpAny (model X.prog X.w) X.A (call (.builtin "repr") [u]) (EP X pins σ Q) X.xe s := fun a e => by
            subst e
            exact repr_of_reads' r1 s1 (fun _ => r2) hg (by omega) same (fun h' t tk k => fin h' t tk k) h2
          cases d with
          | non => cases (show Reads s.heap u .none as from r1); exact PySem.P.repr_of_none (fin s.heap _ _ same)
          | bl b => rw [py] at r1; cases r1; exact PySem.P.repr_of_bool (by have := fin s.heap s.toks (s.toks + 1) same; rw [py, PyData.shown] at this; exact this)
          | int i =>
            rw [py] at r1; cases r1
            rw [py, PyData.showable] at s1
            exact PySem.P.repr_of_int (of_decide_eq_true s1) (by have := fin s.heap s.toks (s.toks + 1) same; rw [py, PyData.shown] at this; exact this)
          | str x =>
            rw [py] at r1; cases r1
            rw [py, PyData.shown] at h2
            exact PySem.P.repr_of_str (by have := fin s.heap s.toks (s.toks + 1) same; rw [py, PyData.shown] at this; exact this) h2
          | tup xs => rw [py] at r1; cases r1 with | tuple e1 e2 e3 e4 => exact far _ rfl
          | lst xs => rw [py] at r1; cases r1 with | list e1 e2 e3 e4 => exact far _ rfl
          | dct xs => rw [py] at r1; cases r1 with | dict e1 e2 e3 e4 e5 => exact far _ rfl
          | ins _ _ => cases h1
          | obj _ => cases h1
          | ref _ => cases h1
          | ty _ => cases h1
          | cls _ => cases h1
      · exact h.elim
    · exact h.elim
end
end DL

set_option maxHeartbeats 1000000
namespace DL
open PySem PySem.Spec PyProof.Rows L2

def sortOk (xs : List Dat) : Prop := PySem.W.AllAlike (xs.map py) ∧ PySem.W.Sortable (xs.map py) ∧ xs.all (okR 30) = true
noncomputable def sortD (xs : List Dat) : List Dat := xs.mergeSort (PySem.W.dataLe false py)
section
variable {prog : Program} {w : World} {A : Around} {E : Value → Shared → Prop} {s : Shared} {β : Type} {bs : List β} {enc : β → PyData} {R : Value → β → Prop}
theorem tup_items {l : Addr} {vs : List Value} {Q : List Value → Shared → Prop} (hl : IsTup s.heap l vs.toArray)
    (h : Q vs { s with heap := (s.heap.push (seqObj "list" #[] 0)).update s.heap.objs.size (Obj.mapSeq (· ++ vs.toArray)) }) (hsz : vs.length ≤ sizeLine) :
    wpAny (model prog w) A (collect (.ref l)) Q E s := by
  obtain ⟨o, ho, hc, n, hd⟩ := id hl
  unfold collect
  refine wpAny_bind (wpAny_runValue (codeAny_builtin entry_proto_collect' ?_))
  show wpAny _ _ (do again (.builtin "list.__iadd__" ⟨[← newList [], .ref l], []⟩)) _ _ s
  refine wpAny_bind (wpAny_newList (wpAny_pure ⟨Code.quiet_builtin _ (by decide +kernel), codeAny_builtin entry_list_iadd' ?_⟩))
  show wpAny _ _ (Builtin.List.listExtendWith (.ref s.heap.objs.size) (.ref l) (.ref s.heap.objs.size)) _ _ { s with heap := s.heap.push (seqObj "list" #[] 0) }
  unfold Builtin.List.listExtendWith
  have ho' : (s.heap.push (seqObj "list" #[] 0)).get? l = some o := Heap.get?_push_of_some _ ho
  refine wpAny_bind (wpAny_typeOf (T := "tuple") ⟨o, ho', hc⟩ ?_)
  have ht : (Value.type "tuple" == Value.type "tuple") = true := by rfl
  rw [if_pos (by rw [ht]; simp)]
  refine wpAny_bind (listItems_at ho' hd ?_)
  refine wpAny_bind (listItems_at (xs := #[]) (n := 0) (Heap.get?_push_size _ rfl) rfl ?_)
  rw [if_neg (by simp)]
  refine wpAny_bind (listUpdate_at (xs := #[]) (n := 0) (Heap.get?_push_size _ rfl) rfl ?_ (Nat.zero_le _) (by show (#[] ++ vs.toArray).size ≤ sizeLine + 1; simp only [Array.size_append, List.size_toArray, List.length_nil]; omega))
  refine wpAny_pure ?_
  show wpAny (model prog w) A (do
      let o ← load s.heap.objs.size
      match o.data with
      | .seq xs _ => pure xs.toList
      | _ => unsupported "internal:collect") Q E { s with heap := (s.heap.push (seqObj "list" #[] 0)).update s.heap.objs.size (Obj.mapSeq (· ++ vs.toArray)) }
  refine wpAny_bind (wpAny_load (get?_update_seq (Heap.get?_push_size _ rfl) _) ?_)
  show wpAny _ _ (pure ((#[] : Array Value) ++ vs.toArray).toList) Q E _
  rw [show ((#[] : Array Value) ++ vs.toArray).toList = vs by simp]
  exact wpAny_pure h
open PySem.W PySem.Calls in
theorem sorted_tup {l : Addr} {vs : List Value} {Q : Value → Shared → Prop} (hl : IsTup s.heap l vs.toArray) (e : EachIs R vs bs) (er : EachIs (fun v b => ∃ as, Reads s.heap v (enc b) as) vs bs) (hal : AllAlike (bs.map enc)) (hk : Sortable (bs.map enc)) (hL : bs.length ≤ sizeLine)
    (hu : ∀ b, b ∈ bs → A.units + 2 + (enc b).depth < cLine) (h : ∀ out, out.length = bs.length → EachIs R out (bs.mergeSort (dataLe false enc)) → Q (.ref (s.heap.objs.size + 1)) { s with heap := sortedAll s.heap vs (List.toArray out) }) :
    wpAny (model prog w) A (call (.builtin "sorted") [.ref l]) Q E s := by
  have er' : EachIs (fun v b => ∃ as, Reads (sortingHeap (copyHeap s.heap vs) (s.heap.objs.size + 1) vs) v (enc b) as) vs bs := er.mono fun _ _ ⟨as, r⟩ => ⟨as, PyProof.Rows.Reads.keeps (fun _ _ => sorting_copy_old) r⟩
  have hL' : vs.length ≤ sizeLine := by rw [e.length]; exact hL
  have S := SortsAt.data (prog := prog) (w := w) (A := A.in1.in1) (s := { s with heap := sortingHeap (copyHeap s.heap vs) (s.heap.objs.size + 1) vs }) (each_map (R := fun v d => ∃ as, Reads (sortingHeap (copyHeap s.heap vs) (s.heap.objs.size + 1) vs) v d as) enc er') hal hk (bound_map hu)
  refine call_function_entry_kw kind_sorted plain_sorted entry_sorted (args_sorted1 _) ?_
  unfold Builtin.«sorted»
  refine wpAny_bind (m := checkCount "sorted" 1 1 _) (wpAny_pure ?_)
  refine wpAny_bind (tup_items hl ?_ hL')
  refine wpAny_bind (wpAny_newList ?_ hL')
  have hsz : ((s.heap.push (seqObj "list" #[] 0)).update s.heap.objs.size (Obj.mapSeq (· ++ vs.toArray))).objs.size = s.heap.objs.size + 1 := by
    rw [Heap.size_update, size_push']
  show wpAny _ _ _ _ _ { s with heap := copyHeap s.heap vs }
  rw [hsz]
  refine wpAny_bind (wpAny_holding (wpAny_call_entry_kw slot_list_sort ⟨_, copyHeap_at s.heap vs, rfl⟩ entry_list_sort ?body (args_list_sort _)))
  case body =>
    show wpAny (model prog w) A.in1.in1 (Builtin.«list.sort» ⟨[.ref (s.heap.objs.size + 1)], []⟩) _ _ _
    refine wpAny_mono (list_sort_vals (s := { s with heap := copyHeap s.heap vs }) (P := fun f s' => f = .done (.ret .none) ∧ Q (.ref (s.heap.objs.size + 1)) s') (copyHeap_at s.heap vs) S hL' ⟨rfl, h _ (by rw [sortVals_length false rfl]; exact e.length) (sortVals_data false e er' hal)⟩) (fun f s' hf => ?_) fun _ _ e => e
    obtain ⟨rfl, hq⟩ := hf
    exact ⟨_, rfl, wpAny_pure ⟨_, rfl, hq⟩⟩
end
section
variable {X : Cx} {C : Ct}
def ShowV (X : Cx) (C : Ct) (n : Nw) : Value → Dat → Prop := fun u d => ∃ v, RelV v u ∧ FzN C X.w X.K n v d
theorem each_of {n : Nw} : ∀ {us : List Value} {vs : List V} {ds : List Dat}, Vals vs us → FzAllN C X.w X.K n vs ds → PySem.W.EachIs (ShowV X C n) us ds
  | _, _, [], r, z => by cases z; cases r; exact .nil
  | _, _, d :: ds, r, z => by
    cases z with
    | cons a b =>
      cases r with
      | cons r1 r2 => exact .cons ⟨_, r1, a⟩ (each_of r2 b)
theorem of_each {n : Nw} : ∀ {us : List Value} {ds : List Dat}, PySem.W.EachIs (ShowV X C n) us ds → ∃ vs, Vals vs us ∧ FzAllN C X.w X.K n vs ds
  | _, _, .nil => ⟨[], .nil, .nil⟩
  | _, _, .cons ⟨v, r, z⟩ t => by
    obtain ⟨vs, h1, h2⟩ := of_each t
    exact ⟨v :: vs, .cons r h1, .cons z h2⟩
theorem each_rd {pins : List (Addr × Obj)} {σ : L2.St} {s : Shared} {n : Nw} {m : Mem} (I : Inv X pins σ n.H s) (g : Good C X.w X.K n m) (ns : NoSys X.K) (k : Nat) : ∀ {us : List Value} {ds : List Dat}, PySem.W.EachIs (ShowV X C n) us ds → ds.all (okR k) = true →
    PySem.W.EachIs (fun v b => ∃ as, Reads s.heap v (py b) as) us ds
  | _, _, .nil, _ => .nil
  | _, _, .cons ⟨v, r, z⟩ t, h => by
    rw [List.all_cons, Bool.and_eq_true] at h
    obtain ⟨as, r1, _⟩ := fz_rd I g ns k z r h.1
    exact .cons ⟨as, r1⟩ (each_rd I g ns k t h.2)
def rSortN (X : Cx) (C : Ct) : List V → Hp → VK → Prop := fun vs H Q => ∃ B n env m σ v x ds, n.H = H ∧ Ok C X.w X.K B n env m σ ∧ vs = [v] ∧ LvOk C X.w X.K n env σ v x ∧ seqOf env m x = some ds ∧ sortOk ds ∧
  ∀ p us, H p = none → FzAllN C X.w X.K n us (sortD ds) → Q (.ref p) (upd H p (.lst us))
theorem call_sortN (hu : X.A.units + 64 < cLine) (ns : NoSys X.K) : CallR X (.builtin "sorted") (rSortN X C) := by
  intro pins s σ H vs us Q I rv h
  obtain ⟨B, n, env, m, σ', v, x, ds, rfl, ok, rfl, lx, hs, ⟨o1, o2, o3⟩, q⟩ := h
  obtain ⟨a, zs, rfl, hsq, hz⟩ := seq_ok ok lx hs
  rw [Vals.ref1 rv]
  have dep : ∀ b, b ∈ ds → X.A.units + 2 + (py b).depth < cLine := fun b hb => by
    have := (okR_show 30 b (List.all_eq_true.mp o3 b hb)).2
    omega
  have fin : ∀ its : List Value, Vals zs its → zs.length ≤ sizeLine → ∀ out : List Value, out.length = ds.length → PySem.W.EachIs (ShowV X C n) out (ds.mergeSort (PySem.W.dataLe false py)) →
      EP X pins σ Q (.ref (s.heap.objs.size + 1)) { s with heap := sortedAll s.heap its (List.toArray out) } := fun its r hl out ho eo => by
    obtain ⟨ws, r2, z2⟩ := of_each eo
    obtain ⟨ep, he'⟩ := PyProof.Rows.sortedAll_at s.heap its (List.toArray out)
    have hlen : ws.length ≤ sizeLine := by
      rw [r2.length, ho, ← hz.length]; exact hl
    exact ⟨.ref _, upd n.H (s.heap.objs.size + 1) (.lst ws), I.laid (t' := s.toks) (fun _ _ => PyProof.Rows.sortedAll_old) (Nat.le_succ _) ⟨hlen, out, ep, r2, he'⟩, rfl, q _ ws (I.hok.fresh (Nat.le_succ _)) z2⟩
  rcases hsq with hsq | hsq
  · obtain ⟨its, r, hl, hzl⟩ := I.list hsq
    have e := each_of (X := X) (C := C) r hz
    exact PySem.W.sorted_data hl.isList e (each_rd I ok.good ns 30 e o3) o1 o2 (by rw [← hz.length]; exact hzl) dep (fin its r hzl)
  · obtain ⟨its, r, hl, hzl⟩ := I.tuple hsq
    have e := each_of (X := X) (C := C) r hz
    exact sorted_tup hl e (each_rd I ok.good ns 30 e o3) o1 o2 (by rw [← hz.length]; exact hzl) dep (fin its r hzl)
def nSort (da : TD) : TN := fun env m Q => da env m fun x m1 => match seqOf env m1 x with
  | some ds => sortOk ds ∧ Q (sortD ds) m1
  | none => False
theorem dn_sorted {B : Nw} {a : Expr} {da : TD} {p pos : Pos} (hu : X.A.units + 64 < cLine) (ns : NoSys X.K) (hg : Gl X "sorted") (hm : X.mg "sorted" = none) (hv : bootBuiltins "sorted" = some (.builtin "sorted")) (ha : DE X C B a da)
    (he : starEach [a] X.env = (false, eval a X.env) :: starEach [] X.env := by rfl) (hpl : (backTo pos (starEach [] X.env)).any (·.1) = false := by rfl) : DN X C B (.Call (.Name "sorted" p) [a] [] pos) (nSort da) := by
  refine ⟨fun env m Q Q' i h => ha.mono _ _ _ _ (fun x m1 h1 => ?_) h, imp (pe_callB (call_sortN (C := C) hu ns) hg hm hv (pa_cons ha.run pa_nil he) (by decide) (by decide) he hpl) ?_⟩
  · split at h1
    · exact ⟨h1.1, i _ _ h1.2⟩
    · exact h1.elim
  rintro σ H Q ⟨n, env, m, rfl, ok, h⟩
  refine ⟨n, env, m, rfl, ok, ha.mono _ _ _ _ (fun x m1 h1 n1 v g1 l1 lx => ?_) h⟩
  split at h1
  · rename_i ds hds
    exact ⟨B, n1, env, m1, σ, v, x, ds, rfl, ok.go g1 l1, rfl, lx, hds, h1.1, fun p us hp hu => h1.2 n1 p us g1 l1 hp hu⟩
  · exact h1.elim
end
end DL

set_option maxHeartbeats 1000000
namespace DL
open PySem PySem.Spec PyProof.Rows L2

set_option maxHeartbeats 1000000 in
theorem enum_new0 {v : Value} {o : Obj} {H : Heap → Prop} (B : Begins v o H) :
    Meets (Builtin.«enumerate.__new__» ⟨[.type "enumerate", v], []⟩) (fun _ R s => H s.heap ∧
      R (.ok (.ret (.ref (s.heap.push o).objs.size))) { s with heap := (s.heap.push o).push { cls := .type "enumerate", data := .fields #[.none, .bool false, .ref s.heap.objs.size, rawInt 0, .none, .none] } }) :=
  .of_wp fun prog w A R s h => by
    obtain ⟨hp, g, d, tk, os⟩ := s; obtain ⟨h1, h⟩ := h
    have hsub := sub_enumerate
    have q1 : ∀ {A' : Around} {E : Value → Shared → Prop} {Q : Value → Shared → Prop}, Q (.ref hp.objs.size) ⟨hp.push o, g, d, tk, os⟩ → wpAny (model prog w) A' (pyIter v) Q E ⟨hp, g, d, tk, os⟩ :=
      fun q => B.iter prog w _ _ ⟨hp, g, d, tk, os⟩ _ h1 q
    wp_walk using q1
    refine wpAny_stack_any fun st => wpAny_pure ?_
    split
    · rename_i c _ _ _ _ _
      cases (c == Value.type "enumerate")
      · wp_walk using q1
        exact ⟨_, rfl, h⟩
      · wp_walk using q1
        exact ⟨_, rfl, h⟩
    · wp_walk using q1
      exact ⟨_, rfl, h⟩
theorem enum_begins0 {prog : Program} {w : World} {A : Around} {E : Value → Shared → Prop} {s : Shared} {v : Value} {o : Obj} {H : Heap → Prop} {Q : Value → Shared → Prop} (B : Begins v o H) (h1 : H s.heap)
    (h : ∀ h', IsEnum h' (s.heap.objs.size + 1) s.heap.objs.size 0 .none → h'.get? s.heap.objs.size = some o → h'.objs.size = s.heap.objs.size + 2 →
      (∀ b o, s.heap.get? b = some o → h'.get? b = some o) → Q (.ref (s.heap.objs.size + 1)) { s with heap := h' }) :
    wpAny (model prog w) A (call (.type "enumerate") [v]) Q E s := by
  refine callType_new F.called_enumerate (by decide) (F.typeCall_enumerate_1 _) (F.newCall_enumerate_1 _) (fun obj => F.args_object_init_2 obj _) F.entry_enumerate_new
    (enum_new0 B) ⟨h1, ?_⟩
  have hz : (s.heap.push o).objs.size = s.heap.objs.size + 1 := Heap.size_push ..
  show _ ∧ _
  rw [hz]
  have he : IsEnum ((s.heap.push o).push { cls := .type "enumerate", data := .fields #[.none, .bool false, .ref s.heap.objs.size, rawInt 0, .none, .none] }) (s.heap.objs.size + 1) s.heap.objs.size 0 .none := by
    have := Heap.get?_push_size (s.heap.push o) (o := { cls := .type "enumerate", data := .fields #[.none, .bool false, .ref s.heap.objs.size, rawInt 0, .none, .none] }) rfl
    rw [hz] at this; exact this
  refine ⟨⟨_, he, rfl⟩, h _ he (Heap.get?_push_of_some _ (Heap.get?_push_size _ B.free)) (by rw [Heap.size_push, hz]) fun b o x => Heap.get?_push_of_some _ (Heap.get?_push_of_some _ x)⟩
def IteT (K : PySem.W.Frag) (a : Addr) : It :=
  ⟨fun i H => ∃ (xs : List V) (x : V), SqT K H a xs ∧ xs[i]? = some x, fun i H v H' => ∃ T x, v = .ref T ∧ H T = none ∧ H' = upd H T (.tup [.int (i : Nat), x]) ∧ ∀ xs, SqT K H a xs → xs[i]? = some x, fun i H => ∃ xs : List V, SqT K H a xs ∧ xs.length ≤ i⟩
theorem turn_enumT {P : Program} {w : World} {K : PySem.W.Frag} {elts : List Expr} {kk : Nat} {tpos : Pos} (a e it : Addr) :
    Turn P w K (.Tuple elts kk tpos) (IteT K a) [e, it] e (fun i h => (∃ old, IsEnum h e it ((i : Nat) : Int) old) ∧ h.IsTupleIter it a i ∧ e ≠ it ∧ e ≠ a ∧ a ≠ it) where
  mem := by simp
  obj := fun i h st b hb => by
    obtain ⟨⟨old, he⟩, ⟨o, ho, hc, hd⟩, _⟩ := st
    have e' : b = e ∨ b = it := by simpa using hb
    rcases e' with z | z
    · rw [z]; exact ⟨_, he, fun v q => nomatch q⟩
    · rw [z]; exact ⟨o, ho, fun v q => by rw [hd] at q; cases q⟩
  keep := fun i h h' st k => let ⟨⟨old, he⟩, hi, hne⟩ := st; ⟨⟨old, k e (by simp) _ he⟩, hi.at fun o q => k it (by simp) o q, hne⟩
  item := by
    intro X hP hw hK hc i pins s σ H E I hf st hg
    subst hP hw hK
    obtain ⟨⟨old, he⟩, hit, hne, hea, hai⟩ := st
    obtain ⟨xs, x, hq, hx⟩ := hg
    obtain ⟨its, rv, p, hz⟩ := I.tuple hq
    obtain ⟨u, hu, ru⟩ := rv.get hx
    have hel : e < s.heap.objs.size := Heap.lt_size he
    have hil : it < s.heap.objs.size := by obtain ⟨_, q, _⟩ := hit; exact Heap.lt_size q
    have hh : X.A.in1.handled = none := I.ok.hd hc
    have hlt : i < its.toArray.size := by
      have := (List.getElem?_eq_some_iff.mp hu).1
      simpa using this
    refine wpAny_pyNext_enum_itemD (Draws.tuple hh it a hai its.toArray) he ⟨hit, p⟩ hlt hne (by simp [hne, hea]) fun y h' tk hy ho hit' hT hsz hk => ?_
    have hy' : its.toArray[i]? = some y := hy
    have hyu : y = u := by
      have e1 : its.toArray[i]? = some u := by simpa using hu
      rw [hy'] at e1
      exact Option.some.inj e1
    subst hyu
    refine ⟨_, rfl, wpAny_letOwnedTupleGo_enum (s := { s with heap := h', toks := tk + 1 }) ho fun h'' he' sb => ?_⟩
    have hT2 : h''.get? s.heap.objs.size = some { cls := .type "tuple", data := .seq #[.int i tk, y] } := (sb.2 _ (Nat.ne_of_gt hel)).trans hT
    have new : ObjOk X.prog X.w (upd H s.heap.objs.size (.tup [.int (i : Nat), x])) h'' s.heap.objs.size (.tup [.int (i : Nat), x]) :=
      ⟨by show 2 ≤ sizeLine; decide, [.int i tk, y], .cons ⟨_, rfl⟩ (.cons ru .nil), ⟨_, hT2, rfl, _, rfl⟩⟩
    have I1 : Inv X pins σ (upd H s.heap.objs.size (.tup [.int (i : Nat), x])) { s with heap := h'', toks := tk + 1 } :=
      I.turnedNew (ch := [e, it]) (fun b ob hb q => (sb.2 b (fun z => hb (by simp [z]))).trans (hk b ob (fun z => hb (by simp [z])) (fun z => hb (by simp [z])) q)) hf (Nat.le_refl _) new
    refine ⟨.ref s.heap.objs.size, _, I1, rfl, ⟨_, x, rfl, I.hok.fresh (Nat.le_refl _), rfl, fun ys hy => by rw [I.tuple_inj hy hq]; exact hx⟩, ⟨⟨y, ?_⟩, hit'.1.at fun o q => (sb.2 it (Ne.symm hne)).trans q, hne, hea, hai⟩, fun b hb => ?_⟩
    · have e1 : ((i + 1 : Nat) : Int) = (i : Int) + 1 := by omega
      rw [e1]; exact he'
    · have hb' : b < s.heap.objs.size := by
        have e' : b = e ∨ b = it := by simpa using hb
        rcases e' with z | z
        · rw [z]; exact hel
        · rw [z]; exact hil
      rw [upd_ne (Nat.ne_of_lt hb')]
      exact (hf b hb).1
  done := by
    intro X hP hw hK hc i pins s σ H E I hf st hg
    subst hP hw hK
    obtain ⟨⟨old, he⟩, hit, hne, hea, hai⟩ := st
    obtain ⟨xs, hq, hx⟩ := hg
    obtain ⟨its, rv, p, hz⟩ := I.tuple hq
    obtain ⟨f0, f1, f2, f3, f4, f5⟩ := hf it (by simp)
    have hl := rv.length
    have hh : X.A.in1.handled = none := I.ok.hd hc
    have hx' : its.toArray[i]? = none := by simp; omega
    have D : Draws X.prog X.w X.A.in1 it [it, a] i (fun _ _ => False) (fun j h => j = i ∧ h.IsTupleIter it a i ∧ h.IsTuple a its.toArray) :=
      { live := fun _ _ st => let ⟨o, ho, _⟩ := st.2.1; ⟨o, ho⟩
        frame := fun _ _ _ st hk => ⟨st.1, st.2.1.at fun o e => hk it (by simp) o e, st.2.2.at fun o e => hk a (by simp) o e⟩
        item := fun j s Q E hj st _ => absurd st.1 (by omega)
        done := fun s Q E st hE => wpAny_nextOf_tuple_end hh st.2.1 st.2.2 hx' hE }
    exact wpAny_pyNext_enum_endD D he ⟨rfl, hit, p⟩ fun h' eb => ⟨rfl, I.turned (t' := s.toks) (fun b o hb q => eb b o hb q) f0 f1 f3 f4 f5⟩
  self := fun A i s Q E st h => let ⟨⟨_, he⟩, _⟩ := st; wpAny_pyIter_enum he h
theorem pi_enumA {X : Cx} {e : Expr} {ta : TA} {p pos tpos : Pos} {elts : List Expr} {kk : Nat} (hg : Gl X "enumerate") (hm : X.mg "enumerate" = none) (ha : PA X [e] ta) (hs : starEach [e] X.env = [(false, eval e X.env)] := by rfl) :
    PI X (.Tuple elts kk tpos) (.Call (.Name "enumerate" p) [e] [] pos) (fun σ H R => ta σ H fun vs H1 => ∃ a xs, vs = [.ref a] ∧ ((SqL X.K H1 a xs ∧ R (Ite X.K a) H1) ∨ (SqT X.K H1 a xs ∧ R (IteT X.K a) H1))) := by
  refine ⟨fun pins s σ H R I h => ?_⟩
  refine Call_ (ld_blt I hg hm boot_enumerate (PyProof.Rows.callWith_type1 (thn (ha.run pos pins s σ H _ I h) fun us s1 ⟨vs, H1, I1, r1, q1⟩ => ?_) hs rfl))
  obtain ⟨a, xs, ex, q1⟩ := q1
  subst ex
  cases r1 with
  | cons r rr =>
    cases rr
    cases r
    have fr2 : ∀ b, b ∈ [s1.heap.objs.size + 1, s1.heap.objs.size] → FpOk X pins H1 b := fun b hb => by
      have e' : b = s1.heap.objs.size + 1 ∨ b = s1.heap.objs.size := by simpa using hb
      have hle : s1.heap.objs.size ≤ b := by
        rcases e' with z | z
        · rw [z]; exact Nat.le_add_right _ _
        · rw [z]; exact Nat.le_refl _
      exact I1.fpOk hle (I1.hok.fresh hle)
    rcases q1 with ⟨hq, q⟩ | ⟨hq, q⟩
    · obtain ⟨its, rv, p', hz⟩ := I1.list hq
      refine call_enumerate_list p'.isList fun h' he hit hsz hk => wpAny_pyIter_enum he ?_
      exact ⟨s1.heap.objs.size + 1, [s1.heap.objs.size + 1, s1.heap.objs.size], _, _, H1, rfl, I1.kept (t' := s1.toks) hk, turn_enum a (s1.heap.objs.size + 1) s1.heap.objs.size, ⟨⟨.none, he⟩, hit, Nat.succ_ne_self _⟩, fr2, q⟩
    · obtain ⟨its, rv, p', hz⟩ := I1.tuple hq
      have lt : a < s1.heap.objs.size := by obtain ⟨_, e, _⟩ := id p'; exact Heap.lt_size e
      refine enum_begins0 (begins_tuple a its.toArray) p' fun h' he hit hsz hk => wpAny_pyIter_enum he ?_
      exact ⟨s1.heap.objs.size + 1, [s1.heap.objs.size + 1, s1.heap.objs.size], _, _, H1, rfl, I1.kept (t' := s1.toks) hk, turn_enumT a (s1.heap.objs.size + 1) s1.heap.objs.size,
        ⟨⟨.none, he⟩, ⟨_, hit, rfl, rfl⟩, Nat.succ_ne_self _, Nat.ne_of_gt (Nat.lt_succ_of_lt lt), Nat.ne_of_lt lt⟩, fr2, q⟩
theorem walk_enumT {K : PySem.W.Frag} {a : Addr} {xs : List V} : Walk (IteT K a) xs.length (fun H => SqT K H a xs) (YPair (fun i => some (.int (i : Nat))) (fun i => xs[i]?)) := by
  refine ⟨fun i _ hi q => ⟨xs, xs[i], q, by simp [hi]⟩, fun _ q => ⟨xs, q, Nat.le_refl _⟩, fun i H v H' _ q y => ?_⟩
  obtain ⟨T, x, h1, h2, h3, h4⟩ := y
  exact ⟨T, .int (i : Nat), x, h1, h2, h3, rfl, h4 xs q⟩
theorem walk_zipT {K : PySem.W.Frag} {a b : Addr} {xs ys : List V} {n : Nat} (hn : n = min xs.length ys.length) : Walk (RZ.ItzT K a b) n (fun H => SqT K H a xs ∧ SqT K H b ys) (YPair (fun i => xs[i]?) (fun i => ys[i]?)) := by
  subst hn
  refine ⟨fun i _ hi q => ?_, fun _ q => ⟨xs, ys, q.1, q.2, by omega⟩, fun i H v H' _ q y => ?_⟩
  · have h1 : i < xs.length := by omega
    have h2 : i < ys.length := by omega
    exact ⟨xs, ys, xs[i], ys[i], q.1, q.2, by simp [h1], by simp [h2]⟩
  · obtain ⟨T, x, z, h1, h2, h3, h4, h5⟩ := y
    exact ⟨T, x, z, h1, h2, h3, h4 xs q.1, h5 ys q.2⟩
def enumD : Nat → List Dat → List Dat
  | _, [] => []
  | i, x :: xs => .tup [.int (i : Nat), x] :: enumD (i + 1) xs
def zipD : List Dat → List Dat → List Dat
  | x :: xs, y :: ys => .tup [x, y] :: zipD xs ys
  | _, _ => []
theorem enumD_len : ∀ (i : Nat) (xs : List Dat), (enumD i xs).length = xs.length
  | _, [] => rfl
  | i, x :: xs => by rw [enumD, List.length_cons, List.length_cons, enumD_len]
theorem enumD_get : ∀ (xs : List Dat) (k i : Nat), (enumD k xs)[i]? = xs[i]?.map fun x => .tup [.int ((k + i : Nat) : Int), x]
  | [], _, _ => by simp [enumD]
  | x :: xs, k, 0 => by simp [enumD]
  | x :: xs, k, i + 1 => by
    have := enumD_get xs (k + 1) i
    rw [enumD, List.getElem?_cons_succ, List.getElem?_cons_succ, this, show k + 1 + i = k + (i + 1) by omega]
theorem zipD_len : ∀ (xs ys : List Dat), (zipD xs ys).length = min xs.length ys.length
  | [], _ => by simp [zipD]
  | x :: xs, [] => by simp [zipD]
  | x :: xs, y :: ys => by simp [zipD, zipD_len xs ys]
theorem zipD_get : ∀ (xs ys : List Dat) (i : Nat) (x y : Dat), xs[i]? = some x → ys[i]? = some y → (zipD xs ys)[i]? = some (.tup [x, y])
  | [], _, _, _, _, h, _ => by simp at h
  | x :: xs, [], _, _, _, _, h => by simp at h
  | x :: xs, y :: ys, 0, a, b, h, h' => by simp at h h'; simp [zipD, h, h']
  | x :: xs, y :: ys, i + 1, a, b, h, h' => by simp at h h'; simp [zipD, zipD_get xs ys i a b h h']
section
variable {X : Cx} {C : Ct} {B : Nw} {w : World} {K : PySem.W.Frag} {n : Nw} {m : Mem} {e e2 : Expr} {d d2 : TD}
theorem new_pair {n' : Nw} {T : Addr} {x y : V} {a b : Dat} (g : Good C w K n' m) (hT : n'.H T = none) (ha : FzN C w K n' x a) (hb : FzN C w K n' y b) :
    ∃ n'' : Nw, n''.H = upd n'.H T (.tup [x, y]) ∧ Good C w K n'' m ∧ n'.le n'' ∧ FzN C w K n'' (.ref T) (.tup [a, b]) := by
  obtain ⟨g2, l2⟩ := g.freeze (o := .tup [x, y]) hT
  exact ⟨_, rfl, g2, l2, .tup (SqT.of upd_same) (.cons (FzN.le ha l2) (.cons (FzN.le hb l2) .nil))⟩
theorem walkD_pairs {J : It} {xs : List Dat} {us vs : Nat → Option V} {Gp : Hp → Prop} (wk : Walk J xs.length Gp (YPair us vs)) (hG : ∀ n' m', n.sub n' → Good C w K n' m' → Gp n'.H)
    (hv : ∀ i x y, i < xs.length → us i = some x → vs i = some y → ∃ a b, xs[i]? = some (.tup [a, b]) ∧ FzN C w K n x a ∧ FzN C w K n y b) : WalkD C w K n J xs := by
  refine ⟨Gp, _, wk, fun n' m' s g => ⟨hG n' m' s g, fun i v H' hi hy => ?_⟩⟩
  obtain ⟨T, x, y, rfl, hT, rfl, h1, h2⟩ := hy
  obtain ⟨a, b, h3, h4, h5⟩ := hv i x y hi h1 h2
  obtain ⟨n'', e1, g2, l2, z⟩ := new_pair g hT (Fz.keep s.g (pre_get s.l) h4) (Fz.keep s.g (pre_get s.l) h5)
  exact ⟨n'', _, e1, g2, l2, h3, z⟩
def iEnumD (d : TD) : TId := fun env m Q => d env m fun x m1 => match x with
  | .f (.lst xs) => Q (enumD 0 xs) m1
  | .f (.tup xs) => Q (enumD 0 xs) m1
  | _ => False
theorem walkE {J : It} {xs : List Dat} {vs : List V} {Gp : Hp → Prop} (wk : Walk J vs.length Gp (YPair (fun i => some (.int (i : Nat))) (fun i => vs[i]?))) (hG : ∀ n' m', n.sub n' → Good C w K n' m' → Gp n'.H) (z : FzAllN C w K n vs xs) : WalkD C w K n J (enumD 0 xs) := by
  have hl := z.length
  refine walkD_pairs (by rw [enumD_len, ← hl]; exact wk) hG fun i x y hi h1 h2 => ?_
  cases h1
  obtain ⟨b, h3, h4⟩ := z.get' h2
  exact ⟨.int (i : Nat), b, by rw [enumD_get, h3, Nat.zero_add]; rfl, .int _, h4⟩
theorem di_enum {elts : List Expr} {kk : Nat} {tpos p pos : Pos} (hg : Gl X "enumerate") (hm : X.mg "enumerate" = none) (h : DE X C B e d) (hs : starEach [e] X.env = [(false, eval e X.env)] := by rfl) : DI X C B (.Tuple elts kk tpos) (.Call (.Name "enumerate" p) [e] [] pos) (iEnumD d) := by
  refine ⟨fun env m Q Q' i => h.mono _ _ _ _ fun x m1 => ?_, impI (pi_enumA hg hm (pa_cons h.run pa_nil hs) hs) ?_⟩
  · try dsimp only
    split <;> first | exact i _ _ | exact id
  rintro σ H R ⟨n, env, m, rfl, ok, q⟩
  refine ⟨n, env, m, rfl, ok, h.mono _ _ _ _ (fun x m1 h1 n1 v g1 l1 lx => ?_) q⟩
  split at h1
  · rename_i xs
    have lx : FzN C X.w X.K n1 v (.lst xs) := lx
    cases lx with
    | lst r z =>
      exact ⟨_, _, rfl, .inl ⟨.inl (rdUp g1 r), h1 n1 _ g1 l1 (walkE walk_enum (fun n' m' s g => Or.inl (rdUp g (Rd.keep s.g r))) z)⟩⟩
  · rename_i xs
    have lx : FzN C X.w X.K n1 v (.tup xs) := lx
    cases lx with
    | tup r z =>
      exact ⟨_, _, rfl, .inr ⟨SqT.keep g1.sub r, h1 n1 _ g1 l1 (walkE walk_enumT (fun n' m' s g => SqT.keep g.sub (SqT.keep s.g r)) z)⟩⟩
  · exact h1.elim
def iZipD (d d2 : TD) : TId := fun env m Q => d env m fun x m1 => d2 env m1 fun y m2 => match x, y with
  | .f (.lst xs), .f (.lst ys) => Q (zipD xs ys) m2
  | .f (.tup xs), .f (.tup ys) => Q (zipD xs ys) m2
  | _, _ => False
theorem walkZ {J : It} {xs ys : List Dat} {vs us : List V} {Gp : Hp → Prop} (wk : Walk J (min vs.length us.length) Gp (YPair (fun i => vs[i]?) (fun i => us[i]?))) (hG : ∀ n' m', n.sub n' → Good C w K n' m' → Gp n'.H) (z : FzAllN C w K n vs xs) (z2 : FzAllN C w K n us ys) :
    WalkD C w K n J (zipD xs ys) := by
  have hl := z.length
  have hl2 := z2.length
  refine walkD_pairs (by rw [zipD_len, ← hl, ← hl2]; exact wk) hG fun i x y hi h1 h2 => ?_
  obtain ⟨a, h3, h4⟩ := z.get' h1
  obtain ⟨b, h5, h6⟩ := z2.get' h2
  exact ⟨a, b, zipD_get _ _ _ _ _ h3 h5, h4, h6⟩
theorem di_zip {elts : List Expr} {kk : Nat} {tpos p pos : Pos} (hg : Gl X "zip") (hm : X.mg "zip" = none) (h : DE X C B e d) (h2 : DE X C B e2 d2) (hs : starEach [e, e2] X.env = (false, eval e X.env) :: starEach [e2] X.env := by rfl) (hs2 : starEach [e2] X.env = (false, eval e2 X.env) :: starEach [] X.env := by rfl)
    (hpl : (backTo pos (starEach [e2] X.env)).any (·.1) = false := by rfl) : DI X C B (.Tuple elts kk tpos) (.Call (.Name "zip" p) [e, e2] [] pos) (iZipD d d2) := by
  refine ⟨fun env m Q Q' i => h.mono _ _ _ _ fun x m1 => h2.mono _ _ _ _ fun y m2 => ?_, impI (RZ.pi_zipA hg hm (pa_cons h.run (pa_cons h2.run pa_nil hs2) hs) hs hpl) ?_⟩
  · try dsimp only
    split <;> first | exact i _ _ | exact id
  rintro σ H R ⟨n, env, m, rfl, ok, q⟩
  refine ⟨n, env, m, rfl, ok, h.mono _ _ _ _ (fun x m1 h1 n1 v g1 l1 lx => ?_) q⟩
  refine ⟨n1, env, m1, rfl, ok.go g1 l1, h2.mono _ _ _ _ (fun y m2 q2 n2 u g2 l2 ly => ?_) h1⟩
  split at q2
  · rename_i xs ys
    have lx : FzN C X.w X.K n2 v (.lst xs) := FzN.le (n := n1) lx l2
    have ly : FzN C X.w X.K n2 u (.lst ys) := ly
    cases lx with
    | lst r z =>
      cases ly with
      | lst r' z' =>
        exact ⟨_, _, _, _, rfl, .inl ⟨.inl (rdUp g2 r), .inl (rdUp g2 r'), q2 n2 _ g2 (l1.trans l2) (walkZ (walk_zip rfl) (fun n' m' s g => ⟨Or.inl (rdUp g (Rd.keep s.g r)), Or.inl (rdUp g (Rd.keep s.g r'))⟩) z z')⟩⟩
  · rename_i xs ys
    have lx : FzN C X.w X.K n2 v (.tup xs) := FzN.le (n := n1) lx l2
    have ly : FzN C X.w X.K n2 u (.tup ys) := ly
    cases lx with
    | tup r z =>
      cases ly with
      | tup r' z' =>
        exact ⟨_, _, _, _, rfl, .inr ⟨SqT.keep g2.sub r, SqT.keep g2.sub r', q2 n2 _ g2 (l1.trans l2) (walkZ (walk_zipT rfl) (fun n' m' s g => ⟨SqT.keep g.sub (SqT.keep s.g r), SqT.keep g.sub (SqT.keep s.g r')⟩) z z')⟩⟩
  · exact q2.elim
end
end DL

set_option maxHeartbeats 1000000
namespace DL
open PySem PySem.Spec PyProof.Rows L2

theorem back_ends (n : Nat) : Builtin.Slice.sliceAdjust none none (-1) (n : Int) = ((n : Int) - 1, -1) := by
  unfold Builtin.Slice.sliceAdjust
  simp
theorem back_many (n : Nat) : Builtin.Slice.slicePlaces ((n : Int) - 1) (-1) (-1) = n := by
  unfold Builtin.Slice.slicePlaces
  simp
  split <;> omega
theorem back_pick (xs : Array Value) : ((List.range xs.size).filterMap fun (m : Nat) => xs[(((xs.size : Nat) : Int) - 1 + (m : Int) * (-1)).toNat]?).toArray = xs.toList.reverse.toArray := by
  have key : ∀ (l : List Value) (k : Nat), k ≤ l.length → ((List.range k).filterMap fun (m : Nat) => l[l.length - 1 - m]?) = l.reverse.take k := by
    intro l k
    induction k with
    | zero => intro _; simp
    | succ k ih =>
      intro hk
      rw [List.range_succ, List.filterMap_append, ih (by omega)]
      have h1 : l.length - 1 - k < l.length := by omega
      simp only [List.filterMap_cons, List.filterMap_nil, List.getElem?_eq_getElem h1]
      rw [List.take_succ]
      congr 1
      rw [List.getElem?_reverse (by omega), List.getElem?_eq_getElem h1]
      rfl
  have e : (fun (m : Nat) => xs[(((xs.size : Nat) : Int) - 1 + (m : Int) * (-1)).toNat]?) = fun m => xs.toList[xs.toList.length - 1 - m]? := by
    funext m
    have : (((xs.size : Nat) : Int) - 1 + (m : Int) * (-1)).toNat = xs.toList.length - 1 - m := by simp; omega
    rw [this]
    simp
  rw [e]
  have := key xs.toList xs.toList.length (Nat.le_refl _)
  rw [show xs.size = xs.toList.length by simp, this, List.take_of_length_le (by simp)]
section
variable {prog : Program} {w : World} {A : Around} {E : Value → Shared → Prop} {s : Shared}
theorem back_applied {sl : Addr} {vs : Value} {n : Nat} {Q : Int × Int × Nat → Shared → Prop} (hs : s.heap.IsSliceOf sl .none .none vs) (ps : IsPart vs (some (-1)))
    (h : Q ((n : Int) - 1, -1, n) s) : wpAny (model prog w) A (Builtin.Slice.sliceApplied (.ref sl) (pure (n : Int))) Q E s := by
  obtain ⟨os, hos, hcs, hds⟩ := id hs
  unfold Builtin.Slice.sliceApplied Builtin.Slice.sliceFields
  refine wpAny_bind (wpAny_bind (wpAny_field hos hds (x := .none) rfl (wpAny_bind (wpAny_field hos hds (x := .none) rfl (wpAny_bind (wpAny_field hos hds (x := vs) rfl (wpAny_pure ?_)))))))
  refine wpAny_bind (HT.slicePart_ ps ?_)
  show wpAny _ _ (if ((-1 : Int) == 0) = true then _ else _) _ _ s
  rw [if_neg (by decide)]
  refine wpAny_bind (HT.slicePart_ .none (wpAny_bind (HT.slicePart_ .none (wpAny_bind (wpAny_pure ?_)))))
  show wpAny _ _ (match Builtin.Slice.sliceAdjust none none (-1) (n : Int) with | (lo, hi) => pure (lo, (-1 : Int), Builtin.Slice.slicePlaces lo hi (-1))) _ _ s
  rw [back_ends n]
  show wpAny _ _ (pure ((n : Int) - 1, (-1 : Int), Builtin.Slice.slicePlaces ((n : Int) - 1) (-1) (-1))) _ _ s
  rw [back_many]
  exact wpAny_pure h
theorem tuple_back {t sl : Addr} {items : Array Value} {vs : Value} {Q : Value → Shared → Prop} (ht : IsTup s.heap t items) (hs : s.heap.IsSliceOf sl .none .none vs) (ps : IsPart vs (some (-1)))
    (h : Q (.ref s.heap.objs.size) { s with heap := s.heap.push { cls := .type "tuple", data := .seq items.toList.reverse.toArray } })
    (hsz : items.size ≤ sizeLine) : wpAny (model prog w) A (getItem (.ref t) (.ref sl)) Q E s := by
  have htake : sizeOk (.seq items.toList.reverse.toArray) := by
    show items.toList.reverse.toArray.size ≤ sizeLine
    simpa using hsz
  obtain ⟨os, hos, hcs, hds⟩ := id hs
  have hTs : s.TypeIs (.ref sl) "slice" := ⟨os, hos, hcs⟩
  unfold getItem
  try with_reducible refine wpAny_holding ?_
  first | refine wpAny_bind (wpAny_pure ?_) | skip
  refine wpAny_bind (wpAny_sequenceKey ht.typeIs (by decide) ?_)
  refine wpAny_bind (wpAny_callSpecial?_slot (name := Str.ofString "__getitem__") ht.typeIs PyProof.Rows.slot_tuple_getitem
    (wpAny_call_entry PyProof.Rows.slot_tuple_getitem ht.typeIs entry_tuple_getitem ?_ (args_tuple_getitem _ _)))
  show wpAny _ _ (Builtin.Tuple.tupleItemsOf (.ref t) >>= _) _ _ s
  refine wpAny_bind (tupleItemsOf_ ht ?_)
  refine wpAny_bind (wpAny_typeOf hTs ?_)
  rw [if_pos (by decide)]
  refine wpAny_bind (back_applied hs ps ?_)
  have hno : ¬ ((((items.size : Int) - 1) == 0 && (-1 : Int) == 1 && items.size == items.size) = true) := by
    rw [show ((-1 : Int) == 1) = false by decide, Bool.and_false, Bool.false_and]
    exact Bool.false_ne_true
  show wpAny _ _ (if (((items.size : Int) - 1) == 0 && (-1 : Int) == 1 && items.size == items.size) = true then _ else _) _ _ s
  rw [if_neg hno, back_pick]
  first
    | exact wpAny_bind (m := Builtin.Tuple.tupleExact _) (wpAny_newObj_type (wpAny_pure ⟨_, rfl, wpAny_pure h⟩) htake)
    | exact wpAny_bind (m := Builtin.Tuple.tupleExact _) (wpAny_newObj_type (wpAny_bind (wpAny_pure (wpAny_pure ⟨_, rfl, wpAny_pure h⟩))) htake)
    | exact wpAny_bind (wpAny_bind (m := Builtin.Tuple.tupleExact _) (wpAny_newObj_type (wpAny_pure (wpAny_pure ⟨_, rfl, wpAny_pure h⟩)) htake))
    | exact wpAny_bind (wpAny_bind (m := Builtin.Tuple.tupleExact _) (wpAny_newObj_type (wpAny_pure ⟨_, rfl, wpAny_pure h⟩) htake))
end
section
variable {X : Cx} {C : Ct} {B : Nw} {e : Expr} {d : TD}
theorem pe_back {te : TE} {k : Nat} {p1 p2 p3 pos : Pos} (he : PE X e te) : PE X (.Subscript e (.Slice none none (some (.UnaryOp .USub (.Constant (.int 1) k p1) p2)) p3) pos)
    (fun σ H Q => te σ H fun x H1 => ∃ a xs, x = .ref a ∧ ((SqL X.K H1 a xs ∧ ∀ p, H1 p = none → Q (.ref p) (upd H1 p (.lst xs.reverse))) ∨ (SqT X.K H1 a xs ∧ ∀ p, H1 p = none → Q (.ref p) (upd H1 p (.tup xs.reverse))))) := by
  refine ⟨fun pins s σ H Q I h => ?_⟩
  refine Subscript_ (thn (he.run pins s σ H _ I h) fun v s1 ⟨x, H1, I1, r1, q1⟩ => ?_)
  obtain ⟨a, xs, ex, q1⟩ := q1
  subst ex
  cases r1
  have hst : PO X (some (.UnaryOp .USub (.Constant (.int 1) k p1) p2)) (tPart (tUn (rU fun i => .int (-i)) (tC (.int 1)))) := po_some (pe_un un_neg pe_int)
  refine wpAny_Slice (thn (po_none.run pins s1 σ H1 (fun o H2 => o = none ∧ H2 = H1) I1 ⟨rfl, rfl⟩) fun vl s2 ⟨l, H2, I2, pl, el, e2⟩ => ?_)
  subst el e2
  refine thn (po_none.run pins s2 σ H2 (fun o H3 => o = none ∧ H3 = H2) I2 ⟨rfl, rfl⟩) fun vu s3 ⟨u, H3, I3, pu, eu, e3⟩ => ?_
  subst eu e3
  refine thn (hst.run pins s3 σ H3 (fun o H4 => o = some (-1) ∧ H4 = H3) I3 ⟨1, rfl, -1, rfl, rfl, rfl⟩) fun vs s4 ⟨o, H4, I4, ps, eo, e4⟩ => ?_
  subst eo e4
  have I5 : Inv X pins σ H4 { s4 with heap := s4.heap.push { cls := .type "slice", data := .fields #[vl, vu, vs] } } := I4.kept (t' := s4.toks) fun b ob q => Heap.get?_push_of_some _ q
  show wpAny (model X.prog X.w) X.A (subscriptTail e (.Slice none none (some (.UnaryOp .USub (.Constant (.int 1) k p1) p2)) p3) (.ref a) (.ref s4.heap.objs.size)) (EP X pins σ Q) X.xe { s4 with heap := s4.heap.push { cls := .type "slice", data := .fields #[vl, vu, vs] } }
  rcases q1 with ⟨hx, q⟩ | ⟨hx, q⟩
  · obtain ⟨its, r, ht, hz⟩ := I5.list hx
    have hlen := r.length
    refine tail_any (ops := [.ref a, .ref s4.heap.objs.size]) ht.isList.typeIs (PySem.slot_list_getitem.lookup) ?_ (by with_unfolding_all rfl)
    refine wpAny_getItem_list_slice ht.isList (Heap.IsSliceOf.new _ vl vu vs) pl pu ps (by decide) ?_ (by rw [List.size_toArray]; omega)
    rw [PySem.W.krv_pick]
    refine ⟨.ref _, _, I5.laid (t' := s4.toks) (o := .lst xs.reverse) (fun b ob q => Heap.get?_push_of_some _ q) (Nat.le_refl _) ?_, rfl, q _ (I5.hok.fresh (Nat.le_refl _))⟩
    exact ⟨by rw [List.length_reverse]; exact hz, _, 0, r.reverse, Heap.get?_push_size _ rfl⟩
  · obtain ⟨its, r, ht, hz⟩ := I5.tuple hx
    have hlen := r.length
    cases pl
    cases pu
    refine tail_any (ops := [.ref a, .ref s4.heap.objs.size]) ht.typeIs (PyProof.Rows.slot_tuple_getitem.lookup) ?_ (by with_unfolding_all rfl)
    refine tuple_back ht (Heap.IsSliceOf.new _ .none .none vs) ps ?_ (by rw [List.size_toArray]; omega)
    refine ⟨.ref _, _, I5.laid (t' := s4.toks) (o := .tup xs.reverse) (fun b ob q => Heap.get?_push_of_some _ q) (Nat.le_refl _) ?_, rfl, q _ (I5.hok.fresh (Nat.le_refl _))⟩
    exact ⟨by rw [List.length_reverse]; exact hz, _, r.reverse, ⟨_, Heap.get?_push_size _ rfl, rfl, _, rfl⟩⟩
def dBack (d : TD) : TD := fun env m Q => d env m fun x m1 => match der env m1 x with
  | some (.lst xs) => Q (.f (.lst xs.reverse)) m1
  | some (.tup xs) => Q (.f (.tup xs.reverse)) m1
  | _ => False
theorem de_back {k : Nat} {p1 p2 p3 pos : Pos} (he : DE X C B e d) : DE X C B (.Subscript e (.Slice none none (some (.UnaryOp .USub (.Constant (.int 1) k p1) p2)) p3) pos) (dBack d) := by
  refine ⟨fun env m Q Q' i q => he.mono _ _ _ _ (fun x m1 h1 => ?_) q, imp (pe_back he.run) ?_⟩
  · try dsimp only at h1 ⊢
    split at h1 <;> first | exact i _ _ h1 | exact h1.elim
  rintro σ H Q ⟨n, env, m, rfl, ok, q⟩
  refine ⟨n, env, m, rfl, ok, he.mono _ _ _ _ (fun x m1 h1 n1 v g1 l1 lx => ?_) q⟩
  have ok1 := ok.go g1 l1
  split at h1
  · rename_i xs hd
    obtain ⟨p, vs, rfl, s1, z1⟩ := lst_ok ok1 lx (xs := xs) (by unfold lstOf; rw [hd])
    refine ⟨p, vs, rfl, .inl ⟨.inl s1, fun q hq => ?_⟩⟩
    obtain ⟨g4, l4⟩ := g1.freeze (o := .lst vs.reverse) hq
    exact h1 _ _ g4 (l1.trans l4) (.lst (Rd.of upd_same) (FzAllN.le (FzAll.reverse z1) l4))
  · rename_i xs hd
    obtain ⟨p, vs, rfl, s1, z1⟩ := tup_ok ok1 lx (xs := xs) (by unfold tupOf; rw [hd])
    refine ⟨p, vs, rfl, .inr ⟨s1, fun q hq => ?_⟩⟩
    obtain ⟨g4, l4⟩ := g1.freeze (o := .tup vs.reverse) hq
    exact h1 _ _ g4 (l1.trans l4) (.tup (SqT.of upd_same) (FzAllN.le (FzAll.reverse z1) l4))
  · exact h1.elim

def dShr (d : TN) : TD := fun env m Q => d env m fun ds m1 => Q (.f (.obj m1.length)) (m1 ++ [.lst ds])
theorem DN.shr {d : TN} (h : DN X C B e d) : DE X C B e (dShr d) := by
  refine ⟨fun env m Q Q' i => h.mono env m _ _ fun ds m1 => i _ _, imp h.run ?_⟩
  rintro σ H Q ⟨n, env, m, rfl, ok, q⟩
  refine ⟨n, env, m, rfl, ok, h.mono _ _ _ _ (fun ds m1 h1 n1 p vs g1 l1 hp hz => ?_) q⟩
  have l : ∀ a o, n1.G a = some o → n1.G a = some o := fun _ _ e => e
  obtain ⟨g2, l2⟩ := g1.newM (o := .lst vs) (x := .lst ds) hp ⟨vs, upd_same, FzAll.keep (fun _ _ e => e) (pre_get (List.prefix_append _ _)) hz⟩
  refine h1 _ _ g2 (l1.trans l2) (.obj ?_)
  show (n1.al ++ [p])[m1.length]? = some p
  rw [g1.len, List.getElem?_append_right (Nat.le_refl _)]
  simp

theorem pe_dct0 {pos : Pos} : PE X (.Dict [] [] pos) (fun _ H Q => ∀ p, H p = none → (p == sysModules) = false → Q (.ref p) (upd H p (dxo p #[]))) := ⟨fun pins s σ H Q I h => by
  have hb := I.big
  exact wpAny_Dict_empty ⟨.ref s.heap.objs.size, _, I.laid (a := s.heap.objs.size) (o := dxo s.heap.objs.size #[]) (t' := s.toks) (fun _ _ q => Heap.get?_push_of_some _ q) (Nat.le_refl _)
    ⟨⟨_, 0, Heap.get?_push_size _ rfl, ⟨rfl, rfl, rfl⟩, rfl⟩, ⟨_, Heap.get?_push_size _ rfl⟩, fun h1 h2 ⟨o, ep, e1, e2, e3⟩ k => ⟨o, ep, k _ e1, e2, e3⟩⟩, rfl, h _ (I.hok.fresh (Nat.le_refl _)) (beq_eq_false_iff_ne.mpr (Ne.symm (Nat.ne_of_lt hb)))⟩⟩
theorem de_dct0 {pos : Pos} : DE X C B (.Dict [] [] pos) (dC (.dct [])) := by
  refine ⟨dC.mono _, imp pe_dct0 ?_⟩
  rintro σ H Q ⟨n, env, m, rfl, ok, q⟩ p hp hs
  obtain ⟨g4, l4⟩ := ok.good.freeze (o := dxo p #[]) hp
  exact q _ _ g4 l4 (.dct upd_same hs .nil)
end
end DL

set_option maxHeartbeats 1000000
namespace DL
open PySem PySem.Spec PyProof.Rows L2

section
variable {C : Ct} {w : World} {K : PySem.W.Frag} {n n1 : Nw} {m : Mem}
theorem refreeze {p : Addr} {o : HO} (l : n.le n1) (hp : n.H p = none) (g : Good C w K n1 m) (hG : n1.G p = none) (hA : p ∉ n1.al) (hc : Calm (n1.H p) := by first | assumption | exact Calm.none (by assumption) | exact Calm.lst (by assumption) | exact Calm.dx (by assumption) | exact Calm.ins (by assumption) | exact Calm.dK (by assumption) | exact Calm.xd (by assumption) | exact Calm.tup (by assumption) | exact Calm.lst upd_same | exact Calm.dx upd_same | exact Calm.dK upd_same | exact Calm.ins upd_same | exact Calm.xd upd_same) : Good C w K ⟨upd n1.G p o, n1.al, upd n1.H p o⟩ m ∧ n.le ⟨upd n1.G p o, n1.al, upd n1.H p o⟩ := by
  have hg : ∀ a u, n1.G a = some u → upd n1.G p o a = some u := fun a u e => by
    rw [upd_ne (fun z => by subst z; rw [hG] at e; cases e)]; exact e
  refine ⟨⟨fun a u e => ?_, g.nd, g.len, fun k x a e1 e2 => ?_, Tabs_upd g.tab hc, tg_upd g.tab hc g.tg⟩, ⟨fun a u e => hg a u (l.g a u e), fun a u e na nt => ?_, fun a e => ?_, fun a e => ?_, l.ale, l.anew⟩⟩
  · have e' : upd n1.G p o a = some u := e
    show upd n1.H p o a = some u
    by_cases z : a = p
    · subst z; rw [upd_same] at e'; rw [upd_same]; exact e'
    · rw [upd_ne z] at e'; rw [upd_ne z]; exact g.sub a u e'
  · obtain ⟨h1, h2⟩ := g.at_ k x a e1 e2
    have na : a ≠ p := fun z => hA (z ▸ List.mem_of_getElem? e2)
    refine ⟨h1.imp hg (fun _ _ e => e) fun u e => ?_, ?_⟩
    · show upd n1.H p o a = some u
      rw [upd_ne na]; exact e
    · show upd n1.G p o a = none
      rw [upd_ne na]; exact h2
  · show upd n1.H p o a = some u
    rw [upd_ne (fun z => by subst z; rw [hp] at e; cases e)]; exact l.keepN a u e na nt
  · show upd n1.H p o a ≠ none
    rw [upd_ne (fun z => by subst z; exact e hp)]; exact l.there a e
  · show upd n1.G p o a = n.G a
    rw [upd_ne (fun z => by subst z; exact e hp)]; exact l.gnew a e
end
section
variable {X : Cx} {C : Ct} {B : Nw} {e kx : Expr} {d : TD}
def oStr : OpN := fun env m xs Q => match xs with
  | [x] => match der env m x with
    | some (.str y) => Q (.str y) m
    | some d => okR 60 d = true ∧ (py d).shown.length ≤ sizeLine ∧ Q (.str (py d).shown) m
    | none => False
  | _ => False
theorem call_strD (hg : X.A.guards = some []) (hu : X.A.units + 70 < cLine) (ns : NoSys X.K) : CallD X C (.type "str") oStr := by
  refine ⟨fun env m xs Q Q' i => ?_, fun pins s σ H vs us Q I rv h => ?_⟩
  · unfold oStr
    split
    · split
      · exact i _ _
      · exact fun h => ⟨h.1, h.2.1, i _ _ h.2.2⟩
      · exact id
    · exact id
  · obtain ⟨B, n, env, m, σ', xs, rfl, ok, lx, h⟩ := h
    unfold oStr at h
    split at h
    · rename_i x
      cases lx with
      | cons lx z =>
        cases z
        obtain ⟨u, rfl, r⟩ := vals1 rv
        have same : ∀ b o, s.heap.get? b = some o → s.heap.get? b = some o := fun _ _ e => e
        split at h
        · rename_i y hd
          have z := der_ok ok lx hd
          cases z with
          | fz z =>
            cases z
            obtain ⟨t, rfl⟩ := r
            exact PySem.P.str_of_str ⟨.str _, n.H, I, ⟨t, rfl⟩, h n _ ok.good (.refl _) (.str _)⟩
        · rename_i d hns hd
          obtain ⟨h1, h2, h3⟩ := h
          obtain ⟨as, r1, r2⟩ := now_rd I ok.good ns (der_ok ok lx hd) r h1
          obtain ⟨s1, s2⟩ := okR_show _ _ h1
          have fin : ∀ (h' : Heap) (t : Tok) (tk : Tok), (∀ b o, s.heap.get? b = some o → h'.get? b = some o) → EP X pins σ Q (.str (py d).shown t) { s with heap := h', toks := tk } := fun h' t tk k =>
            ⟨.str _, n.H, I.kept k, ⟨_, rfl⟩, h3 n _ ok.good (.refl _) (.str _)⟩
          have far : ∀ a, u = .ref a → wpAny (model X.prog X.w) X.A (call (.type "str") [u]) (EP X pins σ Q) X.xe s := fun a e => by
            subst e
            exact str_of_reads r1 s1 (fun _ => r2) hg (by omega) same (fun h' t tk k => fin h' t tk k) h2
          cases d with
          | non => cases (show Reads s.heap u .none as from r1); exact PySem.P.str_of_none (fin s.heap _ _ same)
          | bl b => rw [py] at r1; cases r1; exact PySem.P.str_of_bool (by have := fin s.heap s.toks (s.toks + 1) same; rw [py, PyData.shown] at this; exact this)
          | int i =>
            rw [py] at r1; cases r1
            rw [py, PyData.showable] at s1
            exact PySem.P.str_of_int (of_decide_eq_true s1) (by have := fin s.heap s.toks (s.toks + 1) same; rw [py, PyData.shown] at this; exact this)
          | str x => exact absurd rfl (hns x)
          | tup xs => rw [py] at r1; cases r1 with | tuple e1 e2 e3 e4 => exact far _ rfl
          | lst xs => rw [py] at r1; cases r1 with | list e1 e2 e3 e4 => exact far _ rfl
          | dct xs => rw [py] at r1; cases r1 with | dict e1 e2 e3 e4 e5 => exact far _ rfl
          | ins _ _ => cases h1
          | obj _ => cases h1
          | ref _ => cases h1
          | ty _ => cases h1
          | cls _ => cases h1
        · exact h.elim
    · exact h.elim
end
end DL

set_option maxHeartbeats 1000000
namespace DL
open PySem PySem.Spec PyProof.Rows L2

structure FldOk (K : PySem.W.Frag) (C : Ct) (c : Nat) (f : Str) : Prop where
  cls : Cls K (C.addr c)
  na : NoAttr K (C.addr c) f
  nd : (C.flds c).Nodup
  few : (C.flds c).length < 1000
structure FiOk (K : PySem.W.Frag) (C : Ct) (f : Str) (fi : Nat → Option Nat) : Prop where
  ok : ∀ c k, fi c = some k → FldOk K C c f ∧ (C.flds c)[k]? = some f
theorem zip_lookup : ∀ {fs : List Str} {vs : List V} {k : Nat} {f : Str} {v : V}, fs.Nodup → fs[k]? = some f → vs[k]? = some v → (fs.zip vs).lookup f = some v
  | [], _, k, f, v, _, h, _ => by simp at h
  | g :: fs, [], k, f, v, _, _, h => by simp at h
  | g :: fs, u :: vs, 0, f, v, _, h1, h2 => by
    simp at h1 h2; subst h1; subst h2; simp [List.lookup]
  | g :: fs, u :: vs, k + 1, f, v, nd, h1, h2 => by
    rw [List.getElem?_cons_succ] at h1 h2
    have ne : f ≠ g := fun z => by
      subst z
      exact (List.nodup_cons.mp nd).1 (List.mem_of_getElem? h1)
    have e : (f == g) = false := by simpa using ne
    have ih := zip_lookup (List.nodup_cons.mp nd).2 h1 h2
    simp only [List.zip_cons_cons, List.lookup, e]
    exact ih
theorem zip_put_old : ∀ {fs : List Str} {vs : List V} {k : Nat} {f : Str} {v : V}, fs.Nodup → fs[k]? = some f → k < vs.length → putF f v (fs.zip vs) = fs.zip (vs.set k v)
  | [], _, k, f, v, _, h, _ => by simp at h
  | g :: fs, [], k, f, v, _, _, h => by simp at h
  | g :: fs, u :: vs, 0, f, v, _, h1, h2 => by
    simp at h1; subst h1; simp [putF]
  | g :: fs, u :: vs, k + 1, f, v, nd, h1, h2 => by
    rw [List.getElem?_cons_succ] at h1
    have ne : g ≠ f := fun z => by
      subst z
      exact (List.nodup_cons.mp nd).1 (List.mem_of_getElem? h1)
    have ih := zip_put_old (v := v) (List.nodup_cons.mp nd).2 h1 (show k < vs.length by simpa using h2)
    rw [List.zip_cons_cons, putF, if_neg ne, ih, List.set_cons_succ, List.zip_cons_cons]
theorem zip_put_new : ∀ {fs : List Str} {vs : List V} {f : Str} {v : V}, fs.Nodup → fs[vs.length]? = some f → putF f v (fs.zip vs) = fs.zip (vs ++ [v])
  | [], _, f, v, _, h => by simp at h
  | g :: fs, [], f, v, _, h => by
    simp at h; subst h
    simp [putF]
  | g :: fs, u :: vs, f, v, nd, h1 => by
    rw [List.length_cons, List.getElem?_cons_succ] at h1
    have ne : g ≠ f := fun z => by
      subst z
      exact (List.nodup_cons.mp nd).1 (List.mem_of_getElem? h1)
    have ih := zip_put_new (v := v) (List.nodup_cons.mp nd).2 h1
    rw [List.zip_cons_cons, putF, if_neg ne, ih, List.cons_append, List.zip_cons_cons]
section
variable {X : Cx} {C : Ct} {B : Nw} {e o : Expr} {d de : TD} {f : Str} {fi : Nat → Option Nat} {pos pos' : Pos}
def sFldD (fi : Nat → Option Nat) (d de : TD) : TSd := fun D env m => de env m fun y m1 => d env m1 fun x m2 => match moOf env m2 x, y with
  | some (.ins c xs), .f z => match fi c with
    | some k => if k < xs.length then D.nx (setE x (.ins c (xs.set k z)) env) (setM x (.ins c (xs.set k z)) m2) else k = xs.length ∧ D.nx (setE x (.ins c (xs ++ [z])) env) (setM x (.ins c (xs ++ [z])) m2)
    | none => False
  | _, _ => False
theorem sFldD.mono (hd : MonoD d) (he : MonoD de) : MonoS (sFldD fi d de) := fun env m D D' l h => he _ _ _ _ (fun y m1 h1 => hd _ _ _ _ (fun x m2 h2 => by
  try dsimp only at h2 ⊢
  split at h2
  · split at h2
    · split at h2
      · rename_i hh
        rw [if_pos hh]; exact l.nx _ _ h2
      · rename_i hh
        rw [if_neg hh]; exact ⟨h2.1, l.nx _ _ h2.2⟩
    · exact h2
  · exact h2) h1) h
theorem ds_fld (F : FiOk X.K C f fi) (hd : DE X C B o d) (he : DE X C B e de) (hs : swapsWith e (some (.Attribute o f pos')) pos.line X.env = pure false := by rfl) : DS X C B (.Assign [.Attribute o f pos'] e pos) (sFldD fi d de) := by
  refine ⟨sFldD.mono hd.mono he.mono, impS (ps_fld hd.run he.run hs) ?_⟩
  rintro D σ H ⟨n, env, m, rfl, ok, q⟩
  refine ⟨n, env, m, rfl, ok, he.mono _ _ _ _ (fun y m1 h1 n1 v g1 l1 ly => ?_) q⟩
  have ok1 := ok.go g1 l1
  refine ⟨n1, env, m1, rfl, ok1, hd.mono _ _ _ _ (fun x m2 h2 n2 u g2 l2 lx => ?_) h1⟩
  have ok2 := ok1.go g2 l2
  have l12 := l1.trans l2
  split at h2
  · rename_i c xs z hx
    obtain ⟨a, rfl, ⟨dx, vs, e1, e2, z1⟩, hset⟩ := mut_ok ok2 lx hx
    have lz : FzN C X.w X.K n2 v z := FzN.le (n := n1) ly l2
    split at h2
    · rename_i k hk
      obtain ⟨FO, e3⟩ := F.ok c k hk
      have few : ((C.flds c).zip vs).length < 1000 := by
        rw [List.length_zip]
        have := FO.few
        omega
      refine ⟨a, C.addr c, dx, _, rfl, e1, FO.cls, FO.na, few, ?_⟩
      have up : ∀ {v d} {o : HO}, FzN C X.w X.K n2 v d → FzN C X.w X.K ⟨n2.G, n2.al, upd n2.H a o⟩ v d := fun h => Fz.keep (fun _ _ e => e) (fun _ _ e => e) h
      have ups : ∀ {v d} {o : HO}, FzAllN C X.w X.K n2 v d → FzAllN C X.w X.K ⟨n2.G, n2.al, upd n2.H a o⟩ v d := fun h => FzAll.keep (fun _ _ e => e) (fun _ _ e => e) h
      split at h2
      · rename_i hlt
        rw [zip_put_old FO.nd e3 (by rw [z1.length]; exact hlt)]
        have ok3 := hset (.ins (C.addr c) dx ((C.flds c).zip (vs.set k v))) (.ins c (xs.set k z)) ⟨dx, vs.set k v, upd_same, by simpa using e2, FzAll.set k (ups z1) (up lz)⟩
        exact h2 ⟨n2.G, n2.al, upd n2.H a (.ins (C.addr c) dx ((C.flds c).zip (vs.set k v)))⟩ σ (l12.sub.trans sub_upd) ok3
      · obtain ⟨hk2, h2⟩ := h2
        rw [hk2, ← z1.length] at e3
        rw [zip_put_new FO.nd e3]
        have hlt := (List.getElem?_eq_some_iff.mp e3).1
        have ok3 := hset (.ins (C.addr c) dx ((C.flds c).zip (vs ++ [v]))) (.ins c (xs ++ [z])) ⟨dx, vs ++ [v], upd_same, by rw [List.length_append]; exact hlt, (ups z1).append (.cons (up lz) .nil)⟩
        exact h2 ⟨n2.G, n2.al, upd n2.H a (.ins (C.addr c) dx ((C.flds c).zip (vs ++ [v])))⟩ σ (l12.sub.trans sub_upd) ok3
    · exact h2.elim
  · exact h2.elim
end

mutual
def bel (k : Nat) : Dat → Bool
  | .obj j => decide (j < k)
  | .tup xs => bels k xs
  | .lst xs => bels k xs
  | .ins _ xs => bels k xs
  | .dct kvs => belk k kvs
  | _ => true
def bels (k : Nat) : List Dat → Bool
  | [] => true
  | x :: xs => bel k x && bels k xs
def belk (k : Nat) : List (Dat × Dat) → Bool
  | [] => true
  | (a, b) :: r => bel k a && (bel k b && belk k r)
end
def belM (k : Nat) (m : Mem) : Bool := m.all fun
  | .lst xs => bels k xs
  | .ins _ xs => bels k xs
  | .dct kvs => belk k kvs
section
variable {C : Ct} {w : World} {K : PySem.W.Frag} {al : List Addr} {G : Hp} {n n' : Nw} {m : Mem}
mutual
theorem Fz.cut (k : Nat) : ∀ {v d}, Fz C w K al G v d → bel k d = true → Fz C w K (al.take k) G v d
  | _, _, .non, _ => .non
  | _, _, .bl b, _ => .bl b
  | _, _, .int i, _ => .int i
  | _, _, .str x, _ => .str x
  | _, _, .ty n, _ => .ty n
  | _, _, .ref a, _ => .ref a
  | _, _, .cls c, _ => .cls c
  | _, _, .tup s r, h => .tup s (FzAll.cutB k r (by rw [bel] at h; exact h))
  | _, _, .lst s r, h => .lst s (FzAll.cutB k r (by rw [bel] at h; exact h))
  | _, _, .dct e s r, h => .dct e s (FzEs.cutB k r (by rw [bel] at h; exact h))
  | _, _, .ins e l r, h => .ins e l (FzAll.cutB k r (by rw [bel] at h; exact h))
  | _, _, .obj e, h => .obj (by rw [bel] at h; rw [List.getElem?_take_of_lt (of_decide_eq_true h)]; exact e)
theorem FzAll.cutB (k : Nat) : ∀ {v d}, FzAll C w K al G v d → bels k d = true → FzAll C w K (al.take k) G v d
  | _, _, .nil, _ => .nil
  | _, _, .cons x r, h => by
    rw [bels, Bool.and_eq_true] at h
    exact .cons (Fz.cut k x h.1) (FzAll.cutB k r h.2)
theorem FzEs.cutB (k : Nat) : ∀ {v d}, FzEs C w K al G v d → belk k d = true → FzEs C w K (al.take k) G v d
  | _, _, .nil, _ => .nil
  | _, _, .cons r1 x r2 y e r, h => by
    rw [belk, Bool.and_eq_true, Bool.and_eq_true] at h
    exact .cons r1 (Fz.cut k x h.1) r2 (Fz.cut k y h.2.1) e (FzEs.cutB k r h.2.2)
end
theorem Good.dropM {y : Mo} (g : Good C w K n (m ++ [y])) (hb : belM m.length m = true) : Good C w K ⟨n.G, n.al.take m.length, n.H⟩ m := by
  refine ⟨g.sub, g.nd.sublist (List.take_sublist _ _), ?_, fun k x a e1 e2 => ?_, g.tab, g.tg⟩
  · have := g.len
    simp at this
    simp [← this]
  · have hk : k < m.length := (List.getElem?_eq_some_iff.mp e1).1
    have e2' : (n.al.take m.length)[k]? = some a := e2
    rw [List.getElem?_take_of_lt hk] at e2'
    obtain ⟨h1, h2⟩ := g.at_ k x a (by rw [List.getElem?_append_left hk]; exact e1) e2'
    refine ⟨?_, h2⟩
    have hx := List.all_eq_true.mp hb x (List.mem_of_getElem? e1)
    cases x with
    | lst xs => obtain ⟨vs, q1, q2⟩ := h1; exact ⟨vs, q1, FzAll.cutB _ q2 hx⟩
    | ins c xs => obtain ⟨dx, vs, q1, q2, q3⟩ := h1; exact ⟨dx, vs, q1, q2, FzAll.cutB _ q3 hx⟩
    | dct kvs => obtain ⟨es, q1, q2, q3⟩ := h1; exact ⟨es, q1, q2, FzEs.cutB _ q3 hx⟩
theorem Nw.le.dropM {k : Nat} (l : n.le n') (hk : n.al.length = k) : n.le ⟨n'.G, n'.al.take k, n'.H⟩ := by
  have e : n'.al.take k = n.al := by
    obtain ⟨t, ht⟩ := l.ale
    rw [← ht, ← hk]
    simp
  refine ⟨l.g, l.keepN, l.there, l.gnew, ?_, fun j p hj q => ?_⟩
  · show n.al <+: n'.al.take k
    rw [e]
    exact List.prefix_rfl
  · have q' : (n'.al.take k)[j]? = some p := q
    rw [e, List.getElem?_eq_none hj] at q'
    cases q'
theorem Good.sealM {c : Nat} {xs : List Dat} {x : Addr} (l : n.le n') (hk : n.al.length = m.length) (g : Good C w K n' (m ++ [.ins c xs])) (hx : n'.al[m.length]? = some x) (hb : belM m.length m = true) (hbx : bels m.length xs = true) (hl : xs.length = (C.flds c).length) :
    ∃ n'', n''.H = n'.H ∧ Good C w K n'' m ∧ n.le n'' ∧ FzN C w K n'' (.ref x) (.ins c xs) := by
  have hlen : (m ++ [Mo.ins c xs])[m.length]? = some (.ins c xs) := by simp
  obtain ⟨⟨dx, vs, q1, q2, q3⟩, q4⟩ := g.at_ _ _ _ hlen hx
  have g1 := g.dropM hb
  have l1 := l.dropM hk
  have z1 : FzAllN C w K ⟨n'.G, n'.al.take m.length, n'.H⟩ vs xs := FzAll.cutB _ q3 hbx
  have hnx : n.H x = none := l.anew m.length x (by omega) hx
  have hal : x ∉ n'.al.take m.length := fun z => by
    obtain ⟨j, hj⟩ := List.getElem?_of_mem z
    have hjl : j < m.length := by
      have := (List.getElem?_eq_some_iff.mp hj).1
      simp at this
      omega
    rw [List.getElem?_take_of_lt hjl] at hj
    have := (List.getElem?_inj (List.getElem?_eq_some_iff.mp hj).1 g.nd).mp (hj.trans hx.symm)
    omega
  obtain ⟨g2, l2⟩ := refreeze (o := .ins (C.addr c) dx ((C.flds c).zip vs)) l1 hnx g1 q4 hal
  refine ⟨⟨upd n'.G x (.ins (C.addr c) dx ((C.flds c).zip vs)), n'.al.take m.length, n'.H⟩, rfl, ?_, ?_, .ins upd_same (by rw [z1.length, hl]) (FzAllN.up (n1 := ⟨n'.G, n'.al.take m.length, n'.H⟩) q4 z1)⟩
  · have e : upd n'.H x (.ins (C.addr c) dx ((C.flds c).zip vs)) = n'.H := by
      funext b
      by_cases hbx : b = x
      · subst hbx; rw [upd_same, q1]
      · rw [upd_ne hbx]
    have g2' : Good C w K ⟨upd n'.G x (.ins (C.addr c) dx ((C.flds c).zip vs)), n'.al.take m.length, upd n'.H x (.ins (C.addr c) dx ((C.flds c).zip vs))⟩ m := g2
    rw [e] at g2'
    exact g2'
  · have e : upd n'.H x (.ins (C.addr c) dx ((C.flds c).zip vs)) = n'.H := by
      funext b
      by_cases hbx : b = x
      · subst hbx; rw [upd_same, q1]
      · rw [upd_ne hbx]
    have l2' : n.le ⟨upd n'.G x (.ins (C.addr c) dx ((C.flds c).zip vs)), n'.al.take m.length, upd n'.H x (.ins (C.addr c) dx ((C.flds c).zip vs))⟩ := l2
    rw [e] at l2'
    exact l2'
end
section
variable {X : Cx} {CX : CXT} {k : Nat} {f C : Addr} {fd : FuncData} {ps : List Str} {sp : Sp} {E : L2.St → XK} {x : Str} {p pos : Pos} {e : Expr} {es : List Expr} {t : TA}
theorem run_makeS {pins : List (Addr × Obj)} {σ : L2.St} {H : Hp} {s : Shared} {Q : VK} {us : List Value} {vs : List V} (M : Mk X.K C f) (F : FnOk X.prog X.w X.K X.mg X.base CX k f fd ps sp) (hr : Room (k + 1) X.A) (hb : Binds X.K fd ps [])
    (hx : PassesAt CX X σ (E σ)) (I : Inv X pins σ H s) (r : Vals vs us)
    (h : ∀ x dx, H x = none → H dx = none → dx ≠ x → sp (.ref x :: vs) (upd (upd H dx (.own x)) x (.ins C dx [])) (fun v H2 => v = .non ∧ Q (.ref x) H2) (E σ)) :
    wpAny (model X.prog X.w) X.A (call (.ref C) us) (EP X pins σ Q) X.xe s := by
  have hq := h (s.heap.objs.size + 1) s.heap.objs.size (I.hok.fresh (Nat.le_succ _)) (I.hok.fresh (Nat.le_refl _)) (Nat.ne_of_lt (Nat.lt_succ_self _))
  have I2 := Inv.made (C := C) I
  have r2 : Vals (V.ref (s.heap.objs.size + 1) :: vs) (Value.ref (s.heap.objs.size + 1) :: us) := .cons rfl r
  have hl : ((Value.ref (s.heap.objs.size + 1) :: us) ++ []).length = ps.length := by
    have e := r2.length
    rw [F.len _ _ _ _ hq] at e
    rw [List.append_nil]
    exact e.symm
  have hb' := hb _ (Value.ref (s.heap.objs.size + 1) :: us) I2.kIn hl
  rw [List.append_nil] at hb'
  refine wpAny_call (make_map (f := f) I.kIn M.makes M.init (beq_iff_eq.mp M.fn) (codeAny_mono (F.run _ X.stack _ _ ⟨Value.ref (s.heap.objs.size + 1) :: us, []⟩ (Value.ref (s.heap.objs.size + 1) :: us) _ _ (E σ) (hr.make C us [])
    (I2.env0.make C us []) hb' r2 hq) fun r s' hq' => ?_))
  cases r with
  | error e => exact hx pins _ _ e s' I2 hq'
  | ok fl =>
    cases fl with
    | ret u =>
      obtain ⟨v, H', I3, rv, ev, q3⟩ := I2.after hq'
      subst ev
      exact ⟨rv, ⟨V.ref (s.heap.objs.size + 1), H', I3, rfl, q3⟩⟩
    | next => exact False.elim hq'
    | brk => exact False.elim hq'
    | cont => exact False.elim hq'
def tMakeS (C : Addr) (sp : Sp) (E : L2.St → XK) (t : TA) : TE := fun σ H Q => t σ H fun vs H1 => ∀ x dx, H1 x = none → H1 dx = none → dx ≠ x → sp (.ref x :: vs) (upd (upd H1 dx (.own x)) x (.ins C dx [])) (fun v H2 => v = .non ∧ Q (.ref x) H2) (E σ)
theorem pe_makeS (M : Mk X.K C f) (F : FnOk X.prog X.w X.K X.mg X.base CX k f fd ps sp) (hr : Room (k + 1) X.A) (hg : Gl X x) (hm : X.mg x = some (.ref C)) (hb : Binds X.K fd ps []) (hx : ∀ σ, PassesAt CX X σ (E σ))
    (ha : PA X (e :: es) t) (hdb : (x == ("__debug__" : Str)) = false := by decide) (he : starEach (e :: es) X.env = (false, eval e X.env) :: starEach es X.env := by rfl) (hpl : (backTo pos (starEach es X.env)).any (·.1) = false := by rfl) :
    PE X (.Call (.Name x p) (e :: es) [] pos) (tMakeS C sp E t) := by
  refine ⟨fun pins s σ H Q I h => ?_⟩
  refine wpAny_Call_Name_kw (ld_glob I hg hm ?_ hdb)
  refine PySem.W.callWith_K (h₀ := X.base) I.ok.mod.kin M.kp (thn (ha.run pos pins s σ H _ I h) fun us s1 ⟨vs, H1, I1, r, q⟩ => ⟨I1.kIn, ?_⟩) he hpl
  exact run_makeS M F hr hb (hx σ) I1 r q
end
def dMakeF (c nf : Nat) (p : DSp) (EX : QXe) (da : TAd) : TD := fun env m Q => da env m fun xs m1 => match frs xs with
  | some ds => p (.obj m1.length :: ds) (m1 ++ [.ins c []]) (fun d m2 => d = .non ∧ ∃ m3 ys, m2 = m3 ++ [.ins c ys] ∧ m3.length = m1.length ∧ ys.length = nf ∧ belM m1.length m3 = true ∧ bels m1.length ys = true ∧ Q (.f (.ins c ys)) m3)
    (fun c' ys m2 => ∃ m3 y, m2 = m3 ++ [y] ∧ m3.length = m1.length ∧ belM m1.length m3 = true ∧ bels m1.length ys = true ∧ EX c' ys env m3)
  | none => False
def dMakeS (c : Nat) (p : DSp) (EX : QXe) (da : TAd) : TD := fun env m Q => da env m fun xs m1 => match frs xs with
  | some ds => p (.obj m1.length :: ds) (m1 ++ [.ins c []]) (fun d m2 => d = .non ∧ Q (.f (.obj m1.length)) m2)
    (fun c' ys m2 => ∃ m3 y, m2 = m3 ++ [y] ∧ m3.length = m1.length ∧ belM m1.length m3 = true ∧ bels m1.length ys = true ∧ EX c' ys env m3)
  | none => False
section
variable {X : Cx} {C : Ct} {B : Nw} {k c nf : Nat} {f : Addr} {fd : FuncData} {ps : List Str} {p : DSp} {EX : QXe} {x : Str} {p1 pos : Pos} {e : Expr} {es : List Expr} {da : TAd}
theorem make_start {w : World} {K : PySem.W.Frag} {n : Nw} {m : Mem} {x dx : Addr} (g : Good C w K n m) (hx : n.H x = none) (hdx : n.H dx = none) (hne : dx ≠ x) :
    ∃ n2 : Nw, n2.H = upd (upd n.H dx (.own x)) x (.ins (C.addr c) dx []) ∧ Good C w K n2 (m ++ [.ins c []]) ∧ n.le n2 ∧ n2.al = n.al ++ [x] := by
  obtain ⟨b1, b2⟩ := g.free hdx
  have g1 : Good C w K ⟨n.G, n.al, upd n.H dx (.own x)⟩ m := g.at b1 b2
  have l1 : n.le ⟨n.G, n.al, upd n.H dx (.own x)⟩ := (Nw.le.refl n).at hdx
  have hx1 : (upd n.H dx (.own x)) x = none := by rw [upd_ne (Ne.symm hne)]; exact hx
  obtain ⟨g2, l2⟩ := g1.newM (p := x) (o := .ins (C.addr c) dx []) (x := .ins c []) hx1 ⟨dx, [], by
    show upd _ x _ x = _
    rw [upd_same]; simp, Nat.zero_le _, .nil⟩
  exact ⟨_, rfl, g2, l1.trans l2, rfl⟩
theorem make_err {w : World} {K : PySem.W.Frag} {n1 n2 : Nw} {B : Nw} {m1 : Mem} {env : Env'} {σ : L2.St} (ok : Ok C w K B n1 env m1 σ) (l : n1.le n2) {c' : Nat} {ys : List Dat} {m2 m3 : Mem} {y : Mo} (e1 : m2 = m3 ++ [y]) (e2 : m3.length = m1.length)
    (b1 : belM m1.length m3 = true) (b2 : bels m1.length ys = true) (h : EX c' ys env m3) : AftX C w K n2 (atX C B w K EX σ) c' ys m2 := by
  intro n' dx vs g' l' hx hz
  subst e1
  rw [← e2] at b1 b2
  have g3 := g'.dropM b1
  have l3 : n1.le ⟨n'.G, n'.al.take m3.length, n'.H⟩ := (l.trans l').dropM (by rw [e2, ok.good.len])
  exact ⟨⟨n'.G, n'.al.take m3.length, n'.H⟩, env, m3, c', ys, vs, rfl, ok.go g3 l3, rfl, hx.base (ok.base.trans l), FzAll.cutB _ hz b2, h⟩
theorem makeF_imp (hp : MonoP p) (ha : MonoA da) (hl : ∀ ds m Q E, p ds m Q E → ds.length = ps.length) (hf : (C.flds c).length = nf) : ∀ σ H Q, lE C B X.w X.K (dMakeF c nf p EX da) σ H Q → tMakeS (C.addr c) (spD C X.w X.K ps.length p) (atX C B X.w X.K EX) (lA C B X.w X.K da) σ H Q := by
  rintro σ H Q ⟨n, env, m, rfl, ok, h⟩
  refine ⟨n, env, m, rfl, ok, ha _ _ _ _ (fun xs m1 h1 n1 vs g1 l1 lx => ?_) h⟩
  split at h1
  · rename_i ds hd
    have hz := frs_ok lx hd
    intro x dx hx hdx hne
    obtain ⟨n2, e2, g2, l2, ea⟩ := make_start (c := c) g1 hx hdx hne
    have ok1 := ok.go g1 l1
    have hat : n2.al[m1.length]? = some x := by
      rw [ea, g1.len, List.getElem?_append_right (Nat.le_refl _)]; simp
    have hz2 : FzAllN C X.w X.K n2 (.ref x :: vs) (.obj m1.length :: ds) := .cons (.obj hat) (FzAllN.le hz l2)
    refine ⟨?_, n2, m1 ++ [.ins c []], _, e2, g2, hz2, hp _ _ _ _ _ _ (fun d m2 h2 n3 v g3 l3 hv => ?_) (fun c' ys m2 h2 => ?_) h1⟩
    · rw [hz2.length]; exact hl _ _ _ _ h1
    · obtain ⟨rfl, m3, ys, rfl, h4, h5, h6, h7, h8⟩ := h2
      have hv' : FzN C X.w X.K n3 v .non := hv
      cases hv'
      rw [← h4] at h6 h7
      have hx3 : n3.al[m3.length]? = some x := by
        rw [h4]; exact pre_get l3.ale _ _ hat
      obtain ⟨n4, q1, q2, q3, q4⟩ := Good.sealM (l2.trans l3) (by rw [← g1.len, h4]) g3 hx3 h6 h7 (by rw [h5, hf])
      refine ⟨rfl, ?_⟩
      rw [← q1]
      exact h8 n4 _ q2 (l1.trans q3) q4
    · obtain ⟨m3, y, e1, e3, b1, b2, h3⟩ := h2
      exact make_err ok1 l2 e1 e3 b1 b2 h3
  · exact h1.elim
theorem dMakeF.mono (hp : MonoP p) (ha : MonoA da) : MonoD (dMakeF c nf p EX da) := fun env m Q Q' i => ha _ _ _ _ fun xs m1 => by
  split
  · exact hp _ _ _ _ _ _ (fun d m2 ⟨h1, m3, ys, h2, h3, h4, h5, h6, h7⟩ => ⟨h1, m3, ys, h2, h3, h4, h5, h6, i _ _ h7⟩) fun _ _ _ h => h
  · exact id
theorem dMakeS.mono (hp : MonoP p) (ha : MonoA da) : MonoD (dMakeS c p EX da) := fun env m Q Q' i => ha _ _ _ _ fun xs m1 => by
  split
  · exact hp _ _ _ _ _ _ (fun d m2 ⟨h1, h2⟩ => ⟨h1, i _ _ h2⟩) fun _ _ _ h => h
  · exact id
theorem de_makeF (M : Mk X.K (C.addr c) f) (F : DF X.prog X.w X.K X.mg X.base C k f fd ps p) (hl : ∀ ds m Q E, p ds m Q E → ds.length = ps.length) (hf : (C.flds c).length = nf) (hr : Room (k + 1) X.A) (hg : Gl X x) (hm : X.mg x = some (.ref (C.addr c))) (hb : Binds X.K fd ps []) (hx : PassD X C B EX) (ha : DA X C B (e :: es) da)
    (hdb : (x == ("__debug__" : Str)) = false := by decide) (he : starEach (e :: es) X.env = (false, eval e X.env) :: starEach es X.env := by rfl) (hpl : (backTo pos (starEach es X.env)).any (·.1) = false := by rfl) :
    DE X C B (.Call (.Name x p1) (e :: es) [] pos) (dMakeF c nf p EX da) :=
  ⟨dMakeF.mono F.mono ha.mono, imp (pe_makeS M F.ok hr hg hm hb hx ha.run hdb he hpl) (makeF_imp F.mono ha.mono hl hf)⟩
end
end DL

set_option maxHeartbeats 4000000
namespace PySem.W
open PySem PySem.Spec PySem.Calls PyProof.Rows
section
variable {prog : Program} {w : World} {A : Around} {E : Value → Shared → Prop} {s : Shared} {K : Frag} {x D : Addr} {ox : Obj} {od : Option Obj}
theorem dl_findN {C : Addr} {name : Str} {a g : Value} (hc : (clsIn K C).isSome = true) (ha : findIn K (.ref C) name = some (some a)) (hg : specialIn K a "__get__" = some (some g)) (ht : takesIn K a = some true) : findObj K C od name = some (.bind g a) := by
  obtain ⟨cd, hc⟩ := Option.isSome_iff_exists.mp hc
  unfold findObj
  rw [hc, Option.bind_some, ha, Option.bind_some]
  simp [hg, ht]
theorem dl_class {Q : Option Value → Shared → Prop} (c : L2.ExcC K D) (X : K.In s.heap) (I : InstAt s.heap x ox D od) (h : Q (some (.ref D)) { s with toks := s.toks + 1 }) : wpAny (model prog w) A (getAttr? (.ref x) "__class__") Q E s := by
  have hf : findObj K D od "__class__" = some (.bind (.builtin "getset_descriptor.__get__") (.builtin "object.__class__")) := dl_findN (by obtain ⟨cd, hc, _⟩ := any_some c.hd; rw [hc]; rfl) c.ha c.hn c.ht
  obtain ⟨hp, g, d, t, os⟩ := s
  have L0 := I.type (M := model prog w)
  have L1 := looks_findIn (M := model prog w) X c.hg
  have L2 := looks_findIn (M := model prog w) X c.hk
  have L3 := looks_find (M := model prog w) X I hf
  have sub : Looks (model prog w) hp (isInstance (.ref x) (.type "BaseException")) true := L0.andThen (looks_subIn X c.hs)
  have hx0 : (false && onTheHeap (Value.builtin "BaseException.__getattribute__")) = false := rfl
  have hx2 : (Value.builtin "BaseException.__getattribute__" == Value.builtin "object.__getattribute__") = false := by decide +kernel
  have hx1 : (onTheHeap (Value.ref D) && Value.builtin "BaseException.__getattribute__" == Value.builtin "object.__getattribute__") = false := by rw [hx2]; rfl
  unfold getAttr? getAttrBy? getAttrBy
  refine wpAny_bind (wpAny_mkText (wpAny_bind (wpAny_attempt (wpAny_holding (wpAny_bind (L0.at (wpAny_bind (L1.at ?_))))))))
  show wpAny _ _ (if (onTheHeap (Value.ref D) && Value.builtin "BaseException.__getattribute__" == Value.builtin "object.__getattribute__") = true then _ else _) _ _ _
  rw [hx1, if_neg Bool.false_ne_true]
  unfold getAttrByItsOwn hookBefore
  refine wpAny_bind ?_
  rw [if_pos (show onTheHeap (Value.ref D) = true from rfl)]
  refine L2.at ?_
  refine wpAny_bind (wpAny_attempt (wpAny_holding ?_))
  unfold callGetattribute
  rw [hx0, if_neg Bool.false_ne_true]
  unfold boundAndCalled
  rw [PySem.F.excAttr_ValueError.ga.bind (.ref x)]
  refine wpAny_bind (wpAny_pure ?_)
  show wpAny _ _ (call (.builtin "BaseException.__getattribute__") [.ref x, .str "__class__" t]) _ _ _
  refine wpAny_call (codeAny_call_builtin PySem.F.excAttr_ValueError.ga.plain PySem.F.entry_bexc_ga ?_)
  refine @check_slot (model prog w) _ _ ⟨hp, g, d, t + 1, os⟩ "BaseException.__getattribute__" "BaseException" "__getattribute__" (.ref x) [.str "__class__" t] [] _ (by decide +kernel) (by decide +kernel) sub (PySem.F.args_bexc_ga (.ref x) (.str "__class__" t)) ?_
  unfold Builtin.«object.__getattribute__»
  refine wpAny_bind (wpAny_of_eq (a := ((Value.ref x : Value), [Value.str "__class__" t])) (by first | rfl | (simp only [slotArgs]; rfl)) ?_)
  refine wpAny_bind (wpAny_pure (wpAny_bind (L0.at (wpAny_bind (L3.at ?_)))))
  show wpAny _ _ (holding [Value.builtin "object.__class__"] (call (.builtin "getset_descriptor.__get__") [.builtin "object.__class__", .ref x, .ref D]) >>= ret) _ _ _
  refine wpAny_bind (wpAny_holding (wpAny_call (class_get (s := ⟨hp, g, d, t + 1, os⟩) (ox := ox) (od := od) X I c.hm ?_)))
  refine wpAny_pure ?_
  show wpAny _ _ (handedOut (.ref D)) _ _ _
  rw [handedOut_of (v := .ref D) rfl]
  first
    | exact wpAny_pure (wpAny_pure h)
    | exact wpAny_pure h
    | exact wpAny_pure (wpAny_bind (wpAny_pure (wpAny_pure h)))
theorem dl_kitx (c : L2.ExcC K D) : KitX K (.ref x) (.ref D) (fun h => ∃ od, InstAt h x ox D od) where
  ty := fun _ _ _ ⟨_, I⟩ => I.type
  it := fun _ _ X _ => by
    obtain ⟨cdD, hcD, _⟩ := any_some c.hd
    unfold clsIn at hcD
    split at hcD
    · rename_i c' d' cd' sl' ho
      intro A' Q' E' s' k q
      unfold isType loadHead
      exact wpAny_bind (wpAny_loadPart (k _ _ (X _ _ ho)) (wpAny_pure q))
    · cases hcD
  ne := fun h tp dd its n sl X htp => by
    obtain ⟨cdD, hcD, _⟩ := any_some c.hd
    refine Bool.eq_false_iff.mpr fun q => ?_
    have e : D = tp := Value.ref.inj (beq_iff_eq.mp q)
    subst e
    unfold clsIn at hcD
    split at hcD
    · rename_i c' d' cd' sl' ho
      have z := (X _ _ ho).symm.trans htp
      cases z
    · cases hcD
  ca := fun X ⟨_, I⟩ k => dl_class c X I k
end
end PySem.W
namespace DL
open PySem PySem.Spec PyProof.Rows L2

def spX (K : PySem.W.Frag) (fs : List Str) : Sp := fun vs H Q _ => ∃ a C us, vs = .ref a :: us ∧ us.length = fs.length ∧ H a = some (exo a C none) ∧ OexC K C ∧ (∀ f ∈ fs, PySem.W.findIn K (.ref C) f = some none) ∧
  ∀ d, H d = none → d ≠ a → Q .non (upd (upd H d (exd d (fs.zip us).reverse)) a (exo a C (some d)))
section
variable {P : Program} {w : World} {K : PySem.W.Frag} {mg : Str → Option Value} {base : Heap} {y qual : Str} {params : Arguments} {body : List Stmt} {scope : Scope} {fI : Addr} {fd : FuncData} {f1 f2 x0 x1 x2 : Str}
theorem exc_init1 (F : FunD K y qual params body scope [] [] fI fd) (S : FnScope [x0, x1] [x0, x1] scope)
    (hb : ∀ (cdv : Value) (A : Around) (outer : List Env) (s : Shared) (H : Hp) (E : XK), PSs (cxOf (L2.CX P w) P w K mg base [x0, x1] qual scope fI cdv A outer s H E) body (tOst K f1 (tVar 0) (tVar 1))) :
    FnOk P w K mg base (L2.CX P w) 1 fI fd [x0, x1] (spX K [f1]) := by
  refine F.ok S (fun vs H Q E h => ?_) fun cdv A outer s H vs Q E hr h => ⟨_, hb cdv A outer s H E, ?_⟩
  · obtain ⟨a, C, us, rfl, h1, _⟩ := h
    simp at h1; simp [h1]
  · obtain ⟨a, C, us, rfl, h1, h2, h3, h4, h5⟩ := h
    match us, h1 with
    | [v], _ =>
      exact ⟨v, rfl, .ref a, rfl, a, C, rfl, h3, h4 f1 (by simp), .inl ⟨h2, fun d hd hne => h5 d hd hne⟩⟩
end
theorem zip_rev {α β : Type} : ∀ {xs : List α} {ys : List β}, xs.length = ys.length → (xs.zip ys).reverse = xs.reverse.zip ys.reverse
  | [], [], _ => rfl
  | x :: xs, y :: ys, h => by
    have h' : xs.length = ys.length := by simpa using h
    rw [List.zip_cons_cons, List.reverse_cons, List.reverse_cons, List.reverse_cons, zip_rev h', List.zip_append (by simp [h'])]
    rfl
  | [], _ :: _, h => by simp at h
  | _ :: _, [], h => by simp at h
abbrev TMd := Env' → Mem → (Nat → List Dat → Mem → Prop) → Prop
def lM (C : Ct) (B : Nw) (w : World) (K : PySem.W.Frag) (d : TMd) : L2.St → Hp → XK → Prop := fun σ H Q => ∃ n env m, n.H = H ∧ Ok C w K B n env m σ ∧ d env m fun c ys m' => ∀ n' dx vs, Good C w K n' m' → n.le n' → XAt C n n' c dx vs → FzAllN C w K n' vs ys → Q (.ref (C.addr c)) dx n'.H
structure DM (X : Cx) (C : Ct) (B : Nw) (e : Expr) (d : TMd) : Prop where
  mono : ∀ env m (Q Q' : Nat → List Dat → Mem → Prop), (∀ c ys m', Q c ys m' → Q' c ys m') → d env m Q → d env m Q'
  run : PMk X e (lM C B X.w X.K d)
def sRaise (d : TMd) (EX : QXe) : TSd := fun _ env m => d env m fun c ys m' => EX c ys env m'
section
variable {X : Cx} {C : Ct} {B : Nw} {e : Expr} {es : List Expr} {d : TMd} {EX : QXe} {p pos : Pos} {x : Str} {fI : Addr} {fd : FuncData} {ps fs : List Str} {c k : Nat} {da : TAd}
theorem ds_raise (hc : X.calm = true) (tk : TakesD X C B EX) (he : DM X C B e d) : DS X C B (.Raise (some e) none pos) (sRaise d EX) := by
  refine ⟨fun env m D D' l h => h, ⟨fun pins s σ H D I q => (ps_raise hc tk he.run).run pins s σ H D I ?_⟩⟩
  obtain ⟨n, env, m, rfl, ok, h⟩ := q
  refine ⟨n, env, m, rfl, ok, he.mono _ _ _ _ (fun c ys m' h1 n' dx vs g l hx hz => ?_) h⟩
  exact ⟨n', env, m', c, ys, vs, rfl, ok.go g l, rfl, hx.base ok.base, hz, h1⟩
def mOwn (c nf : Nat) (da : TAd) : TMd := fun env m Q => da env m fun xs m1 => match frs xs with
  | some ds => ds.length = nf ∧ Q c ds.reverse m1
  | none => False
theorem dm_own (T : OexC X.K (C.addr c)) (hno : ∀ f ∈ fs, PySem.W.findIn X.K (.ref (C.addr c)) f = some none) (hf : C.flds c = fs.reverse) (h64 : fs.length ≤ 1000) (iC : PySem.W.findIn X.K (.ref (C.addr c)) "__init__" = some (some (.ref fI))) (tI : PySem.W.typeIn X.K (.ref fI) = some (.type "function"))
    (F1 : FnOk X.prog X.w X.K X.mg X.base (L2.CX X.prog X.w) k fI fd ps (spX X.K fs)) (hr : Room (k + 1) X.A) (hb : Binds X.K fd ps []) (hg : Gl X x) (hm : X.mg x = some (.ref (C.addr c))) (ha : DA X C B (e :: es) da)
    (hdb : (x == ("__debug__" : Str)) = false := by decide) (he : starEach (e :: es) X.env = (false, eval e X.env) :: starEach es X.env := by rfl) (hpl : (backTo pos (starEach es X.env)).any (·.1) = false := by rfl) :
    DM X C B (.Call (.Name x p) (e :: es) [] pos) (mOwn c fs.length da) := by
  refine ⟨fun env m Q Q' i q => ha.mono _ _ _ _ (fun xs m1 h1 => ?_) q, ?_⟩
  · split at h1
    · exact ⟨h1.1, i _ _ _ h1.2⟩
    · exact h1
  have hx : Passes (L2.CX X.prog X.w) X (fun _ _ _ => False) := fun pins σ H s e s' I h => by
    obtain ⟨_, _, _, _, _, _, _, _, _, _, _, _, z⟩ := h
    exact z.elim
  intro pins s σ H Q I q
  refine pmk_oex (dvs := []) T iC tI F1 hr hb .nil hx hg hm ha.run hdb he hpl pins s σ H Q I ?_
  obtain ⟨n, env, m, rfl, ok, h⟩ := q
  refine ⟨n, env, m, rfl, ok, ha.mono _ _ _ _ (fun xs m1 h1 n1 vs g1 l1 lx => ?_) h⟩
  split at h1
  · rename_i ds hd
    obtain ⟨hl, h1⟩ := h1
    have hz := frs_ok lx hd
    have hlen : vs.length = fs.length := by rw [hz.length, hl]
    refine ⟨by omega, fun a ha1 => ?_⟩
    rw [List.append_nil]
    refine ⟨a, C.addr c, vs, rfl, hlen, upd_same, T, hno, fun d hd1 hne => ⟨rfl, d, (fs.zip vs).reverse, upd_same, ?_, ?_, ?_⟩⟩
    · rw [upd_ne hne, upd_same]
    · rw [upd_ne hne] at hd1; exact hd1
    · have hd2 : n1.H d = none := by rw [upd_ne hne] at hd1; exact hd1
      have e : upd (L2.del (upd (upd (upd n1.H a (exo a (C.addr c) none)) d (exd d (fs.zip vs).reverse)) a (exo a (C.addr c) (some d))) a) d (.xd (fs.zip vs).reverse) = upd n1.H d (.xd ((C.flds c).zip vs.reverse)) := by
        funext b
        by_cases h1 : b = d
        · subst h1
          rw [upd_same, upd_same, hf, zip_rev hlen.symm]
        · rw [upd_ne h1, upd_ne h1]
          by_cases h2 : b = a
          · subst h2; rw [L2.del_same, ha1]
          · rw [L2.del_ne h2, upd_ne h2, upd_ne h1, upd_ne h2]
      rw [e]
      obtain ⟨b2, b4⟩ := g1.free hd2
      have g2 : Good C X.w X.K ⟨n1.G, n1.al, upd n1.H d (.xd ((C.flds c).zip vs.reverse))⟩ m1 := g1.at b2 b4
      have l2 : n.le ⟨n1.G, n1.al, upd n1.H d (.xd ((C.flds c).zip vs.reverse))⟩ := l1.at (l1.base hd2)
      refine h1 _ (some d) vs.reverse g2 l2 ⟨by rw [hf]; simp [hlen], .inr ⟨d, rfl, l1.base hd2, upd_same⟩⟩ ?_
      exact FzAll.reverse (FzAll.keep (fun _ _ e => e) (fun _ _ e => e) hz)
  · exact h1.elim
end
end DL

set_option maxHeartbeats 2000000
namespace DL
open PySem PySem.Spec PyProof.Rows L2

section
variable {C : Ct} {w : World} {K : PySem.W.Frag} {B n n0 : Nw} {m : Mem} {env : Env'} {σ : L2.St}
abbrev Nw.now (n B : Nw) : Nw := ⟨n.G, n.al, B.H⟩
theorem pre_mem {a b : List Addr} (h : a <+: b) {p : Addr} (e : p ∈ a) : p ∈ b := by
  obtain ⟨t, rfl⟩ := h
  exact List.mem_append_left _ e
theorem Ok.rebase (ok : Ok C w K B n env m σ) : Ok C w K (n.now B) n env m σ :=
  ⟨ok.good, ⟨fun _ _ h => h, fun p o e na nt => ok.base.keepN p o e (fun z => na (pre_mem ok.base.ale z)) nt, ok.base.there, fun _ _ => rfl, List.prefix_rfl, fun k p hk e => by
    have hk' : n.al.length ≤ k := hk
    rw [List.getElem?_eq_none hk'] at e; cases e⟩,
   ⟨ok.env.len, ok.env.fz, fun i x e => let ⟨a, f, q⟩ := ok.env.own i x e; ⟨a, f, q.ok, q.g, q.al, q.new⟩, ok.env.apart⟩⟩
theorem le_back (l : B.le n0) (l' : (n0.now B).le n) : B.le n :=
  ⟨fun p o e => l'.g p o (l.g p o e), fun p o e na nt => l'.keepN p o e (l.nal (by rw [e]; simp) na) nt, l'.there, fun p e => (l'.gnew p e).trans (l.gnew p e), l.ale.trans l'.ale, fun k p hk e => by
    by_cases h : k < n0.al.length
    · exact l.anew k p hk (pre_back l'.ale e h)
    · exact l'.anew k p (Nat.le_of_not_lt h) e⟩
theorem Ok.unbase (l : B.le n0) (ok : Ok C w K (n0.now B) n env m σ) : Ok C w K B n env m σ :=
  ⟨ok.good, le_back l ok.base, ⟨ok.env.len, ok.env.fz, fun i x e => let ⟨a, f, q⟩ := ok.env.own i x e; ⟨a, f, q.ok, q.g, q.al, q.new⟩, ok.env.apart⟩⟩
theorem le_sub (l : (n0.now B).le n) : n0.sub n := ⟨l.g, l.ale⟩
theorem MoOk.noxd {a : Addr} {x : Mo} {fs : List (Str × V)} (h : MoOk C w K n a x) : n.H a ≠ some (.xd fs) := fun z => by
  cases x with
  | lst xs => obtain ⟨vs, e, r⟩ := h; rw [e] at z; cases z
  | ins c xs => obtain ⟨dx, vs, e, q, r⟩ := h; rw [e] at z; cases z
  | dct kvs =>
    obtain ⟨es, e, q, r⟩ := h
    rw [e] at z
    have z' : HO.ext _ = HO.xd fs := Option.some.inj z
    cases z'
theorem Ok.frz {dd : Addr} {fs : List (Str × V)} (ok : Ok C w K B n env m σ) (hB : B.H dd = none) (hH : n.H dd = some (.xd fs)) :
    Ok C w K B ⟨upd n.G dd (.xd fs), n.al, n.H⟩ env m σ ∧ ∀ p o, n.G p = some o → upd n.G dd (.xd fs) p = some o := by
  have hg : ∀ p o, n.G p = some o → upd n.G dd (.xd fs) p = some o := fun p o e => by
    by_cases z : p = dd
    · subst z
      have := ok.good.sub p o e
      rw [hH] at this
      cases this
      exact upd_same
    · rw [upd_ne z]; exact e
  refine ⟨⟨⟨fun p o e => ?_, ok.good.nd, ok.good.len, fun k x a e1 e2 => ?_, ok.good.tab, tg_upd ok.good.tab (Calm.xd hH) ok.good.tg⟩, ⟨fun p o e => hg p o (ok.base.g p o e), ok.base.keepN, ok.base.there, fun p e => ?_, ok.base.ale, ok.base.anew⟩,
    ⟨ok.env.len, fun i d e => let ⟨v, f, z⟩ := ok.env.fz i d e; ⟨v, f, Fz.keep hg (fun _ _ e => e) z⟩, fun i x e => ?_, ok.env.apart⟩⟩, hg⟩
  · have e' : upd n.G dd (.xd fs) p = some o := e
    show n.H p = some o
    by_cases z : p = dd
    · subst z; rw [upd_same] at e'; cases e'; exact hH
    · rw [upd_ne z] at e'; exact ok.good.sub p o e'
  · obtain ⟨h1, h2⟩ := ok.good.at_ k x a e1 e2
    refine ⟨h1.imp (n := n) hg (fun _ _ e => e) fun _ e => e, ?_⟩
    show upd n.G dd (.xd fs) a = none
    rw [upd_ne (fun z => by subst z; exact h1.noxd hH)]; exact h2
  · show upd n.G dd (.xd fs) p = B.G p
    rw [upd_ne (fun z => by subst z; exact e hB)]; exact ok.base.gnew p e
  · obtain ⟨a, f, q⟩ := ok.env.own i x e
    refine ⟨a, f, q.ok.imp (n := n) hg (fun _ _ e => e) fun _ e => e, ?_, q.al, q.new⟩
    show upd n.G dd (.xd fs) a = none
    rw [upd_ne (fun z => by subst z; exact q.ok.noxd hH)]; exact q.g
end
def XFz (C : Ct) (w : World) (K : PySem.W.Frag) (B : Nw) (c : Nat) (d : Option Addr) (vs : List V) (xs : List Dat) : Prop :=
  vs.length = (C.flds c).length ∧ ((d = none ∧ vs = []) ∨ ∃ a, d = some a ∧ B.G a = some (.xd ((C.flds c).zip vs))) ∧ FzAllN C w K B vs xs
def En.gone (D : En) (i : Nat) : En := ⟨fun e m => D.nx (e.set i none) m, D.rt, fun e m => D.bk (e.set i none) m, fun e m => D.ct (e.set i none) m⟩
def hGo (i : Nat) (tst : Nat → Option Bool) (ds : Addr → Nat → List Dat → TSd) (EXo : QXe) (D : En) : QXe := fun c xs env m => match tst c with
  | some true => ∀ a, ds a c xs (D.gone i) (env.set i (some (.f (.ref a)))) m
  | some false => EXo c xs env m
  | none => False
def sTry (i : Nat) (tst : Nat → Option Bool) (dt : QXe → TSd) (ds : Addr → Nat → List Dat → TSd) (EXo : QXe) : TSd := fun D env m => ∀ EX', (∀ c xs env' m', hGo i tst ds EXo D c xs env' m' → EX' c xs env' m') → dt EX' D env m
section
variable {X : Cx} {C : Ct} {B : Nw} {x nm : Str} {cv : Value} {i : Nat} {body suite : List Stmt} {b0 : Stmt} {np pos pos' : Pos} {tst : Nat → Option Bool} {dt : QXe → TSd} {ds : Addr → Nat → List Dat → TSd} {EXo : QXe}
theorem sTry.mono (hb : ∀ EX, MonoS (dt EX)) (hs : ∀ a c xs, MonoS (ds a c xs)) : MonoS (sTry i tst dt ds EXo) := fun env m D D' l h EX' hE => by
  refine hb EX' env m D D' l (h EX' fun c xs env' m' q => hE c xs env' m' ?_)
  unfold hGo at q ⊢
  split at q
  · exact fun a => hs a c xs _ _ (D.gone i) (D'.gone i) ⟨fun e m h => l.nx _ _ h, l.rt, fun e m h => l.bk _ _ h, fun e m h => l.ct _ _ h⟩ (q a)
  · exact q
  · exact q
theorem ds_try (hs : X.stack = X.env :: X.outer) (hf : X.env.frame = some X.env.locals) (hN : X.N.Nodup) (hi : X.N[i]? = some nm) (hln : X.env.kindOf nm = some .local) (hc : Names X x cv) (tk : TakesD X C B EXo)
    (htst : ∀ c b, tst c = some b → PySem.W.exmOne X.K (.ref (C.addr c)) cv = some b) (mb : ∀ EX, MonoS (dt EX)) (ms : ∀ a c xs, MonoS (ds a c xs))
    (hb : ∀ (pn : List (Addr × Obj)) (xe : Value → Shared → Prop) (B' : Nw) (EX : QXe), TakesD (X.tr pn xe) C B' EX → PassesOwn (model X.prog X.w) X.A X.env xe → DSs (X.tr pn xe) C B' body (dt EX))
    (hsu : ∀ (a : Addr) (oe : Obj) (d : Option Addr) (pn : List (Addr × Obj)) (c : Nat) (vs : List V) (xs : List Dat) (B' : Nw), Zc (.ref (C.addr c)) d oe → (∃ vs, oe.data = .fields vs) → XFz C X.w X.K B' c d vs xs → DSs (X.suite a ((a, oe) :: pn)) C B' (b0 :: suite) (ds a c xs)) :
    DS X C B (.Try body [.ExceptHandler (some (.Name x np)) (some nm) (b0 :: suite) pos'] [] [] pos) (sTry i tst dt ds EXo) := by
  let exOf : Nw → WX → QXe := fun B' W c xs env m => ∀ n dx vs σ, Ok C X.w X.K B' n env m σ → XAt C B' n c dx vs → FzAllN C X.w X.K n vs xs → W (.ref (C.addr c)) dx σ n.H
  refine ⟨sTry.mono mb ms, impS (ps_try_as (tb := fun W D σ H => ∃ B', lS C B' X.w X.K (dt (exOf B' W)) D σ H) (ts := fun a cls d D σ H => ∃ c xs vs B', cls = .ref (C.addr c) ∧ XFz C X.w X.K B' c d vs xs ∧ lS C B' X.w X.K (ds a c xs) D σ H)
    (Wout := fun cls dx σ H => atX C B X.w X.K EXo σ cls dx H) hs hf hN hi hln hc tk (fun W pn xe tkW hp => ⟨fun pins s σ H D I h => ?_⟩) (fun a oe cls d pn hz hd => ⟨fun pins s σ H D I h => ?_⟩)) ?_⟩
  · obtain ⟨B', h⟩ := h
    refine (hb pn xe B' (exOf B' W) (tkW.imp fun cls dx σ H q => ?_) hp).run.run pins s σ H D I h
    obtain ⟨n, env, m, c, xs, vs, rfl, ok, rfl, hx, hz, hE⟩ := q
    exact hE n dx vs σ ok hx hz
  · obtain ⟨c, xs, vs, B', rfl, hx, h⟩ := h
    exact (hsu a oe d pn c vs xs B' hz hd hx).run.run pins s σ H D I h
  · rintro D σ H ⟨n, env, m, rfl, ok, h⟩
    refine ⟨n.now B, n, env, m, rfl, ok.rebase, ?_⟩
    have back : En.le (lD C B X.w X.K n D) (lD C (n.now B) X.w X.K n D) := ⟨fun e m h n' σ' l ok' => h n' σ' l (ok'.unbase ok.base), fun y m h n' v l => h n' v (le_back ok.base l), fun e m h n' σ' l ok' => h n' σ' l (ok'.unbase ok.base), fun e m h n' σ' l ok' => h n' σ' l (ok'.unbase ok.base)⟩
    refine mb _ env m _ _ back (h _ fun c xs env' m' q => ?_)
    intro n1 dx vs σ1 ok1 hx hz
    have s1 : n.sub n1 := le_sub ok1.base
    have ok1' := ok1.unbase ok.base
    unfold hGo at q
    show ∃ b, PySem.W.exmOne X.K (.ref (C.addr c)) cv = some b ∧ _ ∧ _
    split at q
    · rename_i ht
      refine ⟨true, htst c true ht, fun _ a ha => ?_, fun z => Bool.noConfusion z⟩
      -- the dict changes no more
      obtain ⟨n2, e2, ok2, s2, hF, hz2⟩ : ∃ n2 : Nw, n2.H = n1.H ∧ Ok C X.w X.K B n2 env' m' σ1 ∧ n1.sub n2 ∧ XFz C X.w X.K (n2.now B) c dx vs xs ∧ FzAllN C X.w X.K n2 vs xs := by
        obtain ⟨hl, hx | ⟨dd, rfl, h1, h2⟩⟩ := hx
        · exact ⟨n1, rfl, ok1', .refl _, ⟨hl, .inl hx, hz⟩, hz⟩
        · obtain ⟨ok2, hg⟩ := ok1'.frz h1 h2
          have hz2 : FzAllN C X.w X.K ⟨upd n1.G dd (.xd ((C.flds c).zip vs)), n1.al, n1.H⟩ vs xs := FzAll.keep hg (fun _ _ e => e) hz
          exact ⟨⟨upd n1.G dd (.xd ((C.flds c).zip vs)), n1.al, n1.H⟩, rfl, ok2, ⟨hg, List.prefix_rfl⟩, ⟨hl, .inr ⟨dd, rfl, upd_same⟩, hz2⟩, hz2⟩
      refine ⟨c, xs, vs, n2.now B, rfl, hF, n2, env'.set i (some (.f (.ref a))), m', e2, ok2.rebase.setF (.ref a), ?_⟩
      have s12 := s1.trans s2
      refine ms a c xs _ _ _ _ ⟨fun e m h n' σ' l ok' => ?_, fun y m h n' v l g z => ?_, fun e m h n' σ' l ok' => ?_, fun e m h n' σ' l ok' => ?_⟩ (q a)
      · exact h n' (σ'.set i none) (s12.trans l) ⟨ok'.good, le_back ok2.base ok'.base, (ok'.unbase ok2.base).env.set0⟩
      · exact h n' v (le_back ok2.base l) g z
      · exact h n' (σ'.set i none) (s12.trans l) ⟨ok'.good, le_back ok2.base ok'.base, (ok'.unbase ok2.base).env.set0⟩
      · exact h n' (σ'.set i none) (s12.trans l) ⟨ok'.good, le_back ok2.base ok'.base, (ok'.unbase ok2.base).env.set0⟩
    · rename_i ht
      exact ⟨false, htst c false ht, fun z => Bool.noConfusion z, fun _ => ⟨n1, env', m', c, xs, vs, rfl, ok1', rfl, ⟨hx.1, hx.2⟩, hz, q⟩⟩
    · exact q.elim

def dXf (a : Addr) (c : Nat) (xs : List Dat) (fi : Nat → Option Nat) (d : TD) : TD := fun env m Q => d env m fun x m1 => match x with
  | .f (.ref b) => b = a ∧ match fi c with
    | some k => match xs[k]? with
      | some y => Q (.f y) m1
      | none => False
    | none => False
  | _ => False
structure XfiOk (K : PySem.W.Frag) (C : Ct) (f : Str) (fi : Nat → Option Nat) : Prop where
  ok : ∀ c k, fi c = some k → XfC K (C.addr c) ∧ PySem.W.findIn K (.ref (C.addr c)) f = some none ∧ (C.flds c)[k]? = some f ∧ (C.flds c).Nodup
theorem de_xf {a : Addr} {oe : Obj} {d : Option Addr} {pn : List (Addr × Obj)} {c : Nat} {vs : List V} {xs : List Dat} {e : Expr} {de : TD} {f : Str} {fi : Nat → Option Nat} (F : XfiOk X.K C f fi) (hz : Zc (.ref (C.addr c)) d oe) (hd : ∃ vs, oe.data = .fields vs) (hx : XFz C X.w X.K B c d vs xs)
    (he : DE (X.suite a ((a, oe) :: pn)) C B e de) (hb : attributeBase e f X.env (eval e X.env) = eval e X.env := by rfl) : DE (X.suite a ((a, oe) :: pn)) C B (.Attribute e f pos) (dXf a c xs fi de) := by
  refine ⟨fun env m Q Q' i q => he.mono _ _ _ _ (fun y m1 h1 => ?_) q, ?_⟩
  · try dsimp only at h1 ⊢
    split at h1
    · refine ⟨h1.1, ?_⟩
      obtain ⟨_, h1⟩ := h1
      split at h1
      · split at h1
        · exact i _ _ h1
        · exact h1
      · exact h1
    · exact h1
  · cases hfi : fi c with
    | none =>
      refine ⟨fun pins s σ H Q I q => attr_of hb (wpAny_mono (he.run.run pins s σ H (fun _ _ => False) I ?_) (fun u s1 ⟨_, _, _, _, z⟩ => z.elim) fun _ _ z => z)⟩
      obtain ⟨n, env, m, rfl, ok, q⟩ := q
      refine ⟨n, env, m, rfl, ok, he.mono _ _ _ _ (fun y m1 q1 n1 v g1 l1 ly => ?_) q⟩
      split at q1
      · obtain ⟨_, q1⟩ := q1
        rw [hfi] at q1
        exact q1
      · exact q1
    | some k =>
      obtain ⟨T, h1, h2, h3⟩ := F.ok c k hfi
      refine imp (pe_xf T h1 hz hd he.run hb) ?_
      rintro σ H Q ⟨n, env, m, rfl, ok, q⟩
      refine ⟨n, env, m, rfl, ok, he.mono _ _ _ _ (fun y m1 q1 n1 v g1 l1 ly => ?_) q⟩
      split at q1
      · rename_i b
        obtain ⟨rfl, q1⟩ := q1
        rw [hfi] at q1
        have q1' : (match xs[k]? with
          | some y => AftL C X.w X.K n env σ Q (.f y) m1
          | none => False) := q1
        split at q1'
        · rename_i y hy
          have ly : FzN C X.w X.K n1 v (.ref b) := ly
          have ev : v = .ref b := by cases ly; rfl
          subst ev
          have ok1 := ok.go g1 l1
          obtain ⟨hl, hx1, hx2⟩ := hx
          have hx2' : FzAllN C X.w X.K n1 vs xs := FzAllN.le (n := B) hx2 ok1.base
          obtain ⟨u, e4, z4⟩ := hx2'.get hy
          rcases hx1 with ⟨_, rfl⟩ | ⟨dd, rfl, hG⟩
          · simp at e4
          · exact ⟨rfl, rfl, dd, _, u, rfl, g1.sub _ _ (ok1.base.g _ _ hG), zip_lookup h3 h2 e4, q1' n1 u g1 l1 z4⟩
        · exact q1'.elim
      · exact q1.elim
def oIsE (a : Addr) (c : Nat) (isE : Nat → Nat → Option Bool) : OpN := fun env m xs Q => match xs with
  | [.f (.ref b), .f (.cls c')] => b = a ∧ match isE c c' with
    | some r => Q (.bl r) m
    | none => False
  | _ => False
structure IsEOk (K : PySem.W.Frag) (C : Ct) (isE : Nat → Nat → Option Bool) : Prop where
  ok : ∀ c c' b, isE c c' = some b → ExcC K (C.addr c) ∧ PySem.W.kitOne K (.ref (C.addr c)) (.ref (C.addr c')) = some b
theorem oIsE.mono {a : Addr} {c : Nat} {isE : Nat → Nat → Option Bool} : MonoN (oIsE a c isE) := fun env m xs Q Q' i => by
  unfold oIsE
  split
  · refine fun h => ⟨h.1, ?_⟩
    obtain ⟨_, h⟩ := h
    split at h
    · exact i _ _ h
    · exact h
  · exact id
theorem call_isED {a : Addr} {oe : Obj} {d : Option Addr} {pn : List (Addr × Obj)} {c : Nat} {isE : Nat → Nat → Option Bool} (F : IsEOk X.K C isE) (hz : Zc (.ref (C.addr c)) d oe) (hd : ∃ vs, oe.data = .fields vs) {vs : List V} {xs : List Dat} (hx : XFz C X.w X.K B c d vs xs) :
    CallR (X.suite a ((a, oe) :: pn)) (.builtin "isinstance") (fun vs H Q => ∃ n env m σ xs, n.H = H ∧ Ok C X.w X.K B n env m σ ∧ LvsOk C X.w X.K n env σ vs xs ∧ oIsE a c isE env m xs (AftD C X.w X.K n Q)) := by
  intro pins s σ H ws us Q I rv h
  obtain ⟨n, env, m, σ', xs, rfl, ok, lx, h⟩ := h
  unfold oIsE at h
  split at h
  · rename_i b c'
    obtain ⟨rfl, h⟩ := h
    split at h
    · rename_i r hr
      obtain ⟨T, kit⟩ := F.ok c c' r hr
      cases lx with
      | cons l1 lx =>
        cases lx with
        | cons l2 lx =>
          cases lx
          have l1 : FzN C X.w X.K n _ (.ref b) := l1
          have l2 : FzN C X.w X.K n _ (.cls c') := l2
          cases l1
          cases l2
          cases rv with
          | cons r1 rv =>
            cases rv with
            | cons r2 rv =>
              cases rv
              cases r1
              cases r2
              obtain ⟨hget, _⟩ := I.pin (b, oe) (List.mem_append.mpr (.inl List.mem_cons_self))
              obtain ⟨us, hv⟩ := hd
              have J : ∃ od, PySem.W.InstAt s.heap b oe (C.addr c) od := by
                obtain ⟨hl, hx1, _⟩ := hx
                rcases hx1 with ⟨rfl, _⟩ | ⟨dd, rfl, hG⟩
                · refine ⟨none, hget, hz.1, by unfold PySem.W.notCls; rw [hv] <;> rfl, ?_⟩
                  rw [hz.2]; exact True.intro
                · have e1 := ok.good.sub _ _ (ok.base.g _ _ hG)
                  obtain ⟨mA, ⟨o, es, ep, ho, _⟩, _⟩ : ∃ mA, s.heap.Ns1 dd mA ∧ _ := I.hok _ _ e1
                  refine ⟨some o, hget, hz.1, by unfold PySem.W.notCls; rw [hv] <;> rfl, ?_⟩
                  rw [hz.2]; exact ho
              exact PySem.W.kia_one (PySem.W.dl_kitx T) I.kIn J kit (fun z => nomatch z) fun tk => ⟨.bl r, _, I.kept (t' := tk) fun _ _ z => z, rfl, h n _ ok.good (.refl _) (.bl _)⟩
    · exact h.elim
  · exact h.elim
theorem de_isE {a : Addr} {oe : Obj} {d : Option Addr} {pn : List (Addr × Obj)} {c : Nat} {isE : Nat → Nat → Option Bool} {vs : List V} {xs : List Dat} {e : Expr} {es : List Expr} {da : TAd} {p : Pos} (F : IsEOk X.K C isE) (hz : Zc (.ref (C.addr c)) d oe) (hd : ∃ vs, oe.data = .fields vs) (hx : XFz C X.w X.K B c d vs xs)
    (hg : Gl (X.suite a ((a, oe) :: pn)) "isinstance") (hm : X.mg "isinstance" = none) (hv : bootBuiltins "isinstance" = some (.builtin "isinstance")) (ha : DA (X.suite a ((a, oe) :: pn)) C B (e :: es) da)
    (he : starEach (e :: es) X.env = (false, eval e X.env) :: starEach es X.env := by rfl) (hpl : (backTo pos (starEach es X.env)).any (·.1) = false := by rfl) :
    DE (X.suite a ((a, oe) :: pn)) C B (.Call (.Name "isinstance" p) (e :: es) [] pos) (dN (oIsE a c isE) da) := by
  refine ⟨dN.mono oIsE.mono ha.mono, imp (pe_callB (call_isED F hz hd hx) hg hm hv ha.run (by decide) (by decide) he hpl) ?_⟩
  rintro σ H Q ⟨n, env, m, rfl, ok, h⟩
  refine ⟨n, env, m, rfl, ok, ha.mono _ _ _ _ (fun xs m1 h1 n1 vs g1 l1 lx => ?_) h⟩
  exact ⟨n1, env, m1, σ, xs, rfl, ok.go g1 l1, lx, oIsE.mono _ _ _ _ _ (fun z m2 h2 n2 v g2 l2 hz => h2 n2 v g2 (l1.trans l2) hz) h1⟩
end
end DL

set_option maxHeartbeats 1000000
namespace DL
open PySem PySem.Spec PyProof.Rows L2

theorem pRel.mono {n pre post posE} : MonoP (pRel n pre post posE) := fun ds m Q Q' E E' i j h => ⟨h.1, h.2.1, fun r m' q => i _ _ (h.2.2.1 r m' q), fun c xs m' q => j _ _ _ (h.2.2.2 c xs m' q)⟩
def fdA (K : PySem.W.Frag) (p : Str × Option Str) : FuncData := match K.lookup (He.fAd K p) with
  | some ⟨_, _, .func fd, _⟩ => fd
  | _ => default
structure FnC (P : Program) (w : World) (K : PySem.W.Frag) (mg : Str → Option Value) (base : Heap) (C : Ct) (x : Str) (k : Nat) (ps : List Str) (p : DSp) : Prop where
  hm : mg x = some (.ref (He.ga K x))
  hk : PySem.W.keepIn K (.ref (He.ga K x)) = true
  F : DF P w K mg base C k (He.ga K x) (fdA K (x, none)) ps p
  hb : Binds K (fdA K (x, none)) ps []
  hl : ∀ ds m Q E, p ds m Q E → ds.length = ps.length
structure FnCG (P : Program) (w : World) (K : PySem.W.Frag) (mg : Str → Option Value) (base : Heap) (C : Ct) (x : Str) (k : Nat) (ps : List Str) (p : DSp) : Prop where
  hm : mg x = some (.ref (He.ga K x))
  hk : PySem.W.keepIn K (.ref (He.ga K x)) = true
  F : DG P w K mg base C k (He.ga K x) (fdA K (x, none)) ps p
  hb : Binds K (fdA K (x, none)) ps []
  hl : ∀ ds m Q E, p ds m Q E → ds.length = ps.length
theorem DG.lift {P : Program} {w : World} {K : PySem.W.Frag} {mg : Str → Option Value} {base : Heap} {C : Ct} {j k : Nat} {f : Addr} {fd : FuncData} {ps : List Str} {p : DSp} (F : DG P w K mg base C j f fd ps p) (h : j ≤ k) : DG P w K mg base C k f fd ps p :=
  ⟨F.mono, ⟨F.ok.len, fun A outer s H args us vs Q E hr => F.ok.run A outer s H args us vs Q E ⟨hr.room.mono h, hr.gd⟩⟩⟩
theorem DF.lift {P : Program} {w : World} {K : PySem.W.Frag} {mg : Str → Option Value} {base : Heap} {C : Ct} {j k : Nat} {f : Addr} {fd : FuncData} {ps : List Str} {p : DSp} (F : DF P w K mg base C j f fd ps p) (h : j ≤ k) : DF P w K mg base C k f fd ps p :=
  ⟨F.mono, F.ok.mono h⟩
section
variable {X : Cx} {C : Ct} {B : Nw} {k j : Nat} {ps : List Str} {p : DSp} {EX : QXe} {x : Str} {p1 pos : Pos} {e : Expr} {es : List Expr} {da : TAd}
theorem de_fn (F : FnC X.prog X.w X.K X.mg X.base C x j ps p) (hr : Room k X.A) (h : j ≤ k) (ha : DA X C B (e :: es) da) (hx : PassD X C B EX) (hg : Gl X x := by rfl)
    (hdb : (x == ("__debug__" : Str)) = false := by decide) (he : starEach (e :: es) X.env = (false, eval e X.env) :: starEach es X.env := by rfl) (hpl : (backTo pos (starEach es X.env)).any (·.1) = false := by rfl) :
    DE X C B (.Call (.Name x p1) (e :: es) [] pos) (dCall p EX da) := de_call (F.F.lift h) F.hl hr hg F.hm F.hk F.hb hx ha hdb he hpl
theorem de_fnG (F : FnCG X.prog X.w X.K X.mg X.base C x j ps p) (hr : RoomG k X.A) (h : j ≤ k) (ha : DA X C B (e :: es) da) (hx : PassD X C B EX) (hg : Gl X x := by rfl)
    (hdb : (x == ("__debug__" : Str)) = false := by decide) (he : starEach (e :: es) X.env = (false, eval e X.env) :: starEach es X.env := by rfl) (hpl : (backTo pos (starEach es X.env)).any (·.1) = false := by rfl) :
    DE X C B (.Call (.Name x p1) (e :: es) [] pos) (dCall p EX da) := de_callG (F.F.lift h) F.hl hr hg F.hm F.hk F.hb hx ha hdb he hpl
theorem rm {k : Nat} {A : Around} (h : Room k A) : A.units + 70 < cLine := by have := h.un; omega
theorem op_eqR (hr : Room k X.A) : OpD X C (compareOp .Eq) (oEq id) := op_eqd (by have := rm hr; omega)
theorem op_neR (hr : Room k X.A) : OpD X C (compareOp .NotEq) (oEq not) := op_ned (by have := rm hr; omega)
theorem op_inR (hr : Room k X.A) : OpD X C (compareOp .In) (oIn id) := op_inS (by have := rm hr; omega)
theorem op_ninR (hr : Room k X.A) : OpD X C (compareOp .NotIn) (oIn not) := op_notInS (by have := rm hr; omega)
theorem ds_setV {i : Nat} {de : TD} {pos' : Pos} (hN : X.N.Nodup) (he : DE X C B e de) (hi : X.N[i]? = some x := by rfl) (hx : Loc X.env.scope x := by first | exact Or.inl rfl | exact Or.inr rfl) (hs : swapsWith e (some (.Name x pos')) pos.line X.env = pure false := by rfl)
    (hf : X.fn x = true ∨ X.env.scope.names.lookup x = some .local := by first | exact .inl rfl | exact .inr rfl) : DS X C B (.Assign [.Name x pos'] e pos) (sAsg (.nm i) de) := ds_set hN hi hx he hs (hf := hf)
theorem ds_setNV {i : Nat} {dn : TN} {pos' : Pos} (hN : X.N.Nodup) (he : DN X C B e dn) (hi : X.N[i]? = some x := by rfl) (hx : Loc X.env.scope x := by first | exact Or.inl rfl | exact Or.inr rfl) (hs : swapsWith e (some (.Name x pos')) pos.line X.env = pure false := by rfl)
    (hf : X.fn x = true ∨ X.env.scope.names.lookup x = some .local := by first | exact .inl rfl | exact .inr rfl) : DS X C B (.Assign [.Name x pos'] e pos) (sSetN i dn) := ds_setN hN hi hx he hs (hf := hf)
theorem tg_v {i : Nat} (hN : X.N.Nodup) (hi : X.N[i]? = some x := by rfl) (hx : Loc X.env.scope x := by first | exact Or.inl rfl | exact Or.inr rfl) (hf : X.fn x = true ∨ X.env.scope.names.lookup x = some .local := by first | exact .inl rfl | exact .inr rfl) : TgOk X (.Name x pos) (.nm i) := tg_nm hN hi hx hf
theorem tgs_v {i : Nat} {is : List Nat} (hN : X.N.Nodup) (r : TgsOk X es is) (hi : X.N[i]? = some x := by rfl) (hx : Loc X.env.scope x := by first | exact Or.inl rfl | exact Or.inr rfl) (hf : X.fn x = true ∨ X.env.scope.names.lookup x = some .local := by first | exact .inl rfl | exact .inr rfl) :
    TgsOk X (.Name x pos :: es) (i :: is) := tgs_cons hN hi hx r hf
theorem de_tyN {T : String} (hm : X.mg x = none) (hv : bootBuiltins x = some (.type T)) (hg : Gl X x := by rfl) (hn : x ≠ "__name__" := by decide) (hd : (x == ("__debug__" : Str)) = false := by decide) : DE X C B (.Name x pos) (dC (.ty T)) :=
  de_bltn (v := .ty T) hg hm hv (show RelV (.ty T) (.type T) from rfl) (fun _ _ _ _ _ => .ty T) hn hd
theorem de_gInt {i : Int} (hm : ∃ t, X.mg x = some (.int i t)) (hg : Gl X x := by rfl) (hd : (x == ("__debug__" : Str)) = false := by decide) : DE X C B (.Name x pos) (dC (.int i)) := by
  obtain ⟨t, e⟩ := hm
  exact de_glob (v := .int i) hg e ⟨t, rfl⟩ (fun _ _ _ _ _ => .int i) hd
theorem const_cls {c : Nat} : ∀ σ H Q, lE C B X.w X.K (dC (.cls c)) σ H Q → tC (.ref (C.addr c)) σ H Q := by
  rintro σ H Q ⟨n, env, m, rfl, ok, h⟩
  exact h n _ ok.good (.refl _) (.cls c)
theorem de_gCls {c : Nat} (hm : X.mg x = some (.ref (C.addr c))) (hg : Gl X x := by rfl) (hd : (x == ("__debug__" : Str)) = false := by decide) : DE X C B (.Name x pos) (dC (.cls c)) :=
  ⟨dC.mono _, imp (pe_glob hg hm (show RelV (.ref (C.addr c)) (.ref (C.addr c)) from rfl) hd) const_cls⟩
theorem de_b {id : String} {f : OpN} (hc : CallD X C (.builtin id) f) (hm : X.mg x = none) (hv : bootBuiltins x = some (.builtin id)) (ha : DA X C B (e :: es) da) (hg : Gl X x := by rfl) (hn : x ≠ "__name__" := by decide) (hdb : (x == ("__debug__" : Str)) = false := by decide)
    (he : starEach (e :: es) X.env = (false, eval e X.env) :: starEach es X.env := by rfl) (hpl : (backTo pos (starEach es X.env)).any (·.1) = false := by rfl) : DE X C B (.Call (.Name x p1) (e :: es) [] pos) (dN f da) := de_callB hc hg hm hv ha hn hdb he hpl
theorem de_t {T : String} {f : OpN} (hc : CallD X C (.type T) f) (hm : X.mg x = none) (hv : bootBuiltins x = some (.type T)) (ha : DA X C B (e :: es) da) (hg : Gl X x := by rfl) (hn : x ≠ "__name__" := by decide) (hdb : (x == ("__debug__" : Str)) = false := by decide)
    (he : starEach (e :: es) X.env = (false, eval e X.env) :: starEach es X.env := by rfl) (hpl : (backTo pos (starEach es X.env)).any (·.1) = false := by rfl) : DE X C B (.Call (.Name x p1) (e :: es) [] pos) (dN f da) := de_callTy hc hg hm hv ha hn hdb he hpl
variable {elt te iter : Expr} {ifs : List Expr} {scope : Scope} {own : List (Str × Nat)} {tg : Tg} {dt : TB} {de : TD} {di : TId}
theorem dn_comp (own : List (Str × Nat)) (hc : X.calm = true) (hN : X.N.Nodup) (hi : DI X C B te iter di) (hg : Blk X scope fun Y => TgOk Y te tg) (ht : Blk X scope fun Y => DTs Y C B ifs dt) (he : Blk X scope fun Y => DE Y C B elt de)
    (ok : BlkOk X.N X.env.scope scope own) (htg : ∀ i ∈ tg.ids, i ∈ own.map (·.2)) (hs : ∀ x, foldedSetIterable iter X.env x = pure x := by intro _; rfl) : DN X C B (.ListComp elt [⟨te, iter, ifs, 0⟩] scope pos) (nLc tg dt de (own.map (·.2)) di) :=
  dn_lc hc hN hi ok (ht X.s_0 X.H_0 0 [] []).mono (he X.s_0 X.H_0 0 [] []).mono hg ht he htg hs
theorem ds_setC {i : Nat} {y : Str} {py spos : Pos} (own : List (Str × Nat)) (hc : X.calm = true) (hN : X.N.Nodup) (hi : DI X C B te iter di) (hg : Blk X scope fun Y => TgOk Y te tg) (ht : Blk X scope fun Y => DTs Y C B ifs dt) (he : Blk X scope fun Y => DE Y C B elt de)
    (ok : BlkOk X.N X.env.scope scope own) (htg : ∀ i ∈ tg.ids, i ∈ own.map (·.2)) (hy : X.N[i]? = some y := by rfl) (hyl : X.env.scope.names.lookup y = some .local := by rfl) (hsw : swapsWith (.ListComp elt [⟨te, iter, ifs, 0⟩] scope pos) (some (.Name y py)) spos.line X.env = pure true := by rfl)
    (hs : ∀ x, foldedSetIterable iter X.env x = pure x := by intro _; rfl) : DS X C B (.Assign [.Name y py] (.ListComp elt [⟨te, iter, ifs, 0⟩] scope pos) spos) (sAsg (.nm i) (dNew (nLc tg dt de (own.map (·.2)) di))) :=
  ds_setLc hc hN hy hyl hsw hi ok (ht X.s_0 X.H_0 0 [] []).mono (he X.s_0 X.H_0 0 [] []).mono hg ht he htg hs
theorem ds_setCN {i : Nat} {y : Str} {py spos : Pos} (own : List (Str × Nat)) (hc : X.calm = true) (hN : X.N.Nodup) (hi : DI X C B te iter di) (hg : Blk X scope fun Y => TgOk Y te tg) (ht : Blk X scope fun Y => DTs Y C B ifs dt) (he : Blk X scope fun Y => DE Y C B elt de)
    (ok : BlkOk X.N X.env.scope scope own) (htg : ∀ i ∈ tg.ids, i ∈ own.map (·.2)) (hy : X.N[i]? = some y := by rfl) (hyl : X.env.scope.names.lookup y = some .local := by rfl) (hsw : swapsWith (.ListComp elt [⟨te, iter, ifs, 0⟩] scope pos) (some (.Name y py)) spos.line X.env = pure true := by rfl)
    (hs : ∀ x, foldedSetIterable iter X.env x = pure x := by intro _; rfl) : DS X C B (.Assign [.Name y py] (.ListComp elt [⟨te, iter, ifs, 0⟩] scope pos) spos) (sSetN i (nLc tg dt de (own.map (·.2)) di)) :=
  ds_setLcN hc hN hy hyl hsw hi ok (ht X.s_0 X.H_0 0 [] []).mono (he X.s_0 X.H_0 0 [] []).mono hg ht he htg hs
end
end DL

set_option maxHeartbeats 1000000
namespace DL
open PySem PySem.Spec PyProof.Rows L2
abbrev oSub : Op2 := oI0 fun i j => .int (i - j)
abbrev oMul : Op2 := oI CMul fun i j => .int (i * j)
abbrev oFdiv : Op2 := oI CDivW fun i j => .int (i / j)
abbrev oMod : Op2 := oI (fun _ j => 0 < j) fun i j => .int (i % j)
abbrev oPow : Op2 := oI CPow fun i j => .int (i ^ j.toNat)
abbrev oShl : Op2 := oI CPow fun i j => .int (i * 2 ^ j.toNat)
abbrev oLt : Op2 := oI0 fun i j => .bl (decide (i < j))
abbrev oLe : Op2 := oI0 fun i j => .bl (decide (i ≤ j))
abbrev oGt : Op2 := oI0 fun i j => .bl (decide (j < i))
abbrev oGe : Op2 := oI0 fun i j => .bl (decide (j ≤ i))
structure MkC (P : Program) (w : World) (K : PySem.W.Frag) (mg : Str → Option Value) (base : Heap) (C : Ct) (x : Str) (c nf k : Nat) (ps : List Str) (p : DSp) : Prop where
  hm : mg x = some (.ref (C.addr c))
  M : Mk K (C.addr c) (He.fAd K (x, some "__init__"))
  F : DF P w K mg base C k (He.fAd K (x, some "__init__")) (fdA K (x, some "__init__")) ps p
  hb : Binds K (fdA K (x, some "__init__")) ps []
  hl : ∀ ds m Q E, p ds m Q E → ds.length = ps.length
  nf : (C.flds c).length = nf
structure XcC (P : Program) (w : World) (K : PySem.W.Frag) (mg : Str → Option Value) (base : Heap) (C : Ct) (x : Str) (c : Nat) (fs : List Str) : Prop where
  hm : mg x = some (.ref (C.addr c))
  T : OexC K (C.addr c)
  no : ∀ f ∈ fs, PySem.W.findIn K (.ref (C.addr c)) f = some none
  fl : C.flds c = fs.reverse
  few : fs.length ≤ 1000
  ini : PySem.W.findIn K (.ref (C.addr c)) "__init__" = some (some (.ref (He.fAd K (x, some "__init__"))))
  ty : PySem.W.typeIn K (.ref (He.fAd K (x, some "__init__"))) = some (.type "function")
  F : ∃ ps, FnOk P w K mg base (L2.CX P w) 1 (He.fAd K (x, some "__init__")) (fdA K (x, some "__init__")) ps (spX K fs) ∧ Binds K (fdA K (x, some "__init__")) ps []
section
variable {X : Cx} {C : Ct} {B : Nw} {k j c nf : Nat} {ps : List Str} {p : DSp} {EX : QXe} {x : Str} {p1 pos : Pos} {e : Expr} {es : List Expr} {da : TAd}
theorem de_mk (M : MkC X.prog X.w X.K X.mg X.base C x c nf j ps p) (hg : Gl X x) (hr : Room k X.A) (h : j + 1 ≤ k) (ha : DA X C B (e :: es) da) (hx : PassD X C B EX)
    (hdb : (x == ("__debug__" : Str)) = false := by decide) (he : starEach (e :: es) X.env = (false, eval e X.env) :: starEach es X.env := by rfl) (hpl : (backTo pos (starEach es X.env)).any (·.1) = false := by rfl) :
    DE X C B (.Call (.Name x p1) (e :: es) [] pos) (dMakeF c nf p EX da) := by
  obtain ⟨i, rfl⟩ : ∃ i, k = i + 1 := ⟨k - 1, by omega⟩
  exact de_makeF M.M (M.F.lift (by omega)) M.hl M.nf hr hg M.hm M.hb hx ha hdb he hpl
theorem dm_x {fs : List Str} {n : Nat} (M : XcC X.prog X.w X.K X.mg X.base C x c fs) (hr : Room k X.A) (h : 2 ≤ k) (ha : DA X C B (e :: es) da) (hn : fs.length = n := by rfl) (hg : Gl X x := by rfl)
    (hdb : (x == ("__debug__" : Str)) = false := by decide) (he : starEach (e :: es) X.env = (false, eval e X.env) :: starEach es X.env := by rfl) (hpl : (backTo pos (starEach es X.env)).any (·.1) = false := by rfl) :
    DM X C B (.Call (.Name x p1) (e :: es) [] pos) (mOwn c n da) := by
  subst hn
  obtain ⟨ps, F, hb⟩ := M.F
  exact dm_own M.T M.no M.fl M.few M.ini M.ty F (hr.mono h) hb hg M.hm ha hdb he hpl
theorem sDrop.mono {de : TD} (h : MonoD de) : MonoS (sDrop de) := fun env m D D' l => h _ _ _ _ fun _ m1 => l.nx _ _
theorem dNil.mono : MonoA dNil := fun _ _ _ _ i => i _ _
theorem dXf.mono {a : Addr} {c : Nat} {xs : List Dat} {fi : Nat → Option Nat} {d : TD} (h : MonoD d) : MonoD (dXf a c xs fi d) := fun env m Q Q' i q => h _ _ _ _ (fun y m1 h1 => by
  try dsimp only at h1 ⊢
  split at h1
  · refine ⟨h1.1, ?_⟩
    obtain ⟨_, h1⟩ := h1
    split at h1
    · split at h1
      · exact i _ _ h1
      · exact h1
    · exact h1
  · exact h1) q
theorem dn_sortedR {a : Expr} {da : TD} (hr : Room k X.A) (ns : NoSys X.K) (hm : X.mg "sorted" = none) (ha : DE X C B a da) (hg : Gl X "sorted" := by rfl)
    (he : starEach [a] X.env = (false, eval a X.env) :: starEach [] X.env := by rfl) (hpl : (backTo pos (starEach [] X.env)).any (·.1) = false := by rfl) : DN X C B (.Call (.Name "sorted" p1) [a] [] pos) (nSort da) := dn_sorted (by have := rm hr; omega) ns hg hm boot_sorted ha he hpl
theorem reprR (hr : Room k X.A) (hg : X.A.guards = some []) (ns : NoSys X.K) : CallD X C (.builtin "repr") oRepr := call_reprD hg (by have := rm hr; omega) ns
theorem strR (hr : Room k X.A) (hg : X.A.guards = some []) (ns : NoSys X.K) : CallD X C (.type "str") oStr := call_strD hg (rm hr) ns
end
def blkB (N : List Str) (sc scope : Scope) (own : List (Str × Nat)) : Bool :=
  decide (scope.kind = .function) && (scope.names.all (fun y => decide (scope.names.lookup y.1 = some y.2)) && (own.all (fun p => decide (N[p.2]? = some p.1)) &&
    (scope.names.all (fun y => !(decide (y.2 = .free)) || (decide (sc.names.lookup y.1 = some .cell) || decide (sc.names.lookup y.1 = some .free))) &&
      scope.names.all (fun y => !(decide (y.2 = .local) || decide (y.2 = .cell)) || (decide (y.1 ∈ own.map (·.1)) || !(decide (y.1 ∈ N)))))))
theorem blkB_ok {N : List Str} {sc scope : Scope} {own : List (Str × Nat)} (h : blkB N sc scope own = true) : BlkOk N sc scope own := by
  unfold blkB at h
  simp only [Bool.and_eq_true, decide_eq_true_eq, List.all_eq_true] at h
  obtain ⟨h1, h2, h3, h4, h5⟩ := h
  refine ⟨h1, h2, h3, fun y hy e => ?_, fun y hy e => ?_⟩
  · have := h4 y hy
    simp [e] at this
    exact this
  · have := h5 y hy
    rcases e with e | e <;> · simp [e] at this; simpa using this
end DL

set_option maxHeartbeats 2000000
namespace DL
open PySem PySem.Spec PyProof.Rows L2

def NoLst (K : PySem.W.Frag) : Prop := ∀ b o, K.lookup b = some o → o.cls ≠ .type "list"
def onlyAt (a : Addr) (u : HO) : Hp := fun b => if b = a then some u else none
theorem onlyAt_same {a : Addr} {u : HO} : onlyAt a u a = some u := if_pos rfl
theorem onlyAt_ne {a b : Addr} {u : HO} (h : b ≠ a) : onlyAt a u b = none := if_neg h
theorem onlyAt_inv {a b : Addr} {u x : HO} (h : onlyAt a u b = some x) : b = a ∧ x = u := by
  by_cases e : b = a
  · subst e; rw [onlyAt_same] at h; cases h; exact ⟨rfl, rfl⟩
  · rw [onlyAt_ne e] at h; cases h
section
variable {P : Program} {w : World} {K : PySem.W.Frag} {gl bn : Str → Option Value} {CX : CXT} {k : Nat} {f a : Addr} {fd : FuncData} {x : Str} {sp : Sp} {S : Shared} {us : List Value} {is : List Int}
theorem end_call (inK : K.In S.heap) (gG : S.heap.Ns mainGlobals gl) (gB : S.heap.Ns builtinsNs bn) (boot : ∀ y : Str, y ≠ "__name__" → bn y = bootBuiltins y) (nl : S.heap.NoLimit) (gens : S.gens = #[])
    (at_ : S.heap.get? a = some { cls := .type "list", data := .seq us.toArray }) (hin : IntsAre us is) (len : is.length ≤ sizeLine) (rm : RoomG k callerA) (noL : NoLst K)
    (F : ∀ B : Heap, K.In B → B.Ns mainGlobals gl → FnG P w K gl B CX k f fd [x] sp) (bind : ∀ (s : Shared) (v : Value), BindsTo s fd ⟨[v], []⟩ [(x, v)])
    (prom : sp [.ref a] (onlyAt a (.frz { cls := .type "list", data := .seq us.toArray } (.lst (is.map V.int)))) (fun v _ => v = .bl true) fun _ _ _ => False)
    (none_out : ∀ H e s', CX [] H S (fun _ _ _ => False) e s' → False) :
    codeAny (model P w) callerA (.call (.ref f) ⟨[.ref a], []⟩) (fun r s' => r = .ok (.ret (.bool true)) ∧ OldK S.heap s'.heap ∧ s'.os = S.os ∧ AllBare s'.gens) S := by
  let u : HO := .frz { cls := .type "list", data := .seq us.toArray } (.lst (is.map V.int))
  have rv := vals_ints hin
  have ka : K.lookup a = none := by
    cases e : K.lookup a with
    | none => rfl
    | some o =>
      have h1 := inK a o e
      rw [at_] at h1
      cases h1
      exact absurd rfl (noL a _ e)
  have okH : HOk P w (onlyAt a u) S.heap := fun b y e => by
    obtain ⟨rfl, rfl⟩ := onlyAt_inv e
    exact ⟨at_, by rw [List.length_map]; exact len, us, _, rv, at_⟩
  have hide : ∀ {b : Addr} {o : Obj}, S.heap.get? b = some o → b ≠ a → (hidT S.heap (onlyAt a u)).get? b = some o := fun e n => hidT_get e (onlyAt_ne n)
  have nsH : ∀ {b : Addr} {m : Str → Option Value}, S.heap.Ns b m → (hidT S.heap (onlyAt a u)).Ns b m := fun {b m} ⟨o, es, ep, e, d, r⟩ => ⟨o, es, ep, hide e (fun z => by
    subst z
    rw [at_] at e; cases e
    have d2 : Data.seq us.toArray _ = Data.dict es ep := d
    cases d2), d, r⟩
  have kB : K.In (hidT S.heap (onlyAt a u)) := fun b o e => hide (inK b o e) fun z => by rw [z, ka] at e; cases e
  have md : Mod K gl (hidT S.heap (onlyAt a u)) := ⟨kB, nsH gG, ⟨bn, nsH gB, boot⟩, let ⟨mc, h1, h2⟩ := nl; ⟨mc, nsH h1, h2⟩⟩
  have env : Env0 P w K gl (hidT S.heap (onlyAt a u)) callerA [] S (onlyAt a u) :=
    ⟨rfl, md, fun b o e => of_hidT e, Nat.le_of_eq (hidT_size _ _), trivial, fun b z => absurd (show b ∈ ([] : List Addr) from z) (by simp), okH, .of_eq gens⟩
  have run := (F _ kB (nsH gG)).run callerA [] S (onlyAt a u) ⟨[.ref a], []⟩ [.ref a] [.ref a] _ _ rm env (bind S (.ref a)) (.cons rfl .nil) prom
  refine codeAny_mono run fun r s' q => ?_
  cases r with
  | error e => exact (none_out _ e s' q).elim
  | ok z =>
    cases z with
    | next => exact False.elim q
    | brk => exact False.elim q
    | cont => exact False.elim q
    | ret y =>
      obtain ⟨v, H', eos, bare, un, hok', r', q1⟩ := q
      have q2 : v = .bl true := q1
      subst q2
      obtain rfl : y = Value.bool true := r'
      refine ⟨rfl, OldK.of_keep fun b o e => ?_, eos, bare⟩
      by_cases n : b = a
      · subst n
        obtain ⟨e1, _⟩ := hok' b _ (un.frzs b _ _ onlyAt_same)
        rw [at_] at e; cases e
        exact e1
      · exact un.keep b o e (onlyAt_ne n) (by intro z; exact absurd (show b ∈ ([] : List Addr) from z) (by simp)) (by simp)
end
theorem walk_ofG {l : PySem.W.OpenLaw} {n k : Nat} {q : Program} {lo : List Str} {XP : (Str → Option Value) → Heap → Prop} {YP : World → Heap → Prop} {d : DefRec} {x : Str}
    (most : l.most = some n) (hn : n ≤ sizeLine) (nodef : d.params.defaults = []) (rm : RoomG k callerA)
    (F : ∀ (w : World) (gl : Str → Option Value) (f : Addr) (h : Heap), YP w h → h.Ns mainGlobals gl → gl d.name = some (.ref f) →
      ∃ (K : PySem.W.Frag) (fd : FuncData) (sp : Sp), K.In h ∧ NoLst K ∧ (∀ (s : Shared) (v : Value), BindsTo s fd ⟨[v], []⟩ [(x, v)]) ∧
        (∀ (a : Addr) (o : Obj) (is : List Int), is.length ≤ n → sp [.ref a] (onlyAt a (.frz o (.lst (is.map V.int)))) (fun v _ => v = .bl true) fun _ _ _ => False) ∧
        ∀ B : Heap, K.In B → B.Ns mainGlobals gl → FnG l.prog w K gl B (L2.CX l.prog w) k f fd [x] sp) :
    PySem.W.WalkO q lo XP YP l.row.toRowW d [] (fun f vs => PySem.call f vs) := by
  refine Att.attach_call most nodef ?_
  intro w S0 S mg mb f o pm cd doc a us is G Y ho hd hcd hmg hobj hi hlen hg
  obtain ⟨K, fd, sp, inK, noL, hb, prom, hF⟩ := F w mg f _ Y G.T.g hmg
  refine end_call inK G.T.g G.T.b G.T.builtins G.T.nolimit hg hobj hi (Nat.le_trans hlen hn) rm noL hF hb (prom a _ is hlen) ?_
  rintro H e s' ⟨_, _, _, _, _, _, _, _, _, _, _, _, z⟩
  exact z
theorem pLaw.mono {n : Nat} : MonoP (pLaw n) := fun ds m Q Q' E E' i _ ⟨is, h1, h2, h3, h4⟩ => ⟨is, h1, h2, h3, fun m' => i _ _ (h4 m')⟩
theorem fz_ints {C : Ct} {w : World} {K : PySem.W.Frag} {al : List Addr} {G : Hp} : ∀ is : List Int, FzAll C w K al G (is.map V.int) (is.map Dat.int)
  | [] => .nil
  | i :: is => .cons (.int i) (fz_ints is)
theorem law_prom {C : Ct} {w : World} {K : PySem.W.Frag} {n : Nat} {a : Addr} {o : Obj} {is : List Int} (h : is.length ≤ n) (ht : C.tabs = [] := by rfl) :
    spD C w K 1 (pLaw n) [.ref a] (onlyAt a (.frz o (.lst (is.map V.int)))) (fun v _ => v = .bl true) fun _ _ _ => False := by
  refine ⟨rfl, ⟨onlyAt a (.frz o (.lst (is.map V.int))), [], onlyAt a (.frz o (.lst (is.map V.int)))⟩, [], [.lst (is.map Dat.int)], rfl, ?_, ?_, is, h, rfl, rfl, ?_⟩
  · exact ⟨fun _ _ e => e, List.nodup_nil, rfl, fun k x b e => (by simp at e), fun p hp => (by rw [ht] at hp; cases hp), fun p hp => (by rw [ht] at hp; cases hp)⟩
  · exact .cons (.lst (.inr ⟨o, onlyAt_same⟩) (fz_ints is)) .nil
  · intro m' n' v g l z
    cases z; rfl
end DL

set_option maxHeartbeats 2000000
namespace DL
open PySem PySem.Spec PyProof.Rows L2

def fiOf (tab : List (Nat × Nat)) (c : Nat) : Option Nat := match tab with
  | [] => none
  | (a, b) :: l => if a = c then some b else fiOf l c
def tsOf (tab : List (Nat × Bool)) (c : Nat) : Option Bool := match tab with
  | [] => none
  | (a, b) :: l => if a = c then some b else tsOf l c
theorem fiOf_mem : ∀ {tab : List (Nat × Nat)} {c d : Nat}, fiOf tab c = some d → (c, d) ∈ tab
  | [], _, _, h => by cases h
  | (a, b) :: l, c, d, h => by
    unfold fiOf at h
    split at h
    · rename_i e; subst e; cases h; exact List.mem_cons_self
    · exact List.mem_cons_of_mem _ (fiOf_mem h)
theorem tsOf_mem : ∀ {tab : List (Nat × Bool)} {c : Nat} {d : Bool}, tsOf tab c = some d → (c, d) ∈ tab
  | [], _, _, h => by cases h
  | (a, b) :: l, c, d, h => by
    unfold tsOf at h
    split at h
    · rename_i e; subst e; cases h; exact List.mem_cons_self
    · exact List.mem_cons_of_mem _ (tsOf_mem h)
theorem Tab.fi_ok {t : Tab} {f : Str} {tab : List (Nat × Nat)} {K : PySem.W.Frag} (h : t.fiC f tab K = true) : FiOk K (t.ct K) f (fiOf tab) := ⟨fun c k e => by
  obtain ⟨h1, q⟩ := and2 (List.all_eq_true.mp h _ (fiOf_mem e))
  obtain ⟨h2, q⟩ := and2 q
  obtain ⟨h3, q⟩ := and2 q
  obtain ⟨h4, h5⟩ := and2 q
  have e2 : PySem.W.findIn K (.ref (t.at K c)) f = some none := of_decide_eq_true h2
  exact ⟨⟨clsB_ok h1, e2, of_decide_eq_true h3, of_decide_eq_true h4⟩, of_decide_eq_true h5⟩⟩
theorem Tab.xf_ok {t : Tab} {f : Str} {tab : List (Nat × Nat)} {K : PySem.W.Frag} (h : t.xfC f tab K = true) : XfiOk K (t.ct K) f (fiOf tab) := ⟨fun c k e => by
  obtain ⟨h1, q⟩ := and2 (List.all_eq_true.mp h _ (fiOf_mem e))
  obtain ⟨h2, q⟩ := and2 q
  obtain ⟨h3, h4⟩ := and2 q
  exact ⟨xfB_ok h1, of_decide_eq_true h2, of_decide_eq_true h3, of_decide_eq_true h4⟩⟩
theorem excB_ok {K : PySem.W.Frag} {D : Addr} (h : excB K D = true) : ExcC K D := by
  obtain ⟨h1, h⟩ := and2 h
  obtain ⟨h2, h⟩ := and2 h
  obtain ⟨h3, h⟩ := and2 h
  obtain ⟨h4, h⟩ := and2 h
  obtain ⟨h5, h⟩ := and2 h
  obtain ⟨h6, h⟩ := and2 h
  obtain ⟨h7, h8⟩ := and2 h
  exact ⟨of_decide_eq_true h1, of_decide_eq_true h2, of_decide_eq_true h3, h4, of_decide_eq_true h5, of_decide_eq_true h6, of_decide_eq_true h7, of_decide_eq_true h8⟩
theorem Tab.ie_ok {t : Tab} {tab : List (Nat × Nat × Bool)} {K : PySem.W.Frag} (h : t.ieC tab K = true) : IsEOk K (t.ct K) (fi2 tab) := ⟨fun c d b e => by
  obtain ⟨h1, h2⟩ := and2 (List.all_eq_true.mp h _ (fi2_mem e))
  exact ⟨excB_ok h1, of_decide_eq_true h2⟩⟩
theorem Tab.ex_ok {t : Tab} {d : Nat} {tab : List (Nat × Bool)} {K : PySem.W.Frag} (h : t.exC d tab K = true) : ∀ c b, tsOf tab c = some b → PySem.W.exmOne K (.ref ((t.ct K).addr c)) (.ref ((t.ct K).addr d)) = some b := fun c b e =>
  of_decide_eq_true (List.all_eq_true.mp h _ (tsOf_mem e))
theorem oexB_ok {K : PySem.W.Frag} {C : Addr} (h : oexB K C = true) : ∃ nm q N bs bm sn sub ab col dd k0 k1 k2 k3 k5, K.lookup C = some (excClassObj nm q C N bs bm true sn sub ab col dd k0 k1 k2 k3 k5 "ValueError.__new__") ∧ PySem.HandSPX.refsVE bm = true := by
  unfold oexB at h
  split at h
  · rename_i dd cd sl lk
    split at h
    · rename_i C2 bm k0 k1 k2 k3 n k5 em es
      obtain ⟨h1, h⟩ := and2 h
      obtain ⟨h2, h⟩ := and2 h
      obtain ⟨h3, h⟩ := and2 h
      obtain ⟨h4, h5⟩ := and2 h
      have e1 := eq_of_beq h1
      have e2 := eq_of_beq h2
      subst e1 e2
      have es2 : sl = #[k0, k1, k2, k3, some (.builtin "ValueError.__new__"), k5] := by
        cases sl; simp at es; rw [es]
      subst es2
      obtain ⟨nm, bs, mro, ns, qn, hd, sn, sub, ab, col, del⟩ := cd
      have e3 : mro = .ref C2 :: bm := em
      have e4 : hd = true := h4
      have e5 : del = false := by simpa using h3
      subst e3 e4 e5
      exact ⟨nm, qn, ns, bs, bm, sn, sub, ab, col, dd, k0, k1, k2, k3, k5, lk, h5⟩
    · cases h
  · cases h
theorem Tab.xc_ok {t : Tab} {c : Nat} {fs : List Str} {P : Program} {w : World} {K : PySem.W.Frag} {mg : Str → Option Value} {base : Heap} {x : Str} (h : t.xcC c fs K = true) (hx : t.names.getD c Str.empty = x) (hm : mg x = some (.ref (He.ga K x))) (fl : t.flds.getD c [] = fs.reverse) (few : fs.length ≤ 1000)
    (F : ∃ ps, FnOk P w K mg base (L2.CX P w) 1 (He.fAd K (x, some "__init__")) (fdA K (x, some "__init__")) ps (spX K fs) ∧ Binds K (fdA K (x, some "__init__")) ps []) : XcC P w K mg base (t.ct K) x c fs := by
  subst hx
  obtain ⟨h1, h⟩ := and2 h
  obtain ⟨h2, h⟩ := and2 h
  obtain ⟨h3, h⟩ := and2 h
  obtain ⟨h4, h⟩ := and2 h
  obtain ⟨h5, h⟩ := and2 h
  obtain ⟨h6, h⟩ := and2 h
  obtain ⟨h7, h8⟩ := and2 h
  exact ⟨hm, ⟨oexB_ok h1, of_decide_eq_true h2, of_decide_eq_true h3, of_decide_eq_true h4, h5⟩, fun f hf => of_decide_eq_true (List.all_eq_true.mp h6 f hf), fl, few, of_decide_eq_true h7, of_decide_eq_true h8, F⟩
theorem Tab.mk_ok {t : Tab} {c : Nat} {K : PySem.W.Frag} {x : Str} (h : t.mkC c K = true) (hx : t.names.getD c Str.empty = x) : Mk K ((t.ct K).addr c) (He.fAd K (x, some "__init__")) := by
  subst hx
  obtain ⟨h1, h⟩ := and2 h
  obtain ⟨h2, h⟩ := and2 h
  obtain ⟨h3, h4⟩ := and2 h
  exact ⟨h1, of_decide_eq_true h2, h3, h4⟩
theorem noSysB_ok {K : PySem.W.Frag} (h : noSysB K = true) : NoSys K := by
  unfold noSysB at h
  split at h
  · rename_i o e
    exact ⟨o, e, by simpa using h⟩
  · cases h
theorem lookup_mem {α β : Type} [BEq α] [LawfulBEq α] : ∀ {l : List (α × β)} {a : α} {b : β}, l.lookup a = some b → (a, b) ∈ l
  | [], _, _, h => by cases h
  | (x, y) :: l, a, b, h => by
    rw [List.lookup_cons] at h
    split at h
    · rename_i e
      cases h
      rw [eq_of_beq e]
      exact List.mem_cons_self
    · exact List.mem_cons_of_mem _ (lookup_mem h)
theorem noLstB_ok {K : PySem.W.Frag} (h : noLstB K = true) : NoLst K := fun b o e => by
  have q := List.all_eq_true.mp h _ (lookup_mem e)
  simpa using q

def obsX (ex : List Fk) (fn : List He.DefD) (K : PySem.W.Frag) : He.AlD := ((ex.all fun g => g K) && fn.all fun d => d.ok K, fn.map fun d => He.fnW K d.at_)
def SaysX (ex : List Fk) (fn : List He.DefD) (K : PySem.W.Frag) : Prop := obsX ex fn K = He.valD fn
section
variable {ex : List Fk} {fn : List He.DefD} {K : PySem.W.Frag}
theorem SaysX.fact (c : SaysX ex fn K) (i : Nat) {g : Fk} (h : ex[i]? = some g := by rfl) : g K = true :=
  List.all_eq_true.mp (and2 (show ((ex.all fun g => g K) && fn.all fun d => d.ok K) = true from congrArg (fun z : He.AlD => z.1) c)).1 g (List.mem_of_getElem? h)
theorem SaysX.def_ (c : SaysX ex fn K) (i : Nat) {d : He.DefD} (h : fn[i]? = some d := by rfl) : ∃ fd, FunD K d.name d.qual d.params d.body d.scope (d.dvs K) (d.kws K) (He.fAd K d.at_) fd := by
  have c1 := (and2 (show ((ex.all fun g => g K) && fn.all fun d => d.ok K) = true from congrArg (fun z : He.AlD => z.1) c)).2
  have e1 : fn.map (fun d => He.fnW K d.at_) = fn.map He.DefD.val := congrArg (fun z : He.AlD => z.2) c
  have e2 : (fn.map fun d => He.fnW K d.at_)[i]? = (fn.map He.DefD.val)[i]? := by rw [e1]
  rw [List.getElem?_map, List.getElem?_map, h] at e2
  exact He.DefD.funD (Option.some.inj e2) (List.all_eq_true.mp c1 d (List.mem_of_getElem? h))
end
end DL

set_option maxHeartbeats 2000000
namespace DL
open PySem PySem.Spec PyProof.Rows L2
theorem pNo.mono : MonoP pNo := fun _ _ _ _ _ _ _ _ h => h
section
variable {P : Program} {w : World} {K : PySem.W.Frag} {mg : Str → Option Value} {base : Heap} {C : Ct} {k : Nat} {f : Addr} {fd : FuncData} {ps : List Str}
theorem noSp {n : Nat} {vs : List V} {H : Hp} {Q : VK} {E : XK} (h : spD C w K n pNo vs H Q E) : False := by
  obtain ⟨_, _, _, _, _, _, _, z⟩ := h
  exact z
theorem noG : DG P w K mg base C k f fd ps pNo := ⟨pNo.mono, ⟨fun _ _ _ _ z => (noSp z).elim, fun _ _ _ _ _ _ _ _ _ _ _ _ _ z => (noSp z).elim⟩⟩
end
end DL

set_option maxHeartbeats 2000000
namespace DL
open PySem PySem.Spec PyProof.Rows L2

def selfD (c : Nat) (m : Mem) (x : Lv) : Option Dat := match x with
  | .f (.ins c' xs) => if c' = c then some (.ins c' xs) else none
  | .f (.obj k) => match m[k]? with
    | some (.ins c' _) => if c' = c then some (.obj k) else none
    | _ => none
  | _ => none
section
variable {C : Ct} {w : World} {K : PySem.W.Frag} {B n : Nw} {m : Mem} {env : Env'} {σ : L2.St} {c : Nat}
end
abbrev noX : QX := fun _ _ _ => False
section
variable {X : Cx} {CX : CXT} {k : Nat} {f : Addr} {fd : FuncData} {ps : List Str} {sp : Sp} {E : XK}
end
section
variable {X : Cx} {C : Ct} {B : Nw} {k j c : Nat} {ps : List Str} {p : DSp} {EX : QXe} {x y : Str} {pos apos : Pos} {o e : Expr} {es : List Expr} {d : TD} {da : TAd}
def dMeth (c : Nat) (p : DSp) (EX : QXe) (d : TD) (da : TAd) : TD := fun env m Q => d env m fun x m1 => match selfD c m1 x with
  | some s => da env m1 fun xs m2 => match frs xs with
    | some ds => p (s :: ds) m2 (fun r m3 => Q (.f r) m3) (fun c ys m3 => EX c ys env m3)
    | none => False
  | none => False
theorem dMeth.mono (hp : MonoP p) (hd : MonoD d) (ha : MonoA da) : MonoD (dMeth c p EX d da) := fun env m Q Q' i h => by
  refine hd _ _ _ _ (fun x m1 h1 => ?_) h
  split at h1
  · refine ha _ _ _ _ (fun xs m2 h2 => ?_) h1
    split at h2
    · exact hp _ _ _ _ _ _ (fun r m3 => i _ _) (fun _ _ _ z => z) h2
    · exact h2
  · exact h1
structure PrC (P : Program) (w : World) (K : PySem.W.Frag) (mg : Str → Option Value) (base : Heap) (C : Ct) (c : Nat) (x : Str) (k : Nat) (p : DSp) : Prop where
  cls : Cls K (C.addr c)
  ex : ∃ pr g fd ps, PropOf K (C.addr c) x pr g ∧ DF P w K mg base C k g fd ps p ∧ Binds K fd ps [] ∧ ps.length = 1
  hl : ∀ ds m Q E, p ds m Q E → ds.length = 1
def dProp (c : Nat) (p : DSp) (d : TD) : TD := fun env m Q => d env m fun x m1 => match selfD c m1 x with
  | some s => p [s] m1 (fun r m2 => Q (.f r) m2) noX
  | none => False
theorem dProp.mono (hp : MonoP p) (hd : MonoD d) : MonoD (dProp c p d) := fun env m Q Q' i h => hd _ _ _ _ (fun x m1 h1 => by
  split at h1
  · exact hp _ _ _ _ _ _ (fun r m3 => i _ _) (fun _ _ _ z => z) h1
  · exact h1) h
def oLenI (c : Nat) (p : DSp) : OpN := fun env m xs Q => match xs with
  | [x] => match selfD c m x with
    | some s => p [s] m (fun r m' => match r with
      | .int i => (0 ≤ i ∧ i < 2 ^ 63) ∧ Q (.int i) m'
      | _ => False) noX
    | none => False
  | _ => False
theorem oLenI.mono (hp : MonoP p) : MonoN (oLenI c p) := fun env m xs Q Q' i h => by
  unfold oLenI at h ⊢
  split at h
  · split at h
    · refine hp _ _ _ _ _ _ (fun r m' z => ?_) (fun _ _ _ z => z) h
      cases r <;> first | exact z.elim | exact ⟨z.1, i _ _ z.2⟩
    · exact h
  · exact h
def oInI (g : Bool → Bool) (c : Nat) (p : DSp) : Op2 := fun env m x y Q => match selfD c m y, x with
  | some s, .f d => p [s, d] m (fun r m' => match r with
    | .bl b => Q (.bl (g b)) m'
    | _ => False) noX
  | _, _ => False
theorem oInI.mono {g : Bool → Bool} (hp : MonoP p) : Mono2 (oInI g c p) := fun env m x y Q Q' i h => by
  unfold oInI at h ⊢
  split at h
  · refine hp _ _ _ _ _ _ (fun r m' z => ?_) (fun _ _ _ z => z) h
    cases r <;> first | exact z.elim | exact i _ _ z
  · exact h.elim
def oEqI (C : Ct) (c : Nat) (cs : List Nat) (p : DSp) : Op2 := fun env m x y Q => match selfD c m x, y with
  | some s, .f d => match derI env m (.f d) with
    | some e => ((∃ t, tyN e = some t) ∨ ∃ c' ys, e = .ins c' ys ∧ c' ∈ cs ∧ C.own c' = true) ∧ p [s, d] m (fun r m' => match r with
      | .bl b => Q (.bl b) m'
      | _ => False) noX
    | none => False
  | _, _ => False
theorem oEqI.mono {cs : List Nat} (hp : MonoP p) : Mono2 (oEqI C c cs p) := fun env m x y Q Q' i h => by
  unfold oEqI at h ⊢
  split at h
  · split at h
    · refine ⟨h.1, hp _ _ _ _ _ _ (fun r m' z => ?_) (fun _ _ _ z => z) h.2⟩
      cases r <;> first | exact z.elim | exact i _ _ z
    · exact h.elim
  · exact h.elim
def oStrI (c : Nat) (p : DSp) : OpN := fun env m xs Q => match xs with
  | [x] => match selfD c m x with
    | some s => p [s] m (fun r m' => match r with
      | .str z => Q (.str z) m'
      | _ => False) noX
    | none => False
  | _ => False
theorem oStrI.mono (hp : MonoP p) : MonoN (oStrI c p) := fun env m xs Q Q' i h => by
  unfold oStrI at h ⊢
  split at h
  · split at h
    · refine hp _ _ _ _ _ _ (fun r m' z => ?_) (fun _ _ _ z => z) h
      cases r <;> first | exact z.elim | exact i _ _ z
    · exact h
  · exact h
def oBinI (c : Nat) (p : DSp) : Op2 := fun env m x y Q => match selfD c m x, selfD c m y with
  | some s, some s2 => p [s, s2] m (fun r m' => match r with
    | .ins c' ys => Q (.ins c' ys) m'
    | _ => False) noX
  | _, _ => False
theorem oBinI.mono (hp : MonoP p) : Mono2 (oBinI c p) := fun env m x y Q Q' i h => by
  unfold oBinI at h ⊢
  split at h
  · refine hp _ _ _ _ _ _ (fun r m' z => ?_) (fun _ _ _ z => z) h
    cases r <;> first | exact z.elim | exact i _ _ z
  · exact h.elim
end
end DL

set_option maxHeartbeats 3200000
namespace DL
open PySem PySem.Spec PyProof.Rows L2

def setObj0 (led : Bool) : Obj := { cls := .type "set", dict := none, data := .set #[] 0 (.fresh 0 0 led) }
section
variable {prog : Program} {w : World} {A : Around} {E : Value → Shared → Prop} {S : Shared}
open AutoSeq1 MeetsSeq MeetsSeq2 MeetsSeq3 SeqRoads2 in
theorem set_of_tuple {t : Addr} {its : Array Value} {is : List Int} {Q : Value → Shared → Prop} (calm : A.handled = none) (ht : S.heap.IsTuple t its) (hi : PyProof.Rows.IntsAre its.toList is) (room : its.size + 1 < scanBound)
    (fin : ∀ (h' : Heap) (tk : Nat), h'.SetOf (intKind prog w) S.heap.objs.size (fun k => (PyProof.Rows.firstMet (fun i => is.getD i 0) its.size).any (· == k)) (PyProof.Rows.firstMet (fun i => is.getD i 0) its.size).length →
      (∀ b o, b < S.heap.objs.size → S.heap.get? b = some o → h'.get? b = some o) → Q (.ref S.heap.objs.size) { S with heap := h', toks := tk }) :
    wpAny (model prog w) A (call (.type "set") [.ref t]) Q E S := by
  obtain ⟨mc, mt, mro⟩ := PySem.F.called_set.mro
  have c1 := PySem.F.called_set.made
  have c2 := PySem.F.called_set.sub
  refine wpAny_call (codeAny_of_tree ?_)
  show wpAny _ _ (callAny (.type "set") _) _ _ _
  refine wpAny_pure ⟨Code.quiet_builtin _ (by decide +kernel), codeAny_builtin PySem.F.entry_type_call ?_⟩
  rw [Around.under_plain (weight_type_call_type "set" [.ref t] []) rfl]
  have c3 := PySem.F.called_set.notType
  have c4 := PySem.F.called_set.canCreate
  have c5 := PySem.F.typeCall_set_1 (.ref t)
  repeat (any_goals (first | assumption | wp_step))
  refine codeAny_mono (code_set_new_1 (.ref t) (E := E) (Q₁ := fun x s₁ => ∃ led : Bool, x = .ref S.heap.objs.size ∧ s₁ = { S with heap := S.heap.push (setObj0 led) }) fun led => ⟨led, rfl, rfl⟩) fun r s₁ hr => ?_
  cases r with
  | error e => exact hr
  | ok z =>
    cases z with
    | ret x =>
      obtain ⟨led, rfl, rfl⟩ := hr
      have at0 : (S.heap.push (setObj0 led)).get? S.heap.objs.size = some (setObj0 led) := Heap.get?_push_size _ rfl
      have ty0 : Shared.TypeIs { S with heap := S.heap.push (setObj0 led) } (.ref S.heap.objs.size) "set" := ⟨_, at0, rfl⟩
      have c6 := PySem.F.called_set.init.lookup
      have c7 := PySem.F.called_set.init.bind (.ref S.heap.objs.size)
      repeat (any_goals (first | assumption | wp_step))
      refine codeAny_mono (codeAny_call_builtin (R := wants (fun r s₂ => r = .none ∧ ∃ h' tk, s₂ = { S with heap := h', toks := tk } ∧
          h'.SetOf (intKind prog w) S.heap.objs.size (fun k => (PyProof.Rows.firstMet (fun i => is.getD i 0) its.size).any (· == k)) (PyProof.Rows.firstMet (fun i => is.getD i 0) its.size).length ∧
          (∀ b o, b < S.heap.objs.size → S.heap.get? b = some o → h'.get? b = some o)) E) PySem.F.called_set.init.plain PySem.F.entry_set_init (check_set_init_1 ty0 ?_)) fun r₂ s₂ hr₂ => ?_
      · obtain ⟨ot, e1, e2, nl, e3⟩ := ht
        obtain ⟨o1, o2, o3, o4⟩ := ot
        simp only at e2 e3
        subst e2; subst e3
        have at1 : (S.heap.push (setObj0 led)).get? t = some { cls := .type "tuple", dict := o2, data := .seq its nl, slots := o4 } := Heap.get?_push_of_some _ e1
        have c8 := PySem.F.sub_tuple_set
        have c9 := PySem.F.sub_tuple_frozenset
        have c10 : (Value.type "tuple" == Value.type "dict") = false := by decide
        have tup1 : (S.heap.push (setObj0 led)).IsTuple t its := ⟨_, at1, rfl, nl, rfl⟩
        unfold Builtin.«set.__init__» noKeywords Builtin.Frozenset.updateFrom
        generalize hPI : pyIter = PI
        wp_walk
        subst hPI
        refine wpAny_pyIter_tuple tup1 ?_
        refine wpAny_bind (wpAny_runValue ?_)
        have lt0 : t < S.heap.objs.size := Heap.lt_size e1
        have calm3 : A.in1.in1.in1.handled = none := by simp [calm]
        have ne1 : t ≠ (S.heap.push (setObj0 led)).objs.size := by
          rw [Heap.size_push]; exact Nat.ne_of_lt (Nat.lt_succ_of_lt lt0)
        have out : S.heap.objs.size ∉ [(S.heap.push (setObj0 led)).objs.size, t] := by
          rw [Heap.size_push]; simp only [List.mem_cons, List.mem_singleton, List.not_mem_nil, or_false, not_or]
          exact ⟨Nat.ne_of_lt (Nat.lt_succ_self _), Nat.ne_of_gt lt0⟩
        have val : ∀ (i : Nat) (v : Value), its[i]? = some v → ∃ k, v = .int ((fun i => is.getD i 0) i) k := fun i v hv =>
          PyProof.Rows.IntsAre.int_at hi i v (by rw [Array.getElem?_toList]; exact hv)
        refine PyProof.Rows.codeAny_set_update_loopS ((Walks.tuple calm3 _ t ne1 its).toS) S.heap.objs.size
          out (fun i => is.getD i 0) val room (its.size - 0) 0 _ (by omega) (Nat.zero_le _)
          ⟨⟨_, Heap.get?_push_size _ rfl, rfl, rfl⟩, (tup1.push _)⟩ ?a0 ?a1
        case a0 =>
          have at2 : ((S.heap.push (setObj0 led)).push { cls := .type "tuple_iterator", data := .fields #[.ref t, .int 0 0] }).get? S.heap.objs.size = some (setObj0 led) := Heap.get?_push_of_some _ at0
          exact PyProof.Rows.SetOf_congr ((PyProof.Rows.setObjOf_fresh (knd := intKind prog w) led).setOf at2 (by unfold scanBound; omega)) (fun _ => rfl) rfl
        case a1 =>
          intro s' hm hS'
          obtain ⟨h', g', d', tk', os'⟩ := s'
          have eg : g' = S.gens := hm.gens
          have ed : d' = S.drawn := hm.drawn
          have eo : os' = S.os := hm.os
          subst eg ed eo
          show wpAny _ _ _ _ _ _
          refine wpAny_pure ?_
          show wpAny _ _ (ret Value.none) _ _ _
          refine wpAny_pure ⟨rfl, h', tk', rfl, hS', fun b o hb e => ?_⟩
          have n1 : b ≠ S.heap.objs.size := Nat.ne_of_lt hb
          have n2 : b ≠ (S.heap.push (setObj0 led)).objs.size := by
            rw [Heap.size_push]; exact Nat.ne_of_lt (Nat.lt_succ_of_lt hb)
          exact hm.heap b o (by simp only [List.mem_cons, List.mem_singleton, List.not_mem_nil, or_false, not_or]; exact ⟨n1, n2⟩) (Heap.get?_push_of_some _ (Heap.get?_push_of_some _ e))
      · cases r₂ with
        | error e => exact hr₂
        | ok z₂ =>
          cases z₂ with
          | ret r =>
            obtain ⟨rfl, h', tk, rfl, hS', hk'⟩ := hr₂
            repeat (any_goals (first | assumption | wp_step))
            exact fin _ _ hS' hk'
          | _ => exact hr₂.elim
    | _ => exact hr.elim
end
def dist (ns : List Int) : Nat := (PyProof.Rows.firstMet (fun i => ns.getD i 0) ns.length).length
section
variable {X : Cx} {C : Ct} {B : Nw} {a : Expr} {da : TD} {p p2 q pos : Pos}
def tLenSetA (K : PySem.W.Frag) (ta : TE) : TE := fun σ H Q => ta σ H fun x H1 => ∃ (l : Addr) (ns : List Int), x = .ref l ∧ (SqL K H1 l (ns.map V.int) ∨ SqT K H1 l (ns.map V.int)) ∧ ns.length ≤ 4000 ∧ Q (.int (dist ns : Nat)) H1
theorem pe_lenSetA {ta : TE} (hg : Gl X "len") (hm : X.mg "len" = none) (hg2 : Gl X "set") (hm2 : X.mg "set" = none) (ha : PE X a ta) (hc : X.calm = true := by rfl)
    (na : starEach [a] X.env = (false, eval a X.env) :: starEach [] X.env := by rfl) : PE X (.Call (.Name "len" p) [.Call (.Name "set" p2) [a] [] q] [] pos) (tLenSetA X.K ta) := by
  refine ⟨fun pins s σ H Q I h => ?_⟩
  refine Call_ (ld_blt I hg hm boot_len ?_)
  refine PyProof.Rows.callWith_builtin1 (PyProof.Rows.args_cons ?_ rfl) rfl rfl
  refine Call_ (ld_blt I hg2 hm2 boot_set ?_)
  refine PyProof.Rows.callWith_type1 (PyProof.Rows.args_cons (thn (ha.run pins s σ H _ I h) fun v s1 ⟨x, H1, I1, r1, z⟩ => PyProof.Rows.args_nil ?_) na) na rfl
  obtain ⟨l, ns, rfl, hq, hl, z⟩ := z
  cases r1
  have last : ∀ (its : List Value), Vals (ns.map V.int) its → ∀ (h' : Heap) (tk : Nat), h'.SetOf (intKind X.prog X.w) s1.heap.objs.size (fun k => (PyProof.Rows.firstMet (fun i => ns.getD i 0) its.toArray.size).any (· == k)) (PyProof.Rows.firstMet (fun i => ns.getD i 0) its.toArray.size).length →
      (∀ b o, b < s1.heap.objs.size → s1.heap.get? b = some o → h'.get? b = some o) →
      wpAny (model X.prog X.w) X.A (spliced (backTo pos (starEach [] X.env))) (fun vs s₂ => wpAny (model X.prog X.w) X.A (call (.builtin "len") (Value.ref s1.heap.objs.size :: vs)) (EP X pins σ Q) X.xe s₂) X.xe { s1 with heap := h', toks := tk } := fun its r h' tk hS hk => by
    refine PyProof.Rows.args_nil ?_
    have sz : its.toArray.size = ns.length := by rw [List.size_toArray, ← r.length, List.length_map]
    rw [sz] at hS
    obtain ⟨o, es, ep, t, ho, hex, hd, _, _, _, hf, hn⟩ := hS
    have I2 : Inv X pins σ H1 { s1 with heap := h', toks := tk } := I1.kept fun b o e => hk b o (Heap.lt_size e) e
    have le : (PyProof.Rows.firstMet (fun i => ns.getD i 0) ns.length).length ≤ ns.length := PyProof.Rows.firstMet_length_le _ _
    exact call_len_set ho hex hd hf (by rw [hn]; omega) ⟨.int (dist ns : Nat), H1, I2.tok _, ⟨_, by rw [hn]; rfl⟩, z⟩
  rcases hq with hq | hq
  · obtain ⟨its, r, pl, hz⟩ := I1.list hq
    have sz : its.toArray.size = ns.length := by rw [List.size_toArray, ← r.length, List.length_map]
    exact call_set_list (I1.ok.hd hc) pl.isList (by simpa using RZ.intsAre_vals r) (by rw [sz]; unfold scanBound; omega) fun h' tk hS hk => last its r h' tk hS hk
  · obtain ⟨its, r, pl, hz⟩ := I1.tuple hq
    have sz : its.toArray.size = ns.length := by rw [List.size_toArray, ← r.length, List.length_map]
    exact set_of_tuple (I1.ok.hd hc) pl (by simpa using RZ.intsAre_vals r) (by rw [sz]; unfold scanBound; omega) fun h' tk hS hk => last its r h' tk hS hk
def dLenSet (d : TD) : TD := fun env m Q => d env m fun x m1 => match seqOf env m1 x with
  | some xs => match intsD xs with
    | some ns => ns.length ≤ 4000 ∧ Q (.f (.int (dist ns : Nat))) m1
    | none => False
  | none => False
theorem de_lenSet (hm : X.mg "len" = none) (hm2 : X.mg "set" = none) (ha : DE X C B a da) (hc : X.calm = true := by rfl) (hg : Gl X "len" := by rfl) (hg2 : Gl X "set" := by rfl)
    (na : starEach [a] X.env = (false, eval a X.env) :: starEach [] X.env := by rfl) : DE X C B (.Call (.Name "len" p) [.Call (.Name "set" p2) [a] [] q] [] pos) (dLenSet da) := by
  refine ⟨fun env m Q Q' i h => ha.mono _ _ _ _ (fun x m1 h1 => ?_) h, imp (pe_lenSetA hg hm hg2 hm2 ha.run hc na) ?_⟩
  · split at h1
    · split at h1
      · exact ⟨h1.1, i _ _ h1.2⟩
      · exact h1
    · exact h1
  rintro σ H Q ⟨n, env, m, rfl, ok, h⟩
  refine ⟨n, env, m, rfl, ok, ha.mono _ _ _ _ (fun x m1 h1 n1 v g1 l1 lx => ?_) h⟩
  split at h1
  · rename_i xs hx
    split at h1
    · rename_i ns hn
      obtain ⟨a, vs, rfl, hs, hz⟩ := seq_ok (ok.go g1 l1) lx hx
      have e := ints_eq hn hz
      subst e
      exact ⟨a, ns, rfl, hs, h1.1, h1.2 n1 _ g1 l1 (.int _)⟩
    · exact h1.elim
  · exact h1.elim
end
end DL

set_option maxHeartbeats 2000000
namespace DL
open PySem PySem.Spec PyProof.Rows L2

theorem DefX.funD {K : PySem.W.Frag} {d : DefX} (e : fnY K (d.wh.ad K) = d.val) (c : d.ok K = true) : FunD K d.name d.qual d.params d.body d.scope [] [] (d.wh.ad K) (fdY K (d.wh.ad K)) := by
  obtain ⟨kp, c2⟩ := and2 c
  unfold fnY at e
  unfold fdY
  cases q : K.lookup (d.wh.ad K) with
  | none => rw [q] at c2; cases c2
  | some o =>
    obtain ⟨oc, od, dt, osl⟩ := o
    rw [q] at c2 e
    cases dt with
    | func fd =>
      obtain ⟨n1, n2, n3, n4, n5, n6, n7, n8, n9, n10, n11, n12, n13, n14, n15⟩ := fd
      have e2 : (some (n1, n2, n3, n4, n5, n6, n7, n15) : FnY) = some (d.name, d.qual, d.params, .stmts d.body, d.scope, mainGlobals, [], builtinsNs) := e
      simp only [Option.some.injEq, Prod.mk.injEq] at e2
      obtain ⟨h1, h2, h3, h4, h5, h6, h7, h8⟩ := e2
      subst h1 h2 h3 h4 h5 h6 h7 h8
      have c3 : (PySem.W.codeIn K n13 d.qual && (He.dflB K n8 [] && He.kwdB K n9 [])) = true := c2
      obtain ⟨k1, k2⟩ := and2 c3
      obtain ⟨k3, k4⟩ := and2 k2
      exact ⟨⟨oc, od, n8, n9, n10, n11, n12, n13, n14, osl, rfl, q, k1, He.dflB_ok k3, He.kwdB_ok k4⟩, kp⟩
    | _ => cases c2
section
variable {ex : List Fk} {fn : List DefX} {K : PySem.W.Frag}
theorem SaysY.fact (c : SaysY ex fn K) (i : Nat) {g : Fk} (h : ex[i]? = some g := by rfl) : g K = true :=
  List.all_eq_true.mp (and2 (show ((ex.all fun g => g K) && fn.all fun d => d.ok K) = true from congrArg (fun z : AlY => z.1) c)).1 g (List.mem_of_getElem? h)
theorem SaysY.def_ (c : SaysY ex fn K) (i : Nat) {d : DefX} (h : fn[i]? = some d := by rfl) : FunD K d.name d.qual d.params d.body d.scope [] [] (d.wh.ad K) (fdY K (d.wh.ad K)) := by
  have c1 := (and2 (show ((ex.all fun g => g K) && fn.all fun d => d.ok K) = true from congrArg (fun z : AlY => z.1) c)).2
  have e1 : fn.map (fun d => fnY K (d.wh.ad K)) = fn.map DefX.val := congrArg (fun z : AlY => z.2) c
  have e2 : (fn.map fun d => fnY K (d.wh.ad K))[i]? = (fn.map DefX.val)[i]? := by rw [e1]
  rw [List.getElem?_map, List.getElem?_map, h] at e2
  exact DefX.funD (Option.some.inj e2) (List.all_eq_true.mp c1 d (List.mem_of_getElem? h))
end
section
variable {P : Program} {w : World} {K : PySem.W.Frag} {mg : Str → Option Value} {base : Heap} {t : Tab} {c k : Nat} {y x : Str} {ps : List Str} {p : DSp}
end
end DL

set_option maxHeartbeats 2000000
namespace DL
open PySem PySem.Spec PyProof.Rows L2

abbrev TRd := Env' → Mem → (Int → Int → Mem → Prop) → Prop
def lR (C : Ct) (B : Nw) (w : World) (K : PySem.W.Frag) (d : TRd) : L2.St → Hp → (Int → Int → Hp → Prop) → Prop := fun σ H Q => ∃ n env m, n.H = H ∧ Ok C w K B n env m σ ∧ d env m fun a b m' => ∀ n', Good C w K n' m' → n.le n' → Q a b n'.H
structure DR (X : Cx) (C : Ct) (B : Nw) (e : Expr) (d : TRd) : Prop where
  mono : ∀ env m (Q Q' : Int → Int → Mem → Prop), (∀ a b m', Q a b m' → Q' a b m') → d env m Q → d env m Q'
  run : PRg X e (lR C B X.w X.K d)
def rRg1 (d : TD) : TRd := fun env m Q => d env m fun x m1 => match x with
  | .f (.int j) => Q 0 j m1
  | _ => False
section
variable {X : Cx} {C : Ct} {B : Nw} {a b e : Expr} {d de : TD} {r : TRd} {p pos : Pos}
theorem dr_1 (hm : X.mg "range" = none) (ha : DE X C B a d) (hg : Gl X "range" := by rfl) (na : starEach [a] X.env = (false, eval a X.env) :: starEach [] X.env := by rfl) : DR X C B (.Call (.Name "range" p) [a] [] pos) (rRg1 d) := by
  refine ⟨fun env m Q Q' i h => ha.mono _ _ _ _ (fun x m1 h1 => ?_) h, fun pins s σ H Q I q => prg_1 hg hm ha.run na pins s σ H Q I ?_⟩
  · split at h1
    · exact i _ _ _ h1
    · exact h1
  · obtain ⟨n, env, m, rfl, ok, q⟩ := q
    refine ⟨n, env, m, rfl, ok, ha.mono _ _ _ _ (fun x m1 h1 n1 v g1 l1 lx => ?_) q⟩
    split at h1
    · rename_i j
      cases (show FzN C X.w X.K n1 v (.int j) from lx)
      exact ⟨_, rfl, h1 n1 g1 l1⟩
    · exact h1.elim
theorem fz_rg {C : Ct} {w : World} {K : PySem.W.Frag} {al : List Addr} {G : Hp} (i j : Int) : FzAll C w K al G (rgV i j) (rangeD i (j - i).toNat) := by
  unfold rgV rangeD
  generalize List.range (j - i).toNat = l
  induction l with
  | nil => exact .nil
  | cons k l ih => exact .cons (.int _) ih
def dTupRg (r : TRd) : TD := fun env m Q => r env m fun i j m1 => RgOk i j ∧ Q (.f (.tup (rangeD i (j - i).toNat))) m1
theorem de_tupRg (hm : X.mg "tuple" = none) (h : DR X C B e r) (hc : X.calm = true := by rfl) (hg : Gl X "tuple" := by rfl) (na : starEach [e] X.env = (false, eval e X.env) :: starEach [] X.env := by rfl) : DE X C B (.Call (.Name "tuple" p) [e] [] pos) (dTupRg r) := by
  refine ⟨fun env m Q Q' i q => h.mono _ _ _ _ (fun a b m1 h1 => ⟨h1.1, i _ _ h1.2⟩) q, imp (pe_tupRg hc hg hm h.run na) ?_⟩
  rintro σ H Q ⟨n, env, m, rfl, ok, q⟩
  refine ⟨n, env, m, rfl, ok, h.mono _ _ _ _ (fun i j m1 h1 n1 g1 l1 => ⟨h1.1, fun q hq => ?_⟩) q⟩
  obtain ⟨g3, l3⟩ := g1.freeze (o := .tup (rgV i j)) hq
  exact h1.2 _ _ g3 (l1.trans l3) (.tup (SqT.of upd_same) (FzAllN.le (fz_rg i j) l3))
end
end DL

set_option maxHeartbeats 1000000
namespace DL
open PySem PySem.Spec PyProof.Rows L2

section
variable {X : Cx} {C : Ct}
theorem call_sumD (hc : X.calm = true) : CallD X C (.builtin "sum") (oIs List.sum fun _ => True) := by
  refine call_isI (fun pins s σ H xs us Q I r ⟨a, ns, e, hs, hl, q⟩ => cr_sum hc pins s σ H xs us Q I r ⟨a, ns, e, hs, q⟩) fun pins s σ H xs us Q I r ⟨a, ns, e, hs, hl, q⟩ => ?_
  subst e
  obtain ⟨its, rv, p, _⟩ := I.tuple hs
  rw [Vals.ref1 r]
  have hi := rv.ints
  obtain ⟨ys, e⟩ := hi.allInts.items
  have hn : numsOf (intItems ys).toList = ns := by rw [← e]; exact hi.numsOf
  rw [nums_intItems] at hn
  rw [e] at p
  refine PySem.W.ktm_sumG (I.ok.hd hc) p fun h' tk t' hk => ?_
  rw [preSum_eq, List.take_of_length_le (by simp), hn]
  exact ⟨.int _, H, I.kept hk, ⟨_, rfl⟩, q⟩
def oRep : Op2 := fun env m x y Q => match lstOf env m x, y with
  | some xs, .f (.int k) => -(2 ^ 63) ≤ k ∧ k < 2 ^ 63 ∧ xs.length * k.toNat ≤ sizeLine ∧ Q (.lst (List.replicate k.toNat xs).flatten) m
  | _, _ => False
theorem oRep.mono : Mono2 oRep := fun env m x y Q Q' i => by
  unfold oRep
  split
  · exact fun ⟨a, b, c, h⟩ => ⟨a, b, c, i _ _ h⟩
  · exact id
end
section
variable {X : Cx} {C : Ct} {B : Nw} {e o i : Expr} {d de di : TD} {pos apos cpos : Pos}
def sPopN (j : Nat) (d di : TD) : TSd := fun D env m => d env m fun x m1 => match moOf env m1 x with
  | some (.lst _) => di env m1 fun i m2 => match moOf env m2 x, i with
    | some (.lst xs), .f (.int k) => match xs[k.toNat]? with
      | some y => 0 ≤ k ∧ k < 2 ^ 63 ∧ D.nx ((setE x (.lst (xs.eraseIdx k.toNat)) env).set j (some (.f y))) (setM x (.lst (xs.eraseIdx k.toNat)) m2)
      | none => False
    | _, _ => False
  | _ => False
theorem sPopN.mono {j : Nat} (hd : MonoD d) (hi : MonoD di) : MonoS (sPopN j d di) := fun env m D D' l h => hd _ _ _ _ (fun x m1 h1 => by
  try dsimp only at h1 ⊢
  split at h1
  · refine hi _ _ _ _ (fun i m2 h2 => ?_) h1
    try dsimp only at h2 ⊢
    split at h2
    · split at h2
      · exact ⟨h2.1, h2.2.1, l.nx _ _ h2.2.2⟩
      · exact h2
    · exact h2
  · exact h1) h
end
section
variable {X : Cx} {C : Ct} {B : Nw} {e : Expr} {d : TD} {pos : Pos}
def dJs : List TD → Str → Env' → Mem → (Str → Mem → Prop) → Prop
  | [], acc, _, m, Q => Q acc m
  | t :: ts, acc, env, m, Q => t env m fun x m1 => match x with
    | .f (.str y) => (acc ++ y).length ≤ sizeLine ∧ dJs ts (acc ++ y) env m1 Q
    | _ => False
inductive DJ (X : Cx) (C : Ct) (B : Nw) : List Expr → List TD → Prop where
  | nil : DJ X C B [] []
  | cons {e : Expr} {t : TD} {es : List Expr} {ts : List TD} (h : DE X C B e t) (r : DJ X C B es ts) : DJ X C B (e :: es) (t :: ts)
theorem DJ.mono {es : List Expr} {ts : List TD} (h : DJ X C B es ts) : ∀ acc env m (Q Q' : Str → Mem → Prop), (∀ y m1, Q y m1 → Q' y m1) → dJs ts acc env m Q → dJs ts acc env m Q' := by
  induction h with
  | nil => exact fun acc env m Q Q' i q => i _ _ q
  | cons h r ih =>
    intro acc env m Q Q' i q
    refine h.mono _ _ _ _ (fun x m1 h1 => ?_) q
    try dsimp only at h1 ⊢
    split at h1
    · exact ⟨h1.1, ih _ _ _ _ _ i h1.2⟩
    · exact h1.elim
end
end DL

set_option maxHeartbeats 1000000
namespace DL
open PySem PySem.Spec PyProof.Rows L2

section
variable {X : Cx} {C : Ct} {B : Nw} {pos : Pos}
end
section
variable {P : Program} {w : World} {K : PySem.W.Frag} {mg : Str → Option Value} {base : Heap} {C : Ct} {x : Str} {k : Nat} {ps : List Str} {p p' : DSp}
end
end DL

set_option maxHeartbeats 1000000
namespace DL
open PySem PySem.Spec PyProof.Rows L2

def intKeys : List (Dat × Dat) → Option (List (Int × Dat))
  | [] => some []
  | (.int i, d) :: r => match intKeys r with
    | some ks => some ((i, d) :: ks)
    | none => none
  | _ => none
def getI (ks : List (Int × Dat)) (k : Int) : Option Dat := (ks.find? fun p => decide (p.1 = k)).map (·.2)
def putI (ks : List (Int × Dat)) (k : Int) (d : Dat) : List (Int × Dat) := if (ks.any fun p => decide (p.1 = k)) = true then ks.map (fun p => if p.1 = k then (p.1, d) else p) else ks ++ [(k, d)]
def asDct (ks : List (Int × Dat)) : List (Dat × Dat) := ks.map fun p => (.int p.1, p.2)
theorem intKeys_as : ∀ ks : List (Int × Dat), intKeys (asDct ks) = some ks
  | [] => rfl
  | (i, d) :: ks => by
    have h := intKeys_as ks
    show intKeys ((.int i, d) :: asDct ks) = _
    rw [intKeys, h]
theorem as_intKeys : ∀ {kvs : List (Dat × Dat)} {ks : List (Int × Dat)}, intKeys kvs = some ks → kvs = asDct ks
  | [], _, e => by cases e; rfl
  | (k, d) :: r, ks, e => by
    cases k with
    | int i =>
      rw [intKeys] at e
      cases h : intKeys r with
      | none => rw [h] at e; cases e
      | some ks' => rw [h] at e; cases e; rw [as_intKeys h]; rfl
    | _ => cases e
section
variable {C : Ct} {w : World} {P : Program} {K : PySem.W.Frag} {al : List Addr} {G : Hp} {n : Nw}
abbrev FzP (C : Ct) (w : World) (K : PySem.W.Frag) (al : List Addr) (G : Hp) : List (Key × V) → List (Int × Dat) → Prop := Paired fun p q => p.1 = Sum.inl q.1 ∧ Fz C w K al G p.2 q.2
theorem es_to : ∀ {ks : List (Int × Dat)} {es : List DictEntry}, FzEs C w K al G es (asDct ks) → ∃ (vs : List (Key × Value)) (ps : List (Key × V)), Pairs (mixKind P w) es vs ∧
    (∀ e ∈ es, ∃ k, (mixKind P w).is k e.key = true ∧ e.hash = (mixKind P w).hash k) ∧ KV ps vs ∧ FzP C w K al G ps ks
  | [], es, h => by
    have h : FzEs C w K al G es [] := h
    cases h
    exact ⟨[], [], .nil, by simp, .nil, .nil⟩
  | (i, d) :: ks, es, h => by
    have h : FzEs C w K al G es ((.int i, d) :: asDct ks) := h
    cases h with
    | @cons e es kv vv k v r r1 z1 r2 z2 hh hr =>
      obtain ⟨vs, ps, a1, a2, a3, a4⟩ := es_to hr
      cases z1
      obtain ⟨t, ht⟩ := (show ∃ t, e.key = Value.int i t from r1)
      have hk : (mixKind P w).is (Sum.inl i) e.key = true := by rw [ht]; exact mixKind_int P w i t
      refine ⟨(Sum.inl i, e.val) :: vs, (Sum.inl i, vv) :: ps, .cons hk rfl a1, fun e' he => ?_, .cons ⟨rfl, r2⟩ a3, .cons ⟨rfl, z2⟩ a4⟩
      rcases List.mem_cons.mp he with rfl | q
      · exact ⟨_, hk, by rw [hh]; rfl⟩
      · exact a2 e' q
theorem es_from : ∀ {ks : List (Int × Dat)} {es : List DictEntry} {vs : List (Key × Value)} {ps : List (Key × V)}, Pairs (mixKind P w) es vs →
    (∀ e ∈ es, ∃ k, (mixKind P w).is k e.key = true ∧ e.hash = (mixKind P w).hash k) → KV ps vs → FzP C w K al G ps ks → FzEs C w K al G es (asDct ks)
  | [], es, vs, ps, h1, h2, h3, h4 => by
    cases h4; cases h3; cases h1
    exact .nil
  | (i, d) :: ks, es, vs, ps, h1, h2, h3, h4 => by
    cases h4 with
    | @cons p q ps' qs' e4 r4 =>
      cases h3 with
      | @cons p3 q3 _ _ e3 r3 =>
        cases h1 with
        | @cons e kv es' _ k1 v1 r1 =>
          obtain ⟨p1, p2⟩ := p
          obtain ⟨q1, q2⟩ := q3
          obtain ⟨e4a, e4b⟩ := e4
          obtain ⟨e3a, e3b⟩ := e3
          have e4a : p1 = Sum.inl i := e4a
          subst e4a
          have e3a : Sum.inl i = q1 := e3a
          subst e3a
          have v1 : e.val = q2 := v1
          obtain ⟨t, ht⟩ := Value.isInt_shape (k := i) (v := e.key) k1
          obtain ⟨k', g4, g5⟩ := h2 e (by simp)
          have ek : k' = Sum.inl i := (mixKind P w).inj _ _ _ g4 k1
          subst ek
          exact .cons (kv := .int i) (vv := p2) ⟨t, ht⟩ (.int i) (by rw [v1]; exact e3b) e4b (by rw [g5]; rfl) (es_from r1 (fun e' he => h2 e' (by simp [he])) r3 r4)
theorem fzp_keys : ∀ {ps : List (Key × V)} {ks : List (Int × Dat)}, FzP C w K al G ps ks → ps.map (·.1) = ks.map fun p => Sum.inl p.1
  | _, _, .nil => rfl
  | _, _, .cons h t => by rw [List.map_cons, List.map_cons, h.1, fzp_keys t]
theorem fzp_get : ∀ {ps : List (Key × V)} {ks : List (Int × Dat)}, FzP C w K al G ps ks → ∀ k : Int, (valV ps (Sum.inl k) = none ∧ getI ks k = none) ∨ ∃ v d, valV ps (Sum.inl k) = some v ∧ getI ks k = some d ∧ Fz C w K al G v d
  | _, _, .nil, k => .inl ⟨rfl, rfl⟩
  | p :: ps, q :: ks, .cons h t, k => by
    by_cases e : q.1 = k
    · refine .inr ⟨p.2, q.2, valV_pos (by rw [h.1, e]), ?_, h.2⟩
      simp [getI, List.find?_cons, e]
    · have ne : ¬ p.1 = Sum.inl k := fun z => e (by rw [h.1] at z; exact Sum.inl.inj z)
      rw [valV_neg ne]
      have g : getI (q :: ks) k = getI ks k := by simp [getI, List.find?_cons, e]
      rw [g]
      exact fzp_get t k
theorem fzp_any : ∀ {ps : List (Key × V)} {ks : List (Int × Dat)}, FzP C w K al G ps ks → ∀ k : Int, (ps.any fun kv => decide (kv.1 = Sum.inl k)) = ks.any fun p => decide (p.1 = k)
  | _, _, .nil, k => rfl
  | p :: ps, q :: ks, .cons h t, k => by
    rw [List.any_cons, List.any_cons, fzp_any t k, h.1]
    have e : decide ((Sum.inl q.1 : Key) = Sum.inl k) = decide (q.1 = k) := decide_eq_decide.mpr ⟨fun z => Sum.inl.inj z, fun z => by rw [z]⟩
    rw [e]
theorem fzp_put {ps : List (Key × V)} {ks : List (Int × Dat)} (h : FzP C w K al G ps ks) {k : Int} {v : V} {d : Dat} (hv : Fz C w K al G v d) : FzP C w K al G (putK ps (Sum.inl k) v) (putI ks k d) := by
  unfold putK putI
  rw [fzp_any h k]
  by_cases e : (ks.any fun p => decide (p.1 = k)) = true
  · rw [if_pos e, if_pos e]
    clear e
    induction h with
    | nil => exact .nil
    | @cons p q ps ks h t ih =>
      rw [List.map_cons, List.map_cons]
      refine .cons ?_ ih
      by_cases e : q.1 = k
      · rw [if_pos (by rw [h.1, e]), if_pos e]; exact ⟨h.1, hv⟩
      · rw [if_neg (fun z => e (by rw [h.1] at z; exact Sum.inl.inj z)), if_neg e]; exact h
  · rw [if_neg e, if_neg e]
    exact Paired.snoc h ⟨rfl, hv⟩
end
section
variable {X : Cx} {C : Ct}
def iDct (env : Env') (m : Mem) (x : Lv) : Option (List (Int × Dat)) := match der env m x with
  | some (.dct kvs) => intKeys kvs
  | _ => none
theorem iDct_ok {w : World} {K : PySem.W.Frag} {B n : Nw} {env : Env'} {m : Mem} {σ : L2.St} {v : V} {x : Lv} {ks : List (Int × Dat)} (ok : Ok C w K B n env m σ) (h : LvOk C w K n env σ v x) (e : iDct env m x = some ks) :
    ∃ a es, v = .ref a ∧ n.H a = some (dxo a es) ∧ (a == sysModules) = false ∧ FzEs C w K n.al n.G es.toList (asDct ks) := by
  unfold iDct at e
  split at e
  · rename_i kvs hd
    have ek := as_intKeys e
    subst ek
    have z := der_ok ok h hd
    cases z with
    | dct h1 h2 h3 => exact ⟨_, _, rfl, h1, h2, h3⟩
    | fz z =>
      cases z with
      | dct h1 h2 h3 => exact ⟨_, _, rfl, ok.good.sub _ _ h1, h2, h3⟩
  · cases e
theorem dct_dd {pins : List (Addr × Obj)} {σ : L2.St} {s : Shared} {n : Nw} {a : Addr} {es : Array DictEntry} {ks : List (Int × Dat)} (I : Inv X pins σ n.H s) (ha : n.H a = some (dxo a es)) (fz : FzEs C X.w X.K n.al n.G es.toList (asDct ks))
    (nd : (ks.map (·.1)).Nodup) : ∃ (vs : List (Key × Value)) (ps : List (Key × V)), KV ps vs ∧ FzP C X.w X.K n.al n.G ps ks ∧ s.heap.DictOf (mixKind X.prog X.w) a vs := by
  obtain ⟨⟨o, ep, e1, e2, e3⟩, _⟩ := (show _ ∧ _ from I.hok a _ ha)
  obtain ⟨vs, ps, p1, p2, p3, p4⟩ := es_to (P := X.prog) fz
  refine ⟨vs, ps, p3, p4, o, es, ep, e1, e2, e3, fun e he => p2 e (Array.mem_toList_iff.mpr he), p1, ?_⟩
  have ek : vs.map (·.1) = (ks.map (·.1)).map Sum.inl := by
    rw [← p3.keys, fzp_keys p4, List.map_map]; rfl
  rw [ek]
  exact List.Pairwise.map _ (fun a b hab e => hab (Sum.inl.inj e)) nd
def oInDk (f : Bool → Bool) : Op2 := fun env m x y Q => match x, iDct env m y with
  | .f (.int k), some ks => (ks.map (·.1)).Nodup ∧ Q (.bl (f (getI ks k).isSome)) m
  | _, _ => False
theorem oInDk.mono {f : Bool → Bool} : Mono2 (oInDk f) := fun env m x y Q Q' i => by
  unfold oInDk
  split
  · exact fun h => ⟨h.1, i _ _ h.2⟩
  · exact id
theorem fzp_some {w : World} {K : PySem.W.Frag} {al : List Addr} {G : Hp} {ps : List (Key × V)} {ks : List (Int × Dat)} (h : FzP C w K al G ps ks) (k : Int) : (valV ps (Sum.inl k)).isSome = (getI ks k).isSome := by
  rcases fzp_get h k with ⟨h1, h2⟩ | ⟨v, d, h1, h2, _⟩ <;> rw [h1, h2] <;> rfl
theorem op_inDk : OpD X C (compareOp .In) (oInDk id) := by
  refine ⟨oInDk.mono, fun pins s σ H x y v u Q I rx ry q => ?_⟩
  obtain ⟨B, n, env, m, σ', lx, ly, rfl, ok, hx, hy, q⟩ := q
  unfold oInDk at q
  split at q
  · rename_i k ks hk
    have hx : FzN C X.w X.K n x (.int k) := hx
    cases hx
    obtain ⟨a, es, rfl, ha, hs, fz⟩ := iDct_ok ok hy hk
    obtain ⟨vs, ps, p1, p2, dd⟩ := dct_dd I ha fz q.1
    cases ry
    refine wpAny_in_of (kV_is (k := Sum.inl k) rx) hs dd.mapOf ?_
    rw [← (p1.val (Sum.inl k)).isSome_eq, fzp_some p2]
    exact ⟨.bl _, n.H, I.tok _, rfl, q.2 n _ ok.good (.refl _) (.bl _)⟩
  · exact q.elim
def oIxDk : Op2 := fun env m x y Q => match iDct env m x, y with
  | some ks, .f (.int k) => (ks.map (·.1)).Nodup ∧ match getI ks k with
    | some d => Q d m
    | none => False
  | _, _ => False
theorem oIxDk.mono : Mono2 oIxDk := fun env m x y Q Q' i => by
  unfold oIxDk
  split
  · rintro ⟨h1, h2⟩
    refine ⟨h1, ?_⟩
    split at h2
    · exact i _ _ h2
    · exact h2
  · exact id
end
end DL

set_option maxHeartbeats 1000000
namespace DL
open PySem PySem.Spec PyProof.Rows L2

theorem retell {X : Cx} {pins : List (Addr × Obj)} {σ : L2.St} {H : Hp} {s : Shared} {a : Addr} {o : HO} (I : Inv X pins σ H s) (mu : Mut (H a)) (he : ∃ u, s.heap.get? a = some u) (new : ObjOk X.prog X.w (upd H a o) s.heap a o) : Inv X pins σ (upd H a o) s :=
  I.write (x := a) (e := a) (t' := s.toks) (h' := s.heap) mu (.inl rfl) (fun b v _ q => q) he new
section
variable {X : Cx} {C : Ct}
theorem dxo_ok {h : Heap} {H : Hp} {a : Addr} {o : Obj} {es : Array DictEntry} {ep : Nat} (h1 : h.get? a = some o) (h2 : o.ExactDict) (h3 : o.data = .dict es ep) : ObjOk X.prog X.w H h a (dxo a es) :=
  ⟨⟨o, ep, h1, h2, h3⟩, ⟨o, h1⟩, fun a b ⟨o, ep, e1, e2, e3⟩ k => ⟨o, ep, k _ e1, e2, e3⟩⟩
end
end DL

set_option maxHeartbeats 1000000
namespace DL
open PySem PySem.Spec PyProof.Rows L2

section
variable {X : Cx} {C : Ct} {B : Nw} {e o i : Expr} {d de di : TD} {pos : Pos}
def sPutDk (de d di : TD) : TSd := fun D env m => de env m fun y m1 => d env m1 fun x m2 => di env m2 fun i m3 => match moOf env m3 x, i, y with
  | some (.dct kvs), .f (.int k), .f z => match intKeys kvs with
    | some ks => (ks.map (·.1)).Nodup ∧ ks.length < sizeLine ∧ D.nx (setE x (.dct (asDct (putI ks k z))) env) (setM x (.dct (asDct (putI ks k z))) m3)
    | none => False
  | _, _, _ => False
theorem sPutDk.mono (he : MonoD de) (hd : MonoD d) (hi : MonoD di) : MonoS (sPutDk de d di) := fun env m D D' l h => he _ _ _ _ (fun y m1 h1 => hd _ _ _ _ (fun x m2 h2 => hi _ _ _ _ (fun i m3 h3 => by
  try dsimp only at h3 ⊢
  split at h3
  · split at h3
    · exact ⟨h3.1, h3.2.1, l.nx _ _ h3.2.2⟩
    · exact h3
  · exact h3) h2) h1) h
def sSetD0 (j : Nat) : TSd := fun D env m => D.nx (env.set j (some (.own (.dct [])))) m
theorem ds_setD0 {j : Nat} {x : Str} {pos' p1 : Pos} (hN : X.N.Nodup) (hj : X.N[j]? = some x := by rfl) (hx : Loc X.env.scope x := by first | exact .inl rfl | exact .inr rfl)
    (hf : X.fn x = true ∨ X.env.scope.names.lookup x = some .local := by first | exact .inl rfl | exact .inr rfl | assumption)
    (hs : swapsWith (.Dict [] [] p1) (some (.Name x pos')) pos.line X.env = pure false := by rfl) : DS X C B (.Assign [.Name x pos'] (.Dict [] [] p1) pos) (sSetD0 j) := by
  refine ⟨fun env m D D' l h => l.nx _ _ h, impS (ps_set hN hj hx pe_dct0 hs hf) ?_⟩
  rintro D σ H ⟨n, env, m, rfl, ok, q⟩ p hp hsm
  have ok2 := ok.newO (i := j) (o := dxo p #[]) (z := .dct []) hp ⟨#[], upd_same, hsm, .nil⟩
  exact q ⟨n.G, n.al, upd n.H p (dxo p #[])⟩ _ ⟨fun _ _ e => e, List.prefix_rfl⟩ ok2
end
end DL

set_option maxHeartbeats 1000000
namespace DL
open PySem PySem.Spec PyProof.Rows L2

section
variable {X : Cx} {C : Ct} {B : Nw} {d de dc : TD}
end
end DL

set_option maxHeartbeats 1000000
namespace DL
open PySem PySem.Spec PyProof.Rows L2

def oI2 (f : Int → Int → Int) : OpN := fun _ m xs Q => match xs with
  | [.f (.int i), .f (.int j)] => Q (.int (f i j)) m
  | _ => False
theorem oI2.mono {f : Int → Int → Int} : MonoN (oI2 f) := fun env m xs Q Q' i => by
  unfold oI2
  split
  · exact i _ _
  · exact id
section
variable {X : Cx} {C : Ct}
end
end DL

set_option maxHeartbeats 1000000
namespace DL
open PySem PySem.Spec PyProof.Rows L2

def WalkE (C : Ct) (w : World) (K : PySem.W.Frag) (n : Nw) (J : It) (xs : List Dat) : Prop := ∃ Gp Y, Walk J xs.length Gp Y ∧ ∀ n' m', n.le n' → Good C w K n' m' → Gp n'.H ∧
  ∀ i x H', i < xs.length → Y i n'.H x H' → ∃ n'' d, n''.H = H' ∧ Good C w K n'' m' ∧ n'.le n'' ∧ xs[i]? = some d ∧ FzN C w K n'' x d
theorem WalkD.e {C : Ct} {w : World} {K : PySem.W.Frag} {n : Nw} {J : It} {xs : List Dat} (h : WalkD C w K n J xs) : WalkE C w K n J xs := by
  obtain ⟨Gp, Y, wk, st⟩ := h
  exact ⟨Gp, Y, wk, fun n' m' l g => st n' m' l.sub g⟩
def lIe (C : Ct) (B : Nw) (w : World) (K : PySem.W.Frag) (d : TId) : TI := fun σ H R => ∃ n env m, n.H = H ∧ Ok C w K B n env m σ ∧ d env m fun xs m' => ∀ n' J, Good C w K n' m' → n.le n' → WalkE C w K n' J xs → R J n'.H
structure DIE (X : Cx) (C : Ct) (B : Nw) (tg iter : Expr) (d : TId) : Prop where
  mono : MonoI d
  run : PI X tg iter (lIe C B X.w X.K d)
section
variable {X : Cx} {C : Ct} {B : Nw}
theorem DI.e {tg iter : Expr} {d : TId} (h : DI X C B tg iter d) : DIE X C B tg iter d := ⟨h.mono, impI h.run fun σ H R ⟨n, env, m, e, ok, q⟩ => ⟨n, env, m, e, ok, h.mono _ _ _ _ (fun xs m1 h1 n1 J g1 l1 wk => h1 n1 J g1 l1 wk.e) q⟩⟩
def iOwn (i : Nat) : TId := fun env m Q => match env[i]? with
  | some (some (.own (.lst xs))) => Q xs m
  | _ => False
theorem iOwn.mono (i : Nat) : MonoI (iOwn i) := fun env m Q Q' k h => by
  unfold iOwn at h ⊢
  split at h
  · exact k _ _ h
  · exact h.elim
variable {elt te iter : Expr} {ifs : List Expr} {scope : Scope} {own : List (Str × Nat)} {pos : Pos} {tg : Tg} {dt : TB} {de : TD} {di : TId}
end
end DL

set_option maxHeartbeats 2000000
namespace DL
open PySem PySem.Spec PyProof.Rows L2

def spR (C : Ct) (w : World) (K : PySem.W.Frag) (p : DSp) : Sp := fun vs H Q E => ∃ n m ds, n.H = H ∧ Good C w K n m ∧ FzAllN C w K n vs ds ∧ p ds m (AftD C w K n Q) (AftX C w K n E)
structure DRp (P : Program) (w : World) (K : PySem.W.Frag) (mg : Str → Option Value) (base : Heap) (C : Ct) (k : Nat) (f : Addr) (p : DSp) : Prop where
  mono : MonoP p
  ok : FnR P w K mg base (L2.CX P w) k f (spR C w K p)
def pStar (a : Nat) (p : DSp) : DSp := fun ds m Q E => a ≤ ds.length ∧ (ds.drop a).length ≤ sizeLine ∧ p (ds.take a ++ [.tup (ds.drop a)]) m Q E
theorem pStar.mono {a : Nat} {p : DSp} (h : MonoP p) : MonoP (pStar a p) := fun ds m Q Q' E E' i j ⟨h1, h2, h3⟩ => ⟨h1, h2, h _ _ _ _ _ _ i j h3⟩
section
variable {P : Program} {w : World} {K : PySem.W.Frag} {mg : Str → Option Value} {base : Heap} {C : Ct} {x qual : Str} {params : Arguments} {body : List Stmt} {scope : Scope} {f : Addr} {fd : FuncData} {N ps : List Str} {k : Nat} {p : DSp}
theorem AftD.back {n n2 : Nw} {Q : VK} (l : n.le n2) {d : Dat} {m : Mem} (h : AftD C w K n Q d m) : AftD C w K n2 Q d m := fun n3 v g3 l3 hz => h n3 v g3 (l.trans l3) hz
theorem AftX.back {n n2 : Nw} {E : XK} (l : n.le n2) {c : Nat} {xs : List Dat} {m : Mem} (h : AftX C w K n E c xs m) : AftX C w K n2 E c xs m := fun n3 dx vs g3 l3 hx hz => h n3 dx vs g3 (l.trans l3) (hx.base l) hz
end
structure CmC (P : Program) (w : World) (K : PySem.W.Frag) (mg : Str → Option Value) (base : Heap) (C : Ct) (c : Nat) (x : Str) (k : Nat) (p : DSp) : Prop where
  ex : ∃ mc q g, ClX.CRead K (C.addr c) mc ∧ ClX.CMet K (C.addr c) mc x q g ∧ DRp P w K mg base C k g p
section
variable {X : Cx} {C : Ct} {B : Nw} {k j c : Nat} {p : DSp} {EX : QXe} {x y : Str} {pos apos np : Pos} {o e : Expr} {es : List Expr} {da : TAd}
def dCm (c : Nat) (p : DSp) (EX : QXe) (da : TAd) : TD := fun env m Q => da env m fun xs m1 => match frs xs with
  | some ds => p (.cls c :: ds) m1 (fun d m2 => Q (.f d) m2) (fun c ys m2 => EX c ys env m2)
  | none => False
theorem dCm.mono (hp : MonoP p) (ha : MonoA da) : MonoD (dCm c p EX da) := fun env m Q Q' i => ha _ _ _ _ fun xs m1 => by
  split
  · exact hp _ _ _ _ _ _ (fun d m2 => i _ _) fun _ _ _ h => h
  · exact id
def dMakeV (i c nf : Nat) (p : DSp) (EX : QXe) (da : TAd) : TD := fun env m Q => env[i]? = some (some (.f (.cls c))) ∧ dMakeF c nf p EX da env m Q
end
end DL

set_option maxHeartbeats 2000000
namespace DL
open PySem PySem.Spec PyProof.Rows L2

section
variable {P : Program} {w : World} {K : PySem.W.Frag} {mg : Str → Option Value} {base : Heap} {t : Tab} {c k : Nat} {y x : Str} {ps : List Str} {p : DSp}
theorem PrC.mono {C : Ct} (h : PrC P w K mg base C c x k p) : MonoP p := by
  obtain ⟨_, _, _, _, _, F, _, _⟩ := h.ex
  exact F.mono
theorem CmC.mono {C : Ct} (h : CmC P w K mg base C c x k p) : MonoP p := by
  obtain ⟨_, _, _, _, _, F⟩ := h.ex
  exact F.mono
end
section
variable {X : Cx} {C : Ct} {B : Nw} {k j c nf : Nat} {ps : List Str} {p : DSp} {EX : QXe} {x z : Str} {np pos : Pos} {e : Expr} {es : List Expr} {da : TAd}
theorem dMakeV.mono {i : Nat} (hp : MonoP p) (ha : MonoA da) : MonoD (dMakeV i c nf p EX da) := fun env m Q Q' g ⟨h1, h2⟩ => ⟨h1, dMakeF.mono hp ha _ _ _ _ g h2⟩
end
def oI3 (f : Int → Int → Int → Int) : OpN := fun _ m xs Q => match xs with
  | [.f (.int i), .f (.int j), .f (.int k)] => Q (.int (f i j k)) m
  | _ => False
theorem oI3.mono {f : Int → Int → Int → Int} : MonoN (oI3 f) := fun env m xs Q Q' i => by
  unfold oI3
  split
  · exact i _ _
  · exact id
section
variable {X : Cx} {C : Ct}
end
end DL

set_option maxHeartbeats 1000000
namespace DL
open PySem PySem.Spec PyProof.Rows L2

def tKeys : List (Dat × Dat) → Option (List NestedKey)
  | [] => some []
  | (k, _) :: r => match tKey k, tKeys r with
    | some n, some ns => some (n :: ns)
    | _, _ => none
def putT (kvs : List (Dat × Dat)) (key : Dat) (k : NestedKey) (d : Dat) : List (Dat × Dat) := if (getT kvs k).isSome = true then kvs.map (fun p => if tKey p.1 = some k then (p.1, d) else p) else kvs ++ [(key, d)]
theorem tKey_is {d : Dat} {k : NestedKey} (h : tKey d = some k) : (∃ xs, d = .tup xs) ∧ keyN d = some k ∧ k.depth ≤ 8 := by
  unfold tKey at h
  split at h
  · rename_i ht
    split at h
    · rename_i k' hk
      split at h
      · rename_i hd
        cases h
        refine ⟨?_, hk, hd⟩
        cases d <;> first | exact ⟨_, rfl⟩ | cases ht
      · cases h
    · cases h
  · cases h
section
variable {C : Ct} {K : PySem.W.Frag} {al : List Addr} {G : Hp} {n : Nw} {P : Program} {w : World}
theorem tk_to : ∀ {kvs : List (Dat × Dat)} {es : List DictEntry} {ns : List NestedKey}, FzEs C w K al G es kvs → tKeys kvs = some ns → ∃ xs, es = xs.map (entryOfKey (nestedKind P w)) ∧ TK C w K al G xs kvs ∧ xs.map (·.1) = ns
  | [], es, ns, h, e => by
    cases h
    cases e
    exact ⟨[], rfl, .nil, rfl⟩
  | (k, d) :: r, es, ns, h, e => by
    rw [tKeys] at e
    cases hk : tKey k with
    | none => rw [hk] at e; cases e
    | some q =>
      cases hr : tKeys r with
      | none => rw [hk, hr] at e; cases e
      | some qs =>
        rw [hk, hr] at e
        cases e
        cases h with
        | @cons e1 es kv vv _ _ _ r1 z1 r2 z2 hh hrest =>
          obtain ⟨xs, a1, a2, a3⟩ := tk_to hrest hr
          obtain ⟨⟨ys, rfl⟩, hn, hd⟩ := tKey_is hk
          obtain ⟨a, rfl⟩ : ∃ a, kv = .ref a := by cases z1; exact ⟨_, rfl⟩
          have hkey : e1.key = .ref a := r1
          have hhash : e1.hash = q.hash w := by
            rw [hh]
            unfold hashD
            rw [hn]
          refine ⟨(q, a, e1.val) :: xs, ?_, .cons ⟨hk, z1, vv, r2, z2⟩ a2, by rw [List.map_cons, a3]⟩
          rw [List.map_cons, ← a1]
          congr 1
          obtain ⟨h1, k1, v1⟩ := e1
          have hkey : k1 = .ref a := hkey
          have hhash : h1 = q.hash w := hhash
          subst hkey hhash
          rfl
theorem tk_from : ∀ {xs : List (NestedKey × Addr × Value)} {kvs : List (Dat × Dat)}, TK C w K al G xs kvs → FzEs C w K al G (xs.map (entryOfKey (nestedKind P w))) kvs
  | _, _, .nil => .nil
  | x :: xs, p :: kvs, .cons h t => by
    obtain ⟨hk, z1, v, r2, z2⟩ := h
    obtain ⟨_, hn, _⟩ := tKey_is hk
    obtain ⟨k, d⟩ := p
    rw [List.map_cons]
    refine .cons (e := entryOfKey (nestedKind P w) x) (kv := .ref x.2.1) (vv := v) rfl z1 r2 z2 ?_ (tk_from t)
    show x.1.hash w = hashD w k
    unfold hashD
    rw [hn]
theorem tk_at : ∀ {xs : List (NestedKey × Addr × Value)} {kvs : List (Dat × Dat)}, TK C w K al G xs kvs → ∀ k, (atKey xs k = none ∧ getT kvs k = none) ∨ ∃ p v d, atKey xs k = some p ∧ getT kvs k = some d ∧ RelV v p.2 ∧ Fz C w K al G v d
  | _, _, .nil, k => .inl ⟨rfl, rfl⟩
  | x :: xs, p :: kvs, .cons h t, k => by
    obtain ⟨hk, z1, v, r2, z2⟩ := h
    by_cases e : x.1 = k
    · refine .inr ⟨x.2, v, p.2, ?_, ?_, r2, z2⟩
      · simp [atKey, List.find?_cons, e]
      · simp [getT, List.find?_cons, hk, e]
    · have a : atKey (x :: xs) k = atKey xs k := by simp [atKey, List.find?_cons, e]
      have b : getT (p :: kvs) k = getT kvs k := by simp [getT, List.find?_cons, hk, e]
      rw [a, b]
      exact tk_at t k
theorem tk_map {xs : List (NestedKey × Addr × Value)} {kvs : List (Dat × Dat)} (h : TK C w K al G xs kvs) {k : NestedKey} {v : V} {u : Value} {d : Dat} (rv : RelV v u) (hv : Fz C w K al G v d) :
    TK C w K al G (xs.map (putAt k u)) (kvs.map (fun p => if tKey p.1 = some k then (p.1, d) else p)) := by
  induction h with
  | nil => exact .nil
  | @cons x p xs kvs h t ih =>
    rw [List.map_cons, List.map_cons]
    refine .cons ?_ ih
    obtain ⟨hk, z1, v', r2, z2⟩ := h
    by_cases e : x.1 = k
    · rw [putAt, if_pos e, if_pos (by rw [hk, e])]
      exact ⟨hk, z1, v, rv, hv⟩
    · rw [putAt, if_neg e, if_neg (by rw [hk]; exact fun z => e (Option.some.inj z))]
      exact ⟨hk, z1, v', r2, z2⟩
theorem tk_put {xs : List (NestedKey × Addr × Value)} {kvs : List (Dat × Dat)} (h : TK C w K al G xs kvs) {k : NestedKey} {key : Dat} {a : Addr} {v : V} {u : Value} {d : Dat} (hk : tKey key = some k) (ha : Fz C w K al G (.ref a) key) (rv : RelV v u) (hv : Fz C w K al G v d) :
    TK C w K al G (storedH xs k a u) (putT kvs key k d) := by
  unfold storedH putT
  rcases tk_at h k with ⟨h1, h2⟩ | ⟨p, v', d', h1, h2, _⟩
  · rw [h1, h2]
    exact Paired.snoc h ⟨hk, ha, v, rv, hv⟩
  · rw [h1, h2]
    exact tk_map h rv hv
end
section
variable {X : Cx} {C : Ct} {pins : List (Addr × Obj)} {σ : L2.St} {s : Shared} {n : Nw}
mutual
theorem nis_of (I : Inv X pins σ n.H s) (sub : ∀ p o, n.G p = some o → n.H p = some o) : ∀ (d : Dat) (k : NestedKey) (v : V) (u : Value), keyN d = some k → Fz C X.w X.K n.al n.G v d → RelV v u → NestedIs s.heap k u
  | .non, k, v, u, e, z, r => by
    rw [keyN] at e; cases e
    cases z
    have r : u = Value.none := r
    subst r; exact .none
  | .bl b, k, v, u, e, z, r => by
    rw [keyN] at e; cases e
    cases z
    have r : u = Value.bool b := r
    subst r; exact .bool rfl
  | .int i, k, v, u, e, z, r => by
    rw [keyN] at e; cases e
    cases z
    obtain ⟨t, rfl⟩ := (show ∃ t, u = Value.int i t from r)
    exact .int i t
  | .str x, k, v, u, e, z, r => by
    rw [keyN] at e; cases e
    cases z
    obtain ⟨t, rfl⟩ := (show ∃ t, u = Value.str x t from r)
    exact .text x t
  | .tup ds, k, v, u, e, z, r => by
    rw [keyN] at e
    obtain ⟨ks, hk, rfl⟩ := Option.map_eq_some_iff.mp e
    cases z with
    | @tup a vs _ sq fz =>
      have r : u = Value.ref a := r
      subst r
      obtain ⟨its, rv, ⟨o, ho, hc, m, hd⟩, _⟩ := I.tuple (SqT.keep sub sq)
      exact .tup ho hc hd (by simpa using nal_of I sub ds ks vs its hk fz rv)
  | .lst _, k, v, u, e, z, r => by cases e
  | .dct _, k, v, u, e, z, r => by cases e
  | .ins _ _, k, v, u, e, z, r => by cases e
  | .obj _, k, v, u, e, z, r => by cases e
  | .ref _, k, v, u, e, z, r => by cases e
  | .ty _, k, v, u, e, z, r => by cases e
  | .cls _, k, v, u, e, z, r => by cases e
theorem nal_of (I : Inv X pins σ n.H s) (sub : ∀ p o, n.G p = some o → n.H p = some o) : ∀ (ds : List Dat) (ks : List NestedKey) (vs : List V) (us : List Value), keyNs ds = some ks → FzAll C X.w X.K n.al n.G vs ds → Vals vs us → NestedAll s.heap ks us
  | [], ks, vs, us, e, z, r => by
    rw [keyNs] at e; cases e
    cases z
    cases r
    exact .nil
  | d :: ds, ks, vs, us, e, z, r => by
    rw [keyNs] at e
    cases h1 : keyN d with
    | none => rw [h1] at e; cases e
    | some k =>
      cases h2 : keyNs ds with
      | none => rw [h1, h2] at e; cases e
      | some ks' =>
        rw [h1, h2] at e
        cases e
        cases z with
        | cons z1 z2 =>
          cases r with
          | cons r1 r2 => exact .cons (nis_of I sub d k _ _ h1 z1 r1) (nal_of I sub ds ks' _ _ h2 z2 r2)
end
theorem key_is (I : Inv X pins σ n.H s) (sub : ∀ p o, n.G p = some o → n.H p = some o) {d : Dat} {k : NestedKey} {a : Addr} (e : tKey d = some k) (z : Fz C X.w X.K n.al n.G (.ref a) d) : (nestedKind X.prog X.w).is s.heap k a := by
  obtain ⟨_, h1, h2⟩ := tKey_is e
  exact ⟨nis_of I sub d k (.ref a) (.ref a) h1 z rfl, h2⟩
theorem tk_all (I : Inv X pins σ n.H s) (sub : ∀ p o, n.G p = some o → n.H p = some o) : ∀ {xs : List (NestedKey × Addr × Value)} {kvs : List (Dat × Dat)}, TK C X.w X.K n.al n.G xs kvs → ∀ x ∈ xs, (nestedKind X.prog X.w).is s.heap x.1 x.2.1
  | _, _, .nil, x, hx => by cases hx
  | y :: xs, p :: kvs, .cons h t, x, hx => by
    rcases List.mem_cons.mp hx with rfl | q
    · exact key_is I sub h.1 h.2.1
    · exact tk_all I sub t x q
theorem tdct_dd {a : Addr} {es : Array DictEntry} {kvs : List (Dat × Dat)} {ns : List NestedKey} (I : Inv X pins σ n.H s) (sub : ∀ p o, n.G p = some o → n.H p = some o) (ha : n.H a = some (dxo a es)) (fz : FzEs C X.w X.K n.al n.G es.toList kvs) (hk : tKeys kvs = some ns) (nd : ns.Nodup) :
    ∃ xs, TK C X.w X.K n.al n.G xs kvs ∧ s.heap.DictOfH (nestedKind X.prog X.w) a xs := by
  obtain ⟨⟨o, ep, e1, e2, e3⟩, _⟩ := (show _ ∧ _ from I.hok a _ ha)
  obtain ⟨xs, h1, h2, h3⟩ := tk_to (P := X.prog) fz hk
  exact ⟨xs, h2, o, es, ep, e1, e2, e3, h1, tk_all I sub h2, by rw [h3]; exact nd⟩
def dDct (env : Env') (m : Mem) (x : Lv) : Option (List (Dat × Dat)) := match der env m x with
  | some (.dct kvs) => some kvs
  | _ => none
theorem dDct_ok {w : World} {K : PySem.W.Frag} {B n : Nw} {env : Env'} {m : Mem} {σ : L2.St} {v : V} {x : Lv} {kvs : List (Dat × Dat)} (ok : Ok C w K B n env m σ) (h : LvOk C w K n env σ v x) (e : dDct env m x = some kvs) :
    ∃ a es, v = .ref a ∧ n.H a = some (dxo a es) ∧ (a == sysModules) = false ∧ FzEs C w K n.al n.G es.toList kvs := by
  unfold dDct at e
  split at e
  · rename_i kvs' hd
    cases e
    have z := der_ok ok h hd
    cases z with
    | dct h1 h2 h3 => exact ⟨_, _, rfl, h1, h2, h3⟩
    | fz z =>
      cases z with
      | dct h1 h2 h3 => exact ⟨_, _, rfl, ok.good.sub _ _ h1, h2, h3⟩
  · cases e
theorem roomT {k : Nat} {A : Around} (h : Room k A) : (nestedKind X.prog X.w).room A.in1 := by
  have := rm h
  show A.in1.units + 8 < cLine
  have e : A.in1.units = A.units + 1 := rfl
  omega
def oInT (f : Bool → Bool) : Op2 := fun env m x y Q => match x, dDct env m y with
  | .f d, some kvs => match tKey d, tKeys kvs with
    | some k, some ns => ns.Nodup ∧ Q (.bl (f (getT kvs k).isSome)) m
    | _, _ => False
  | _, _ => False
theorem oInT.mono {f : Bool → Bool} : Mono2 (oInT f) := fun env m x y Q Q' i h => by
  unfold oInT at h ⊢
  split at h
  · split at h
    · exact ⟨h.1, i _ _ h.2⟩
    · exact h
  · exact h
theorem inT_aux {op : CmpOp} {f : Bool → Bool} {k : Nat} (hr : Room k X.A)
    (hop : ∀ {s : Shared} {d a : Addr} {q : NestedKey} {xs : List (NestedKey × Addr × Value)} {Q : Value → Shared → Prop} {E : Value → Shared → Prop}, (nestedKind X.prog X.w).is s.heap q a → (d == sysModules) = false → s.heap.DictOfH (nestedKind X.prog X.w) d xs →
      Q (.bool (f (atKey xs q).isSome)) { s with toks := s.toks + (nestedKind X.prog X.w).draws q } → wpAny (model X.prog X.w) X.A (compareOp op (.ref a) (.ref d)) Q E s) : OpD X C (compareOp op) (oInT f) := by
  refine ⟨oInT.mono, fun pins s σ H x y v u Q I rx ry q => ?_⟩
  obtain ⟨B, n, env, m, σ', lx, ly, rfl, ok, hx, hy, q⟩ := q
  unfold oInT at q
  split at q
  · rename_i d kvs hk
    split at q
    · rename_i k ns e1 e2
      have hx : FzN C X.w X.K n x d := hx
      obtain ⟨⟨ys, rfl⟩, _, _⟩ := tKey_is e1
      obtain ⟨b, rfl⟩ : ∃ b, x = .ref b := by
        have hx' : Fz C X.w X.K n.al n.G x (.tup ys) := hx
        cases hx'; exact ⟨_, rfl⟩
      obtain ⟨a, es, rfl, ha, hs, fz⟩ := dDct_ok ok hy hk
      obtain ⟨xs, tk, dd⟩ := tdct_dd I ok.good.sub ha fz e2 q.1
      cases rx
      cases ry
      refine hop (key_is I ok.good.sub e1 hx) hs dd ?_
      have e3 : (atKey xs k).isSome = (getT kvs k).isSome := by
        rcases tk_at tk k with ⟨h1, h2⟩ | ⟨p, v', d', h1, h2, _⟩ <;> rw [h1, h2] <;> rfl
      rw [e3]
      exact ⟨.bl _, n.H, I.tok _, rfl, q.2 n _ ok.good (.refl _) (.bl _)⟩
    · exact q.elim
  · exact q.elim
theorem op_inT {k : Nat} (hr : Room k X.A) : OpD X C (compareOp .In) (oInT id) := inT_aux (f := id) hr fun h1 h2 h3 h4 => wpAny_in_heap (roomT hr) h1 h2 h3 h4
def oIxT : Op2 := fun env m x y Q => match dDct env m x, y with
  | some kvs, .f d => match tKey d, tKeys kvs with
    | some k, some ns => ns.Nodup ∧ match getT kvs k with
      | some z => Q z m
      | none => False
    | _, _ => False
  | _, _ => False
theorem oIxT.mono : Mono2 oIxT := fun env m x y Q Q' i h => by
  unfold oIxT at h ⊢
  split at h
  · split at h
    · obtain ⟨h1, h2⟩ := h
      refine ⟨h1, ?_⟩
      split at h2
      · exact i _ _ h2
      · exact h2
    · exact h
  · exact h
def rSetT (X : Cx) (C : Ct) : V → V → V → Hp → (Hp → Prop) → Prop := fun x y v H Q => ∃ (n : Nw) (a : Addr) (es : Array DictEntry) (kvs : List (Dat × Dat)) (ns : List NestedKey) (k : NestedKey) (key z : Dat) (b : Addr), n.H = H ∧ (∀ p o, n.G p = some o → n.H p = some o) ∧ x = .ref a ∧ y = .ref b ∧ n.H a = some (dxo a es) ∧ (a == sysModules) = false ∧
  FzEs C X.w X.K n.al n.G es.toList kvs ∧ tKeys kvs = some ns ∧ ns.Nodup ∧ tKey key = some k ∧ FzN C X.w X.K n (.ref b) key ∧ kvs.length < sizeLine ∧ FzN C X.w X.K n v z ∧ ∀ es' : Array DictEntry, FzEs C X.w X.K n.al n.G es'.toList (putT kvs key k z) → Q (upd H a (dxo a es'))
theorem set_T {k : Nat} (hr : Room k X.A) : PSet X (rSetT X C) := by
  intro pins s σ H x y v ov iv u Q I rx ry rv h
  obtain ⟨n, a, es, kvs, ns, k, key, z, b, rfl, sub, rfl, rfl, ha, hs, fz, hk, nd, hkey, hb, hl, hv, q⟩ := h
  obtain ⟨xs, tk, dd⟩ := tdct_dd I sub ha fz hk nd
  cases rx
  cases ry
  have hlen : xs.length = kvs.length := tk.length
  refine wpAny_setItem_heap (hsz := by rw [hlen]; omega) (roomT hr) (key_is I sub hkey hb) dd fun h' dd' hsb => ?_
  obtain ⟨o, es', ep, h1, h2, h3, h4, h5, h6⟩ := dd'
  have f2 : FzEs C X.w X.K n.al n.G es'.toList (putT kvs key k z) := by
    rw [h4]
    exact tk_from (tk_put tk hkey hb rv hv)
  exact ⟨_, d_write I (by rw [ha]; exact True.intro) hsb ⟨o, h1⟩ (dxo_ok h1 h2 h3), q es' f2⟩
end
section
variable {X : Cx} {C : Ct} {B : Nw} {e o i : Expr} {d de di : TD} {pos : Pos}
def sPutT (de d di : TD) : TSd := fun D env m => de env m fun y m1 => d env m1 fun x m2 => di env m2 fun i m3 => match moOf env m3 x, i, y with
  | some (.dct kvs), .f key, .f z => match tKeys kvs, tKey key with
    | some ns, some k => ns.Nodup ∧ kvs.length < sizeLine ∧ D.nx (setE x (.dct (putT kvs key k z)) env) (setM x (.dct (putT kvs key k z)) m3)
    | _, _ => False
  | _, _, _ => False
theorem sPutT.mono (he : MonoD de) (hd : MonoD d) (hi : MonoD di) : MonoS (sPutT de d di) := fun env m D D' l h => he _ _ _ _ (fun y m1 h1 => hd _ _ _ _ (fun x m2 h2 => hi _ _ _ _ (fun i m3 h3 => by
  try dsimp only at h3 ⊢
  split at h3
  · split at h3
    · exact ⟨h3.1, h3.2.1, l.nx _ _ h3.2.2⟩
    · exact h3
  · exact h3) h2) h1) h
theorem ds_putT {k : Nat} {sp : Pos} (hr : Room k X.A) (he : DE X C B e de) (ho : DE X C B o d) (hi : DE X C B i di)
    (ha : ∀ v, assign (.Subscript o i sp) X.env v = (do
      let ov ← holding [v] (eval o X.env)
      let iv ← holding [v, ov] (eval i X.env)
      standAt sp
      holding [v, ov, iv] (setItem ov iv v)
      release [v, ov, iv] []) := by intro _; rfl) (hs : swapsWithSole [.Subscript o i sp] e pos.line X.env = pure false := by rfl) (hw : swappedStores [.Subscript o i sp] e X.env = pure none := by rfl)
    (h1 : (assignEach [.Subscript o i sp] X.env).map (·.2) = [assign (.Subscript o i sp) X.env] := by rfl) : DS X C B (.Assign [.Subscript o i sp] e pos) (sPutT de d di) := by
  refine ⟨sPutT.mono he.mono ho.mono hi.mono, impS (ps_asg he.run (pg_sub ho.run hi.run (set_T (C := C) hr) ha) hs hw h1) ?_⟩
  rintro D σ H ⟨n, env, m, rfl, ok, q⟩
  refine ⟨n, env, m, rfl, ok, he.mono _ _ _ _ (fun y m1 h1 n1 u g1 l1 ly => ?_) q⟩
  have ok1 := ok.go g1 l1
  refine ⟨n1, env, m1, rfl, ok1, ho.mono _ _ _ _ (fun x m2 h2 n2 v g2 l2 lx => ?_) h1⟩
  have ok2 := ok1.go g2 l2
  refine ⟨n2, env, m2, rfl, ok2, hi.mono _ _ _ _ (fun i m3 h3 n3 iv g3 l3 li => ?_) h2⟩
  have ok3 := ok2.go g3 l3
  split at h3
  · rename_i kvs key z hx
    split at h3
    · rename_i ns k e1 e2
      have li : FzN C X.w X.K n3 iv key := li
      obtain ⟨⟨ys, rfl⟩, _, _⟩ := tKey_is e2
      obtain ⟨b, rfl⟩ : ∃ b, iv = .ref b := by
        have li' : Fz C X.w X.K n3.al n3.G iv (.tup ys) := li
        cases li'; exact ⟨_, rfl⟩
      have ly3 : FzN C X.w X.K n3 u z := FzN.le (FzN.le (n := n1) ly l2) l3
      obtain ⟨a, rfl, ⟨es, f1, f2, f3⟩, hset⟩ := mut_ok ok3 (lx.le l3) hx
      obtain ⟨nd, hl, h3⟩ := h3
      refine ⟨n3, a, es, kvs, ns, k, _, z, b, rfl, ok3.good.sub, rfl, rfl, f1, f2, f3, e1, nd, e2, li, hl, ly3, fun es' f' => ?_⟩
      have ok4 := hset (dxo a es') (.dct (putT kvs _ k z)) ⟨es', upd_same, f2, f'⟩
      exact h3 ⟨n3.G, n3.al, upd n3.H a (dxo a es')⟩ σ (((l1.trans l2).trans l3).sub.trans sub_upd) ok4
    · exact h3.elim
  · exact h3.elim
end
end DL

set_option maxHeartbeats 1000000
namespace DL
open PySem PySem.Spec PyProof.Rows L2

def dcGo (tg : Tg) (dt : TB) (dk dv : TD) (env : Env') : List Dat → List (Int × Dat) → Mem → (List (Int × Dat) → Mem → Prop) → Prop
  | [], acc, m, Q => Q acc m
  | x :: xs, acc, m, Q => match bind tg (.f x) env with
    | some env2 => dt env2 m fun b m1 => if b = true then dk env2 m1 fun y m2 => dv env2 m2 fun z m3 => match y, z with
        | .f (.int i), .f d => dcGo tg dt dk dv env xs (putI acc i d) m3 Q
        | _, _ => False
      else dcGo tg dt dk dv env xs acc m1 Q
    | none => False
theorem dcGo.mono {tg : Tg} {dt : TB} {dk dv : TD} (ht : MonoB dt) (hk : MonoD dk) (hv : MonoD dv) (env : Env') : ∀ xs acc m (Q Q' : List (Int × Dat) → Mem → Prop), (∀ x m', Q x m' → Q' x m') → dcGo tg dt dk dv env xs acc m Q → dcGo tg dt dk dv env xs acc m Q'
  | [], acc, m, Q, Q', i, h => i _ _ h
  | x :: xs, acc, m, Q, Q', i, h => by
    unfold dcGo at h ⊢
    split
    · rename_i e2 he
      rw [he] at h
      refine ht _ _ _ _ (fun b m1 h1 => ?_) h
      cases b with
      | true =>
        refine hk _ _ _ _ (fun y m2 h2 => hv _ _ _ _ (fun z m3 h3 => ?_) h2) h1
        split at h3
        · exact dcGo.mono ht hk hv env xs _ m3 _ _ i h3
        · exact h3
      | false => exact dcGo.mono ht hk hv env xs acc m1 _ _ i h1
    · rename_i he
      rw [he] at h
      exact h
def dDc (tg : Tg) (dt : TB) (dk dv : TD) (vs : List Nat) (di : TId) : TD := fun env m Q => di env m fun xs m1 => xs.length ≤ sizeLine ∧ dcGo tg dt dk dv (wipeE env vs) xs [] m1 fun ks m2 => Q (.f (.dct (asDct ks))) m2
theorem dDc.mono {tg : Tg} {dt : TB} {dk dv : TD} {vs : List Nat} {di : TId} (hi : MonoI di) (ht : MonoB dt) (hk : MonoD dk) (hv : MonoD dv) : MonoD (dDc tg dt dk dv vs di) := fun env m Q Q' i h =>
  hi _ _ _ _ (fun xs m1 h1 => ⟨h1.1, dcGo.mono ht hk hv _ _ _ _ _ _ (fun ks m2 => i _ _) h1.2⟩) h
structure EsOf (X : Cx) (ps : List (Key × V)) (D : Addr) (es : Array DictEntry) : Prop where
  ex : ∃ vs, Pairs (mixKind X.prog X.w) es.toList vs ∧ (∀ e ∈ es.toList, ∃ k, (mixKind X.prog X.w).is k e.key = true ∧ e.hash = (mixKind X.prog X.w).hash k) ∧ KV ps vs
  sys : (D == sysModules) = false
section
variable {X : Cx} {C : Ct} {B : Nw}
theorem putI_len (ks : List (Int × Dat)) (i : Int) (d : Dat) : (putI ks i d).length ≤ ks.length + 1 := by
  unfold putI
  split <;> simp
theorem fzp_le {w : World} {K : PySem.W.Frag} {n n' : Nw} (l : n.le n') : ∀ {ps : List (Key × V)} {ks : List (Int × Dat)}, FzP C w K n.al n.G ps ks → FzP C w K n'.al n'.G ps ks
  | _, _, .nil => .nil
  | _, _, .cons h t => .cons ⟨h.1, FzN.le (n := n) h.2 l⟩ (fzp_le l t)
theorem del_good {w : World} {K : PySem.W.Frag} {n : Nw} {m : Mem} {D : Addr} (g : Good C w K n m) (hG : n.G D = none) (ha : D ∉ n.al) (hc : Calm (n.H D) := by first | assumption | exact Calm.none (by assumption) | exact Calm.lst (by assumption) | exact Calm.dx (by assumption) | exact Calm.ins (by assumption) | exact Calm.dK (by assumption) | exact Calm.xd (by assumption) | exact Calm.tup (by assumption) | exact Calm.lst upd_same | exact Calm.dx upd_same | exact Calm.dK upd_same | exact Calm.ins upd_same | exact Calm.xd upd_same) : Good C w K ⟨n.G, n.al, del n.H D⟩ m :=
  ⟨fun p o e => by
    show del n.H D p = some o
    rw [del_ne (fun z => by subst z; have e' : n.G p = some o := e; rw [hG] at e'; cases e')]; exact g.sub p o e, g.nd, g.len, fun k y a e1 e2 => by
    obtain ⟨q1, q2⟩ := g.at_ k y a e1 e2
    exact ⟨q1.imp (n := n) (fun _ _ e => e) (fun _ _ e => e) (fun u e => by
      show del n.H D a = some u
      rw [del_ne (fun z => by subst z; exact ha (List.mem_of_getElem? e2))]; exact e), q2⟩, Tabs_del g.tab hc, g.tg⟩
theorem del_le {n n2 : Nw} {D : Addr} (l : n.le n2) (hD : n.H D = none) : n.le ⟨n2.G, n2.al, del n2.H D⟩ := by
  have ne : ∀ {a u}, n.H a = some u → a ≠ D := fun e z => by subst z; rw [hD] at e; cases e
  refine ⟨l.g, fun p o e hn nt => ?_, fun p e => ?_, l.gnew, l.ale, l.anew⟩
  · show del n2.H D p = some o
    rw [del_ne (ne e)]; exact l.keepN p o e hn nt
  · show del n2.H D p ≠ none
    rw [del_ne (fun z => by subst z; exact e hD)]; exact l.there p e
theorem pe_dcE {kx vx tg iter : Expr} {ifs : List Expr} {scope : Scope} {own : List (Str × Nat)} {pos : Pos} {wi : TI} {g : TG} {tt : TT} {tk tv : TE} (h : PE X (.DictComp kx vx [⟨tg, iter, ifs, 0⟩] scope pos) (tDc wi g tt tk tv (own.map (·.2)))) :
    PE X (.DictComp kx vx [⟨tg, iter, ifs, 0⟩] scope pos) (fun σ H Q => tDc wi g tt tk tv (own.map (·.2)) σ H fun v H' => ∃ D ps, v = .ref D ∧ H' D = some (.dK ps) ∧ ∀ es : Array DictEntry, EsOf X ps D es → Q v (upd H' D (dxo D es))) := by
  refine ⟨fun pins s σ H Q I q => thn (h.run pins s σ H _ I q) fun u s1 ⟨v, H1, I1, rv, D, ps, ev, hD, q1⟩ => ?_⟩
  subst ev
  obtain ⟨z, hd, vs, rel, o, es, ep, h1, h2, h3, h4, h5, h6⟩ := dk_of I1.hok hD
  have I2 := retell (o := dxo D es) I1 (by rw [hD]; exact True.intro) ⟨o, h1⟩ (dxo_ok h1 h2 h3)
  exact ⟨.ref D, _, I2, rv, q1 es ⟨⟨vs, h5, fun e he => h4 e (Array.mem_toList_iff.mp he), rel⟩, hd⟩⟩
theorem dc_it {J : It} {N : Nat} {Gp : Hp → Prop} {Y : Nat → Hp → V → Hp → Prop} (wk : Walk J N Gp Y) {g : TG} {tt : TT} {tk tv : TE} {vs : List Nat} {σ : L2.St} {H1 : Hp} {D : Addr} {Qd : Hp → Prop} (S : Nat → Hp → Prop) (start : S 0 (upd H1 D (.dK [])))
    (stays : ∀ j Hx, j ≤ N → S j Hx → Gp Hx)
    (step : ∀ j a Hx Hy, j < N → S j Hx → Y j Hx a Hy → g a (wipe σ vs) Hy fun τ Ha => wipe τ vs = wipe σ vs ∧ tt τ Ha fun b Hb =>
      if b = true then tk τ Hb fun yk Hc => tv τ Hc fun zv Hd => ∃ kvs k, yk = kV k ∧ Hd D = some (.dK kvs) ∧ kvs.length < sizeLine ∧ S (j + 1) (upd Hd D (.dK (putK kvs k zv))) else S (j + 1) Hb) (fin : ∀ Hx, S N Hx → Qd Hx) :
    ∃ W : Nat → Nat → Hp → Prop, (∃ m, W 0 m (upd H1 D (.dK []))) ∧ ∀ j m Hx, W j m Hx →
      (J.stop j Hx ∧ Qd Hx) ∨ (J.go j Hx ∧ ∃ Nx : Hp → Prop, (∀ Hn, Nx Hn → ∃ m', m' < m ∧ W (j + 1) m' Hn) ∧ ∀ a Hy, J.yld j Hx a Hy → g a (wipe σ vs) Hy fun τ Ha => wipe τ vs = wipe σ vs ∧ tt τ Ha fun b Hb =>
        if b = true then tk τ Hb fun yk Hc => tv τ Hc fun zv Hd => ∃ kvs k, yk = kV k ∧ Hd D = some (.dK kvs) ∧ kvs.length < sizeLine ∧ Nx (upd Hd D (.dK (putK kvs k zv))) else Nx Hb) := by
  refine ⟨fun j m Hx => m = N - j ∧ j ≤ N ∧ S j Hx, ⟨N, by simp, Nat.zero_le _, start⟩, ?_⟩
  rintro j m Hx ⟨rfl, hj, sj⟩
  have gj := stays j Hx hj sj
  by_cases lt : j < N
  · exact .inr ⟨wk.goes j Hx lt gj, S (j + 1), fun Hn sn => ⟨N - (j + 1), by omega, rfl, lt, sn⟩, fun a Hy y => step j a Hx Hy lt sj (wk.yields j Hx a Hy lt gj y)⟩
  · have e : j = N := by omega
    subst e
    exact .inl ⟨wk.stops Hx gj, fin Hx sj⟩
theorem dc_imp {tg : Tg} {dt : TB} {dk dv : TD} {vs : List Nat} {di : TId} (hi : MonoI di) (ht : MonoB dt) (hk : MonoD dk) (hv : MonoD dv) (htg : ∀ i ∈ tg.ids, i ∈ vs) :
    ∀ σ H Q, lE C B X.w X.K (dDc tg dt dk dv vs di) σ H Q → tDc (lI C B X.w X.K di) (gOf X.K tg) (lB C B X.w X.K dt) (lE C B X.w X.K dk) (lE C B X.w X.K dv) vs σ H fun v H' => ∃ D ps, v = .ref D ∧ H' D = some (.dK ps) ∧ ∀ es : Array DictEntry, EsOf X ps D es → Q v (upd H' D (dxo D es)) := by
  rintro σ H Q ⟨n, env, m, rfl, ok, h⟩
  refine ⟨n, env, m, rfl, ok, hi _ _ _ _ (fun xs m1 h1 n1 J g1 l1 wk => ?_) h⟩
  obtain ⟨Gp, Y, wk, st⟩ := wk
  intro D hD
  have ok1 := (ok.go g1 l1).wipe vs
  obtain ⟨f1, f2⟩ := g1.free hD
  refine dc_it wk (fun i H => ∃ n2 m2 ps acc, n2.H = H ∧ n1.le n2 ∧ Good C X.w X.K n2 m2 ∧ n2.H D = some (.dK ps) ∧ n2.G D = none ∧ D ∉ n2.al ∧ FzP C X.w X.K n2.al n2.G ps acc ∧ acc.length ≤ i ∧ i ≤ xs.length ∧
    dcGo tg dt dk dv (wipeE env vs) (xs.drop i) acc m2 (fun ks m' => AftL C X.w X.K n env σ Q (.f (.dct (asDct ks))) m')) ?_ ?_ ?_ ?_
  · exact ⟨⟨n1.G, n1.al, upd n1.H D (.dK [])⟩, m1, [], [], rfl, (Nw.le.refl n1).at hD, g1.at f1 f2, upd_same, f1, f2, .nil, Nat.le_refl _, Nat.zero_le _, h1.2⟩
  · rintro i H hi ⟨n2, m2, ps, acc, rfl, l2, g2, _⟩
    exact (st n2 m2 l2.sub g2).1
  · rintro i x H H' hi ⟨n2, m2, ps, acc, rfl, l2, g2, hD2, hG2, ha2, hz2, hl2, hi2, h2⟩ hy
    obtain ⟨n3, d, rfl, g3, l3, hd3, hz3⟩ := (st n2 m2 l2.sub g2).2 i x _ hi hy
    have hdr : xs.drop i = d :: xs.drop (i + 1) := by
      rw [List.drop_eq_getElem_cons hi]
      rw [List.getElem?_eq_getElem hi] at hd3
      rw [Option.some.inj hd3]
    rw [hdr] at h2
    unfold dcGo at h2
    split at h2
    · rename_i env2 hb2
      have D2 : n2.H D ≠ none := by rw [hD2]; simp
      refine bind_ok (x := .f d) hz3 (ok1.go g3 (l2.trans l3)) hb2 fun σ2 ok3 hw => ⟨?_, ?_⟩
      · rw [hw vs htg, wipe_idem]
      · refine ⟨n3, env2, m2, rfl, ok3, ht _ _ _ _ (fun b m4 h4 n4 g4 l4 => ?_) h2⟩
        have l24 := l3.trans l4
        cases b with
        | false =>
          exact ⟨n4, m4, ps, acc, rfl, l2.trans l24, g4, l24.keep D _ hD2 ha2, (l24.gnew D D2).trans hG2, l24.nal D2 ha2, fzp_le l24 hz2, by omega, by omega, h4⟩
        | true =>
          refine ⟨n4, env2, m4, rfl, ok3.go g4 l4, hk _ _ _ _ (fun y m5 h5 n5 v g5 l5 ly => ?_) h4⟩
          refine ⟨n5, env2, m5, rfl, (ok3.go g4 l4).go g5 l5, hv _ _ _ _ (fun z m6 h6 n6 u g6 l6 lz => ?_) h5⟩
          have l26 := (l24.trans l5).trans l6
          have e6 := l26.keep D _ hD2 ha2
          have hG6 := (l26.gnew D D2).trans hG2
          have ha6 := l26.nal D2 ha2
          split at h6
          · rename_i j d6
            have ly : FzN C X.w X.K n5 v (.int j) := ly
            cases ly
            have lz : FzN C X.w X.K n6 u d6 := lz
            have hpl : ps.length = acc.length := by
              have e1 := congrArg List.length (fzp_keys hz2)
              simpa using e1
            refine ⟨ps, Sum.inl j, rfl, e6, by have := h1.1; omega, ?_⟩
            have := putI_len acc j d6
            exact ⟨⟨n6.G, n6.al, upd n6.H D (.dK (putK ps (Sum.inl j) u))⟩, m6, putK ps (Sum.inl j) u, putI acc j d6, rfl, (l2.trans l26).at hD, g6.at hG6 ha6, upd_same, hG6, ha6, fzp_put (fzp_le l26 hz2) lz, by omega, by omega, h6⟩
          · exact h6.elim
    · exact h2.elim
  · rintro H ⟨n2, m2, ps, acc, rfl, l2, g2, hD2, hG2, ha2, hz2, hl2, hi2, h2⟩
    rw [List.drop_length] at h2
    refine ⟨D, ps, rfl, hD2, fun es he => ?_⟩
    have h2 : AftL C X.w X.K n env σ Q (.f (.dct (asDct acc))) m2 := h2
    have g3 := del_good g2 hG2 ha2
    have l3 : n.le ⟨n2.G, n2.al, del n2.H D⟩ := l1.trans (del_le l2 hD)
    obtain ⟨g4, l4⟩ := g3.freeze (o := dxo D es) (p := D) del_same
    obtain ⟨vs', p1, p2, p3⟩ := he.ex
    have fz := es_from p1 p2 p3 hz2
    have hG' : ∀ p o, n2.G p = some o → upd n2.G D (dxo D es) p = some o := fun p o e => by
      rw [upd_ne (fun z => by subst z; rw [hG2] at e; cases e)]; exact e
    have e5 : upd (del n2.H D) D (dxo D es) = upd n2.H D (dxo D es) := by
      funext b
      by_cases hb : b = D
      · subst hb; rw [upd_same, upd_same]
      · rw [upd_ne hb, upd_ne hb, del_ne hb]
    have h5 := h2 ⟨upd n2.G D (dxo D es), n2.al, upd (del n2.H D) D (dxo D es)⟩ (.ref D) g4 (l3.trans l4) (Fz.dct upd_same he.sys (FzEs.keep hG' (fun _ _ e => e) fz))
    rw [← e5]
    exact h5
theorem de_dc {kx vx te iter : Expr} {ifs : List Expr} {scope : Scope} {pos : Pos} {tg : Tg} {dt : TB} {dk dv : TD} {di : TId} (own : List (Str × Nat)) (hc : X.calm = true) (hN : X.N.Nodup) (hi : DI X C B te iter di) (hg : Blk X scope fun Y => TgOk Y te tg) (ht : Blk X scope fun Y => DTs Y C B ifs dt)
    (hk : Blk X scope fun Y => DE Y C B kx dk) (hv : Blk X scope fun Y => DE Y C B vx dv) (mt : MonoB dt) (mk : MonoD dk) (mv : MonoD dv) (ok : BlkOk X.N X.env.scope scope own) (htg : ∀ i ∈ tg.ids, i ∈ own.map (·.2)) (hs : ∀ x, foldedSetIterable iter X.env x = pure x := by intro _; rfl) :
    DE X C B (.DictComp kx vx [⟨te, iter, ifs, 0⟩] scope pos) (dDc tg dt dk dv (own.map (·.2)) di) :=
  ⟨dDc.mono hi.mono mt mk mv, imp (pe_dcE (pe_dc hc hN hi.run ok (fun s H C cl fp => (hg s H C cl fp).run) (fun s H C cl fp => (ht s H C cl fp).run) (fun s H C cl fp => (hk s H C cl fp).run) (fun s H C cl fp => (hv s H C cl fp).run) hs)) (dc_imp hi.mono mt mk mv htg)⟩
end
end DL

set_option maxHeartbeats 1000000
namespace DL
open PySem PySem.Spec PyProof.Rows L2

section
variable {X : Cx}
end
end DL

set_option maxHeartbeats 1000000
namespace DL
open PySem PySem.Spec PyProof.Rows L2

def dxGo (tg : Tg) (dt : TB) (dk dv : TD) (env : Env') : List Dat → List (Dat × Dat) → Mem → (List (Dat × Dat) → Mem → Prop) → Prop
  | [], acc, m, Q => Q acc m
  | x :: xs, acc, m, Q => match bind tg (.f x) env with
    | some env2 => dt env2 m fun b m1 => if b = true then dk env2 m1 fun y m2 => dv env2 m2 fun z m3 => match y, z with
        | .f key, .f d => match tKey key with
          | some k => dxGo tg dt dk dv env xs (putT acc key k d) m3 Q
          | none => False
        | _, _ => False
      else dxGo tg dt dk dv env xs acc m1 Q
    | none => False
theorem dxGo.mono {tg : Tg} {dt : TB} {dk dv : TD} (ht : MonoB dt) (hk : MonoD dk) (hv : MonoD dv) (env : Env') : ∀ xs acc m (Q Q' : List (Dat × Dat) → Mem → Prop), (∀ x m', Q x m' → Q' x m') → dxGo tg dt dk dv env xs acc m Q → dxGo tg dt dk dv env xs acc m Q'
  | [], acc, m, Q, Q', i, h => i _ _ h
  | x :: xs, acc, m, Q, Q', i, h => by
    unfold dxGo at h ⊢
    split
    · rename_i e2 he
      rw [he] at h
      refine ht _ _ _ _ (fun b m1 h1 => ?_) h
      cases b with
      | true =>
        refine hk _ _ _ _ (fun y m2 h2 => hv _ _ _ _ (fun z m3 h3 => ?_) h2) h1
        split at h3
        · split at h3
          · exact dxGo.mono ht hk hv env xs _ m3 _ _ i h3
          · exact h3.elim
        · exact h3.elim
      | false => exact dxGo.mono ht hk hv env xs acc m1 _ _ i h1
    · rename_i he
      rw [he] at h
      exact h
def dDx (tg : Tg) (dt : TB) (dk dv : TD) (vs : List Nat) (di : TId) : TD := fun env m Q => di env m fun xs m1 => xs.length ≤ sizeLine ∧ dxGo tg dt dk dv (wipeE env vs) xs [] m1 fun ks m2 => Q (.f (.dct ks)) m2
theorem dDx.mono {tg : Tg} {dt : TB} {dk dv : TD} {vs : List Nat} {di : TId} (hi : MonoI di) (ht : MonoB dt) (hk : MonoD dk) (hv : MonoD dv) : MonoD (dDx tg dt dk dv vs di) := fun env m Q Q' i h =>
  hi _ _ _ _ (fun xs m1 h1 => ⟨h1.1, dxGo.mono ht hk hv _ _ _ _ _ _ (fun ks m2 => i _ _) h1.2⟩) h
section
variable {X : Cx} {C : Ct} {B : Nw}
theorem fzes_le {w : World} {K : PySem.W.Frag} {n n' : Nw} (l : n.le n') {es : List DictEntry} {ks : List (Dat × Dat)} (h : FzEs C w K n.al n.G es ks) : FzEs C w K n'.al n'.G es ks := FzEs.keep l.g (pre_get l.ale) h
end
end DL

set_option maxHeartbeats 1000000
namespace DL
open PySem PySem.Spec PyProof.Rows L2

section
variable {X : Cx} {C : Ct}
end
end DL

set_option maxHeartbeats 1000000
namespace DL
open PySem PySem.Spec PyProof.Rows L2

def dGetT (d : TD) (da : TAd) : TD := fun env m Q => d env m fun x m1 => match dDct env m1 x with
  | some _ => da env m1 fun ls m2 => match dDct env m2 x, ls with
    | some kvs, [.f key, .f z] => match tKey key, tKeys kvs with
      | some k, some ns => ns.Nodup ∧ Q (.f ((getT kvs k).getD z)) m2
      | _, _ => False
    | _, _ => False
  | none => False
theorem dGetT.mono {d : TD} {da : TAd} (hd : MonoD d) (ha : MonoA da) : MonoD (dGetT d da) := fun env m Q Q' i h => hd _ _ _ _ (fun x m1 h1 => by
  split at h1
  · refine ha _ _ _ _ (fun ls m2 h2 => ?_) h1
    split at h2
    · split at h2
      · exact ⟨h2.1, i _ _ h2.2⟩
      · exact h2
    · exact h2
  · exact h1) h
section
variable {X : Cx} {C : Ct} {B : Nw} {k : Nat} {o e : Expr} {es : List Expr} {d : TD} {da : TAd} {apos cpos : Pos}
end
end DL

set_option maxHeartbeats 1000000
namespace DL
open PySem PySem.Spec PyProof.Rows L2

def lc2Go (tg : Tg) (dt : TB) (di1 : TId) (tg1 : Tg) (dt1 : TB) (de : TD) (vs1 : List Nat) (env : Env') : List Dat → Mem → (List Dat → Mem → Prop) → Prop
  | [], m, Q => Q [] m
  | x :: xs, m, Q => match bind tg (.f x) env with
    | some env2 => dt env2 m fun b m1 => if b = true then di1 env2 m1 fun ys m2 => ys.length ≤ 1000 ∧ lcGo tg1 dt1 de (wipeE env2 vs1) ys m2 fun ds m3 => lc2Go tg dt di1 tg1 dt1 de vs1 env xs m3 fun es m4 => Q (ds ++ es) m4
      else lc2Go tg dt di1 tg1 dt1 de vs1 env xs m1 Q
    | none => False
theorem lc2Go.mono {tg tg1 : Tg} {dt dt1 : TB} {di1 : TId} {de : TD} {vs1 : List Nat} (ht : MonoB dt) (hi1 : MonoI di1) (ht1 : MonoB dt1) (hd : MonoD de) (env : Env') : ∀ xs m (Q Q' : List Dat → Mem → Prop), (∀ x m', Q x m' → Q' x m') → lc2Go tg dt di1 tg1 dt1 de vs1 env xs m Q → lc2Go tg dt di1 tg1 dt1 de vs1 env xs m Q'
  | [], m, Q, Q', i, h => i _ _ h
  | x :: xs, m, Q, Q', i, h => by
    unfold lc2Go at h ⊢
    split
    · rename_i e2 he
      rw [he] at h
      refine ht _ _ _ _ (fun b m1 h1 => ?_) h
      cases b with
      | true => exact hi1 _ _ _ _ (fun ys m2 h2 => ⟨h2.1, lcGo.mono ht1 hd _ _ _ _ _ (fun ds m3 h3 => lc2Go.mono ht hi1 ht1 hd env xs m3 _ _ (fun es m4 h4 => i _ _ h4) h3) h2.2⟩) h1
      | false => exact lc2Go.mono ht hi1 ht1 hd env xs m1 _ _ i h1
    · rename_i he
      rw [he] at h
      exact h
def nLc2 (tg : Tg) (dt : TB) (di1 : TId) (tg1 : Tg) (dt1 : TB) (de : TD) (vs vs1 : List Nat) (di : TId) : TN := fun env m Q => di env m fun xs m1 => xs.length ≤ 1000 ∧ lc2Go tg dt di1 tg1 dt1 de vs1 (wipeE env vs) xs m1 Q
theorem nLc2.mono {tg tg1 : Tg} {dt dt1 : TB} {di di1 : TId} {de : TD} {vs vs1 : List Nat} (hi : MonoI di) (ht : MonoB dt) (hi1 : MonoI di1) (ht1 : MonoB dt1) (hd : MonoD de) : MonoN' (nLc2 tg dt di1 tg1 dt1 de vs vs1 di) := fun env m Q Q' i h =>
  hi _ _ _ _ (fun xs m1 h1 => ⟨h1.1, lc2Go.mono ht hi1 ht1 hd _ _ _ _ _ i h1.2⟩) h
section
variable {X : Cx} {C : Ct} {B : Nw}
end
end DL

set_option maxHeartbeats 1000000
namespace DL
open PySem PySem.Spec PyProof.Rows L2

def nObj (d : TD) : TN := fun env m Q => d env m fun x m' => match x with
  | .f (.obj k) => ∃ mm ds, m' = mm ++ [Mo.lst ds] ∧ k = mm.length ∧ mm.length = m.length ∧ belM mm.length mm = true ∧ bels mm.length ds = true ∧ Q ds mm
  | _ => False
section
variable {X : Cx} {C : Ct} {B : Nw} {e : Expr} {d : TD}
theorem dn_obj (h : DE X C B e d) : DN X C B e (nObj d) := by
  refine ⟨fun env m Q Q' i q => h.mono _ _ _ _ (fun x m1 h1 => ?_) q, imp h.run ?_⟩
  · split at h1
    · obtain ⟨mm, ds, a, b, c, d, e, f⟩ := h1
      exact ⟨mm, ds, a, b, c, d, e, i _ _ f⟩
    · exact h1
  · rintro σ H Q ⟨n, env, m, rfl, ok, q⟩
    refine ⟨n, env, m, rfl, ok, h.mono _ _ _ _ (fun x m1 h1 n1 v g1 l1 lx => ?_) q⟩
    split at h1
    · rename_i k
      obtain ⟨mm, ds, rfl, rfl, hl, hb, hd, q1⟩ := h1
      have lx : FzN C X.w X.K n1 v (.obj mm.length) := lx
      cases lx with
      | obj hp =>
        rename_i p
        have hp : n1.al[mm.length]? = some p := hp
        obtain ⟨⟨vs, e1, e2⟩, e3⟩ := g1.at_ mm.length (.lst ds) p (by simp) hp
        have g2 := g1.dropM hb
        have l2 : n.le ⟨n1.G, n1.al.take mm.length, n1.H⟩ := l1.dropM (by rw [← ok.good.len, hl])
        have hnx : n.H p = none := l1.anew mm.length p (by rw [← ok.good.len, hl]; exact Nat.le_refl _) hp
        have hal : p ∉ n1.al.take mm.length := fun z => by
          obtain ⟨j, hj⟩ := List.getElem?_of_mem z
          have hjl : j < mm.length := by
            have := (List.getElem?_eq_some_iff.mp hj).1
            simp at this
            omega
          rw [List.getElem?_take_of_lt hjl] at hj
          have := (List.getElem?_inj (List.getElem?_eq_some_iff.mp hj).1 g1.nd).mp (hj.trans hp.symm)
          omega
        have g3 := del_good (n := ⟨n1.G, n1.al.take mm.length, n1.H⟩) g2 e3 hal
        have l3 := del_le l2 hnx
        have e4 : upd (del n1.H p) p (.lst vs) = n1.H := by
          funext b
          by_cases hb : b = p
          · subst hb; rw [upd_same, e1]
          · rw [upd_ne hb, del_ne hb]
        have := q1 ⟨n1.G, n1.al.take mm.length, del n1.H p⟩ p vs g3 l3 del_same (FzAll.cutB _ e2 hd)
        rw [← e4]
        exact this
    · exact h1.elim
end
end DL

set_option maxHeartbeats 2000000
namespace DL
open PySem PySem.Spec PyProof.Rows L2 LamX

section
variable {X : Cx} {pins : List (Addr × Obj)} {σ : L2.St} {H : Hp} {s : Shared}
end
end DL

set_option maxHeartbeats 2000000
namespace DL
open PySem PySem.Spec PyProof.Rows L2 LamX

section
variable {X : Cx} {C : Ct}
structure LamAt (X : Cx) (C : Ct) : Prop where
  ok : ∃ c P, X.env.code = .ref c ∧ TabB X.base X.mg c P ∧ (P, X.env.qual ++ "<lambda>") ∈ C.tabs ∧ ∀ p ∈ C.tabs, p.1 = P → p.2 = X.env.qual ++ "<lambda>"
theorem LamAt.tr {pins : List (Addr × Obj)} {xe : Value → Shared → Prop} (h : LamAt X C) : LamAt (X.tr pins xe) C := h.1.elim fun c q => ⟨⟨c, q⟩⟩
end
end DL

set_option maxHeartbeats 2000000
namespace DL
open PySem PySem.Spec PyProof.Rows L2 LamX

section
variable {P : Program} {w : World} {K : PySem.W.Frag} {mg : Str → Option Value} {base : Heap} {C : Ct} {x qual : Str} {params : Arguments} {body : List Stmt} {scope : Scope} {f : Addr} {fd : FuncData} {N ps : List Str} {p : DSp} {k : Nat}
end

section
variable {P : Program} {w : World} {K : PySem.W.Frag} {gl bn : Str → Option Value} {CX : CXT} {k : Nat} {f a : Addr} {fd : FuncData} {x : Str} {sp : Sp} {S : Shared} {us : List Value} {is : List Int} {cs : List (Addr × Addr)}
end
end DL

set_option maxHeartbeats 1000000
namespace DL
open PySem PySem.Spec PyProof.Rows L2

def uSet (d di : TD) (z : Dat) (k : Env' → Mem → Prop) (env : Env') (m : Mem) : Prop := d env m fun x m2 => di env m2 fun i m3 => match moOf env m3 x, i with
  | some (.lst xs), .f (.int j) => match ixN xs.length j with
    | some a => k (setE x (.lst (xs.set a z)) env) (setM x (.lst (xs.set a z)) m3)
    | none => False
  | _, _ => False
theorem uSet.mono {d di : TD} {z : Dat} {k k' : Env' → Mem → Prop} (hd : MonoD d) (hi : MonoD di) (l : ∀ e m, k e m → k' e m) {env : Env'} {m : Mem} (h : uSet d di z k env m) : uSet d di z k' env m :=
  hd _ _ _ _ (fun x m2 h2 => hi _ _ _ _ (fun i m3 h3 => by
    try dsimp only at h3 ⊢
    split at h3
    · split at h3
      · exact l _ _ h3
      · exact h3
    · exact h3) h2) h
def sSet2 (de d di d2 di2 : TD) : TSd := fun D env m => de env m fun y m1 => match tupOf env m1 y with
  | some [z1, z2] => uSet d di z1 (fun e' m' => uSet d2 di2 z2 D.nx e' m') env m1
  | _ => False
section
variable {X : Cx} {C : Ct} {B : Nw} {de d di d2 di2 : TD} {e o i o2 i2 : Expr} {pos pt sp sp2 : Pos} {kt : Nat}
theorem sSet2.mono (he : MonoD de) (hd : MonoD d) (hi : MonoD di) (hd2 : MonoD d2) (hi2 : MonoD di2) : MonoS (sSet2 de d di d2 di2) := fun env m D D' l h => he _ _ _ _ (fun y m1 h1 => by
  try dsimp only at h1 ⊢
  split at h1
  · exact uSet.mono hd hi (fun e m h => uSet.mono hd2 hi2 (fun e m => l.nx e m) h) h1
  · exact h1) h
end
end DL

set_option maxHeartbeats 1000000
namespace DL
open PySem PySem.Spec PyProof.Rows L2

section
variable {X : Cx} {C : Ct} {B : Nw} {pos : Pos}
end
end DL

set_option maxHeartbeats 1000000
namespace DL
open PySem PySem.Spec PyProof.Rows L2

def sRetO (i : Nat) : TSd := fun D env m => match env[i]? with
  | some (some (.own (.lst xs))) => D.rt (.obj m.length) (m ++ [.lst xs])
  | _ => False
section
variable {X : Cx} {C : Ct} {B : Nw} {pos : Pos}
theorem ds_retO (i : Nat) {x : Str} {p : Pos} (hN : X.N[i]? = some x := by rfl) (hv : Vis X.env.scope x := by first | exact Or.inl rfl | exact Or.inr (Or.inl rfl) | exact Or.inr (Or.inr rfl)) (hd : (x == ("__debug__" : Str)) = false := by decide)
    (hcd : (x == ("__classdict__" : Str)) = false := by decide) : DS X C B (.Return (some (.Name x p)) pos) (sRetO i) := by
  refine ⟨fun env m D D' l h => ?_, impS (ps_ret (pe_var hN hv hd hcd)) ?_⟩
  · unfold sRetO at h ⊢
    split at h
    · exact l.rt _ _ h
    · exact h.elim
  rintro D σ H ⟨n, env, m, rfl, ok, h⟩
  unfold sRetO at h
  split at h
  · rename_i xs hx
    obtain ⟨a, e1, oa⟩ := ok.env.own i _ hx
    have pre : n.al <+: n.al ++ [a] := List.prefix_append _ _
    refine ⟨_, e1, h ⟨n.G, n.al ++ [a], n.H⟩ (.ref a) ⟨ok.base.g, ok.base.keepN, ok.base.there, ok.base.gnew, ok.base.ale.trans pre, fun j b hj e => ?_⟩ ⟨ok.good.sub, ?_, by simp [ok.good.len], fun j z b f1 f2 => ?_, ok.good.tab, ok.good.tg⟩ (.obj ?_)⟩
    · have e' : (n.al ++ [a])[j]? = some b := e
      by_cases hl : j < n.al.length
      · rw [List.getElem?_append_left hl] at e'
        exact ok.base.anew j b hj e'
      · have hl : n.al.length ≤ j := Nat.le_of_not_lt hl
        rw [List.getElem?_append_right hl] at e'
        have : b = a := by
          cases q : j - n.al.length with
          | zero => rw [q] at e'; simpa using e'.symm
          | succ k => rw [q] at e'; simp at e'
        rw [this]
        exact oa.new
    · show (n.al ++ [a]).Nodup
      rw [List.nodup_append]
      refine ⟨ok.good.nd, by simp, fun b hb c hc z => ?_⟩
      have : c = a := by simpa using hc
      subst this; subst z; exact oa.al hb
    · have f2' : (n.al ++ [a])[j]? = some b := f2
      by_cases hj : j < m.length
      · rw [List.getElem?_append_left hj] at f1
        rw [List.getElem?_append_left (by rw [← ok.good.len]; exact hj)] at f2'
        obtain ⟨h1, h2⟩ := ok.good.at_ j z b f1 f2'
        exact ⟨h1.imp (n := n) (fun _ _ e => e) (pre_get (a := n.al) pre) fun u e => e, h2⟩
      · have hk2 : j = m.length := by
          have := (List.getElem?_eq_some_iff.mp f1).1
          rw [List.length_append] at this
          simp at this; omega
        rw [hk2, List.getElem?_append_right (Nat.le_refl _)] at f1
        rw [hk2, ok.good.len, List.getElem?_append_right (Nat.le_refl _)] at f2'
        simp at f1 f2'
        subst f1; subst f2'
        exact ⟨oa.ok.imp (n := n) (fun _ _ e => e) (pre_get (a := n.al) pre) fun u e => e, oa.g⟩
    · show (n.al ++ [a])[m.length]? = some a
      rw [ok.good.len, List.getElem?_append_right (Nat.le_refl _)]
      simp
  · exact h.elim
theorem de_dcB {kx vx te iter : Expr} {ifs : List Expr} {scope : Scope} {tg : Tg} {dt : TB} {dk dv : TD} {di : TId} (own : List (Str × Nat)) (hc : X.calm = true) (hN : X.N.Nodup) (hi : DI X C B te iter di) (hg : Blk X scope fun Y => TgOk Y te tg) (ht : Blk X scope fun Y => DTs Y C B ifs dt)
    (hk : Blk X scope fun Y => DE Y C B kx dk) (hv : Blk X scope fun Y => DE Y C B vx dv) (ok : BlkOk X.N X.env.scope scope own) (htg : ∀ i ∈ tg.ids, i ∈ own.map (·.2)) (hs : ∀ x, foldedSetIterable iter X.env x = pure x := by intro _; rfl) :
    DE X C B (.DictComp kx vx [⟨te, iter, ifs, 0⟩] scope pos) (dDc tg dt dk dv (own.map (·.2)) di) :=
  de_dc own hc hN hi hg ht hk hv (ht X.s_0 X.H_0 0 [] []).mono (hk X.s_0 X.H_0 0 [] []).mono (hv X.s_0 X.H_0 0 [] []).mono ok htg hs
end
end DL

set_option maxHeartbeats 2000000
namespace DL
open PySem PySem.Spec PySem.W PyProof.Rows L2 LamX

section
variable {R : OpenRow} {M : Nat} {w : World} {α β : Type}
theorem obsY_cut {ex : List Fk} {fn : List DefX} {K : Frag} (a b : Nat) (h : obsY (ex.take a) (fn.take b) K = valY (fn.take b)) (h' : obsY (ex.drop a) (fn.drop b) K = valY (fn.drop b)) : obsY ex fn K = valY fn := by
  unfold obsY valY at *
  injection h with h1 h2
  injection h' with h3 h4
  have e1 : ex.all (fun g => g K) = ((ex.take a).all (fun g => g K) && (ex.drop a).all fun g => g K) := by rw [← List.all_append, List.take_append_drop]
  have e2 : fn.all (fun d => d.ok K) = ((fn.take b).all (fun d => d.ok K) && (fn.drop b).all fun d => d.ok K) := by rw [← List.all_append, List.take_append_drop]
  have e3 : fn.map (fun d => fnY K (d.wh.ad K)) = (fn.take b).map (fun d => fnY K (d.wh.ad K)) ++ (fn.drop b).map fun d => fnY K (d.wh.ad K) := by rw [← List.map_append, List.take_append_drop]
  have e4 : fn.map DefX.val = (fn.take b).map DefX.val ++ (fn.drop b).map DefX.val := by rw [← List.map_append, List.take_append_drop]
  obtain ⟨a1, a2⟩ := and2 h1
  obtain ⟨b1, b2⟩ := and2 h3
  rw [e1, e2, e3, e4, a1, a2, b1, b2, h2, h4]
  rfl
theorem RunP.cut {ex : List Fk} {fn : List DefX} {F : SharedT → Frag} (a b : Nat) (h : RunP R M w (fun s => obsY (ex.take a) (fn.take b) (F s)) (valY (fn.take b))) (h' : RunP R M w (fun s => obsY (ex.drop a) (fn.drop b) (F s)) (valY (fn.drop b))) : RunP R M w (fun s => obsY ex fn (F s)) (valY fn) :=
  RunP.imp (RunP.pair h h') fun s e => by
    injection e with e1 e2
    exact obsY_cut a b e1 e2
end
theorem obsRG_eq {n : Nat} {ex : List Fk} {fn : List DefX} {g : Addr → Option Obj} {s : Shared} (h : ∀ a, g a = s.heap.get? a) : obsRG n ex fn g = (hookR n ex fn).obs s := by
  have e : g = s.heap.get? := funext h
  rw [e] <;> rfl
end DL

set_option maxHeartbeats 2000000
namespace DL
open PySem PySem.Spec PyProof.Rows L2

section
variable {prog : Program} {w : World} {A : Around} {E : Value → Shared → Prop} {s : Shared}
end
section
variable {X : Cx} {C : Ct} {B : Nw} {e : Expr} {de : TD} {pos : Pos}
def sAsgL (is : List Nat) (de : TD) : TSd := fun D env m => de env m fun x m1 => match lstOf env m1 x with
  | some ds => if ds.length = is.length then D.nx (setAll is ds env) m1 else False
  | none => False
theorem sAsgL.mono {is : List Nat} (h : MonoD de) : MonoS (sAsgL is de) := fun env m D D' l => h _ _ _ _ fun x m1 => by
  split
  · split
    · exact l.nx _ _
    · exact id
  · exact id
end
section
variable {env : Env'} {m : Mem} {D : En} {d : TD}
end
end DL

set_option maxHeartbeats 2000000
namespace DL
open PySem PySem.Spec PyProof.Rows L2

def sDefT (d : TD) (da : TAd) : TSd := fun D env m => d env m fun x m1 => match dDct env m1 x with
  | some _ => da env m1 fun ls m2 => match moOf env m2 x, ls with
    | some (.dct kvs), [.f key, .f z] => match tKey key, tKeys kvs with
      | some k, some ns => ns.Nodup ∧ kvs.length < sizeLine ∧ ((getT kvs k).isSome = true → D.nx env m2) ∧ (getT kvs k = none → D.nx (setE x (.dct (putT kvs key k z)) env) (setM x (.dct (putT kvs key k z)) m2))
      | _, _ => False
    | _, _ => False
  | none => False
theorem sDefT.mono {d : TD} {da : TAd} (hd : MonoD d) (ha : MonoA da) : MonoS (sDefT d da) := fun env m D D' l h => hd _ _ _ _ (fun x m1 h1 => by
  split at h1
  · refine ha _ _ _ _ (fun ls m2 h2 => ?_) h1
    split at h2
    · split at h2
      · exact ⟨h2.1, h2.2.1, fun z => l.nx _ _ (h2.2.2.1 z), fun z => l.nx _ _ (h2.2.2.2 z)⟩
      · exact h2
    · exact h2
  · exact h1) h
section
variable {X : Cx} {C : Ct} {B : Nw} {k : Nat} {o e : Expr} {es : List Expr} {d : TD} {da : TAd} {apos cpos pos : Pos}
end

def dGet1 (d : TD) (da : TAd) : TD := fun env m Q => d env m fun x m1 => match dDct env m1 x with
  | some _ => da env m1 fun ls m2 => match dDct env m2 x, ls with
    | some kvs, [.f key] => match tKey key, tKeys kvs with
      | some k, some ns => ns.Nodup ∧ Q (.f ((getT kvs k).getD .non)) m2
      | _, _ => False
    | _, _ => False
  | none => False
theorem dGet1.mono {d : TD} {da : TAd} (hd : MonoD d) (ha : MonoA da) : MonoD (dGet1 d da) := fun env m Q Q' i h => hd _ _ _ _ (fun x m1 h1 => by
  split at h1
  · refine ha _ _ _ _ (fun ls m2 h2 => ?_) h1
    split at h2
    · split at h2
      · exact ⟨h2.1, i _ _ h2.2⟩
      · exact h2
    · exact h2
  · exact h1) h
section
variable {X : Cx} {C : Ct} {B : Nw} {k : Nat} {o e : Expr} {es : List Expr} {d : TD} {da : TAd} {apos cpos : Pos}
end
end DL

set_option maxHeartbeats 2000000
namespace DL
open PySem PySem.Spec PyProof.Rows L2

section
variable {prog : Program} {w : World} {A : Around} {E : Value → Shared → Prop} {s : Shared} {K : Type} [DecidableEq K]
end
abbrev TKd := Env' → Mem → (List (Dat × Dat) → Mem → Prop) → Prop
def MonoK (d : TKd) : Prop := ∀ env m (Q Q' : List (Dat × Dat) → Mem → Prop), (∀ x m', Q x m' → Q' x m') → d env m Q → d env m Q'
def lK (C : Ct) (B : Nw) (w : World) (K : PySem.W.Frag) (d : TKd) : TE := fun σ H Q => ∃ n env m, n.H = H ∧ Ok C w K B n env m σ ∧
  d env m fun kvs m' => ∀ n' p es, Good C w K n' m' → n.le n' → n'.H p = none → (p == sysModules) = false → FzEs C w K n'.al n'.G es.toList kvs → Q (.ref p) (upd n'.H p (dxo p es))
structure DK (X : Cx) (C : Ct) (B : Nw) (e : Expr) (d : TKd) : Prop where
  mono : MonoK d
  run : PE X e (lK C B X.w X.K d)
def dNewK (d : TKd) : TD := fun env m Q => d env m fun kvs m1 => Q (.f (.dct kvs)) m1
section
variable {X : Cx} {C : Ct} {B : Nw} {e : Expr} {pos : Pos}
theorem DK.de {d : TKd} (h : DK X C B e d) : DE X C B e (dNewK d) := by
  refine ⟨fun env m Q Q' i => h.mono env m _ _ fun ds m1 => i _ _, imp h.run ?_⟩
  rintro σ H Q ⟨n, env, m, rfl, ok, q⟩
  refine ⟨n, env, m, rfl, ok, h.mono _ _ _ _ (fun kvs m1 h1 n1 p es ok1 l1 hp hs hz => ?_) q⟩
  obtain ⟨ok3, l3⟩ := ok1.freeze (o := dxo p es) hp
  exact h1 _ _ ok3 (l1.trans l3) (.dct upd_same hs (fzes_le l3 hz))
end
section
variable {env : Env'} {m : Mem} {D : En} {d : TD}
end
end DL

set_option maxHeartbeats 1000000
namespace DL
open PySem PySem.Spec PyProof.Rows L2
section
variable {X : Cx} {C : Ct} {c j k : Nat} {p : DSp}
end
end DL

set_option maxHeartbeats 1000000
namespace DL
open PySem PySem.Spec PyProof.Rows L2
section
variable {X : Cx} {C : Ct} {B : Nw} {e o i : Expr} {d de di : TD} {pos apos cpos : Pos}
def dIdx1 (d di : TD) : TD := fun env m Q => d env m fun x m1 => match lstOf env m1 x with
  | some _ => di env m1 fun y m2 => match lstOf env m2 x, y with
    | some xs, .f (.int k) => match intsD xs with
      | some ns => k ∈ ns ∧ Q (.f (.int (ns.idxOf k : Nat))) m2
      | none => False
    | _, _ => False
  | none => False
theorem dIdx1.mono (hd : MonoD d) (hi : MonoD di) : MonoD (dIdx1 d di) := fun env m Q Q' l h => hd _ _ _ _ (fun x m1 h1 => by
  try dsimp only at h1 ⊢
  split at h1
  · refine hi _ _ _ _ (fun y m2 h2 => ?_) h1
    try dsimp only at h2 ⊢
    split at h2
    · split at h2
      · exact ⟨h2.1, l _ _ h2.2⟩
      · exact h2
    · exact h2
  · exact h1) h
end
end DL

set_option maxHeartbeats 1000000
namespace DL
open PySem PySem.Spec PyProof.Rows
section
variable {prog : Program} {w : World} {A : Around} {E : Value → Shared → Prop} {s : Shared} {K : PySem.W.Frag} {x c L f : Addr} {h₀ : Heap} {m : Str → Option Value} {ox : Obj} {od : Option Obj} {b tb : Value}
end
end DL
namespace DL
open PySem PySem.Spec PyProof.Rows L2
def oNeI (C : Ct) (c : Nat) (cs : List Nat) (p : DSp) : Op2 := fun env m x y Q => match selfD c m x, y with
  | some s, .f d => match derI env m (.f d) with
    | some e => ((∃ t, tyN e = some t) ∨ ∃ c' ys, e = .ins c' ys ∧ c' ∈ cs ∧ C.own c' = true) ∧ p [s, d] m (fun r m' => match r with
      | .bl b => Q (.bl (!b)) m'
      | _ => False) noX
    | none => False
  | _, _ => False
section
variable {X : Cx} {C : Ct} {c j k : Nat} {p : DSp}
theorem oNeI.mono {cs : List Nat} (hp : MonoP p) : Mono2 (oNeI C c cs p) := fun env m x y Q Q' i h => by
  unfold oNeI at h ⊢
  split at h
  · split at h
    · refine ⟨h.1, hp _ _ _ _ _ _ (fun r m' z => ?_) (fun _ _ _ z => z) h.2⟩
      cases r <;> first | exact z.elim | exact i _ _ z
    · exact h.elim
  · exact h.elim
end
end DL

set_option maxHeartbeats 1000000
namespace DL
open PySem PySem.Spec PyProof.Rows PySem.W
section
variable {prog : Program} {w : World} {K : Type} [DecidableEq K] {knd : HeapKind prog w K} {A : Around} {E : Value → Shared → Prop} {s : Shared}
end
end DL

set_option maxHeartbeats 1000000
namespace DL
open PySem PySem.Spec PyProof.Rows L2
def eqE (kb : List (Dat × Dat)) (p : Dat × Dat) : Bool := match tKey p.1 with
  | some k => match getT kb k with
    | some z => eqd p.2 z
    | none => false
  | none => false
def eqT (ka kb : List (Dat × Dat)) : Bool := ka.length == kb.length && ka.all (eqE kb)
def oEqT : Op2 := fun env m x y Q => match dDct env m x, dDct env m y with
  | some ka, some kb => match tKeys ka, tKeys kb with
    | some na, some nb => na.Nodup ∧ nb.Nodup ∧ (ka.all fun p => okN 60 p.2) = true ∧ (kb.all fun p => okN 60 p.2) = true ∧ Q (.bl (eqT ka kb)) m
    | _, _ => False
  | _, _ => False
theorem oEqT.mono : Mono2 oEqT := fun env m x y Q Q' i h => by
  unfold oEqT at h ⊢
  split at h
  · split at h
    · exact ⟨h.1, h.2.1, h.2.2.1, h.2.2.2.1, i _ _ h.2.2.2.2⟩
    · exact h
  · exact h
section
variable {X : Cx} {C : Ct} {pins : List (Addr × Obj)} {s : Shared} {σ : L2.St} {n : Nw} {m : Mem}
end
end DL

set_option maxHeartbeats 1000000
namespace DL
open PySem PySem.Spec PyProof.Rows L2
section
variable {X : Cx} {C : Ct} {B : Nw} {e o o2 i : Expr} {d d2 di : TD} {pos apos bpos cpos ppos : Pos}
def sAppPop (d d2 di : TD) : TSd := fun D env m => d env m fun x m1 => match x, moOf env m1 x with
  | .o i, some (.lst _) => d2 env m1 fun y m2 => match y, moOf env m2 y with
    | .o j, some (.lst _) => di env m2 fun z m3 => match moOf env m3 (.o i), moOf env m3 (.o j), z with
      | some (.lst xs), some (.lst ys), .f (.int k) => match ys[k.toNat]? with
        | some e => i ≠ j ∧ 0 ≤ k ∧ k < 2 ^ 63 ∧ xs.length < sizeLine ∧ D.nx ((env.set j (some (.own (.lst (ys.eraseIdx k.toNat))))).set i (some (.own (.lst (xs ++ [e]))))) m3
        | none => False
      | _, _, _ => False
    | _, _ => False
  | _, _ => False
theorem sAppPop.mono (hd : MonoD d) (h2 : MonoD d2) (hi : MonoD di) : MonoS (sAppPop d d2 di) := fun env m D D' l h => hd _ _ _ _ (fun x m1 h1 => by
  try dsimp only at h1 ⊢
  split at h1
  · refine h2 _ _ _ _ (fun y m2 q2 => ?_) h1
    try dsimp only at q2 ⊢
    split at q2
    · refine hi _ _ _ _ (fun z m3 q3 => ?_) q2
      try dsimp only at q3 ⊢
      split at q3
      · split at q3
        · exact ⟨q3.1, q3.2.1, q3.2.2.1, q3.2.2.2.1, l.nx _ _ q3.2.2.2.2⟩
        · exact q3
      · exact q3
    · exact q2
  · exact h1) h
theorem ds_appPop (ho : DE X C B o d) (h2 : DE X C B o2 d2) (hi : DE X C B i di)
    (hbaseP : attributeBase o2 "pop" X.env (eval o2 X.env) = eval o2 X.env := by rfl)
    (hfewP : ((backTo ppos (starEach [i] X.env)).all (fun x => !x.1) && (backToKw ppos (keywordEach [] X.env)).all (fun x => x.1.isSome)
      && decide (([i]).length + ([] : List Keyword).length + (if ([] : List Keyword).isEmpty then 0 else 1) < 30)) = true := by rfl)
    (hlineP : (bpos.endLine == ppos.line) = true := by rfl) (hsP : starEach [i] X.env = (false, eval i X.env) :: starEach [] X.env := by rfl) (hplainP : (backTo ppos (starEach [] X.env)).any (·.1) = false := by rfl)
    (hbase : attributeBase o "append" X.env (eval o X.env) = eval o X.env := by rfl)
    (hfew : ((backTo cpos (starEach [.Call (.Attribute o2 "pop" bpos) [i] [] ppos] X.env)).all (fun x => !x.1) && (backToKw cpos (keywordEach [] X.env)).all (fun x => x.1.isSome)
      && decide (([Expr.Call (.Attribute o2 "pop" bpos) [i] [] ppos]).length + ([] : List Keyword).length + (if ([] : List Keyword).isEmpty then 0 else 1) < 30)) = true := by rfl)
    (hline : (apos.endLine == cpos.line) = true := by rfl) (hs : starEach [.Call (.Attribute o2 "pop" bpos) [i] [] ppos] X.env = (false, eval (.Call (.Attribute o2 "pop" bpos) [i] [] ppos) X.env) :: starEach [] X.env := by rfl) (hplain : (backTo cpos (starEach [] X.env)).any (·.1) = false := by rfl)
    (hsw : swapsWith (.Call (.Attribute o "append" apos) [.Call (.Attribute o2 "pop" bpos) [i] [] ppos] [] cpos) none pos.line X.env = pure false := by rfl) :
    DS X C B (.Expr (.Call (.Attribute o "append" apos) [.Call (.Attribute o2 "pop" bpos) [i] [] ppos] [] cpos) pos) (sAppPop d d2 di) := by
  refine ⟨sAppPop.mono ho.mono h2.mono hi.mono, impS (ps_expr (pe_bm PySem.F.plainAttrs_list PySem.F.slot_list_append PySem.F.type_list_append mt_append ho.run (pa_cons (pe_bm PySem.F.plainAttrs_list PySem.F.slot_list_pop PySem.F.type_list_pop mt_popAt h2.run (pa_cons hi.run pa_nil hsP) hbaseP hfewP hlineP hsP hplainP) pa_nil hs) hbase hfew hline hs hplain) hsw) ?_⟩
  rintro D σ H ⟨n, env, m, rfl, ok, q⟩
  refine ⟨n, env, m, rfl, ok, ho.mono _ _ _ _ (fun x m1 h1 n1 v g1 l1 lx => ?_) q⟩
  have ok1 := ok.go g1 l1
  split at h1
  · rename_i i xs0 hx0
    obtain ⟨a0, rfl, ⟨vs0, e0, _⟩, _⟩ := mut_ok ok1 lx hx0
    refine ⟨tyL e0, n1, env, m1, rfl, ok1, h2.mono _ _ _ _ (fun y m2 q2 n2 u g2 l2 ly => ?_) h1⟩
    have ok2 := ok1.go g2 l2
    split at q2
    · rename_i j ys0 hy0
      obtain ⟨b0, rfl, ⟨ws0, e1, _⟩, _⟩ := mut_ok ok2 ly hy0
      refine ⟨tyL e1, n2, env, m2, rfl, ok2, hi.mono _ _ _ _ (fun z m3 q3 n3 t g3 l3 lz => ?_) q2⟩
      have ok3 := ok2.go g3 l3
      split at q3
      · rename_i xs ys k hx hy
        obtain ⟨a, ea, ⟨vs, e2, z1⟩, _⟩ := mut_ok ok3 (lx.le (l2.trans l3)) hx
        cases ea
        obtain ⟨b, eb, ⟨ws, e3, z2⟩, hset⟩ := mut_ok ok3 (ly.le l3) hy
        cases eb
        have lz : FzN C X.w X.K n3 t (.int k) := lz
        cases lz
        split at q3
        · rename_i y he
          obtain ⟨hij, k1, k2, hl, q3⟩ := q3
          obtain ⟨v, hv, zv⟩ := z2.get he
          have hk : k.toNat < ws.length := by
            rw [z2.length]
            exact (List.getElem?_eq_some_iff.mp he).1
          refine ⟨b0, ws, k, k.toNat, v, rfl, rfl, e3, by omega, k2, seqIndex_of k1 (by omega), hv, ?_⟩
          have ok4 := hset (.lst (ws.eraseIdx k.toNat)) (.lst (ys.eraseIdx k.toNat)) ⟨ws.eraseIdx k.toNat, upd_same, FzAll.keep (fun _ _ e => e) (fun _ _ e => e) (FzAll.eraseIdx k.toNat z2)⟩
          have ok4 : Ok C X.w X.K B ⟨n3.G, n3.al, upd n3.H b0 (.lst (ws.eraseIdx k.toNat))⟩ (env.set j (some (.own (.lst (ys.eraseIdx k.toNat))))) m3 σ := ok4
          have hx' : moOf (env.set j (some (.own (.lst (ys.eraseIdx k.toNat))))) m3 (.o i) = some (.lst xs) := by
            unfold moOf at hx ⊢
            dsimp only at hx ⊢
            rw [List.getElem?_set_ne (fun z => hij z.symm)]
            exact hx
          have lx' : LvOk C X.w X.K ⟨n3.G, n3.al, upd n3.H b0 (.lst (ws.eraseIdx k.toNat))⟩ (env.set j (some (.own (.lst (ys.eraseIdx k.toNat))))) σ (.ref a0) (.o i) := by
            obtain ⟨p1, x', p2⟩ := lx
            exact ⟨p1, x', by rw [List.getElem?_set_ne (fun z => hij z.symm)]; exact p2⟩
          obtain ⟨a, ea, ⟨vs', e4, z4⟩, hset2⟩ := mut_ok ok4 lx' hx'
          cases ea
          have zv4 : FzN C X.w X.K ⟨n3.G, n3.al, upd n3.H b0 (.lst (ws.eraseIdx k.toNat))⟩ v y := Fz.keep (fun _ _ e => e) (fun _ _ e => e) zv
          refine ⟨a0, vs', v, rfl, rfl, e4, by rw [z4.length]; exact hl, ?_⟩
          have ok5 := hset2 (.lst (vs' ++ [v])) (.lst (xs ++ [y])) ⟨vs' ++ [v], upd_same, FzAll.append (FzAll.keep (fun _ _ e => e) (fun _ _ e => e) z4) (.cons (Fz.keep (fun _ _ e => e) (fun _ _ e => e) zv4) .nil)⟩
          have s1 : n3.sub ⟨n3.G, n3.al, upd n3.H b0 (.lst (ws.eraseIdx k.toNat))⟩ := sub_upd
          exact q3 ⟨n3.G, n3.al, upd (upd n3.H b0 (.lst (ws.eraseIdx k.toNat))) a0 (.lst (vs' ++ [v]))⟩ σ (((l1.trans l2).trans l3).sub.trans ⟨fun _ _ h => h, List.prefix_rfl⟩) ok5
        · exact q3.elim
      · exact q3.elim
    · exact q2.elim
  · exact h1.elim
end
end DL

set_option maxHeartbeats 1000000
namespace DL
open PySem PySem.Spec PyProof.Rows L2
section
variable {X : Cx} {C : Ct} {B : Nw}
end
end DL

set_option maxHeartbeats 1000000
namespace DL
open PySem PySem.Spec PyProof.Rows L2
section
variable {X : Cx} {C : Ct} {B : Nw}
end
end DL

set_option maxHeartbeats 1000000
namespace DL
open PySem PySem.Spec PyProof.Rows L2
section
variable {X : Cx} {C : Ct} {B : Nw} {e o i : Expr} {d de di : TD} {pos : Pos}
def sAugI (d di de : TD) : TSd := fun D env m => d env m fun x m1 => di env m1 fun i m2 => match moOf env m2 x, i with
  | some (.lst xs), .f (.int k) => match ixN xs.length k with
    | some j => match xs[j]? with
      | some (.int a) => de env m2 fun y m3 => match moOf env m3 x, y with
        | some (.lst ys), .f (.int b) => ys.length = xs.length ∧ D.nx (setE x (.lst (ys.set j (.int (a + b)))) env) (setM x (.lst (ys.set j (.int (a + b)))) m3)
        | _, _ => False
      | _ => False
    | none => False
  | _, _ => False
theorem sAugI.mono (hd : MonoD d) (hi : MonoD di) (he : MonoD de) : MonoS (sAugI d di de) := fun env m D D' l h => hd _ _ _ _ (fun x m1 h1 => hi _ _ _ _ (fun i m2 h2 => by
  try dsimp only at h2 ⊢
  split at h2
  · split at h2
    · split at h2
      · refine he _ _ _ _ (fun y m3 h3 => ?_) h2
        try dsimp only at h3 ⊢
        split at h3
        · exact ⟨h3.1, l.nx _ _ h3.2⟩
        · exact h3
      · exact h2
    · exact h2
  · exact h2) h1) h
def sAugN (i : Nat) (f : Op2) (de : TD) : TSd := fun D env m => match env[i]? with
  | some (some (.f d)) => de env m fun y m1 => f env m1 (.f d) y fun z m2 => D.nx (env.set i (some (.f z))) m2
  | _ => False
theorem sAugN.mono {j : Nat} {f : Op2} (hf : Mono2 f) (he : MonoD de) : MonoS (sAugN j f de) := fun env m D D' l h => by
  unfold sAugN at h ⊢
  split at h
  · exact he _ _ _ _ (fun y m1 h1 => hf _ _ _ _ _ _ (fun z m2 => l.nx _ _) h1) h
  · exact h
end
end DL

set_option maxHeartbeats 1000000
namespace PySem.W
open PySem PySem.Spec
end PySem.W
namespace DL
open PySem PySem.Spec PyProof.Rows L2
section
variable {X : Cx} {C : Ct} {c j k : Nat} {p : DSp}
def oUnI (c : Nat) (p : DSp) : Op1 := fun env m x Q => match selfD c m x with
  | some s => p [s] m (fun r m' => match r with
    | .ins _ _ => Q r m'
    | _ => False) noX
  | none => False
theorem oUnI.mono (hp : MonoP p) : Mono1 (oUnI c p) := fun env m x Q Q' i h => by
  unfold oUnI at h ⊢
  split at h
  · refine hp _ _ _ _ _ _ (fun r m' z => ?_) (fun _ _ _ z => z) h
    cases r <;> first | exact z.elim | exact i _ _ z
  · exact h
end
end DL

set_option maxHeartbeats 1000000
namespace ZZ
open PySem PySem.Spec PyProof.Rows L2

abbrev occ (owner : Array (Option Nat)) : List Nat := owner.toList.filterMap id
theorem fm_set : ∀ (l : List (Option Nat)) (j v : Nat), l[j]? = some none → ((l.set j (some v)).filterMap id).Perm (v :: l.filterMap id)
  | [], j, v, h => by simp at h
  | x :: l, 0, v, h => by
    have : x = none := by simpa using h
    subst this
    simp
  | x :: l, j + 1, v, h => by
    have h' : l[j]? = some none := by simpa using h
    have ih := fm_set l j v h'
    cases x with
    | none => simpa using ih
    | some u =>
      simp only [List.set_cons_succ, List.filterMap_cons, id]
      exact (ih.cons u).trans (.swap v u _)
theorem fm_all : ∀ l : List (Option Nat), (∀ x ∈ l, x ≠ none) → (l.filterMap id).length = l.length
  | [], _ => rfl
  | x :: l, h => by
    have ih := fm_all l fun y hy => h y (List.mem_cons_of_mem _ hy)
    cases x with
    | none => exact absurd rfl (h none List.mem_cons_self)
    | some u => simp [ih]
theorem window {owner : Array (Option Nat)} {c i : Nat} (hc : (occ owner).length ≤ c) (hi : i + (c + 1) ≤ owner.size) : ∃ k, k ≤ c ∧ oAt owner (i + k) = none := by
  cases Decidable.em (∃ k, k ≤ c ∧ oAt owner (i + k) = none) with
  | inl h => exact h
  | inr h =>
    have key : (((owner.toList.drop i).take (c + 1)).filterMap id).length = c + 1 := by
      rw [fm_all]
      · rw [List.length_take, List.length_drop, Array.length_toList]
        omega
      · intro x hx e
        subst e
        obtain ⟨k, hk⟩ := List.getElem?_of_mem hx
        have hk1 : k < c + 1 := by
          have := (List.getElem?_eq_some_iff.mp hk).1
          rw [List.length_take] at this
          omega
        rw [List.getElem?_take_of_lt hk1, List.getElem?_drop, Array.getElem?_toList] at hk
        refine h ⟨k, by omega, ?_⟩
        show owner.getD (i + k) (some 0) = none
        rw [Array.getD_eq_getD_getElem?, hk]
        rfl
    have sub : (((owner.toList.drop i).take (c + 1)).filterMap id).Sublist (occ owner) := ((List.take_sublist _ _).trans (List.drop_sublist _ _)).filterMap id
    have := sub.length_le
    omega
def leapN : Nat → Nat × Nat → Nat × Nat
  | 0, p => p
  | t + 1, p => leapN t (SetTable.leap 15 p.1 p.2)
theorem leapN_add : ∀ (a b : Nat) (p : Nat × Nat), leapN (a + b) p = leapN b (leapN a p)
  | 0, b, p => by rw [Nat.zero_add]; rfl
  | a + 1, b, p => by
    rw [Nat.succ_add]
    exact leapN_add a b _
theorem leapN_two : ∀ (t : Nat) (p : Nat × Nat), (leapN t p).2 = p.2 / 32 ^ t
  | 0, p => by simp [leapN]
  | t + 1, p => by
    show (leapN t _).2 = _
    rw [leapN_two t]
    show p.2 / 32 / 32 ^ t = _
    rw [Nat.div_div_eq_div_mul, Nat.pow_succ, Nat.mul_comm]
theorem leapN_lt : ∀ (t : Nat) (p : Nat × Nat), p.1 < 16 → (leapN t p).1 < 16
  | 0, p, h => h
  | t + 1, p, h => leapN_lt t _ (Nat.mod_lt _ (by decide))
theorem leapN_home : ∀ i : Fin 16, ∃ t, t < 7 ∧ (leapN t (i.val, 0)).1 ≤ 6 := by decide
theorem reach {h : Int} : ∃ t, t < 20 ∧ (leapN t (SetTable.bits h % 16, SetTable.bits h)).1 ≤ 6 := by
  have hb : SetTable.bits h < 2 ^ 64 := by
    unfold SetTable.bits
    have h1 := Int.emod_lt_of_pos h (show (0 : Int) < 2 ^ 64 by decide)
    have h2 := Int.emod_nonneg h (show (2 ^ 64 : Int) ≠ 0 by decide)
    omega
  have e1 := leapN_two 13 (SetTable.bits h % 16, SetTable.bits h)
  have e2 := leapN_lt 13 (SetTable.bits h % 16, SetTable.bits h) (Nat.mod_lt _ (by decide))
  generalize hp : leapN 13 (SetTable.bits h % 16, SetTable.bits h) = p at e1 e2
  have e3 : p.2 = 0 := by rw [e1]; exact Nat.div_eq_of_lt (Nat.lt_of_lt_of_le hb (by decide))
  obtain ⟨t, h1, h2⟩ := leapN_home ⟨p.1, e2⟩
  refine ⟨13 + t, by omega, ?_⟩
  rw [leapN_add, hp]
  have : p = (p.1, 0) := by rw [← e3]
  rw [this]
  exact h2
theorem oAt_lt {owner : Array (Option Nat)} {j : Nat} (h : oAt owner j = none) : j < owner.size ∧ owner.toList[j]? = some none := by
  have h : owner.getD j (some 0) = none := h
  rw [Array.getD_eq_getD_getElem?] at h
  by_cases c : j < owner.size
  · refine ⟨c, ?_⟩
    rw [Array.getElem?_eq_getElem c] at h
    rw [Array.getElem?_toList, Array.getElem?_eq_getElem c]
    exact congrArg some h
  · rw [Array.getElem?_eq_none (by omega)] at h
    cases h
theorem free15 {owner : Array (Option Nat)} (hz : owner.size = 16) (hc : (occ owner).length ≤ 9) : ∀ (t f : Nat) (p : Nat × Nat), t < f → (leapN t p).1 ≤ 6 → ∃ j, SetTable.layClean.free 15 owner f p.1 p.2 = some j ∧ oAt owner j = none
  | t, 0, p, h, _ => absurd h (Nat.not_lt_zero _)
  | t, f + 1, p, h, hr => by
    rw [free_succ]
    cases hf : (List.range (SetTable.runEnd 15 p.1 + 1 - p.1)).find? (fun k => (oAt owner (p.1 + k)).isNone) with
    | some k =>
      have := List.find?_some hf
      exact ⟨p.1 + k, rfl, by simpa using this⟩
    | none =>
      cases t with
      | zero =>
        have hr : p.1 ≤ 6 := hr
        exfalso
        obtain ⟨k, hk, e⟩ := window (c := 9) (i := p.1) hc (by omega)
        have hn := List.find?_eq_none.mp hf k (by
          rw [List.mem_range]
          unfold SetTable.runEnd
          rw [if_pos (by omega)]
          omega)
        rw [e] at hn
        exact hn rfl
      | succ t =>
        exact free15 hz hc t f (SetTable.leap 15 p.1 p.2) (by omega) hr
def Few (m c : Nat) : Prop := ((m = 7 ∨ m = 15) ∧ c ≤ 7) ∨ (m = 31 ∧ c ≤ 31)
theorem free_ok {m c : Nat} {owner : Array (Option Nat)} (hm : Few m c) (hz : owner.size = m + 1) (hc : (occ owner).length ≤ c) (h : Int) :
    ∃ j, SetTable.layClean.free m owner (SetTable.turns m) (SetTable.bits h % (m + 1)) (SetTable.bits h) = some j ∧ oAt owner j = none := by
  have kit : MaskOk m → c ≤ m → ∃ j, SetTable.layClean.free m owner (SetTable.turns m) (SetTable.bits h % (m + 1)) (SetTable.bits h) = some j ∧ oAt owner j = none := fun hk hcm => by
    obtain ⟨k, hk1, e⟩ := window (c := c) (i := 0) hc (by omega)
    rw [Nat.zero_add] at e
    obtain ⟨K, e1, e2, _⟩ := free_find hk owner h (j := k) (by omega) e
    exact ⟨_, e1, e2⟩
  rcases hm with ⟨rfl | rfl, h7⟩ | ⟨rfl, h31⟩
  · exact kit (.inl rfl) (by omega)
  · obtain ⟨t, h1, h2⟩ := reach (h := h)
    exact free15 hz (by omega) t 30 (SetTable.bits h % 16, SetTable.bits h) (by omega) h2
  · exact kit (.inr (.inl rfl)) h31
theorem fold_lay {m c : Nat} (hm : Few m c) : ∀ (rest : List Int) (k : Nat) (owner : Array (Option Nat)), owner.size = m + 1 → (occ owner).Perm (List.range k) → k + rest.length ≤ c + 1 →
    ∃ owner', rest.foldl (stepF m) (some (owner, k)) = some (owner', k + rest.length) ∧ owner'.size = m + 1 ∧ (occ owner').Perm (List.range (k + rest.length))
  | [], k, owner, hz, hp, _ => ⟨owner, rfl, hz, hp⟩
  | h :: rest, k, owner, hz, hp, hl => by
    rw [List.length_cons] at hl
    obtain ⟨j, e, ej⟩ := free_ok hm hz (by rw [hp.length_eq, List.length_range]; omega) h
    obtain ⟨_, ej2⟩ := oAt_lt ej
    obtain ⟨owner', f, z', p'⟩ := fold_lay hm rest (k + 1) (owner.setIfInBounds j (some k)) (by rw [Array.size_setIfInBounds]; exact hz) (by
      show ((owner.setIfInBounds j (some k)).toList.filterMap id).Perm _
      rw [Array.toList_setIfInBounds, List.range_succ]
      exact ((fm_set _ _ _ ej2).trans (hp.cons k)).trans (List.perm_append_singleton k _).symm) (by omega)
    refine ⟨owner', ?_, z', ?_⟩
    · rw [List.foldl_cons, stepF_some e, f, List.length_cons]
      congr 2
      omega
    · rw [List.length_cons, show k + (rest.length + 1) = k + 1 + rest.length by omega]
      exact p'
theorem lay_ok {m c : Nat} (hm : Few m c) {hs : Array Int} (hn : hs.size ≤ c + 1) : ∃ owner, SetTable.layClean m hs = some owner ∧ owner.size = m + 1 ∧ (occ owner).Perm (List.range hs.size) := by
  obtain ⟨owner, f, z, p⟩ := fold_lay hm hs.toList 0 (Array.replicate (m + 1) none) (by simp) (by
    have : occ (Array.replicate (m + 1) none) = [] := by
      unfold occ
      rw [Array.toList_replicate, List.filterMap_eq_nil_iff]
      intro x hx
      exact List.eq_of_mem_replicate hx
    rw [this]
    exact .nil) (by rw [Array.length_toList]; omega)
  rw [Array.length_toList, Nat.zero_add] at p
  refine ⟨owner, ?_, z, p⟩
  rw [layClean_eq, f]
  rfl
theorem live_snd {m : Nat} {owner : Array (Option Nat)} (hz : owner.size = m + 1) : (liveOf m owner).map (·.2) = occ owner := by
  unfold liveOf
  rw [List.map_filterMap]
  have e1 : (fun j => Option.map (fun x : Nat × Nat => x.2) ((owner.getD j none).map (j, ·))) = fun j => owner.getD j none := by
    funext j
    rw [Option.map_map]
    show Option.map id _ = _
    simp
  rw [e1]
  have e2 : (List.range (m + 1)).map (fun j => owner.getD j none) = owner.toList := by
    refine List.ext_getElem? fun i => ?_
    rw [List.getElem?_map]
    by_cases h : i < m + 1
    · have h2 : i < owner.size := by omega
      rw [List.getElem?_range h]
      simp [Array.getD_eq_getD_getElem?, h2]
    · rw [List.getElem?_eq_none (by rw [List.length_range]; omega), List.getElem?_eq_none (by rw [Array.length_toList]; omega)]
      rfl
  unfold occ
  rw [← e2, List.filterMap_map]
  rfl
theorem laid_ok {m c : Nat} (hm : Few m c) {hs : Array Int} (hn : hs.size ≤ c + 1) (fi mv : Nat) (led pl : Bool) :
    ∃ t' order, SetTable.laid m fi mv led pl hs = some (t', order) ∧ order.toList.Perm (List.range hs.size) ∧ t'.mask = m ∧ t'.led = led ∧ t'.dummies = #[] ∧ t'.place.size = hs.size ∧ Ris t'.place.toList := by
  obtain ⟨owner, e, hz, hp⟩ := lay_ok hm hn
  have e2 := live_snd hz
  refine ⟨{ mask := m, place := ((liveOf m owner).map (·.1)).toArray, dummies := #[], finger := fi, led := led, moves := mv, plain := pl }, ((liveOf m owner).map (·.2)).toArray, ?_, ?_, rfl, rfl, rfl, ?_, ?_⟩
  · unfold SetTable.laid
    rw [e]
    rfl
  · rw [List.toList_toArray, e2]
    exact hp
  · show ((liveOf m owner).map (·.1)).toArray.size = _
    rw [List.size_toArray, List.length_map]
    have := hp.length_eq
    rw [← e2, List.length_map, List.length_range] at this
    exact this
  · show Ris ((liveOf m owner).map (·.1)).toArray.toList
    rw [List.toList_toArray]
    exact (ris_live (fun j => owner.getD j none) (List.range (m + 1)) (by
      unfold Ris
      first | exact List.pairwise_lt_range | exact List.pairwise_lt_range _)).1
theorem order_perm {es : Array (Int × Value)} {order : Array Nat} (hp : order.toList.Perm (List.range es.size)) : (order.filterMap (es[·]?)).toList.Perm es.toList := by
  rw [Array.toList_filterMap]
  refine (hp.filterMap _).trans ?_
  rw [filterMap_getElem?_range]
end ZZ

set_option maxHeartbeats 1000000
namespace ZZ
open PySem PySem.Spec PyProof.Rows L2
variable {P : Program} {w : World} {A : Around} {E : Value → Shared → Prop} {s : Shared} {a b : Addr} {S T : Int → Bool} {n m : Nat} {es : Array (Int × Value)} {ep : Nat} {t : SetTable}
theorem SetS.r {h : Heap} (x : SetS w h a es ep t) (hS : ∀ k, S k = true ↔ k ∈ es.toList.map keyOf) : SetR w h a S es.size := by
  obtain ⟨⟨o, h1, h2, h3⟩, h4, h5, h6, h7, h8, h9⟩ := x
  exact ⟨o, es, ep, t, h1, h2, h3, h4, h5, hS, h6, h7, rfl, h8, h9⟩
theorem SetR.s' {h : Heap} (R : SetR w h a S n) : ∃ es ep t, SetS w h a es ep t ∧ (∀ k, S k = true ↔ k ∈ es.toList.map keyOf) ∧ es.size = n := by
  obtain ⟨o, es, ep, t, h1, h2, h3, h4, h5, hS, h6, h7, h10, h8, h9⟩ := R
  exact ⟨es, ep, t, ⟨⟨o, h1, h2, h3⟩, h4, h5, h6, h7, h8, h9⟩, hS, h10⟩
theorem state_at (x : SetS w s.heap a es ep t) {Q : (Array (Int × Value) × Nat × SetTable) → Shared → Prop} (h : Q (es, ep, t) s) : wpAny (model P w) A (setState a) Q E s := by
  obtain ⟨o, h1, h2, h3⟩ := x.ob
  exact wpAny_setState_of h1 h3 x.fits h
theorem entries_at (x : SetS w s.heap a es ep t) {Q : Array (Int × Value) → Shared → Prop} (h : Q es s) : wpAny (model P w) A (setEntries a) Q E s := by
  unfold setEntries
  exact wpAny_bind (state_at x (wpAny_pure h))
theorem epoch_at (x : SetS w s.heap a es ep t) {Q : Nat → Shared → Prop} (h : Q ep s) : wpAny (model P w) A (setEpoch a) Q E s := by
  unfold setEpoch
  exact wpAny_bind (state_at x (wpAny_pure h))
theorem SetS.fitR {es' : Array (Int × Value)} {t' : SetTable} (x : SetS w s.heap a es ep t) (hz : es'.size < scanBound) {Q : Unit → Shared → Prop}
    (h : ∀ h', Heap.SameBut a s.heap h' → (∃ o, h'.get? a = some o ∧ o.ExactSet ∧ o.data = .set es' (ep + 1) t') → Q () { s with heap := h' }) : wpAny (model P w) A (storeSet a es' t') Q E s := by
  obtain ⟨o, h1, h2, h3⟩ := x.ob
  exact wpAny_storeSet_of h1 h3 (h _ (Heap.SameBut.update s.heap a (Obj.putSet es' t')) ⟨_, store_at h1 h3, h2, rfl⟩) (fits_of_scanBound hz)
theorem quiet_loop {sets : List Addr} {Q : Bool → Shared → Prop} (hs : ∀ b ∈ sets, ∃ es ep t, SetS w s.heap b es ep t) (h : Q true s) : wpAny (model P w) A (setsQuiet sets) Q E s := by
  unfold setsQuiet
  refine wpAny_bind ?_
  refine wpAny_forIn_list _ (fun rest b s' => (∀ c ∈ rest, c ∈ sets) ∧ b = (none, ()) ∧ s' = s) _ (fun c rest b s' hI => ?_) (fun b s' hI => ?_) sets _ ⟨fun _ h => h, rfl, rfl⟩
  · obtain ⟨h1, rfl, rfl⟩ := hI
    obtain ⟨es, ep, t, x⟩ := hs c (h1 c List.mem_cons_self)
    refine wpAny_bind (entries_at x ?_)
    refine wpAny_bind ?_
    rw [← Array.forIn_toList]
    refine wpAny_forIn_list _ (fun rest b s2 => (∀ e ∈ rest, e ∈ es.toList) ∧ b = (none, ()) ∧ s2 = s') _ (fun e r2 b s2 hI2 => ?_) (fun b s2 hI2 => ?_) es.toList _ ⟨fun _ h => h, rfl, rfl⟩
    · obtain ⟨h2, rfl, rfl⟩ := hI2
      obtain ⟨k, tk, e1, e2⟩ := x.good e (h2 e List.mem_cons_self)
      obtain ⟨eh, ev⟩ := e
      have e1 : ev = .int k tk := e1
      subst e1
      dsimp only
      exact wpAny_pure ⟨fun z hz => h2 z (List.mem_cons_of_mem _ hz), rfl, rfl⟩
    · obtain ⟨_, rfl, rfl⟩ := hI2
      dsimp only
      exact wpAny_pure ⟨fun z hz => h1 z (List.mem_cons_of_mem _ hz), rfl, rfl⟩
  · obtain ⟨_, rfl, rfl⟩ := hI
    dsimp only
    exact wpAny_pure h
theorem walk_at (x : SetS w s.heap a es ep t) {Q : Array (Int × Value) → Shared → Prop} (hw : w.params.followText "set-order" = true ∨ (t.led && t.plain) = true ∨ es.size ≤ 1) (h : ∀ l : Array (Int × Value), l.toList.Perm es.toList → Q l s) :
    wpAny (model P w) A (setWalk a) Q E s := by
  unfold setWalk
  refine wpAny_bind (state_at x ?_)
  dsimp only
  refine wpAny_bind (wpAny_byText ?_)
  cases hb : w.params.followText "set-order" with
  | true =>
    simp only [if_true]
    refine wpAny_bind (wpAny_askSetting (wpAny_pure ?_))
    exact h _ (pick_perm _ _)
  | false =>
    have hl : t.led = true := x.led.resolve_left (by rw [hb]; exact Bool.false_ne_true)
    have hd : (!t.plain && decide (es.size > 1)) = false := by
      rcases hw with z | z | z
      · rw [hb] at z; cases z
      · rw [Bool.and_eq_true] at z
        rw [z.2]; rfl
      · rw [decide_eq_false (by omega), Bool.and_false]
    refine wp_if_neg Bool.false_ne_true ?_
    refine wp_if_neg (fun z => ?_) ?_
    · have z : (!t.plain && decide (es.size > 1)) = true := z
      rw [hd] at z
      cases z
    refine wpAny_bind (m := if (!t.led && decide (es.size > 1)) = true then unsupported "set:maker-not-led" else pure ()) ?_
    rw [hl]
    exact wpAny_pure (wpAny_pure (h es (List.Perm.refl _)))
def Left (w : World) (filled : Option Addr) (h h' : Heap) : Prop := h' = h ∨ ∃ r, filled = some r ∧ Heap.SameBut r h h' ∧ ∀ T k, SetR w h r T k → SetR w h' r T k
theorem walkU_at {others : List Addr} {filled : Option Addr} (x : SetS w s.heap a es ep t) (ho : ∀ b ∈ others, ∃ es ep t, SetS w s.heap b es ep t) (hf : ∀ r, filled = some r → ∃ es ep t, SetS w s.heap r es ep t) {Q : Array (Int × Value) → Shared → Prop}
    (h : ∀ (l : Array (Int × Value)) (h' : Heap), l.toList.Perm es.toList → Left w filled s.heap h' → Q l { s with heap := h' }) : wpAny (model P w) A (setWalkUnseen a others filled) Q E s := by
  have h0 : ∀ l : Array (Int × Value), l.toList.Perm es.toList → Q l s := fun l p => h l s.heap p (.inl rfl)
  unfold setWalkUnseen
  refine wpAny_bind (state_at x ?_)
  dsimp only
  refine wpAny_bind (wpAny_byText ?_)
  by_cases hc : (w.params.followText "set-order" || (t.led && t.plain) || decide (es.size ≤ 1)) = true
  · refine wp_if_pos hc ?_
    refine walk_at x ?_ h0
    rw [Bool.or_eq_true, Bool.or_eq_true, decide_eq_true_eq] at hc
    rcases hc with (z | z) | z
    · exact .inl z
    · exact .inr (.inl z)
    · exact .inr (.inr z)
  · refine wp_if_neg hc ?_
    have hbt : w.params.followText "set-order" = false := by
      cases z : w.params.followText "set-order" with
      | false => rfl
      | true => rw [z] at hc; exact absurd rfl hc
    have hl : t.led = true := x.led.resolve_left (by rw [hbt]; exact Bool.false_ne_true)
    refine wpAny_bind (quiet_loop (fun c hc => ?_) ?_)
    · rcases List.mem_cons.mp hc with z | z
      · subst z; exact ⟨es, ep, t, x⟩
      · exact ho c z
    refine wp_if_neg (by decide) ?_
    refine wpAny_bind (wpAny_rule ?_)
    cases filled with
    | none => exact wpAny_pure (h0 es (List.Perm.refl _))
    | some r =>
      obtain ⟨ef, epf, tf, y⟩ := hf r rfl
      dsimp only
      refine wpAny_bind (state_at y ?_)
      dsimp only
      by_cases hc2 : (tf.led && !t.led || tf.plain && !t.plain) = true
      · refine wp_if_pos hc2 ?_
        refine wpAny_bind (y.fitR y.sz fun h' sb ob => ?_)
        refine wpAny_pure (h es h' (List.Perm.refl _) (.inr ⟨r, rfl, sb, fun T k R => ?_⟩))
        obtain ⟨ef2, ep2, tf2, y2, m2, n2⟩ := SetR.s' R
        obtain ⟨o1, q1, q2, q3⟩ := y.ob
        obtain ⟨o2, r1, r2, r3⟩ := y2.ob
        rw [q1] at r1
        cases r1
        rw [q3] at r3
        cases r3
        subst n2
        refine SetS.r (ep := epf + 1) (t := { tf with led := tf.led && t.led, plain := tf.plain && t.plain }) ⟨ob, y.good, y.nd, y.sz, ?_, y.ris, ?_⟩ m2
        · exact y.fits
        · rcases y.led with z | z
          · exact .inl z
          · right
            show (tf.led && t.led) = true
            rw [z, hl]; rfl
      · refine wp_if_neg hc2 ?_
        exact wpAny_pure (h0 es (List.Perm.refl _))
end ZZ

set_option maxHeartbeats 1000000
namespace ZZ
open PySem PySem.Spec PyProof.Rows L2
variable {P : Program} {w : World} {A : Around} {E : Value → Shared → Prop} {s : Shared} {a b r : Addr} {S T : Int → Bool} {n m : Nat} {es : Array (Int × Value)} {ep : Nat} {t : SetTable}
theorem erase_list {α : Type} (xs : Array α) (p : Nat) : (SetTable.eraseAt xs p).toList = xs.toList.eraseIdx p := by
  unfold SetTable.eraseAt
  rw [Array.toList_append, Array.toList_extract, Array.toList_extract, List.eraseIdx_eq_take_drop_succ]
  have e2 : (xs.toList.extract (p + 1) xs.size) = xs.toList.drop (p + 1) := by
    rw [List.extract_eq_take_drop, ← Array.length_toList, List.take_of_length_le]
    rw [List.length_drop]
    omega
  rw [e2]
  simp [List.extract_eq_take_drop]
theorem insert_size {α : Type} (xs : Array α) (p : Nat) (x : α) : (SetTable.insertAt xs p x).size = xs.size + 1 := by
  have := (SetTable.insertAt_perm xs p x).length_eq
  rw [Array.length_toList, Array.length_toList, Array.size_push] at this
  exact this
theorem findI (x : SetS w s.heap a es ep t) (k : Int) (tk : Tok) {Q : Option Nat → Shared → Prop} (h0 : k ∉ es.toList.map keyOf → Q none s) (h1 : ∀ i e, es.toList[i]? = some e → keyOf e = k → Q (some i) s) :
    wpAny (model P w) A (setFind a (.int k tk) (hashInt k)) Q E s := by
  obtain ⟨o, ho, hx, hd⟩ := x.ob
  have hkey : (intKind P w).is k (.int k tk) = true := intKind_is P w k tk
  have hel : ElemsOf (intKind P w) es.toList := good_elems x.good
  unfold setFind setFindIn
  refine wpAny_bind (wpAny_setState_of ho hd x.fits ?_)
  dsimp only
  rw [byScan_of (knd := intKind P w) (show (Value.int k tk).scannable = true from rfl) x.sz hel]
  simp only [↓reduceIte]
  refine wpAny_bind (wpAny_rule ?_)
  refine wpAny_bind (wpAny_setScan_of (knd := intKind P w) hkey ho hd x.fits hel ?_)
  cases hr : List.findIdx? (fun e => (intKind P w).is k e.2) es.toList with
  | none =>
    dsimp only
    refine wpAny_pure (h0 fun z => ?_)
    obtain ⟨e, he, q⟩ := (good_mem (P := P) (w := w) x.good k).1 z
    have c := List.findIdx?_eq_none_iff.mp hr e he
    rw [q] at c
    cases c
  | some j =>
    dsimp only
    obtain ⟨hj, hpj, _⟩ := List.findIdx?_eq_some_iff_getElem.mp hr
    rw [Nat.zero_add]
    refine wpAny_pure (h1 j _ (List.getElem?_eq_getElem hj) ?_)
    exact (good_is (P := P) (w := w) (x.good _ (List.getElem_mem hj)) k).1 hpj
theorem keys_erase {l : List (Int × Value)} (nd : (l.map keyOf).Nodup) {i : Nat} {e : Int × Value} (h : l[i]? = some e) (k : Int) : k ∈ (l.eraseIdx i).map keyOf ↔ k ∈ l.map keyOf ∧ k ≠ keyOf e := by
  have p := erase_perm l i e h
  have p2 := p.map keyOf
  rw [List.map_cons] at p2
  have nd2 := p2.nodup_iff.mpr nd
  rw [← p2.mem_iff, List.mem_cons, List.nodup_cons] at *
  constructor
  · intro z
    exact ⟨.inr z, fun q => nd2.1 (q ▸ z)⟩
  · rintro ⟨z | z, q⟩
    · exact absurd z q
    · exact z
theorem discard_at (x : SetS w s.heap a es ep t) (k : Int) (tk : Tok) {Q : Bool → Shared → Prop} (h0 : k ∉ es.toList.map keyOf → Q false s)
    (h1 : ∀ h' es' ep' t', Heap.SameBut a s.heap h' → SetS w h' a es' ep' t' → (∀ j, j ∈ es'.toList.map keyOf ↔ j ∈ es.toList.map keyOf ∧ j ≠ k) → t'.mask = t.mask → t'.dummies.size = t.dummies.size + 1 → Q true { s with heap := h' }) :
    wpAny (model P w) A (setDiscardHashed a (.int k tk) (hashInt k)) Q E s := by
  unfold setDiscardHashed
  refine wpAny_bind (findI x k tk (fun z => wpAny_pure (h0 z)) fun i e he hk => ?_)
  dsimp only
  refine wpAny_bind (state_at x ?_)
  dsimp only
  have hi : i < es.size := by
    have := (List.getElem?_eq_some_iff.mp he).1
    rwa [Array.length_toList] at this
  have hf := x.fits
  unfold SetTable.fits SetTable.fill at hf
  rw [Bool.and_eq_true, beq_iff_eq, decide_eq_true_eq] at hf
  have hl : (SetTable.eraseAt es i).toList = es.toList.eraseIdx i := erase_list es i
  have hz : (SetTable.eraseAt es i).size = es.size - 1 := by
    rw [← Array.length_toList, hl, List.length_eraseIdx_of_lt (by rw [Array.length_toList]; exact hi), Array.length_toList]
  have hd : t.drop i = { t with place := SetTable.eraseAt t.place i, dummies := SetTable.insertAt t.dummies (SetTable.below t.dummies (t.place[i]'(by omega))) (t.place[i]'(by omega)) } := by
    unfold SetTable.drop
    rw [Array.getElem?_eq_getElem (by omega)]
  have hp : (SetTable.eraseAt t.place i).toList = t.place.toList.eraseIdx i := erase_list _ i
  have hpz : (SetTable.eraseAt t.place i).size = es.size - 1 := by
    rw [← Array.length_toList, hp, List.length_eraseIdx_of_lt (by rw [Array.length_toList]; omega), Array.length_toList, hf.1]
  refine wpAny_bind (x.fitR (es' := SetTable.eraseAt es i) (t' := t.drop i) (by have := x.sz; omega) fun h' sb ob => ?_)
  refine wpAny_bind (wpAny_point ?_)
  refine wpAny_pure (h1 h' _ _ _ sb ⟨ob, fun e' he' => ?_, ?_, ?_, ?_, ?_, ?_⟩ (fun j => ?_) ?_ ?_)
  · rw [hl] at he'
    exact x.good e' ((List.eraseIdx_sublist _ _).mem he')
  · rw [hl]
    exact x.nd.sublist ((List.eraseIdx_sublist _ _).map keyOf)
  · have := x.sz; omega
  · unfold SetTable.fits SetTable.fill
    rw [hd, Bool.and_eq_true, beq_iff_eq, decide_eq_true_eq]
    show (SetTable.eraseAt t.place i).size = _ ∧ (SetTable.eraseAt t.place i).size + (SetTable.insertAt _ _ _).size ≤ t.mask
    rw [insert_size, hpz, hz]
    exact ⟨rfl, by omega⟩
  · rw [hd]
    show Ris (SetTable.eraseAt t.place i).toList
    rw [hp]
    exact List.Pairwise.sublist (List.eraseIdx_sublist _ _) x.ris
  · rw [hd]
    exact x.led
  · rw [hl, keys_erase x.nd he, hk]
  · rw [hd]
  · rw [hd]
    exact insert_size _ _ _
theorem perm_s {es' : Array (Int × Value)} {t' : SetTable} {h' : Heap} (x : SetS w s.heap a es ep t) (p : es'.toList.Perm es.toList) {ep' : Nat} (ob : ∃ o, h'.get? r = some o ∧ o.ExactSet ∧ o.data = .set es' ep' t') (hf : t'.fits es'.size = true) (hr : Ris t'.place.toList) (hl : w.params.followText "set-order" = true ∨ t'.led = true) :
    SetS w h' r es' ep' t' :=
  ⟨ob, fun e he => x.good e (p.mem_iff.mp he), (p.map keyOf).nodup_iff.mpr x.nd, by rw [← Array.length_toList, p.length_eq, Array.length_toList]; exact x.sz, hf, hr, hl⟩
theorem room_few {n : Nat} (h1 : 5 ≤ n) (h2 : n ≤ 11) : ∃ m c, SetTable.sizeAbove ((0 + n) * 2) = m + 1 ∧ Few m c ∧ n ≤ c + 1 ∧ 7 ≤ m ∧ m ≤ 31 ∧ n ≤ m := by
  have h : n = 5 ∨ n = 6 ∨ n = 7 ∨ n = 8 ∨ n = 9 ∨ n = 10 ∨ n = 11 := by omega
  rcases h with rfl | rfl | rfl | rfl | rfl | rfl | rfl
  · exact ⟨15, 7, by decide, .inl ⟨.inr rfl, by decide⟩, by decide, by decide, by decide, by decide⟩
  · exact ⟨15, 7, by decide, .inl ⟨.inr rfl, by decide⟩, by decide, by decide, by decide, by decide⟩
  · exact ⟨15, 7, by decide, .inl ⟨.inr rfl, by decide⟩, by decide, by decide, by decide, by decide⟩
  · exact ⟨31, 31, by decide, .inr ⟨rfl, by decide⟩, by decide, by decide, by decide, by decide⟩
  · exact ⟨31, 31, by decide, .inr ⟨rfl, by decide⟩, by decide, by decide, by decide, by decide⟩
  · exact ⟨31, 31, by decide, .inr ⟨rfl, by decide⟩, by decide, by decide, by decide, by decide⟩
  · exact ⟨31, 31, by decide, .inr ⟨rfl, by decide⟩, by decide, by decide, by decide, by decide⟩
theorem room_at {t0 : SetTable} (y : SetS w s.heap r #[] ep t0) (h7 : t0.mask = 7) (hd : t0.dummies = #[]) (hp : t0.place = #[]) {n : Nat} (h2 : n ≤ 11) {Q : Unit → Shared → Prop}
    (h : ∀ h' ep' t', Heap.SameBut r s.heap h' → SetS w h' r #[] ep' t' → t'.dummies = #[] → t'.place = #[] → (∃ c, Few t'.mask c ∧ n ≤ c + 1) → 7 ≤ t'.mask → n ≤ t'.mask → Q () { s with heap := h' }) :
    wpAny (model P w) A (setRoomFor r n) Q E s := by
  have hfill : t0.fill = 0 := by unfold SetTable.fill; rw [hd, hp]; rfl
  unfold setRoomFor
  refine wpAny_bind (state_at y ?_)
  dsimp only
  unfold SetTable.roomFor
  rw [hfill, h7, hp]
  by_cases hn : n ≤ 4
  · rw [if_neg (by omega)]
    dsimp only
    exact wpAny_pure (h s.heap ep t0 (Heap.SameBut.refl r s.heap) y hd hp ⟨7, by rw [h7]; exact .inl ⟨.inl rfl, Nat.le_refl _⟩, by omega⟩ (by omega) (by omega))
  · rw [if_pos (by omega)]
    obtain ⟨m, c, e1, e2, e3, e4, e5, e6⟩ := room_few (n := n) (by omega) h2
    show wpAny _ _ (setRelay r ((0 + n) * 2)) _ _ _
    rw [setRelay_eq]
    refine wpAny_bind (state_at y ?_)
    dsimp only
    refine wp_if_neg (by rw [e1, sizeLine_eq]; omega) ?_
    obtain ⟨t', order, f1, f2, f3, f4, f5, f6, f7⟩ := laid_ok (hs := (#[] : Array Int)) e2 (Nat.zero_le _) t0.finger (t0.movedTo m) t0.led t0.plain
    have f8 : t0.relaid ((#[] : Array (Int × Value)).map (·.1)) ((0 + n) * 2) = some (t', order) := by
      unfold SetTable.relaid
      rw [e1, Nat.add_sub_cancel, show (#[] : Array (Int × Value)).map (·.1) = #[] from by simp]
      exact f1
    have f9 : order = #[] := by
      have := f2.length_eq
      rw [Array.length_toList] at this
      exact Array.eq_empty_of_size_eq_zero (by simpa using this)
    have fp : t'.place = #[] := Array.eq_empty_of_size_eq_zero (by simpa using f6)
    rw [f8]
    dsimp only
    refine wpAny_bind ?_
    rw [f9]
    refine wp_if_neg (by simp) ?_
    refine wpAny_pure ?_
    dsimp only
    refine y.fitR (es' := (#[] : Array Nat).filterMap ((#[] : Array (Int × Value))[·]?)) (t' := t') (by simp [scanBound]) fun h' sb ob => ?_
    have eq0 : (#[] : Array Nat).filterMap ((#[] : Array (Int × Value))[·]?) = #[] := by simp
    rw [eq0] at ob
    refine h h' _ t' sb (perm_s y (List.Perm.refl _) ob ?_ f7 ?_) f5 fp ⟨c, by rw [f3]; exact e2, e3⟩ (by omega) (by omega)
    · unfold SetTable.fits SetTable.fill
      rw [fp, f5]
      simp
    · rw [f4]
      exact y.led
theorem merge_at {t0 : SetTable} {ep0 : Nat} (x : SetS w s.heap a es ep t) (y : SetS w s.heap r #[] ep0 t0) (hne : r ≠ a) (h7 : t0.mask = 7) (hd : t0.dummies = #[]) (hp : t0.place = #[]) (hn : es.size ≤ 11) (h0 : 0 < es.size) {Q : Unit → Shared → Prop}
    (h : ∀ h' es' ep' t', Heap.SameBut r s.heap h' → SetS w h' r es' ep' t' → es'.toList.Perm es.toList → t'.dummies = #[] → 7 ≤ t'.mask → Q () { s with heap := h' }) :
    wpAny (model P w) A (setMerge r a) Q E s := by
  unfold setMerge
  refine wp_if_neg (by simpa using hne) ?_
  refine wpAny_bind (state_at x ?_)
  dsimp only
  refine wp_if_neg (by simp; intro z; rw [z] at h0; exact absurd h0 (by simp)) ?_
  refine wpAny_bind (room_at y h7 hd hp hn fun h1 ep1 t1 sb1 y1 hd1 hp1 hf1 hm1 hm2 => ?_)
  refine wpAny_bind (state_at (s := { s with heap := h1 }) y1 ?_)
  dsimp only
  have x1 : SetS w h1 a es ep t := x.at fun o e => by rw [sb1.2 a (Ne.symm hne)]; exact e
  have hfill : t1.fill = 0 := by unfold SetTable.fill; rw [hd1, hp1]; rfl
  unfold SetTable.road
  rw [hfill]
  refine wpAny_mono (Q := fun _ s' => ∃ h' es' ep' t', s' = { s with heap := h' } ∧ Heap.SameBut r s.heap h' ∧ SetS w h' r es' ep' t' ∧ es'.toList.Perm es.toList ∧ t'.dummies = #[] ∧ 7 ≤ t'.mask) ?_ (fun _ s' ⟨h', es', ep', t', e1, e2, e3, e4, e5, e6⟩ => by subst e1; exact h h' es' ep' t' e2 e3 e4 e5 e6) fun _ _ z => z
  rw [if_neg (by decide)]
  have hled : w.params.followText "set-order" = true ∨ (t1.led && t.led) = true := by
    rcases x.led with z | z
    · exact .inl z
    · rcases y1.led with z' | z'
      · exact .inl z'
      · right; rw [z, z']; rfl
  by_cases hc : (t1.mask == t.mask && t.dummies.isEmpty) = true
  · rw [if_pos hc]
    rw [Bool.and_eq_true, beq_iff_eq, Array.isEmpty_iff] at hc
    dsimp only
    refine (SetS.fitR (s := { s with heap := h1 }) y1 (es' := es) x.sz fun h' sb ob => ⟨h', es, _, _, rfl, sb1.trans sb, perm_s x (List.Perm.refl _) ob x.fits x.ris hled, List.Perm.refl _, hc.2, by show 7 ≤ t.mask; rw [← hc.1]; exact hm1⟩)
  · rw [if_neg hc]
    dsimp only
    obtain ⟨c, f1, f2⟩ := hf1
    obtain ⟨t', order, g1, g2, g3, g4, g5, g6, g7⟩ := laid_ok (hs := es.map (·.1)) f1 (by rw [Array.size_map]; exact f2) t1.finger t1.moves (t1.led && t.led) (t1.plain && t.plain)
    rw [g1]
    rw [Array.size_map] at g2 g6
    have gp := order_perm g2
    have gz : (order.filterMap (es[·]?)).size = es.size := by rw [← Array.length_toList, gp.length_eq, Array.length_toList]
    refine wpAny_bind ?_
    refine wp_if_neg (by rw [gz]; simp) ?_
    refine wpAny_pure ?_
    dsimp only
    refine (SetS.fitR (s := { s with heap := h1 }) y1 (es' := order.filterMap (es[·]?)) (t' := t') (by rw [gz]; exact x.sz) fun h' sb ob => ⟨h', _, _, _, rfl, sb1.trans sb, perm_s x gp ob ?_ g7 (by rw [g4]; exact hled), gp, g5, by rw [g3]; exact hm1⟩)
    unfold SetTable.fits SetTable.fill
    rw [g5, g6, gz, g3]
    simp
    exact hm2
end ZZ

set_option maxHeartbeats 1000000
namespace ZZ
open PySem PySem.Spec PyProof.Rows L2
variable {P : Program} {w : World} {A : Around} {E : Value → Shared → Prop} {s : Shared} {a b r : Addr} {S T : Int → Bool} {n m : Nat} {es : Array (Int × Value)} {ep : Nat} {t : SetTable}
theorem any_at (x : s.TypeIs (.ref a) "set") {Q : Bool → Shared → Prop} (h : Q true s) : wpAny (model P w) A (Builtin.Frozenset.isAnySet (.ref a)) Q E s := by
  unfold Builtin.Frozenset.isAnySet
  refine wpAny_bind (m := isInstance (.ref a) (.type "set")) (wpAny_isInstance x sub_set_self ?_)
  exact wpAny_pure h
theorem base_at (x : s.TypeIs (.ref a) "set") {Q : Value → Shared → Prop} (h : Q (.type "set") s) : wpAny (model P w) A (Builtin.Frozenset.baseOf a) Q E s := by
  unfold Builtin.Frozenset.baseOf
  refine wpAny_bind (wpAny_isInstance x sub_set_self ?_)
  exact wpAny_pure h
abbrev newO (w : World) : Obj := { cls := .type "set", dict := none, data := .set #[] 0 (.fresh 0 0 (!w.params.followText "set-order")) }
theorem new_set (w : World) (h : Heap) : SetS w (h.push (newO w)) h.objs.size #[] 0 (.fresh 0 0 (!w.params.followText "set-order")) := by
  refine ⟨⟨_, Heap.get?_push_size _ rfl, ⟨rfl, rfl, rfl⟩, rfl⟩, fun e he => by simp at he, by simp, by decide, by rfl, List.Pairwise.nil, ?_⟩
  show _ ∨ (!w.params.followText "set-order") = true
  cases w.params.followText "set-order"
  · exact .inr rfl
  · exact .inl rfl
theorem new_at {Q : Value → Shared → Prop} (h : Q (.ref s.heap.objs.size) { s with heap := s.heap.push (newO w) }) : wpAny (model P w) A (newSet (.type "set")) Q E s := by
  unfold newSet setsByText
  refine wpAny_bind (wpAny_bind (wpAny_askSetting (wpAny_pure ?_)))
  dsimp only
  simp only [newObj]
  exact wpAny_bind (wpAny_alloc (wpAny_pure h))
theorem old_push {h : Heap} {o : Obj} : ∀ b u, h.get? b = some u → (h.push o).get? b = some u := fun b u e => Heap.get?_push_of_some _ e
theorem old_same {h h' : Heap} {r : Addr} (hr : h.objs.size ≤ r) (sb : Heap.SameBut r h1 h') (k : ∀ b u, h.get? b = some u → h1.get? b = some u) : ∀ b u, h.get? b = some u → h'.get? b = some u := fun b u e => by
  rw [sb.2 b (Nat.ne_of_lt (Nat.lt_of_lt_of_le (Heap.lt_size e) hr))]
  exact k b u e
theorem copy_at (x : SetS w s.heap a es ep t) (hn : es.size ≤ 11) {Q : Value → Shared → Prop}
    (h : ∀ h' es' ep' t', (∀ b o, s.heap.get? b = some o → h'.get? b = some o) → SetS w h' s.heap.objs.size es' ep' t' → es'.toList.Perm es.toList → t'.dummies = #[] → 7 ≤ t'.mask → Q (.ref s.heap.objs.size) { s with heap := h' }) :
    wpAny (model P w) A (Builtin.Frozenset.copyOf a) Q E s := by
  unfold Builtin.Frozenset.copyOf
  refine wpAny_bind (base_at x.type ?_)
  refine wpAny_bind (new_at ?_)
  have y := new_set w s.heap
  have x1 : SetS w (s.heap.push (newO w)) a es ep t := x.at fun o e => old_push _ _ e
  have hne : s.heap.objs.size ≠ a := by
    obtain ⟨o, h1, _⟩ := x.ob
    exact Nat.ne_of_gt (Heap.lt_size h1)
  unfold Builtin.Frozenset.addrOf
  refine wpAny_bind (wpAny_pure ?_)
  by_cases h0 : es.size = 0
  · refine wpAny_bind ?_
    unfold setMerge
    refine wp_if_neg (by simpa using hne) ?_
    refine wpAny_bind (state_at (s := { s with heap := s.heap.push (newO w) }) x1 ?_)
    dsimp only
    have he : es = #[] := Array.eq_empty_of_size_eq_zero h0
    refine wp_if_pos (by rw [he]; rfl) ?_
    refine wpAny_pure ?_
    refine wpAny_pure (h _ _ _ _ (fun _ _ e => old_push _ _ e) y ?_ rfl (Nat.le_refl 7))
    rw [he]
  · refine wpAny_bind (merge_at (s := { s with heap := s.heap.push (newO w) }) x1 y hne rfl rfl rfl hn (by omega) fun h' es' ep' t' sb z p d m => ?_)
    exact wpAny_pure (h h' es' ep' t' (old_same (Nat.le_refl _) sb old_push) z p d m)
theorem unch_at {id : String} {was : Nat} (x : SetS w s.heap a es ep t) (hw : was = ep) {Q : Unit → Shared → Prop} (h : Q () s) : wpAny (model P w) A (Builtin.Frozenset.unchanged id a was) Q E s := by
  unfold Builtin.Frozenset.unchanged
  refine wpAny_bind (epoch_at x ?_)
  refine wp_if_neg (by rw [hw]; simp) ?_
  exact wpAny_pure h
theorem size_at (x : SetS w s.heap a es ep t) {Q : Nat → Shared → Prop} (h : Q es.size s) : wpAny (model P w) A (Builtin.Frozenset.sizeOf a) Q E s := by
  unfold Builtin.Frozenset.sizeOf
  exact wpAny_bind (entries_at x (wpAny_pure h))
theorem few_list {es : Array (Int × Value)} (h : es.size ≤ 1) : es.toList = [] ∨ ∃ e, es.toList = [e] := by
  have : es.toList.length ≤ 1 := by rw [Array.length_toList]; exact h
  match hl : es.toList with
  | [] => exact .inl rfl
  | [e] => exact .inr ⟨e, rfl⟩
  | _ :: _ :: _ => rw [hl] at this; simp at this
theorem upd_at {id : String} {er : Array (Int × Value)} {pr : Nat} {tr : SetTable} (x : SetS w s.heap b es ep t) (y : SetS w s.heap r er pr tr) (hne : r ≠ b) (h1 : es.size ≤ 1) (hd : tr.dummies = #[]) (hm : 7 ≤ tr.mask) {Q : Unit → Shared → Prop}
    (h : ∀ h' er' pr' tr', Heap.SameBut r s.heap h' → SetS w h' r er' pr' tr' → (∀ j, j ∈ er'.toList.map keyOf ↔ j ∈ er.toList.map keyOf ∧ j ∉ es.toList.map keyOf) → Q () { s with heap := h' }) :
    wpAny (model P w) A (Builtin.Frozenset.differenceUpdate id r (.ref b)) Q E s := by
  unfold Builtin.Frozenset.differenceUpdate
  refine wp_if_neg (by simpa using Ne.symm hne) ?_
  refine wpAny_bind (any_at x.type ?_)
  dsimp only
  refine wp_if_pos rfl ?_
  unfold Builtin.Frozenset.addrOf
  refine wpAny_bind (wpAny_pure ?_)
  refine wpAny_bind (size_at x ?_)
  refine wpAny_bind (size_at y ?_)
  refine wp_if_neg (by omega) ?_
  refine wpAny_bind (epoch_at x ?_)
  have tidy : ∀ (s2 : Shared) (er2 : Array (Int × Value)) (pr2 : Nat) (tr2 : SetTable), SetS w s2.heap r er2 pr2 tr2 → 7 ≤ tr2.mask → tr2.dummies.size ≤ 1 → Q () s2 → wpAny (model P w) A (setTidy r) Q E s2 := fun s2 er2 pr2 tr2 z zm zd q => by
    unfold setTidy
    refine wpAny_bind (state_at z ?_)
    dsimp only
    refine wp_if_neg ?_ (wpAny_pure q)
    unfold SetTable.tooManyDummies
    rw [decide_eq_true_eq]
    omega
  refine wpAny_bind (wpAny_holding ?_)
  refine wpAny_bind (walkU_at x (fun c hc => ?_) (fun r' hr' => by cases hr') fun l h' hp hL => ?_)
  · rw [List.mem_singleton] at hc
    subst hc
    exact ⟨_, _, _, y⟩
  obtain rfl : h' = s.heap := by
    rcases hL with z | ⟨_, z, _⟩
    · exact z
    · cases z
  refine wpAny_bind ?_
  rw [← Array.forIn_toList]
  rcases few_list h1 with e0 | ⟨e, e0⟩
  · rw [e0] at hp
    have : l.toList = [] := List.Perm.eq_nil hp
    rw [this, List.forIn_nil]
    refine wpAny_pure (wpAny_pure ?_)
    exact tidy s er pr tr y hm (by rw [hd]; decide) (h s.heap er pr tr (Heap.SameBut.refl r s.heap) y fun j => by rw [e0]; simp)
  · rw [e0] at hp
    have : l.toList = [e] := List.perm_singleton.mp hp
    rw [this, List.forIn_cons]
    obtain ⟨k, tk, k1, k2⟩ := x.good e (by rw [e0]; exact List.mem_cons_self)
    obtain ⟨eh, ev⟩ := e
    have k1 : ev = .int k tk := k1
    have k2 : eh = hashInt k := k2
    subst k1 k2
    have ek : es.toList.map keyOf = [k] := by rw [e0]; rfl
    dsimp only
    refine wpAny_bind (wpAny_bind (wpAny_holding (discard_at y k tk (fun hk => ?_) fun h' er' pr' tr' sb z zk zm zd => ?_)))
    · refine wpAny_bind (unch_at x rfl ?_)
      refine wpAny_pure ?_
      dsimp only
      rw [List.forIn_nil]
      refine wpAny_pure (wpAny_pure ?_)
      refine tidy s er pr tr y hm (by rw [hd]; decide) (h s.heap er pr tr (Heap.SameBut.refl r s.heap) y fun j => ?_)
      rw [ek, List.mem_singleton]
      exact ⟨fun q => ⟨q, fun e => hk (e ▸ q)⟩, fun q => q.1⟩
    · have x' : SetS w h' b es ep t := x.at fun o e => by rw [sb.2 b (Ne.symm hne)]; exact e
      refine wpAny_bind (unch_at (s := { s with heap := h' }) x' rfl ?_)
      refine wpAny_pure ?_
      dsimp only
      rw [List.forIn_nil]
      refine wpAny_pure (wpAny_pure ?_)
      refine tidy { s with heap := h' } er' pr' tr' z (by omega) (by rw [zd, hd]; decide) (h h' er' pr' tr' sb z fun j => ?_)
      rw [ek, List.mem_singleton]
      exact zk j
end ZZ

set_option maxHeartbeats 1000000
namespace ZZ
open PySem PySem.Spec PyProof.Rows L2
variable {P : Program} {w : World} {A : Around} {E : Value → Shared → Prop} {s : Shared} {a b r : Addr} {S T : Int → Bool} {n m : Nat} {es eb : Array (Int × Value)} {ep pb : Nat} {t tb : SetTable}
theorem fill_loop {f : (Int × Value) → PUnit → Sem (ForInStep PUnit)} {c : Int → Bool} {I : Heap → Prop} (frame : ∀ h h', I h → Heap.SameBut r h h' → I h')
    (step : ∀ (e : Int × Value) (s' : Shared) (R : Int → Bool) (k : Nat), GoodE e → I s'.heap → SetR w s'.heap r R k → k + 1 < scanBound → ∀ (Q : ForInStep PUnit → Shared → Prop),
      (∀ h' k', Heap.SameBut r s'.heap h' → SetR w h' r (fun j => R j || (decide (j = keyOf e) && c j)) k' → k' ≤ k + 1 → Q (.yield ⟨⟩) { s' with heap := h' }) → wpAny (model P w) A (f e ⟨⟩) Q E s') :
    ∀ (l : List (Int × Value)) (s : Shared) (R : Int → Bool) (k : Nat) (Q : PUnit → Shared → Prop), (∀ e ∈ l, GoodE e) → I s.heap → SetR w s.heap r R k → k + l.length < scanBound →
      (∀ h' k', Heap.SameBut r s.heap h' → SetR w h' r (fun j => R j || (decide (j ∈ l.map keyOf) && c j)) k' → Q ⟨⟩ { s with heap := h' }) → wpAny (model P w) A (forIn l ⟨⟩ f) Q E s
  | [], s, R, k, Q, _, _, hR, _, hQ => by
    rw [List.forIn_nil]
    exact wpAny_pure (hQ s.heap k (Heap.SameBut.refl r s.heap) (hR.congr fun j => by simp))
  | e :: l, s, R, k, Q, hg, hI, hR, hk, hQ => by
    rw [List.forIn_cons]
    rw [List.length_cons] at hk
    refine wpAny_bind (step e s R k (hg e List.mem_cons_self) hI hR (by omega) _ fun h' k' sb hR' hk' => ?_)
    dsimp only
    refine fill_loop frame step l { s with heap := h' } _ k' Q (fun e' he' => hg e' (List.mem_cons_of_mem _ he')) (frame _ _ hI sb) hR' (by omega) fun h2 k2 sb2 hR2 => ?_
    refine hQ h2 k2 (sb.trans sb2) (hR2.congr fun j => ?_)
    simp only [List.map_cons, List.mem_cons]
    by_cases h1 : j = keyOf e <;> by_cases h2 : j ∈ l.map keyOf <;> cases R j <;> cases c j <;> simp [h1, h2]
theorem diff_at {id : String} (x : SetS w s.heap a es ep t) (y : SetS w s.heap b eb pb tb) (hne : a ≠ b) (hn : es.size ≤ 11) {Q : Value → Shared → Prop}
    (h : ∀ h' k, (∀ c o, s.heap.get? c = some o → h'.get? c = some o) → SetR w h' s.heap.objs.size (fun j => decide (j ∈ es.toList.map keyOf) && !decide (j ∈ eb.toList.map keyOf)) k → Q (.ref s.heap.objs.size) { s with heap := h' }) :
    wpAny (model P w) A (Builtin.Frozenset.difference id a (.ref b)) Q E s := by
  have la : a < s.heap.objs.size := by obtain ⟨o, h1, _⟩ := x.ob; exact Heap.lt_size h1
  have lb : b < s.heap.objs.size := by obtain ⟨o, h1, _⟩ := y.ob; exact Heap.lt_size h1
  unfold Builtin.Frozenset.difference
  refine wpAny_bind (any_at y.type ?_)
  dsimp only
  refine wp_if_neg (by decide) ?_
  unfold Builtin.Frozenset.addrOf
  refine wpAny_bind (wpAny_pure ?_)
  refine wp_if_neg (by simp) ?_
  refine wp_if_pos rfl ?_
  refine wpAny_bind (size_at y ?_)
  refine wpAny_bind (size_at x ?_)
  by_cases hbig : es.size / 4 > eb.size
  · refine wp_if_pos hbig ?_
    refine wpAny_bind (wpAny_rule ?_)
    refine wpAny_bind (copy_at x hn fun h1 er pr tr k1 z p d hm => ?_)
    dsimp only
    refine wpAny_bind (wpAny_pure ?_)
    refine wpAny_bind (wpAny_holding (upd_at (s := { s with heap := h1 }) (y.at fun o e => k1 b o e) z (Nat.ne_of_gt lb) (by omega) d hm fun h2 er2 pr2 tr2 sb2 z2 m2 => ?_))
    refine wpAny_pure (h h2 er2.size (old_same (Nat.le_refl _) sb2 k1) (SetS.r z2 fun k => ?_))
    rw [m2 k, (p.map keyOf).mem_iff, Bool.and_eq_true, decide_eq_true_eq, Bool.not_eq_true', decide_eq_false_iff_not]
  · refine wp_if_neg hbig ?_
    refine wpAny_bind (base_at x.type ?_)
    refine wpAny_bind (new_at ?_)
    dsimp only
    refine wpAny_bind (wpAny_pure ?_)
    have z := new_set w s.heap
    have x1 : SetS w (s.heap.push (newO w)) a es ep t := x.at fun o e => old_push _ _ e
    have y1 : SetS w (s.heap.push (newO w)) b eb pb tb := y.at fun o e => old_push _ _ e
    refine wpAny_bind (epoch_at (s := { s with heap := s.heap.push (newO w) }) x1 ?_)
    refine wpAny_bind (wpAny_holding ?_)
    refine wpAny_bind (wp_if_pos rfl ?_)
    refine walkU_at (s := { s with heap := s.heap.push (newO w) }) x1 (fun c hc => ?_) (fun r' hr' => ?_) fun l h1 hp hL => ?_
    · rcases List.mem_cons.mp hc with e | e
      · subst e; exact ⟨_, _, _, y1⟩
      · rw [List.mem_singleton] at e
        subst e; exact ⟨_, _, _, z⟩
    · cases hr'
      exact ⟨_, _, _, z⟩
    have hz : SetR w h1 s.heap.objs.size (fun _ => false) 0 ∧ SetS w h1 a es ep t ∧ SetS w h1 b eb pb tb ∧ (∀ c o, s.heap.get? c = some o → h1.get? c = some o) := by
      have R0 : SetR w (s.heap.push (newO w)) s.heap.objs.size (fun _ => false) 0 := SetS.r z fun k => by simp
      rcases hL with e | ⟨r', e, sb, hr'⟩
      · subst e
        exact ⟨R0, x1, y1, fun _ _ e => old_push _ _ e⟩
      · cases e
        exact ⟨hr' _ _ R0, x1.at fun o e => by rw [sb.2 a (Nat.ne_of_lt la)]; exact e, y1.at fun o e => by rw [sb.2 b (Nat.ne_of_lt lb)]; exact e, old_same (Nat.le_refl _) sb old_push⟩
    obtain ⟨R1, x2, y2, k2⟩ := hz
    refine wpAny_bind ?_
    rw [← Array.forIn_toList]
    refine fill_loop (r := s.heap.objs.size) (c := fun j => !decide (j ∈ eb.toList.map keyOf)) (I := fun h => SetS w h a es ep t ∧ SetS w h b eb pb tb) (fun h h' hI sb => ⟨hI.1.at fun o e => by rw [sb.2 a (Nat.ne_of_lt la)]; exact e, hI.2.at fun o e => by rw [sb.2 b (Nat.ne_of_lt lb)]; exact e⟩) (fun e s' R k hg hI hR hk Q hQ => ?_) l.toList { s with heap := h1 } _ 0 _ (fun e he => x.good e (hp.mem_iff.mp he)) ⟨x2, y2⟩ R1 (by rw [hp.length_eq, Array.length_toList]; have := x.sz; omega) fun h2 k3 sb2 R2 => ?_
    · obtain ⟨xi, yi⟩ := hI
      obtain ⟨kk, tk, e1, e2⟩ := hg
      obtain ⟨eh, ev⟩ := e
      have e1 : ev = .int kk tk := e1
      have e2 : eh = hashInt kk := e2
      subst e1 e2
      refine wpAny_bind (wpAny_holding ?_)
      refine wp_if_pos rfl ?_
      refine wpAny_bind (findI yi kk tk (fun hn => ?_) fun i e hi hk => ?_)
      · refine wpAny_bind (wpAny_pure ?_)
        refine wp_if_pos rfl ?_
        refine wpAny_bind (setR_add_hashed (P := P) hR hk fun h' sb R' => ?_)
        refine wpAny_pure ?_
        refine wpAny_bind (unch_at (s := { s' with heap := h' }) (xi.at fun o e => by rw [sb.2 a (Nat.ne_of_lt la)]; exact e) rfl ?_)
        refine wpAny_pure (hQ h' _ sb (R'.congr fun j => ?_) (by split <;> omega))
        show (R j || (decide (j = kk) && !decide (j ∈ eb.toList.map keyOf))) = (R j || decide (j = kk))
        by_cases c : j = kk
        · subst c; simp [hn]
        · simp [c]
      · refine wpAny_bind (wpAny_pure ?_)
        refine wp_if_neg (by simp) ?_
        refine wpAny_pure ?_
        refine wpAny_bind (unch_at xi rfl ?_)
        refine wpAny_pure (hQ s'.heap k (Heap.SameBut.refl _ s'.heap) (hR.congr fun j => ?_) (Nat.le_succ k))
        show (R j || (decide (j = kk) && !decide (j ∈ eb.toList.map keyOf))) = R j
        have hin : kk ∈ eb.toList.map keyOf := List.mem_map.mpr ⟨e, List.mem_of_getElem? hi, hk⟩
        by_cases c : j = kk
        · subst c; simp [hin]
        · simp [c]
    · refine wpAny_pure ?_
      refine wpAny_pure (h h2 k3 (old_same (Nat.le_refl _) sb2 k2) (R2.congr fun j => ?_))
      have q : decide (j ∈ l.toList.map keyOf) = decide (j ∈ es.toList.map keyOf) := decide_eq_decide.mpr ((hp.map keyOf).mem_iff (a := j))
      show (decide (j ∈ es.toList.map keyOf) && _) = (false || (decide (j ∈ l.toList.map keyOf) && _))
      rw [q, Bool.false_or]
theorem qeq_at {e : Int × Value} (g : GoodE e) {Q : Bool → Shared → Prop} (h : Q true s) : wpAny (model P w) A (Builtin.Frozenset.quietEq e.2) Q E s := by
  obtain ⟨k, tk, e1, _⟩ := g
  rw [e1]
  exact wpAny_pure h
theorem uns_at (x : SetS w s.heap a es ep t) (y : SetS w s.heap b eb pb tb) {Q : List (Int × Value) → Shared → Prop} (h : Q es.toList s) : wpAny (model P w) A (Builtin.Frozenset.walkUnseen a b) Q E s := by
  unfold Builtin.Frozenset.walkUnseen
  refine wpAny_bind (entries_at x ?_)
  refine wpAny_bind (entries_at y ?_)
  refine wpAny_bind ?_
  refine wpAny_forIn_list _ (fun rest b s' => (∀ e ∈ rest, GoodE e) ∧ b = (none, ()) ∧ s' = s) _ (fun e rest b s' hI => ?_) (fun b s' hI => ?_) _ _ ⟨fun e he => ?_, rfl, rfl⟩
  · obtain ⟨h1, rfl, rfl⟩ := hI
    refine wpAny_bind (qeq_at (h1 e List.mem_cons_self) ?_)
    refine wp_if_neg (by decide) ?_
    exact wpAny_pure ⟨fun z hz => h1 z (List.mem_cons_of_mem _ hz), rfl, rfl⟩
  · obtain ⟨_, rfl, rfl⟩ := hI
    dsimp only
    exact wpAny_pure h
  · rcases List.mem_append.mp he with z | z
    · exact x.good e z
    · exact y.good e z
theorem sub_at {id : String} (x : SetS w s.heap a es ep t) (y : SetS w s.heap b eb pb tb) (hz : es.size ≤ eb.size) {Q : Bool → Shared → Prop} (h : Q (decide (∀ k ∈ es.toList.map keyOf, k ∈ eb.toList.map keyOf)) s) : wpAny (model P w) A (Builtin.Frozenset.subsetOf id a b) Q E s := by
  unfold Builtin.Frozenset.subsetOf
  refine wpAny_bind (size_at x ?_)
  refine wpAny_bind (size_at y ?_)
  refine wp_if_neg (by omega) ?_
  refine wpAny_bind (epoch_at x ?_)
  refine wpAny_bind (uns_at x y ?_)
  refine wpAny_bind ?_
  refine wpAny_forIn_list _ (fun rest b s' => (∀ e ∈ rest, e ∈ es.toList) ∧ (∀ e ∈ es.toList, e ∉ rest → keyOf e ∈ eb.toList.map keyOf) ∧ b = (none, ()) ∧ s' = s) _ (fun e rest b s' hI => ?_) (fun b s' hI => ?_) _ _ ⟨fun e he => he, fun e he hn => absurd he hn, rfl, rfl⟩
  · obtain ⟨h1, h2, rfl, rfl⟩ := hI
    have he := h1 e List.mem_cons_self
    obtain ⟨kk, tk, e1, e2⟩ := x.good e he
    have ek : keyOf e = kk := by unfold keyOf; rw [e1]
    obtain ⟨eh, ev⟩ := e
    have e1 : ev = .int kk tk := e1
    have e2 : eh = hashInt kk := e2
    subst e1 e2
    refine wpAny_bind (wpAny_holding (findI y kk tk (fun hn => ?_) fun i e hi hk => ?_))
    · refine wp_if_pos rfl ?_
      refine wpAny_pure ?_
      dsimp only
      have : decide (∀ k ∈ es.toList.map keyOf, k ∈ eb.toList.map keyOf) = false := decide_eq_false fun z => hn (z kk (List.mem_map.mpr ⟨_, he, ek⟩))
      rw [this] at h
      exact wpAny_pure h
    · refine wp_if_neg (by simp) ?_
      refine wpAny_bind (unch_at x rfl ?_)
      refine wpAny_pure ⟨fun z hz => h1 z (List.mem_cons_of_mem _ hz), fun z hz hn => ?_, rfl, rfl⟩
      by_cases c : z = (hashInt kk, Value.int kk tk)
      · subst c
        rw [ek]
        exact List.mem_map.mpr ⟨e, List.mem_of_getElem? hi, hk⟩
      · exact h2 z hz fun q => by
          rcases List.mem_cons.mp q with q | q
          · exact c q
          · exact hn q
  · obtain ⟨_, h2, rfl, rfl⟩ := hI
    dsimp only
    have : decide (∀ k ∈ es.toList.map keyOf, k ∈ eb.toList.map keyOf) = true := decide_eq_true fun k hk => by
      obtain ⟨e, he, rfl⟩ := List.mem_map.mp hk
      exact h2 e he List.not_mem_nil
    rw [this] at h
    exact wpAny_pure h
theorem entry_set_eq : entryFor table "set.__eq__" = some Builtin.«frozenset.__eq__» := entryFor_alias (id' := "frozenset.__eq__") (by kernel_rfl) rfl (by decide +kernel) (by kernel_rfl)
theorem entry_set_sub : entryFor table "set.__sub__" = some Builtin.«frozenset.__sub__» := entryFor_alias (id' := "frozenset.__sub__") (by kernel_rfl) rfl (by decide +kernel) (by kernel_rfl)
end ZZ

set_option maxHeartbeats 1000000
namespace ZZ
open PySem PySem.Spec PyProof.Rows L2
variable {P : Program} {w : World} {A : Around} {E : Value → Shared → Prop} {s : Shared} {a b r : Addr} {S T : Int → Bool} {n m : Nat} {es eb : Array (Int × Value)} {ep pb : Nat} {t tb : SetTable}
theorem slot1_at {name : String} {u v : Value} {Q : Value × Value → Shared → Prop} (h : Q (u, v) s) : wpAny (model P w) A (Builtin.Frozenset.slot1 name ⟨[u, v], []⟩) Q E s := by
  unfold Builtin.Frozenset.slot1 slotArgs
  refine wpAny_bind ?_
  refine wp_if_neg (by simp) ?_
  dsimp only
  refine wp_if_neg (by simp) ?_
  exact wpAny_pure (wpAny_pure h)
theorem both_any (x : s.TypeIs (.ref a) "set") (y : s.TypeIs (.ref b) "set") {Q : Bool → Shared → Prop} (h : Q true s) : wpAny (model P w) A (Builtin.Frozenset.isAnySet (.ref a) <&&> Builtin.Frozenset.isAnySet (.ref b)) Q E s := by
  refine wpAny_bind (any_at x ?_)
  exact any_at y h
theorem subZ (x : SetR w s.heap a S n) (y : SetR w s.heap b T m) (hne : a ≠ b) (hn : n ≤ 11) {Q : Value → Shared → Prop}
    (h : ∀ h' k, (∀ c o, s.heap.get? c = some o → h'.get? c = some o) → SetR w h' s.heap.objs.size (fun j => S j && !T j) k → Q (.ref s.heap.objs.size) { s with heap := h' }) :
    wpAny (model P w) A (binaryOp .Sub (.ref a) (.ref b)) Q E s := by
  obtain ⟨es, ep, t, X, mx, rfl⟩ := SetR.s' x
  obtain ⟨eb, pb, tb, Y, my, rfl⟩ := SetR.s' y
  refine wpAny_binaryOp_same (op := .Sub) X.type Y.type F.fills_set_sub F.slot_set_sub ?_
  refine wpAny_call_entry F.slot_set_sub X.type entry_set_sub ?_ (F.args_set_sub_2 _ _)
  unfold Builtin.«frozenset.__sub__»
  show wpAny _ _ (Builtin.Frozenset.slot1 _ _ >>= _) _ _ _
  refine wpAny_bind (slot1_at ?_)
  dsimp only
  refine wpAny_bind (both_any X.type Y.type ?_)
  refine wp_if_neg (by decide) ?_
  unfold Builtin.Frozenset.addrOf
  refine wpAny_bind (wpAny_pure ?_)
  refine wpAny_bind (diff_at X Y hne hn fun h' k k1 R => ?_)
  refine wpAny_pure ⟨_, rfl, by simp, h h' k k1 (R.congr fun j => ?_)⟩
  have e1 : S j = decide (j ∈ es.toList.map keyOf) := by rw [Bool.eq_iff_iff, mx j, decide_eq_true_eq]
  have e2 : T j = decide (j ∈ eb.toList.map keyOf) := by rw [Bool.eq_iff_iff, my j, decide_eq_true_eq]
  rw [e1, e2]
theorem nodup_le : ∀ {l D : List Int}, l.Nodup → (∀ x ∈ l, x ∈ D) → l.length ≤ D.length
  | [], D, _, _ => Nat.zero_le _
  | x :: l, D, hl, h => by
    rw [List.nodup_cons] at hl
    have hx := h x List.mem_cons_self
    have ih := nodup_le (l := l) (D := D.erase x) hl.2 fun y hy => (List.mem_erase_of_ne (fun e => hl.1 (by rw [← e]; exact hy))).2 (h y (List.mem_cons_of_mem _ hy))
    rw [List.length_erase_of_mem hx] at ih
    have := List.length_pos_of_mem hx
    rw [List.length_cons]
    omega
def SameS (S T : Int → Bool) : Prop := ∀ k, S k = T k
theorem eq_key {q : Prop} [Decidable q] (X : SetS w s.heap a es ep t) (mx : ∀ k, S k = true ↔ k ∈ es.toList.map keyOf) (Y : SetS w s.heap b eb pb tb) (my : ∀ k, T k = true ↔ k ∈ eb.toList.map keyOf) (hq : q ↔ SameS S T) :
    (es.size = eb.size → decide (∀ k ∈ es.toList.map keyOf, k ∈ eb.toList.map keyOf) = decide q) ∧ (es.size ≠ eb.size → decide q = false) := by
  have lx : (es.toList.map keyOf).length = es.size := by rw [List.length_map, Array.length_toList]
  have ly : (eb.toList.map keyOf).length = eb.size := by rw [List.length_map, Array.length_toList]
  refine ⟨fun hz => decide_eq_decide.mpr ?_, fun hz => decide_eq_false fun c => ?_⟩
  · rw [hq]
    constructor
    · intro z k
      rw [Bool.eq_iff_iff, mx k, my k]
      refine ⟨z k, fun hk => ?_⟩
      by_cases c : k ∈ es.toList.map keyOf
      · exact c
      · have := nodup_le (l := k :: es.toList.map keyOf) (D := eb.toList.map keyOf) (List.nodup_cons.mpr ⟨c, X.nd⟩) fun y hy => by
          rcases List.mem_cons.mp hy with rfl | hy
          · exact hk
          · exact z y hy
        rw [List.length_cons] at this
        omega
    · intro z k hk
      rw [← my k, ← z k, mx k]
      exact hk
  · rw [hq] at c
    have h1 := nodup_le (l := es.toList.map keyOf) (D := eb.toList.map keyOf) X.nd fun k hk => by rw [← my k, ← c k, mx k]; exact hk
    have h2 := nodup_le (l := eb.toList.map keyOf) (D := es.toList.map keyOf) Y.nd fun k hk => by rw [← mx k, c k, my k]; exact hk
    omega
theorem eqZ {q : Prop} [Decidable q] (x : SetR w s.heap a S n) (y : SetR w s.heap b T m) (hq : q ↔ SameS S T) (hu : A.units < cLine) {Q : Value → Shared → Prop} (h : Q (.bool (decide q)) s) : wpAny (model P w) A (compareOp .Eq (.ref a) (.ref b)) Q E s := by
  obtain ⟨es, ep, t, X, mx, hz1⟩ := SetR.s' x
  obtain ⟨eb, pb, tb, Y, my, hz2⟩ := SetR.s' y
  show wpAny _ _ (richCompare .Eq (.ref a) (.ref b)) _ _ _
  refine wpAny_richCompare_same_room X.type Y.type F.slot_set_eq ?_ hu
  refine wpAny_call_entry F.slot_set_eq X.type entry_set_eq ?_ (F.args_set_eq_2 _ _)
  unfold Builtin.«frozenset.__eq__»
  show wpAny _ _ (Builtin.Frozenset.slot1 _ _ >>= _) _ _ _
  refine wpAny_bind (slot1_at ?_)
  dsimp only
  refine wpAny_bind (any_at Y.type ?_)
  refine wp_if_neg (by decide) ?_
  unfold Builtin.Frozenset.addrOf
  refine wpAny_bind (wpAny_pure ?_)
  refine wpAny_bind (wpAny_pure ?_)
  refine wpAny_bind (size_at X ?_)
  refine wpAny_bind (size_at Y ?_)
  obtain ⟨h1, h2⟩ := eq_key X mx Y my hq
  refine wpAny_bind ?_
  by_cases hz : es.size = eb.size
  · refine wp_if_neg (by rw [hz]; simp) ?_
    refine wpAny_bind (m := isInstance (.ref a) (.type "frozenset") <&&> isInstance (.ref b) (.type "frozenset")) (wpAny_bind (wpAny_isInstance X.type F.sub_set_frozenset (wpAny_pure ?_)))
    refine wp_if_neg (by decide) ?_
    refine sub_at X Y (by omega) ?_
    rw [h1 hz]
    exact wpAny_pure ⟨_, rfl, by simp, h⟩
  · refine wp_if_pos (by simpa using hz) ?_
    rw [h2 hz] at h
    exact wpAny_pure (wpAny_pure ⟨_, rfl, by simp, h⟩)
end ZZ

set_option maxHeartbeats 3200000
namespace ZZ
open PySem PySem.Spec PyProof.Rows L2
section
variable {P : Program} {w : World} {A : Around} {E : Value → Shared → Prop} {S : Shared}
theorem made1 (u : Value) {Z : Value → Shared → Prop} (fin : Z (.ref S.heap.objs.size) { S with heap := S.heap.push (newO w) }) :
    codeAny (model P w) A (.call (.builtin "set.__new__") ⟨[.type "set", u], []⟩) (wants Z E) S := by
  refine codeAny_of_tree ?_
  show wpAny _ _ (checkBuiltinCall "set.__new__" ⟨[.type "set", u], []⟩ >>= fun _ => again (.builtin "set.__new__" ⟨[.type "set", u], []⟩)) _ _ S
  have c0 := F.newCall_set_1 u
  refine wpAny_bind (wpAny_of_eq c0 (wpAny_pure ⟨plainId_quiet F.plain_set_new _, codeAny_builtin F.entry_set_new ?_⟩))
  rw [Around.under_plainId F.plain_set_new _]
  unfold Builtin.«set.__new__»
  unfold Builtin.Frozenset.newClass
  have k0 := sub_set_self
  obtain ⟨h1, h2, h3, h4, h5⟩ := S
  dsimp only
  wp_walk
  refine wpAny_askSetting ?_
  refine wpAny_pure ?_
  dsimp only
  simp only [newObj]
  exact wpAny_bind (wpAny_alloc (wpAny_pure (wpAny_pure fin)))
theorem SetR_cg {h : Heap} {a : Addr} {f g : Int → Bool} {n m : Nat} (R : SetR w h a f n) (e : ∀ k, f k = g k) (en : n = m) : SetR w h a g m := by
  subst en
  exact R.congr fun k => (e k).symm
theorem loopZ {R : Result → Shared → Prop} {I : Addr} {fp wr : List Addr} {G : Array GenState → Array GenState → Prop} {n : Nat} {Pv : Nat → Value → Prop} {St : Nat → Shared → Prop} (W : WalksS P w A.in1 I fp wr G n Pv St) (D : Addr) (hD : D ∉ fp)
    (val : Nat → Int) (hval : ∀ i v, Pv i v → ∃ t, v = .int (val i) t) (room : n + 1 < scanBound) :
    ∀ (k i : Nat) (s : Shared), n - i = k → i ≤ n → St i s → SetR w s.heap D (fun k' => (firstMet val i).any (· == k')) (firstMet val i).length →
      (∀ s', Moved (D :: wr) G s s' → SetR w s'.heap D (fun k' => (firstMet val n).any (· == k')) (firstMet val n).length → R (.ok (.ret .none)) s') →
      codeAny (model P w) A (.builtin "set.update.loop" ⟨[.ref D, .ref I], []⟩) R s := by
  have out : D ∉ wr := fun z => hD (W.sub _ z)
  have more : ∀ c ∈ wr, c ∈ D :: wr := fun c z => List.mem_cons_of_mem _ z
  intro k
  induction k with
  | zero =>
    intro i s hk hi st hR fin
    obtain rfl : i = n := by omega
    refine codeAny_builtin F.entry_set_update_loop ?_
    rw [Around.under_plainId F.plain_set_update_loop _]
    show wpAny _ A.in1 (pyNext (.ref I) >>= _) _ _ s
    refine wpAny_bind (W.done s _ _ st fun s' mv => ?_)
    show wpAny _ _ (ret Value.none) _ _ _
    exact wpAny_pure (fin s' (mv.mono more) (hR.at fun o e => mv.heap D _ out e))
  | succ k ih =>
    intro i s hk hi st hR fin
    have lt : i < n := by omega
    refine codeAny_builtin F.entry_set_update_loop ?_
    rw [Around.under_plainId F.plain_set_update_loop _]
    show wpAny _ A.in1 (pyNext (.ref I) >>= _) _ _ s
    refine wpAny_bind (W.item i s _ _ lt st fun v s' hv st' mv => ?_)
    obtain ⟨t, rfl⟩ := hval i v hv
    have hR1 := SetR.at (h' := s'.heap) hR fun o e => mv.heap D _ out e
    show wpAny _ A.in1 (holding [Value.int (val i) t] (setAdd D (.int (val i) t)) >>= _) _ _ s'
    refine wpAny_bind (wpAny_holding ?_)
    unfold setAdd
    refine wpAny_holding ?_
    refine wpAny_bind ((intKind P w).pyHash (k := val i) (intKind_is _ _ _ _) ?_)
    have rm : (firstMet val i).length + 1 < scanBound := by have := firstMet_length_le val i; omega
    refine setR_add_hashed (P := P) (s := { s' with toks := s'.toks + 1 }) hR1 rm fun h' sb R2 => ?_
    have R3 : SetR w h' D (fun k' => (firstMet val (i + 1)).any (· == k')) (firstMet val (i + 1)).length :=
      SetR_cg R2 (fun k' => by rw [firstMet_succ, step_any]) (by rw [firstMet_succ, step_length])
    have mv2 : Moved (D :: wr) G s { s' with heap := h', toks := s'.toks + 1 } := (mv.mono more).then_heap (Nat.le_succ _) fun c o hc e => by
      rw [sb.2 c (fun z : c = D => hc (by rw [z]; exact List.mem_cons_self))]; exact e
    have st2 : St (i + 1) { s' with heap := h', toks := s'.toks + 1 } := W.frame _ s' _ _ st' (Nat.le_succ _) fun c hc o e => by
      rw [sb.2 c (fun z : c = D => hD (by rw [← z]; exact hc))]; exact e
    exact wpAny_pure ⟨plainId_quiet F.plain_set_update_loop _, ih (i + 1) _ (by omega) lt st2 R3 fun s'' mv3 R4 => fin s'' (Moved.trans W.gtrans mv2 mv3) R4⟩
open AutoSeq1 MeetsSeq MeetsSeq2 MeetsSeq3 SeqRoads2 in
theorem setTupZ {t : Addr} {its : Array Value} {is : List Int} {Q : Value → Shared → Prop} (calm : A.handled = none) (ht : S.heap.IsTuple t its) (hi : PyProof.Rows.IntsAre its.toList is) (room : its.size + 1 < scanBound)
    (fin : ∀ (h' : Heap) (tk : Nat), SetR w h' S.heap.objs.size (fun k => (PyProof.Rows.firstMet (fun i => is.getD i 0) its.size).any (· == k)) (PyProof.Rows.firstMet (fun i => is.getD i 0) its.size).length →
      (∀ b o, b < S.heap.objs.size → S.heap.get? b = some o → h'.get? b = some o) → Q (.ref S.heap.objs.size) { S with heap := h', toks := tk }) :
    wpAny (model P w) A (call (.type "set") [.ref t]) Q E S := by
  obtain ⟨mc, mt, mro⟩ := PySem.F.called_set.mro
  have c1 := PySem.F.called_set.made
  have c2 := PySem.F.called_set.sub
  refine wpAny_call (codeAny_of_tree ?_)
  show wpAny _ _ (callAny (.type "set") _) _ _ _
  refine wpAny_pure ⟨Code.quiet_builtin _ (by decide +kernel), codeAny_builtin PySem.F.entry_type_call ?_⟩
  rw [Around.under_plain (weight_type_call_type "set" [.ref t] []) rfl]
  have c3 := PySem.F.called_set.notType
  have c4 := PySem.F.called_set.canCreate
  have c5 := PySem.F.typeCall_set_1 (.ref t)
  repeat (any_goals (first | assumption | wp_step))
  refine codeAny_mono (made1 (.ref t) (E := E) (Z := fun x s₁ => x = .ref S.heap.objs.size ∧ s₁ = { S with heap := S.heap.push (newO w) }) ⟨rfl, rfl⟩) fun r s₁ hr => ?_
  cases r with
  | error e => exact hr
  | ok z =>
    cases z with
    | ret x =>
      obtain ⟨rfl, rfl⟩ := hr
      have at0 : (S.heap.push (newO w)).get? S.heap.objs.size = some (newO w) := Heap.get?_push_size _ rfl
      have ty0 : Shared.TypeIs { S with heap := S.heap.push (newO w) } (.ref S.heap.objs.size) "set" := ⟨_, at0, rfl⟩
      have c6 := PySem.F.called_set.init.lookup
      have c7 := PySem.F.called_set.init.bind (.ref S.heap.objs.size)
      repeat (any_goals (first | assumption | wp_step))
      refine codeAny_mono (codeAny_call_builtin (R := wants (fun r s₂ => r = .none ∧ ∃ h' tk, s₂ = { S with heap := h', toks := tk } ∧
          SetR w h' S.heap.objs.size (fun k => (PyProof.Rows.firstMet (fun i => is.getD i 0) its.size).any (· == k)) (PyProof.Rows.firstMet (fun i => is.getD i 0) its.size).length ∧
          (∀ b o, b < S.heap.objs.size → S.heap.get? b = some o → h'.get? b = some o)) E) PySem.F.called_set.init.plain PySem.F.entry_set_init (check_set_init_1 ty0 ?_)) fun r₂ s₂ hr₂ => ?_
      · obtain ⟨ot, e1, e2, nl, e3⟩ := ht
        obtain ⟨o1, o2, o3, o4⟩ := ot
        simp only at e2 e3
        subst e2; subst e3
        have at1 : (S.heap.push (newO w)).get? t = some { cls := .type "tuple", dict := o2, data := .seq its nl, slots := o4 } := Heap.get?_push_of_some _ e1
        have c8 := PySem.F.sub_tuple_set
        have c9 := PySem.F.sub_tuple_frozenset
        have c10 : (Value.type "tuple" == Value.type "dict") = false := by decide
        have tup1 : (S.heap.push (newO w)).IsTuple t its := ⟨_, at1, rfl, nl, rfl⟩
        unfold Builtin.«set.__init__» noKeywords Builtin.Frozenset.updateFrom
        generalize hPI : pyIter = PI
        wp_walk
        subst hPI
        refine wpAny_pyIter_tuple tup1 ?_
        refine wpAny_bind (wpAny_runValue ?_)
        have lt0 : t < S.heap.objs.size := Heap.lt_size e1
        have calm3 : A.in1.in1.in1.handled = none := by simp [calm]
        have ne1 : t ≠ (S.heap.push (newO w)).objs.size := by
          rw [Heap.size_push]; exact Nat.ne_of_lt (Nat.lt_succ_of_lt lt0)
        have out : S.heap.objs.size ∉ [(S.heap.push (newO w)).objs.size, t] := by
          rw [Heap.size_push]; simp only [List.mem_cons, List.mem_singleton, List.not_mem_nil, or_false, not_or]
          exact ⟨Nat.ne_of_lt (Nat.lt_succ_self _), Nat.ne_of_gt lt0⟩
        have val : ∀ (i : Nat) (v : Value), its[i]? = some v → ∃ k, v = .int ((fun i => is.getD i 0) i) k := fun i v hv =>
          PyProof.Rows.IntsAre.int_at hi i v (by rw [Array.getElem?_toList]; exact hv)
        refine loopZ ((Walks.tuple calm3 _ t ne1 its).toS) S.heap.objs.size
          out (fun i => is.getD i 0) val room (its.size - 0) 0 _ (by omega) (Nat.zero_le _)
          ⟨⟨_, Heap.get?_push_size _ rfl, rfl, rfl⟩, (tup1.push _)⟩ ?a0 ?a1
        case a0 =>
          exact SetR_cg (SetR.at (setR_fresh (h := S.heap) w) fun o e => Heap.get?_push_of_some _ e) (fun _ => rfl) rfl
        case a1 =>
          intro s' hm hS'
          obtain ⟨h', g', d', tk', os'⟩ := s'
          have eg : g' = S.gens := hm.gens
          have ed : d' = S.drawn := hm.drawn
          have eo : os' = S.os := hm.os
          subst eg ed eo
          show wpAny _ _ _ _ _ _
          refine wpAny_pure ?_
          show wpAny _ _ (ret Value.none) _ _ _
          refine wpAny_pure ⟨rfl, h', tk', rfl, hS', fun b o hb e => ?_⟩
          have n1 : b ≠ S.heap.objs.size := Nat.ne_of_lt hb
          have n2 : b ≠ (S.heap.push (newO w)).objs.size := by
            rw [Heap.size_push]; exact Nat.ne_of_lt (Nat.lt_succ_of_lt hb)
          exact hm.heap b o (by simp only [List.mem_cons, List.mem_singleton, List.not_mem_nil, or_false, not_or]; exact ⟨n1, n2⟩) (Heap.get?_push_of_some _ (Heap.get?_push_of_some _ e))
      · cases r₂ with
        | error e => exact hr₂
        | ok z₂ =>
          cases z₂ with
          | ret r =>
            obtain ⟨rfl, h', tk, rfl, hS', hk'⟩ := hr₂
            repeat (any_goals (first | assumption | wp_step))
            exact fin _ _ hS' hk'
          | _ => exact hr₂.elim
    | _ => exact hr.elim
open AutoSeq1 MeetsSeq MeetsSeq2 MeetsSeq3 SeqRoads2 in
theorem setLstZ {t : Addr} {its : Array Value} {is : List Int} {Q : Value → Shared → Prop} (calm : A.handled = none) (ht : S.heap.IsList t its) (hi : PyProof.Rows.IntsAre its.toList is) (room : its.size + 1 < scanBound)
    (fin : ∀ (h' : Heap) (tk : Nat), SetR w h' S.heap.objs.size (fun k => (PyProof.Rows.firstMet (fun i => is.getD i 0) its.size).any (· == k)) (PyProof.Rows.firstMet (fun i => is.getD i 0) its.size).length →
      (∀ b o, b < S.heap.objs.size → S.heap.get? b = some o → h'.get? b = some o) → Q (.ref S.heap.objs.size) { S with heap := h', toks := tk }) :
    wpAny (model P w) A (call (.type "set") [.ref t]) Q E S := by
  obtain ⟨mc, mt, mro⟩ := PySem.F.called_set.mro
  have c1 := PySem.F.called_set.made
  have c2 := PySem.F.called_set.sub
  refine wpAny_call (codeAny_of_tree ?_)
  show wpAny _ _ (callAny (.type "set") _) _ _ _
  refine wpAny_pure ⟨Code.quiet_builtin _ (by decide +kernel), codeAny_builtin PySem.F.entry_type_call ?_⟩
  rw [Around.under_plain (weight_type_call_type "set" [.ref t] []) rfl]
  have c3 := PySem.F.called_set.notType
  have c4 := PySem.F.called_set.canCreate
  have c5 := PySem.F.typeCall_set_1 (.ref t)
  repeat (any_goals (first | assumption | wp_step))
  refine codeAny_mono (made1 (.ref t) (E := E) (Z := fun x s₁ => x = .ref S.heap.objs.size ∧ s₁ = { S with heap := S.heap.push (newO w) }) ⟨rfl, rfl⟩) fun r s₁ hr => ?_
  cases r with
  | error e => exact hr
  | ok z =>
    cases z with
    | ret x =>
      obtain ⟨rfl, rfl⟩ := hr
      have at0 : (S.heap.push (newO w)).get? S.heap.objs.size = some (newO w) := Heap.get?_push_size _ rfl
      have ty0 : Shared.TypeIs { S with heap := S.heap.push (newO w) } (.ref S.heap.objs.size) "set" := ⟨_, at0, rfl⟩
      have c6 := PySem.F.called_set.init.lookup
      have c7 := PySem.F.called_set.init.bind (.ref S.heap.objs.size)
      repeat (any_goals (first | assumption | wp_step))
      refine codeAny_mono (codeAny_call_builtin (R := wants (fun r s₂ => r = .none ∧ ∃ h' tk, s₂ = { S with heap := h', toks := tk } ∧
          SetR w h' S.heap.objs.size (fun k => (PyProof.Rows.firstMet (fun i => is.getD i 0) its.size).any (· == k)) (PyProof.Rows.firstMet (fun i => is.getD i 0) its.size).length ∧
          (∀ b o, b < S.heap.objs.size → S.heap.get? b = some o → h'.get? b = some o)) E) PySem.F.called_set.init.plain PySem.F.entry_set_init (check_set_init_1 ty0 ?_)) fun r₂ s₂ hr₂ => ?_
      · obtain ⟨ot, e1, e2, nl, e3⟩ := ht
        obtain ⟨o1, o2, o3, o4⟩ := ot
        simp only at e2 e3
        subst e2; subst e3
        have at1 : (S.heap.push (newO w)).get? t = some { cls := .type "list", dict := o2, data := .seq its nl, slots := o4 } := Heap.get?_push_of_some _ e1
        have c8 := PySem.F.sub_list_set
        have c9 := PySem.F.sub_list_frozenset
        have c10 : (Value.type "list" == Value.type "dict") = false := by decide
        have tup1 : (S.heap.push (newO w)).IsList t its := ⟨_, at1, rfl, nl, rfl⟩
        unfold Builtin.«set.__init__» noKeywords Builtin.Frozenset.updateFrom
        generalize hPI : pyIter = PI
        wp_walk
        subst hPI
        refine wpAny_pyIter_list tup1 ?_
        refine wpAny_bind (wpAny_runValue ?_)
        have lt0 : t < S.heap.objs.size := Heap.lt_size e1
        have calm3 : A.in1.in1.in1.handled = none := by simp [calm]
        have ne1 : t ≠ (S.heap.push (newO w)).objs.size := by
          rw [Heap.size_push]; exact Nat.ne_of_lt (Nat.lt_succ_of_lt lt0)
        have out : S.heap.objs.size ∉ [(S.heap.push (newO w)).objs.size, t] := by
          rw [Heap.size_push]; simp only [List.mem_cons, List.mem_singleton, List.not_mem_nil, or_false, not_or]
          exact ⟨Nat.ne_of_lt (Nat.lt_succ_self _), Nat.ne_of_gt lt0⟩
        have val : ∀ (i : Nat) (v : Value), its[i]? = some v → ∃ k, v = .int ((fun i => is.getD i 0) i) k := fun i v hv =>
          PyProof.Rows.IntsAre.int_at hi i v (by rw [Array.getElem?_toList]; exact hv)
        refine loopZ ((Walks.list calm3 _ t ne1 its).toS) S.heap.objs.size
          out (fun i => is.getD i 0) val room (its.size - 0) 0 _ (by omega) (Nat.zero_le _)
          ⟨⟨_, Heap.get?_push_size _ rfl, rfl, rfl⟩, (tup1.push _)⟩ ?a0 ?a1
        case a0 =>
          exact SetR_cg (SetR.at (setR_fresh (h := S.heap) w) fun o e => Heap.get?_push_of_some _ e) (fun _ => rfl) rfl
        case a1 =>
          intro s' hm hS'
          obtain ⟨h', g', d', tk', os'⟩ := s'
          have eg : g' = S.gens := hm.gens
          have ed : d' = S.drawn := hm.drawn
          have eo : os' = S.os := hm.os
          subst eg ed eo
          show wpAny _ _ _ _ _ _
          refine wpAny_pure ?_
          show wpAny _ _ (ret Value.none) _ _ _
          refine wpAny_pure ⟨rfl, h', tk', rfl, hS', fun b o hb e => ?_⟩
          have n1 : b ≠ S.heap.objs.size := Nat.ne_of_lt hb
          have n2 : b ≠ (S.heap.push (newO w)).objs.size := by
            rw [Heap.size_push]; exact Nat.ne_of_lt (Nat.lt_succ_of_lt hb)
          exact hm.heap b o (by simp only [List.mem_cons, List.mem_singleton, List.not_mem_nil, or_false, not_or]; exact ⟨n1, n2⟩) (Heap.get?_push_of_some _ (Heap.get?_push_of_some _ e))
      · cases r₂ with
        | error e => exact hr₂
        | ok z₂ =>
          cases z₂ with
          | ret r =>
            obtain ⟨rfl, h', tk, rfl, hS', hk'⟩ := hr₂
            repeat (any_goals (first | assumption | wp_step))
            exact fin _ _ hS' hk'
          | _ => exact hr₂.elim
    | _ => exact hr.elim
theorem fm_mem (is : List Int) (k : Int) : (firstMet (fun i => is.getD i 0) is.length).any (· == k) = decide (k ∈ is) := by
  rw [firstMet_any]
  have : (List.range is.length).map (fun i => is.getD i 0) = is := by
    refine List.ext_getElem? fun i => ?_
    rw [List.getElem?_map]
    by_cases h : i < is.length
    · rw [List.getElem?_range h]
      simp [h]
    · rw [List.getElem?_eq_none (by rw [List.length_range]; omega), List.getElem?_eq_none (by omega)]
      rfl
  rw [this, Bool.eq_iff_iff, List.any_eq_true, decide_eq_true_eq]
  constructor
  · rintro ⟨x, hx, e⟩
    rw [beq_iff_eq] at e
    exact e ▸ hx
  · intro h
    exact ⟨k, h, by simp⟩
end
end ZZ

set_option maxHeartbeats 1000000
namespace DL
open PySem PySem.Spec PyProof.Rows L2 ZZ
abbrev setZ (w : World) (p : Addr) (L : List Int) (k : Nat) : HO := SetO w p (fun j => decide (j ∈ L)) k
theorem setR_len {w : World} {h : Heap} {a : Addr} {S : Int → Bool} {n : Nat} {L : List Int} (R : SetR w h a S n) (hS : ∀ j, S j = true → j ∈ L) : n ≤ L.length := by
  obtain ⟨es, ep, t, X, mx, rfl⟩ := SetR.s' R
  have := nodup_le (l := es.toList.map keyOf) (D := L) X.nd fun k hk => hS k ((mx k).mpr hk)
  rwa [List.length_map, Array.length_toList] at this
section
variable {X : Cx}
def rSetOf (K : PySem.W.Frag) (w : World) : List V → Hp → VK → Prop := fun xs H Q => ∃ l ns, xs = [.ref l] ∧ (SqL K H l (ns.map V.int) ∨ SqT K H l (ns.map V.int)) ∧ ns.length ≤ 4000 ∧ ∀ p k, H p = none → Q (.ref p) (upd H p (setZ w p ns k))
theorem cr_setOf (hc : X.calm = true) : CallR X (.type "set") (rSetOf X.K X.w) := by
  intro pins s σ H xs us Q I rv h
  obtain ⟨l, ns, rfl, hq, hl, q⟩ := h
  rw [Vals.ref1 rv]
  have last : ∀ (its : List Value), Vals (ns.map V.int) its → ∀ (h' : Heap) (tk : Nat), SetR X.w h' s.heap.objs.size (fun k => (firstMet (fun i => ns.getD i 0) its.toArray.size).any (· == k)) (firstMet (fun i => ns.getD i 0) its.toArray.size).length →
      (∀ b o, b < s.heap.objs.size → s.heap.get? b = some o → h'.get? b = some o) → EP X pins σ Q (.ref s.heap.objs.size) { s with heap := h', toks := tk } := fun its r h' tk hS hk => by
    have sz : its.toArray.size = ns.length := by rw [List.size_toArray, ← r.length, List.length_map]
    rw [sz] at hS
    exact ⟨.ref _, _, I.laid (t' := tk) (fun b o e => hk b o (Heap.lt_size e) e) (Nat.le_refl _) (setO_new (hS.congr fun k => (fm_mem ns k).symm)), rfl, q _ _ (I.hok.fresh (Nat.le_refl _))⟩
  rcases hq with hq | hq
  · obtain ⟨its, r, pl, hz⟩ := I.list hq
    have sz : its.toArray.size = ns.length := by rw [List.size_toArray, ← r.length, List.length_map]
    exact setLstZ (I.ok.hd hc) pl.isList (by simpa using RZ.intsAre_vals r) (by rw [sz]; unfold scanBound; omega) fun h' tk hS hk => last its r h' tk hS hk
  · obtain ⟨its, r, pl, hz⟩ := I.tuple hq
    have sz : its.toArray.size = ns.length := by rw [List.size_toArray, ← r.length, List.length_map]
    exact setTupZ (I.ok.hd hc) pl (by simpa using RZ.intsAre_vals r) (by rw [sz]; unfold scanBound; omega) fun h' tk hS hk => last its r h' tk hS hk
def rSubZ (w : World) : R2 := fun x y H Q => ∃ a b L M n m, x = .ref a ∧ y = .ref b ∧ a ≠ b ∧ H a = some (setZ w a L n) ∧ H b = some (setZ w b M m) ∧ L.length ≤ 11 ∧ ∀ p k, H p = none → Q (.ref p) (upd H p (setZ w p (L.filter fun j => !decide (j ∈ M)) k))
theorem op_subZ : OpR X (binaryOp .Sub) (rSubZ X.w) := by
  intro pins s σ H x y v u Q I rx ry h
  obtain ⟨a, b, L, M, n, m, rfl, rfl, hne, ha, hb, hl, q⟩ := h
  cases rx
  cases ry
  have R := setO_get I ha
  have n11 := setR_len R (L := L) fun j z => of_decide_eq_true z
  exact subZ R (setO_get I hb) hne (by omega) fun h' k k1 R' => ⟨.ref _, _, I.laid (t' := s.toks) (fun b o e => k1 b o e) (Nat.le_refl _) (setO_new (R'.congr fun j => by simp [List.mem_filter])), rfl, q _ _ (I.hok.fresh (Nat.le_refl _))⟩
def sameL (L M : List Int) : Bool := L.all (fun j => decide (j ∈ M)) && M.all fun j => decide (j ∈ L)
theorem same_iff {L M : List Int} : sameL L M = true ↔ SameS (fun j => decide (j ∈ L)) (fun j => decide (j ∈ M)) := by
  unfold sameL SameS
  rw [Bool.and_eq_true, List.all_eq_true, List.all_eq_true]
  constructor
  · rintro ⟨h1, h2⟩ k
    exact decide_eq_decide.mpr ⟨fun z => of_decide_eq_true (h1 k z), fun z => of_decide_eq_true (h2 k z)⟩
  · intro h
    exact ⟨fun k hk => (h k).symm.trans (decide_eq_true hk), fun k hk => (h k).trans (decide_eq_true hk)⟩
def rEqZ (w : World) (g : Bool → Bool) : R2 := fun x y H Q => ∃ a b L M n m, x = .ref a ∧ y = .ref b ∧ H a = some (setZ w a L n) ∧ H b = some (setZ w b M m) ∧ Q (.bl (g (sameL L M))) H
theorem op_eqZ (hu : X.A.units < cLine) : OpR X (compareOp .Eq) (rEqZ X.w id) := by
  intro pins s σ H x y v u Q I rx ry h
  obtain ⟨a, b, L, M, n, m, rfl, rfl, ha, hb, q⟩ := h
  cases rx
  cases ry
  refine eqZ (q := sameL L M = true) (setO_get I ha) (setO_get I hb) same_iff hu ⟨.bl _, H, I, rfl, ?_⟩
  rw [Bool.decide_eq_true]
  exact q
end
abbrev TZ := Env' → Mem → (List Int → Mem → Prop) → Prop
def MonoZ (d : TZ) : Prop := ∀ env m (Q Q' : List Int → Mem → Prop), (∀ x m', Q x m' → Q' x m') → d env m Q → d env m Q'
def lZ (C : Ct) (B : Nw) (w : World) (K : PySem.W.Frag) (d : TZ) : TE := fun σ H Q => ∃ n env m, n.H = H ∧ Ok C w K B n env m σ ∧
  d env m fun L m' => ∀ n' p k, Good C w K n' m' → n.le n' → n'.H p = none → Q (.ref p) (upd n'.H p (setZ w p L k))
structure DZ (X : Cx) (C : Ct) (B : Nw) (e : Expr) (d : TZ) : Prop where
  mono : MonoZ d
  run : PE X e (lZ C B X.w X.K d)
def zSet (d : TD) : TZ := fun env m Q => d env m fun x m1 => match seqOf env m1 x with
  | some xs => match intsD xs with
    | some ns => ns.length ≤ 4000 ∧ Q ns m1
    | none => False
  | none => False
def zNil : TZ := fun _ m Q => Q [] m
def zOp (f : List Int → List Int → List Int) (d u : TZ) : TZ := fun env m Q => d env m fun L m1 => u env m1 fun M m2 => L.length ≤ 11 ∧ Q (f L M) m2
def dEqZ (g : Bool → Bool) (d u : TZ) : TD := fun env m Q => d env m fun L m1 => u env m1 fun M m2 => Q (.f (.bl (g (sameL L M)))) m2
theorem zSet.mono {d : TD} (h : MonoD d) : MonoZ (zSet d) := fun env m Q Q' i => h _ _ _ _ fun x m1 h1 => by
  split at h1
  · split at h1
    · exact ⟨h1.1, i _ _ h1.2⟩
    · exact h1
  · exact h1
theorem zOp.mono {f} {d u : TZ} (h : MonoZ d) (h' : MonoZ u) : MonoZ (zOp f d u) := fun env m Q Q' i => h _ _ _ _ fun L m1 h1 => h' _ _ _ _ (fun M m2 h2 => ⟨h2.1, i _ _ h2.2⟩) h1
section
variable {X : Cx} {C : Ct} {B : Nw} {a b e : Expr} {d : TD} {da db : TZ} {p pos : Pos}
theorem setZ_nt {w : World} {p : Addr} {L : List Int} {k : Nat} : NTo (setZ w p L k) := fun ps z => nomatch z
theorem grow {w : World} {K : PySem.W.Frag} {n : Nw} {m : Mem} {p : Addr} {o : HO} (g : Good C w K n m) (hp : n.H p = none) : Good C w K ⟨n.G, n.al, upd n.H p o⟩ m ∧ n.le ⟨n.G, n.al, upd n.H p o⟩ ∧ p ∉ n.al := by
  obtain ⟨b2, b4⟩ := g.free hp
  exact ⟨g.at b2 b4 (Calm.none hp), (Nw.le.refl n).at hp, b4⟩
theorem dz_set (hm : X.mg "set" = none) (ha : DE X C B a d) (hc : X.calm = true := by rfl) (hg : Gl X "set" := by rfl)
    (he : starEach [a] X.env = (false, eval a X.env) :: starEach [] X.env := by rfl) (hpl : (backTo pos (starEach [] X.env)).any (·.1) = false := by rfl) : DZ X C B (.Call (.Name "set" p) [a] [] pos) (zSet d) := by
  refine ⟨zSet.mono ha.mono, imp (pe_callTy (cr_setOf hc) hg hm boot_set (pa_cons ha.run pa_nil he) (by decide) (by decide) he hpl) ?_⟩
  rintro σ H Q ⟨n, env, m, rfl, ok, h⟩
  refine ⟨n, env, m, rfl, ok, ha.mono _ _ _ _ (fun x m1 h1 n1 v g1 l1 lx => ?_) h⟩
  split at h1
  · rename_i xs hx
    split at h1
    · rename_i ns hn
      obtain ⟨a, vs, rfl, hs, hz⟩ := seq_ok (ok.go g1 l1) lx hx
      have e := ints_eq hn hz
      subst e
      exact ⟨a, ns, rfl, hs, h1.1, fun p k hp => h1.2 n1 p k g1 l1 hp⟩
    · exact h1.elim
  · exact h1.elim
theorem dz_nil (hm : X.mg "set" = none) (hg : Gl X "set" := by rfl) : DZ X C B (.Call (.Name "set" p) [] [] pos) zNil := by
  refine ⟨fun _ _ _ _ i => i _ _, imp (pe_callTy0 cr_set0 hg hm boot_set (by decide) (by decide)) ?_⟩
  rintro σ H Q ⟨n, env, m, rfl, ok, h⟩
  refine ⟨rfl, fun p hp => ?_⟩
  have := h n p 0 ok.good (.refl _) hp
  have e : (fun _ : Int => false) = fun j => decide (j ∈ ([] : List Int)) := by funext j; simp
  rw [e]
  exact this
theorem two_sets {Q2 : V → V → Hp → Prop} (ma : MonoZ da) (mb : MonoZ db) {σ : L2.St} {H : Hp} {n : Nw} {env : Env'} {m : Mem} (e : n.H = H) (ok : Ok C X.w X.K B n env m σ)
    (h : da env m fun L m1 => db env m1 fun M m2 => ∀ n2 pa pb ka kb, Good C X.w X.K n2 m2 → n.le n2 → pa ≠ pb → n2.H pa = some (setZ X.w pa L ka) → n2.H pb = some (setZ X.w pb M kb) → Q2 (.ref pa) (.ref pb) n2.H) :
    lZ C B X.w X.K da σ H fun x H1 => lZ C B X.w X.K db σ H1 fun y H2 => Q2 x y H2 := by
  refine ⟨n, env, m, e, ok, ma _ _ _ _ (fun L m1 h1 n1 pa ka g1 l1 hp => ?_) h⟩
  obtain ⟨g2, l2, na⟩ := grow (o := setZ X.w pa L ka) g1 hp
  refine ⟨⟨n1.G, n1.al, upd n1.H pa (setZ X.w pa L ka)⟩, env, m1, rfl, ok.go g2 (l1.trans l2), mb _ _ _ _ (fun M m2 h2 n3 pb kb g3 l3 hp3 => ?_) h1⟩
  have hpa : n3.H pa = some (setZ X.w pa L ka) := l3.keepN pa _ upd_same na setZ_nt
  have hne : pa ≠ pb := fun z => by rw [z, hp3] at hpa; cases hpa
  obtain ⟨g4, l4, _⟩ := grow (o := setZ X.w pb M kb) g3 hp3
  exact h2 ⟨n3.G, n3.al, upd n3.H pb (setZ X.w pb M kb)⟩ pa pb ka kb g4 (((l1.trans l2).trans l3).trans l4) hne (by show upd n3.H pb _ pa = _; rw [upd_ne hne]; exact hpa) upd_same
def zDiff (L M : List Int) : List Int := L.filter fun j => !decide (j ∈ M)
theorem dz_sub (ha : DZ X C B a da) (hb : DZ X C B b db) : DZ X C B (.BinOp a .Sub b pos) (zOp zDiff da db) := by
  refine ⟨zOp.mono ha.mono hb.mono, imp (pe_op op_subZ ha.run hb.run) ?_⟩
  rintro σ H Q ⟨n, env, m, rfl, ok, h⟩
  refine two_sets ha.mono hb.mono rfl ok (ha.mono _ _ _ _ (fun L m1 h1 => hb.mono _ _ _ _ (fun M m2 h2 n2 pa pb ka kb g l hne e1 e2 => ?_) h1) h)
  exact ⟨pa, pb, L, M, ka, kb, rfl, rfl, hne, e1, e2, h2.1, fun p k hp => h2.2 n2 p k g l hp⟩
theorem dEqZ.mono {g : Bool → Bool} (ha : MonoZ da) (hb : MonoZ db) : MonoD (dEqZ g da db) := fun env m Q Q' i => ha _ _ _ _ fun L m1 => hb _ _ _ _ fun M m2 => i _ _
theorem teqz_imp {g : Bool → Bool} (ha : MonoZ da) (hb : MonoZ db) : ∀ σ H Q, lB C B X.w X.K (dTst (dEqZ g da db)) σ H Q → tTest (tOp (rEqZ X.w g) (lZ C B X.w X.K da) (lZ C B X.w X.K db)) σ H Q := by
  rintro σ H Q ⟨n, env, m, rfl, ok, h⟩
  refine two_sets (Q2 := fun x y H2 => rEqZ X.w g x y H2 (fun v H' => ∃ c, v = .bl c ∧ Q c H')) ha hb rfl ok (ha _ _ _ _ (fun L m1 h1 => hb _ _ _ _ (fun M m2 h2 n2 pa pb ka kb g2 l hne e1 e2 => ?_) h1) h)
  exact ⟨pa, pb, L, M, ka, kb, rfl, rfl, e1, e2, _, rfl, h2 n2 g2 l⟩
theorem dt_eqZ (hr : X.A.units < cLine) (ha : DZ X C B a da) (hb : DZ X C B b db) (hm : behindInMarks .Eq b = false := by first | exact nomark _ | rfl) : DT X C B (.Compare a [.Eq] [b] pos) (dTst (dEqZ id da db)) :=
  ⟨dTst.mono (dEqZ.mono ha.mono hb.mono), impT (pt_cmpR (op_eqZ hr) ha.run hb.run hm) (teqz_imp ha.mono hb.mono)⟩
theorem dt_eqZR {k : Nat} (hr : Room k X.A) (ha : DZ X C B a da) (hb : DZ X C B b db) (hm : behindInMarks .Eq b = false := by first | exact nomark _ | rfl) : DT X C B (.Compare a [.Eq] [b] pos) (dTst (dEqZ id da db)) := dt_eqZ (by have := rm hr; omega) ha hb hm
end
end DL

set_option maxHeartbeats 1000000
namespace DL
open PySem PySem.Spec PyProof.Rows L2
abbrev TPk := Env' → Mem → (List Pk → Mem → Prop) → Prop
def MonoPk (d : TPk) : Prop := ∀ env m (Q Q' : List Pk → Mem → Prop), (∀ x m', Q x m' → Q' x m') → d env m Q → d env m Q'
section
variable (C : Ct) (w : World) (K : PySem.W.Frag)
def lPk (B : Nw) (d : TPk) : TA := fun σ H Q => ∃ n env m, n.H = H ∧ Ok C w K B n env m σ ∧ d env m fun ps m' => ∀ n' vs, Good C w K n' m' → n.le n' → PksOk C w K n n' env σ vs ps → Q vs n'.H
end
structure DPk (X : Cx) (C : Ct) (B : Nw) (es : List Expr) (d : TPk) : Prop where
  mono : MonoPk d
  run : PA X es (lPk C X.w X.K B d)
section
variable {C : Ct} {w : World} {K : PySem.W.Frag} {n n1 n' n'' : Nw} {env : Env'} {σ : L2.St}
theorem PkOk.back {v x} (h : PkOk C w K n1 n' env σ v x) (l : n.le n1) : PkOk C w K n n' env σ v x := by
  cases x with
  | slot i => exact h
  | new xs => obtain ⟨p, e, o⟩ := h; exact ⟨p, e, o.ok, o.g, o.al, l.base o.new⟩
theorem PksOk.back {vs xs} (h : PksOk C w K n1 n' env σ vs xs) (l : n.le n1) : PksOk C w K n n' env σ vs xs := by
  induction h with
  | nil => exact .nil
  | cons a _ ih => exact .cons (a.back l) ih
end
def pkNil : TPk := fun _ m Q => Q [] m
def pkSlot (i : Nat) (r : TPk) : TPk := fun env m Q => match env[i]? with
  | some (some (.own (.lst _))) => r env m fun ps m1 => Q (.slot i :: ps) m1
  | _ => False
def pkNew (d : TN) (r : TPk) : TPk := fun env m Q => d env m fun xs m1 => r env m1 fun ps m2 => Q (.new xs :: ps) m2
def sPick (j : Nat) (dp : TPk) (di : TD) : TSd := fun D env m => dp env m fun ps m1 => ps.length ≤ sizeLine ∧ di env m1 fun x m2 => match x with
  | .f (.int k) => match ixN ps.length k with
    | some t => match ps[t]? with
      | some (.slot i) => match env[i]? with
        | some (some (.own (.lst xs))) => D.nx ((env.set i none).set j (some (.own (.lst xs)))) m2
        | _ => False
      | some (.new xs) => D.nx (env.set j (some (.own (.lst xs)))) m2
      | none => False
    | none => False
  | _ => False
section
variable {X : Cx} {C : Ct} {B : Nw} {e o i : Expr} {es : List Expr} {d : TPk} {dn : TN} {di : TD} {pos : Pos}
theorem pk_nil : DPk X C B [] pkNil := ⟨fun _ _ _ _ i => i _ _, impA pa_nil (by
  rintro σ H Q ⟨n, env, m, rfl, ok, h⟩
  exact h n [] ok.good (.refl _) .nil)⟩
theorem pk_slot (j : Nat) {x : Str} {p : Pos} (hr : DPk X C B es d) (hN : X.N[j]? = some x := by rfl) (hv : Vis X.env.scope x := by first | exact Or.inl rfl | exact Or.inr (Or.inl rfl) | exact Or.inr (Or.inr rfl)) (hd : (x == ("__debug__" : Str)) = false := by decide)
    (hcd : (x == ("__classdict__" : Str)) = false := by decide) (hs : starEach (.Name x p :: es) X.env = (false, eval (.Name x p) X.env) :: starEach es X.env := by rfl) : DPk X C B (.Name x p :: es) (pkSlot j d) := by
  refine ⟨fun env m Q Q' i h => ?_, impA (pa_cons (pe_var (pos := p) hN hv hd hcd) hr.run hs) ?_⟩
  · unfold pkSlot at h ⊢
    split at h
    · exact hr.mono _ _ _ _ (fun _ _ => i _ _) h
    · exact h
  rintro σ H Q ⟨n, env, m, rfl, ok, h⟩
  unfold pkSlot at h
  split at h
  · rename_i xs hx
    obtain ⟨a, e1, h1⟩ := ok.env.own j _ hx
    refine ⟨_, e1, n, env, m, rfl, ok, hr.mono _ _ _ _ (fun ps m1 h1 n' vs g l z => ?_) h⟩
    exact h1 n' _ g l (.cons ⟨xs, hx, e1⟩ z)
  · exact h.elim
theorem pk_new (he : DN X C B e dn) (hr : DPk X C B es d) (hs : starEach (e :: es) X.env = (false, eval e X.env) :: starEach es X.env := by rfl) : DPk X C B (e :: es) (pkNew dn d) := by
  refine ⟨fun env m Q Q' i h => he.mono _ _ _ _ (fun xs m1 h1 => hr.mono _ _ _ _ (fun _ _ => i _ _) h1) h, impA (pa_cons he.run hr.run hs) ?_⟩
  rintro σ H Q ⟨n, env, m, rfl, ok, h⟩
  refine ⟨n, env, m, rfl, ok, he.mono _ _ _ _ (fun xs m1 h1 n1 p vs g1 l1 hp hz => ?_) h⟩
  obtain ⟨g2, l2, na⟩ := grow (o := .lst vs) g1 hp
  have hg : n1.G p = none := (g1.free hp).1
  refine ⟨⟨n1.G, n1.al, upd n1.H p (.lst vs)⟩, env, m1, rfl, ok.go g2 (l1.trans l2), hr.mono _ _ _ _ (fun ps m2 h2 n3 us g3 l3 z => ?_) h1⟩
  have own : OwnAt C X.w X.K n ⟨n1.G, n1.al, upd n1.H p (.lst vs)⟩ p (.lst xs) := ⟨⟨vs, upd_same, hz⟩, hg, na, l1.base hp⟩
  exact h2 n3 _ g3 ((l1.trans l2).trans l3) (.cons ⟨p, rfl, own.le l3⟩ (z.back (l1.trans l2)))
theorem EnvOk.drop {w : World} {K : PySem.W.Frag} {n : Nw} {env : Env'} {σ : L2.St} (h : EnvOk C w K B n env σ) (i : Nat) : EnvOk C w K B n (env.set i none) σ := by
  have back : ∀ {j : Nat} {y : Sl}, (env.set i none)[j]? = some (some y) → env[j]? = some (some y) ∧ i ≠ j := by
    intro j y e
    by_cases hj : i = j
    · subst hj
      by_cases hl : i < env.length
      · rw [List.getElem?_set_self hl] at e; cases e
      · rw [List.getElem?_eq_none (by simpa using hl)] at e; cases e
    · rw [List.getElem?_set_ne hj] at e; exact ⟨e, hj⟩
  exact ⟨by simp [h.len], fun j d e => h.fz j d (back e).1, fun j x e => h.own j x (back e).1, fun j k x y a e1 e2 f1 f2 => h.apart j k x y a (back e1).1 (back e2).1 f1 f2⟩
theorem sPick.mono {j : Nat} (hd : MonoPk d) (hi : MonoD di) : MonoS (sPick j d di) := fun env m D D' l h => hd _ _ _ _ (fun ps m1 h1 => ⟨h1.1, hi _ _ _ _ (fun x m2 h2 => by
  try dsimp only at h2 ⊢
  split at h2
  · split at h2
    · split at h2
      · split at h2
        · exact l.nx _ _ h2
        · exact h2
      · exact l.nx _ _ h2
      · exact h2
    · exact h2
  · exact h2) h1.2⟩) h
theorem ds_pick {j : Nat} {x : Str} {pos' lp ip : Pos} (hN : X.N.Nodup) (hd : DPk X C B es d) (hi : DE X C B i di) (hj : X.N[j]? = some x := by rfl) (hx : Loc X.env.scope x := by first | exact .inl rfl | exact .inr rfl)
    (hs : swapsWith (.Subscript (.List es lp) i ip) (some (.Name x pos')) pos.line X.env = pure false := by rfl) (hp : PlainIx i := by exact fun _ _ => rfl) (hf : X.fn x = true ∨ X.env.scope.names.lookup x = some .local := by first | exact .inl rfl | exact .inr rfl) :
    DS X C B (.Assign [.Name x pos'] (.Subscript (.List es lp) i ip) pos) (sPick j d di) := by
  refine ⟨sPick.mono hd.mono hi.mono, impS (ps_set hN hj hx (pe_ix ix_list (pe_lst hd.run) hi.run hp) hs hf) ?_⟩
  rintro D σ H ⟨n, env, m, rfl, ok, h⟩
  refine ⟨n, env, m, rfl, ok, hd.mono _ _ _ _ (fun ps m1 h1 n1 vs g1 l1 z => ?_) h⟩
  have zl := z.length
  refine ⟨by rw [zl]; exact h1.1, fun q hq => ?_⟩
  obtain ⟨g2, l2, nq⟩ := grow (o := .lst vs) g1 hq
  refine ⟨⟨n1.G, n1.al, upd n1.H q (.lst vs)⟩, env, m1, rfl, ok.go g2 (l1.trans l2), hi.mono _ _ _ _ (fun x m2 h2 n3 v3 g3 l3 lx => ?_) h1.2⟩
  have hq3 : n3.H q = some (.lst vs) := l3.keepN q _ upd_same nq (fun ps z => nomatch z)
  have z3 := z.le (l2.trans l3)
  have lA := (l1.trans l2).trans l3
  have ok3 := ok.go g3 lA
  split at h2
  · rename_i k
    have lx : FzN C X.w X.K n3 v3 (.int k) := lx
    cases lx
    split at h2
    · rename_i t ht
      split at h2
      · rename_i i0 hi0
        obtain ⟨v, e1, xs, hx1, hx2⟩ := z3.get hi0
        split at h2
        · rename_i ys hy
          obtain ⟨a, f1, o1⟩ := ok3.env.own i0 _ hy
          rw [hx2] at f1
          cases f1
          refine ⟨q, vs, k, _, rfl, rfl, .inl (.inl hq3), by unfold atI; rw [zl, ht]; exact e1, ?_⟩
          refine h2 n3 _ lA.sub ⟨g3, ok3.base, (ok3.env.drop i0).setO o1 fun j' y hj' e f => ?_⟩
          by_cases c : i0 = j'
          · subst c
            by_cases hl : i0 < env.length
            · rw [List.getElem?_set_self hl] at e; cases e
            · rw [List.getElem?_eq_none (by simpa using hl)] at e; cases e
          · rw [List.getElem?_set_ne c] at e
            exact c (ok3.env.apart i0 j' _ _ a hy e hx2 f)
        · exact h2.elim
      · rename_i xs hxs
        obtain ⟨v, e1, p, rfl, o1⟩ := z3.get hxs
        refine ⟨q, vs, k, _, rfl, rfl, .inl (.inl hq3), by unfold atI; rw [zl, ht]; exact e1, ?_⟩
        refine h2 n3 _ lA.sub ⟨g3, ok3.base, ok3.env.setO ⟨o1.ok, o1.g, o1.al, ok.base.base o1.new⟩ fun j' y hj' e f => ?_⟩
        obtain ⟨a, f', q'⟩ := ok.env.own j' y e
        rw [f] at f'
        cases f'
        exact q'.ok.there o1.new
      · exact h2.elim
    · exact h2.elim
  · exact h2.elim
end
end DL

set_option maxHeartbeats 1000000
namespace ZZ
open PySem PySem.W PySem.Calls PyProof.Rows PySem.SeqAt
section
variable {prog : Program} {w : World} {A : Around} {E : Value → Shared → Prop} {s : Shared}
end
end ZZ

set_option maxHeartbeats 1000000
namespace DL
open PySem PySem.Spec PyProof.Rows L2
def tupOk (ds : List Dat) : Prop := PySem.W.AllAlike (ds.map py) ∧ (∀ d ∈ ds, ∃ xs, d = .tup xs) ∧ ds.all (okR 30) = true
open PySem.W in
section
variable {X : Cx} {C : Ct}
end
end DL

set_option maxHeartbeats 1000000
namespace DL
open PySem PySem.Spec PyProof.Rows L2
def oMinT : OpN := fun env m xs Q => match xs with
  | [x] => match lstOf env m x with
    | some (d :: r) => tupOk (d :: r) ∧ ∀ z ∈ d :: r, py z = PySem.W.minD (py d) (r.map py) → Q z m
    | _ => False
  | _ => False
theorem oMinT.mono : MonoN oMinT := fun env m xs Q Q' i => by
  unfold oMinT
  split
  · split
    · exact fun h => ⟨h.1, fun z hz e => i _ _ (h.2 z hz e)⟩
    · exact id
  · exact id
section
variable {X : Cx} {C : Ct}
end
end DL
namespace DL
open PySem PySem.Spec PyProof.Rows L2
def oIsB (f : Bool → Bool) : Op2 := fun env m x y Q => match x, y with
  | .f (.bl a), .f (.bl b) => Q (.bl (f (decide (a = b)))) m
  | _, _ => False
theorem oIsB.mono {f : Bool → Bool} : Mono2 (oIsB f) := fun env m x y Q Q' i => by
  unfold oIsB
  split
  · exact i _ _
  · exact id
section
variable {X : Cx} {C : Ct}
end
end DL
namespace DL
open PySem PySem.Spec PyProof.Rows L2
end DL

set_option maxHeartbeats 1000000
namespace ZZ
open PySem PySem.Spec PyProof.Rows L2
variable {P : Program} {w : World} {A : Around} {E : Value → Shared → Prop} {s : Shared} {a b r : Addr} {S T : Int → Bool} {n m : Nat} {es eb er : Array (Int × Value)} {ep pb pr : Nat} {t tb tr : SetTable}
end ZZ
namespace ZZ
open PySem PySem.Spec PyProof.Rows L2
variable {P : Program} {w : World} {A : Around} {E : Value → Shared → Prop} {s : Shared} {a b r : Addr} {S T : Int → Bool} {n m : Nat} {es eb er : Array (Int × Value)} {ep pb pr : Nat} {t tb tr : SetTable}
end ZZ
namespace ZZ
open PySem PySem.Spec PyProof.Rows L2
variable {P : Program} {w : World} {A : Around} {E : Value → Shared → Prop} {s : Shared} {a b r : Addr} {S T : Int → Bool} {n m : Nat} {es eb er : Array (Int × Value)} {ep pb pr : Nat} {t tb tr : SetTable}
end ZZ

set_option maxHeartbeats 1000000
namespace DL
open PySem PySem.Spec PyProof.Rows L2 ZZ
section
variable {X : Cx} {C : Ct} {B : Nw} {a b e : Expr} {d : TD} {da db : TZ} {p pos : Pos}
def zOr (d u : TZ) : TZ := fun env m Q => d env m fun L m1 => u env m1 fun M m2 => L.length + M.length ≤ 11 ∧ Q (L ++ M) m2
theorem zOr.mono {d u : TZ} (h : MonoZ d) (h' : MonoZ u) : MonoZ (zOr d u) := fun env m Q Q' i => h _ _ _ _ fun L m1 h1 => h' _ _ _ _ (fun M m2 h2 => ⟨h2.1, i _ _ h2.2⟩) h1
end
end DL

set_option maxHeartbeats 1000000
namespace DL
open PySem PySem.Spec PyProof.Rows L2
section
variable {X : Cx} {C : Ct} {B : Nw}
end
end DL

set_option maxHeartbeats 1000000
namespace DL
open PySem PySem.Spec PyProof.Rows L2
def oLeT : Op2 := fun env m x y Q => match x, y with
  | .f a, .f b => (PySem.W.alike (py a) (py b) = true ∧ py a ≠ .none ∧ okR 30 a = true ∧ okR 30 b = true) ∧ Q (.bl (!PySem.W.dataLt (py b) (py a))) m
  | _, _ => False
theorem oLeT.mono : Mono2 oLeT := fun env m x y Q Q' i => by
  unfold oLeT
  split
  · exact fun h => ⟨h.1, i _ _ h.2⟩
  · exact id
section
variable {X : Cx} {C : Ct}
end
end DL

set_option maxHeartbeats 1000000
namespace DL
open PySem PySem.Spec PyProof.Rows L2
def dGetI (d : TD) (da : TAd) : TD := fun env m Q => d env m fun x m1 => match iDct env m1 x with
  | some _ => da env m1 fun ls m2 => match iDct env m2 x, ls with
    | some kvs, [.f (.int k), .f z] => (kvs.map (·.1)).Nodup ∧ Q (.f ((getI kvs k).getD z)) m2
    | _, _ => False
  | none => False
theorem dGetI.mono {d : TD} {da : TAd} (hd : MonoD d) (ha : MonoA da) : MonoD (dGetI d da) := fun env m Q Q' i h => hd _ _ _ _ (fun x m1 h1 => by
  split at h1
  · refine ha _ _ _ _ (fun ls m2 h2 => ?_) h1
    split at h2
    · exact ⟨h2.1, i _ _ h2.2⟩
    · exact h2
  · exact h1) h
section
variable {X : Cx} {C : Ct} {B : Nw} {k : Nat} {o e : Expr} {es : List Expr} {d : TD} {da : TAd} {apos cpos : Pos}
end
end DL

set_option maxHeartbeats 1000000
namespace DL
open PySem PySem.Spec PyProof.Rows L2
section
variable {X : Cx} {C : Ct} {B : Nw} {pos : Pos}
end
end DL

set_option maxHeartbeats 2000000
namespace DL
open PySem PySem.Spec PyProof.Rows L2 LamX
section
variable {X : Cx} {C : Ct}
end
end DL

set_option maxHeartbeats 1000000
namespace DL
open PySem PySem.Spec PyProof.Rows L2
section
variable {X : Cx} {C : Ct} {B : Nw} {pos : Pos}
end
end DL

set_option maxHeartbeats 1000000
namespace DL
open PySem PySem.Spec PyProof.Rows L2
section
variable {X : Cx} {C : Ct} {B : Nw} {pos : Pos}
end
end DL

set_option maxHeartbeats 1000000
namespace DL
open PySem PySem.Spec PyProof.Rows L2
section
variable {X : Cx} {C : Ct}
end
end DL

set_option maxHeartbeats 1000000
namespace DL
open PySem PySem.Spec PyProof.Rows L2
section
variable {X : Cx} {C : Ct} {B : Nw} {e o i : Expr} {d de di : TD} {pos apos cpos : Pos}
def dIdxD (d di : TD) : TD := fun env m Q => d env m fun x m1 => match lstOf env m1 x with
  | some _ => di env m1 fun y m2 => match lstOf env m2 x, y with
    | some xs, .f v => okN 60 (.lst xs) = true ∧ okN 60 v = true ∧ (∃ (j : Nat) (z : Dat), xs[j]? = some z ∧ eqd z v = true ∧ (∀ (p : Nat) (z' : Dat), p < j → xs[p]? = some z' → eqd z' v = false) ∧ Q (.f (.int (j : Nat))) m2)
    | _, _ => False
  | none => False
theorem dIdxD.mono (hd : MonoD d) (hi : MonoD di) : MonoD (dIdxD d di) := fun env m Q Q' l h => hd _ _ _ _ (fun x m1 h1 => by
  try dsimp only at h1 ⊢
  split at h1
  · refine hi _ _ _ _ (fun y m2 h2 => ?_) h1
    try dsimp only at h2 ⊢
    split at h2
    · obtain ⟨a, b, j, z, h3, h4, h5, h6⟩ := h2
      exact ⟨a, b, j, z, h3, h4, h5, l _ _ h6⟩
    · exact h2
  · exact h1) h
end
end DL

set_option maxHeartbeats 1000000
namespace DL
open PySem PySem.Spec PyProof.Rows L2
def pDef (dvs : List Dat) (p : DSp) : DSp := fun ds m Q E => p (ds ++ dvs) m Q E
theorem pDef.mono {dvs : List Dat} {p : DSp} (h : MonoP p) : MonoP (pDef dvs p) := fun ds m Q Q' E E' i j q => h _ _ _ _ _ _ i j q
def dSnoc (da : TAd) (dk : TD) : TAd := fun env m Q => da env m fun xs m1 => dk env m1 fun y m2 => Q (xs ++ [y]) m2
theorem dSnoc.mono {da : TAd} {dk : TD} (ha : MonoA da) (hk : MonoD dk) : MonoA (dSnoc da dk) := fun env m Q Q' i h => ha _ _ _ _ (fun xs m1 h1 => hk _ _ _ _ (fun y m2 h2 => i _ _ h2) h1) h
theorem LvsOk.snoc {C : Ct} {w : World} {K : PySem.W.Frag} {n : Nw} {env : Env'} {σ : L2.St} {vs : List V} {xs : List Lv} {u : V} {y : Lv} (h : LvsOk C w K n env σ vs xs) (hy : LvOk C w K n env σ u y) : LvsOk C w K n env σ (vs ++ [u]) (xs ++ [y]) := by
  induction h with
  | nil => exact .cons hy .nil
  | cons a _ ih => exact .cons a ih
section
variable {X : Cx} {CX : CXT} {C : Ct} {B : Nw} {j k n : Nat} {f : Addr} {fd : FuncData} {ps ks : List Str} {sp : Sp} {E : L2.St → XK} {x kx : Str} {p1 pos kpos : Pos} {e ek : Expr} {es : List Expr} {kws : List Keyword} {t tk : TA} {g : List Value → List Value → List Value} {gV : List V → List V → List V} {p : DSp} {EX : QXe} {da : TAd} {dk : TD} {i : Int}
end
theorem pGhE.mono {γ : Type} {n pre post posE} : MonoP (pGhE (γ := γ) n pre post posE) := fun ds m Q Q' E E' i j ⟨h1, g, h2, h3, h4⟩ => ⟨h1, g, h2, fun r m' q => i _ _ (h3 r m' q), fun c xs m' q => j _ _ _ (h4 c xs m' q)⟩
end DL

set_option maxHeartbeats 1000000
namespace DL
open PySem PySem.Spec PyProof.Rows L2

theorem lc_map {i : Nat} {de : TD} {env : Env'} {f : Dat → Dat} : ∀ {xs : List Dat} {m : Mem} {Q : List Dat → Mem → Prop}, (∀ x ∈ xs, ∀ Q : QL, Q (.f (f x)) m → de (env.set i (some (.f x))) m Q) → Q (xs.map f) m → lcGo (.nm i) dYes de env xs m Q
  | [], m, Q, _, h => h
  | x :: xs, m, Q, hd, h => by
    unfold lcGo
    refine hd x (by simp) _ ?_
    exact lc_map (Q := fun ds m' => Q (f x :: ds) m') (fun y hy => hd y (by simp [hy])) h
theorem lc_filter {i : Nat} {dt : TB} {de : TD} {env : Env'} {f : Dat → Dat} {g : Dat → Bool} : ∀ {xs : List Dat} {m : Mem} {Q : List Dat → Mem → Prop}, (∀ x ∈ xs, ∀ Q : Bool → Mem → Prop, Q (g x) m → dt (env.set i (some (.f x))) m Q) → (∀ x ∈ xs, g x = true → ∀ Q : QL, Q (.f (f x)) m → de (env.set i (some (.f x))) m Q) →
    Q ((xs.filter g).map f) m → lcGo (.nm i) dt de env xs m Q
  | [], m, Q, _, _, h => h
  | x :: xs, m, Q, ht, hd, h => by
    unfold lcGo
    refine ht x (by simp) _ ?_
    cases hg : g x with
    | true =>
      rw [if_pos rfl]
      refine hd x (by simp) hg _ ?_
      refine lc_filter (g := g) (f := f) (Q := fun ds m' => Q (f x :: ds) m') (fun y hy => ht y (by simp [hy])) (fun y hy => hd y (by simp [hy])) ?_
      rw [List.filter_cons_of_pos hg] at h
      exact h
    | false =>
      rw [if_neg (by decide)]
      refine lc_filter (g := g) (f := f) (fun y hy => ht y (by simp [hy])) (fun y hy => hd y (by simp [hy])) ?_
      rw [List.filter_cons_of_neg (by simp [hg])] at h
      exact h
theorem all_int {k : Nat} : ∀ ns : List Int, (ns.map Dat.int).all (okN k) = true
  | [] => rfl
  | n :: ns => by
    have h : okN k (.int n) = true := by cases k <;> rfl
    rw [List.map_cons, List.all_cons, h, all_int ns]
    rfl
theorem all_intR {k : Nat} : ∀ ns : List Int, (∀ n ∈ ns, n.natAbs.log2 < 1920) → (ns.map Dat.int).all (okR k) = true
  | [], _ => rfl
  | n :: ns, h => by
    have h1 : okR k (.int n) = true := by
      have := h n (by simp)
      cases k <;> exact decide_eq_true this
    rw [List.map_cons, List.all_cons, h1, all_intR ns fun x hx => h x (by simp [hx])]
    rfl
theorem der_ok60 {k : Nat} {env : Env'} {m : Mem} {a : Dat} (h : okN k a = true) : der env m (.f a) = some a := by
  cases a <;> first | rfl | (cases k <;> cases h)
theorem oEq_l {f : Bool → Bool} {env : Env'} {m : Mem} {a b : Dat} {Q : QD} (ha : okN 60 a = true) (hb : okN 60 b = true) (h : Q (.bl (f (eqd a b))) m) : oEq f env m (.f a) (.f b) Q := by
  unfold oEq
  rw [der_ok60 ha, der_ok60 hb]
  exact ⟨ha, hb, h⟩
theorem ixN_nat {n j : Nat} (h : j < n) : ixN n (j : Int) = some j := by
  unfold ixN
  rw [if_pos (by omega), if_pos (by omega)]
  simp
theorem atI0 {α : Type} (a : α) (l : List α) : atI (a :: l) 0 = some a := by
  unfold atI ixN
  rw [if_pos (by decide), if_pos (by simp only [List.length_cons]; omega)]
  rfl
theorem atI1 {α : Type} (a b : α) (l : List α) : atI (a :: b :: l) 1 = some b := by
  unfold atI ixN
  rw [if_pos (by decide), if_pos (by simp only [List.length_cons]; omega)]
  rfl
theorem atI2 {α : Type} (a b c : α) (l : List α) : atI (a :: b :: c :: l) 2 = some c := by
  unfold atI ixN
  rw [if_pos (by decide), if_pos (by simp only [List.length_cons]; omega)]
  rfl
theorem atI_nat {α : Type} {l : List α} {i : Nat} {a : α} (h : l[i]? = some a) : atI l (i : Int) = some a := by
  unfold atI
  rw [ixN_nat (List.getElem?_eq_some_iff.mp h).1]
  exact h
theorem atI_int {α : Type} {l : List α} {i : Int} (h0 : 0 ≤ i) (h1 : i < l.length) : ∃ a, atI l i = some a ∧ l[i.toNat]? = some a := by
  have hl : i.toNat < l.length := by omega
  refine ⟨l[i.toNat], ?_, List.getElem?_eq_getElem hl⟩
  have := atI_nat (l := l) (i := i.toNat) (List.getElem?_eq_getElem hl)
  rw [show ((i.toNat : Nat) : Int) = i by omega] at this
  exact this
theorem log2_lt {n k : Nat} (hk : 0 < k) (h : n < 2 ^ k) : n.log2 < k := by
  by_cases h0 : n = 0
  · subst h0; simpa using hk
  · exact (Nat.log2_lt h0).mpr h
end DL

set_option maxHeartbeats 1000000
namespace DL
open PySem PySem.Spec PyProof.Rows L2

def Ev (d : TD) (env : Env') (m : Mem) (v : Lv) : Prop := ∀ Q : QL, Q v m → d env m Q
def EvB (d : TB) (env : Env') (m : Mem) (b : Bool) : Prop := ∀ Q : Bool → Mem → Prop, Q b m → d env m Q
def EvA (d : TAd) (env : Env') (m : Mem) (vs : List Lv) : Prop := ∀ Q : List Lv → Mem → Prop, Q vs m → d env m Q
def EvN (d : TN) (env : Env') (m : Mem) (xs : List Dat) : Prop := ∀ Q : List Dat → Mem → Prop, Q xs m → d env m Q
def EvI (d : TId) (env : Env') (m : Mem) (xs : List Dat) : Prop := ∀ Q : List Dat → Mem → Prop, Q xs m → d env m Q
def EvO (d : TOd) (env : Env') (m : Mem) (i : Option Int) : Prop := ∀ Q : Option Int → Mem → Prop, Q i m → d env m Q
def Ev1 (f : Op1) (env : Env') (m : Mem) (x : Lv) (z : Dat) : Prop := ∀ Q : QD, Q z m → f env m x Q
def Ev2 (f : Op2) (env : Env') (m : Mem) (x y : Lv) (z : Dat) : Prop := ∀ Q : QD, Q z m → f env m x y Q
section
variable {env : Env'} {m : Mem} {d da db : TD} {v x y : Lv} {z : Dat} {b : Bool}
theorem Ev.use (h : Ev d env m v) {Q : QL} (q : Q v m) : d env m Q := h Q q
theorem Ev.eq {w : Lv} (h : Ev d env m v) (e : v = w) : Ev d env m w := e ▸ h
theorem EvB.eq {p : TB} {c : Bool} (h : EvB p env m b) (e : b = c) : EvB p env m c := e ▸ h
theorem EvN.eq {p : TN} {xs ys : List Dat} (h : EvN p env m xs) (e : xs = ys) : EvN p env m ys := e ▸ h
theorem EvI.eq {p : TId} {xs ys : List Dat} (h : EvI p env m xs) (e : xs = ys) : EvI p env m ys := e ▸ h
theorem ev_c {a : Dat} : Ev (dC a) env m (.f a) := fun _ q => q
theorem ev_v {i : Nat} {a : Dat} (e : env[i]? = some (some (.f a)) := by rfl) : Ev (dVar i) env m (.f a) := fun Q q => by unfold dVar; rw [e]; exact q
theorem ev_o {i : Nat} {a : Mo} (e : env[i]? = some (some (.own a)) := by rfl) : Ev (dVar i) env m (.o i) := fun Q q => by unfold dVar; rw [e]; exact q
theorem ev_bin {f : Op2} (ha : Ev da env m x) (hb : Ev db env m y) (hf : Ev2 f env m x y z) : Ev (dBin f da db) env m (.f z) := fun Q q => ha _ (hb _ (hf _ q))
theorem ev_un {f : Op1} (ha : Ev da env m x) (hf : Ev1 f env m x z) : Ev (dUn f da) env m (.f z) := fun Q q => ha _ (hf _ q)
theorem ev_n {f : OpN} {da : TAd} {xs : List Lv} (ha : EvA da env m xs) (hf : EvM f env m xs z) : Ev (dN f da) env m (.f z) := fun Q q => ha _ (hf _ q)
theorem eva_nil : EvA dNil env m [] := fun _ q => q
theorem eva_cons {r : TAd} {xs : List Lv} (h : Ev d env m x) (hr : EvA r env m xs) : EvA (dCons d r) env m (x :: xs) := fun Q q => h _ (hr _ q)
theorem ev_new {p : TN} {xs : List Dat} (h : EvN p env m xs) : Ev (dNew p) env m (.f (.lst xs)) := fun Q q => h _ q
theorem evn_lst {r : TAd} {ls : List Lv} {xs : List Dat} (h : EvA r env m ls) (e : frs ls = some xs) (hl : xs.length ≤ sizeLine) : EvN (nLst r) env m xs := fun Q q => h _ (by simp only [e]; exact ⟨hl, q⟩)
theorem evn_cat {xs ys : List Dat} (ha : Ev da env m x) (hb : Ev db env m y) (ea : lstOf env m x = some xs) (eb : lstOf env m y = some ys) (hl : xs.length + ys.length ≤ sizeLine) : EvN (nCat da db) env m (xs ++ ys) := fun Q q => ha _ (hb _ (by
  simp only [ea, eb]; exact ⟨hl, q⟩))
theorem evn_list {xs : List Dat} (ha : Ev da env m x) (ea : seqOf env m x = some xs) : EvN (nList da) env m xs := fun Q q => ha _ (by
  simp only [ea]; exact q)
theorem evn_sort {xs : List Dat} (ha : Ev da env m x) (ea : seqOf env m x = some xs) (hs : sortOk xs) : EvN (nSort da) env m (sortD xs) := fun Q q => ha _ (by
  simp only [ea]; exact ⟨hs, q⟩)
theorem evb_tst (h : Ev d env m (.f (.bl b))) : EvB (dTst d) env m b := fun Q q => h _ q
theorem evb_not {p : TB} (h : EvB p env m b) : EvB (dNot p) env m (!b) := fun Q q => h _ q
theorem evb_or {p q : TB} {c : Bool} (h : EvB p env m b) (h2 : b = false → EvB q env m c) : EvB (dOr p q) env m (b || c) := fun Q k => h _ (by
  cases b with
  | false => exact h2 rfl _ k
  | true => exact k)
theorem ev_and {c : Bool} (h : Ev da env m (.f (.bl b))) (h2 : b = true → Ev db env m (.f (.bl c))) : Ev (dAndV da db) env m (.f (.bl (b && c))) := fun Q k => h _ (by
  cases b with
  | true => exact h2 rfl _ k
  | false => exact k)
theorem ev_if {p : TB} {u w : Dat} (h : EvB p env m b) (h1 : b = true → Ev da env m (.f u)) (h2 : b = false → Ev db env m (.f w)) : Ev (dIf p da db) env m (.f (if b = true then u else w)) := fun Q k => h _ (by
  cases b with
  | true => exact h1 rfl _ k
  | false => exact h2 rfl _ k)
theorem e2_add {i j : Int} : Ev2 oAdd env m (.f (.int i)) (.f (.int j)) (.int (i + j)) := fun Q q => q
theorem e2_addT {xs ys : List Dat} (h : xs.length + ys.length ≤ sizeLine) : Ev2 oAdd env m (.f (.tup xs)) (.f (.tup ys)) (.tup (xs ++ ys)) := fun Q q => ⟨h, q⟩
theorem e2_i {c : Int → Int → Prop} {g : Int → Int → Dat} {i j : Int} (h : c i j) : Ev2 (oI c g) env m (.f (.int i)) (.f (.int j)) (g i j) := fun Q q => ⟨h, q⟩
theorem e2_i0 {g : Int → Int → Dat} {i j : Int} : Ev2 (oI0 g) env m (.f (.int i)) (.f (.int j)) (g i j) := fun Q q => ⟨trivial, q⟩
theorem e1_u {g : Int → Int} {i : Int} : Ev1 (oU g) env m (.f (.int i)) (.int (g i)) := fun Q q => q
theorem e2_eq {f : Bool → Bool} {x y : Lv} {a c : Dat} (ea : der env m x = some a) (ec : der env m y = some c) (ha : okN 60 a = true) (hc : okN 60 c = true) : Ev2 (oEq f) env m x y (.bl (f (eqd a c))) := fun Q q => by
  unfold oEq; rw [ea, ec]; exact ⟨ha, hc, q⟩
theorem e2_in {f : Bool → Bool} {x y : Lv} {a : Dat} {bs : List Dat} (ea : der env m x = some a) (ec : seqOf env m y = some bs) (ha : okN 60 a = true) (hb : bs.all (okN 59) = true) : Ev2 (oIn f) env m x y (.bl (f (bs.any fun b => eqd b a))) := fun Q q => by
  unfold oIn; rw [ea, ec]; exact ⟨ha, hb, q⟩
theorem e2_isn {f : Bool → Bool} {x : Lv} : Ev2 (oIsN f) env m x (.f .non) (.bl (f (isN x))) := fun Q q => q
theorem e2_ix {x : Lv} {xs : List Dat} {i : Int} {z : Dat} (ex : seqOf env m x = some xs) (h : atI xs i = some z) : Ev2 oIx env m x (.f (.int i)) z := fun Q q => by
  unfold seqOf at ex
  unfold oIx
  split at ex
  · rename_i ys e; cases ex; rw [e]; simp only [h]; exact q
  · rename_i ys e; cases ex; rw [e]; simp only [h]; exact q
  · cases ex
theorem em_tup {ls : List Lv} {xs : List Dat} (e : frs ls = some xs) (hl : xs.length ≤ sizeLine) : EvM oTup env m ls (.tup xs) := fun Q q => by
  unfold oTup; rw [e]; exact ⟨hl, q⟩
theorem em_len {x : Lv} {xs : List Dat} (e : seqOf env m x = some xs) : EvM oLen env m [x] (.int xs.length) := fun Q q => by
  unfold seqOf at e
  unfold oLen
  split at e
  · rename_i ys e2; cases e; simp only [e2]; exact q
  · rename_i ys e2; cases e; simp only [e2]; exact q
  · cases e
theorem em_bs {f : List Bool → Bool} {x : Lv} {xs : List Dat} {bs : List Bool} (e : lstOf env m x = some xs) (eb : bools xs = some bs) : EvM (oBs f) env m [x] (.bl (f bs)) := fun Q q => by
  unfold oBs
  simp only [e, eb]; exact q
theorem em_is {f : List Int → Int} {c : List Int → Prop} {x : Lv} {xs : List Dat} {ns : List Int} (e : seqOf env m x = some xs) (en : intsD xs = some ns) (h : c ns) : EvM (oIs f c) env m [x] (.int (f ns)) := fun Q q => by
  unfold oIs
  simp only [e, en]; exact ⟨h, q⟩
theorem bools_map {α : Type} (g : α → Bool) : ∀ xs : List α, bools (xs.map fun x => .bl (g x)) = some (xs.map g)
  | [] => rfl
  | x :: xs => by
    have h := bools_map g xs
    rw [List.map_cons, bools, h]; rfl
theorem intsD_map {α : Type} (g : α → Int) : ∀ xs : List α, intsD (xs.map fun x => .int (g x)) = some (xs.map g)
  | [] => rfl
  | x :: xs => by
    have h := intsD_map g xs
    rw [List.map_cons, intsD, h]; rfl
theorem ev_call {p : DSp} {EX : QXe} {da : TAd} {ls : List Lv} {ds : List Dat} {r : Dat} (ha : EvA da env m ls) (e : frs ls = some ds) (h : ∀ (Q : QD) (E : QX), Q r m → p ds m Q E) : Ev (dCall p EX da) env m (.f r) := fun Q q => ha _ (by
  simp only [e]; exact h _ _ q)
theorem evi_lst {xs : List Dat} (h : Ev d env m (.f (.lst xs))) : EvI (iVal d) env m xs := fun Q q => h _ q
theorem evi_tup {xs : List Dat} (h : Ev d env m (.f (.tup xs))) : EvI (iVal d) env m xs := fun Q q => h _ q
theorem evi_rg1 {j : Int} (h : Ev d env m (.f (.int j))) (h1 : -(2 ^ 62) ≤ j) (h2 : j < 2 ^ 62) : EvI (iRg1 d) env m ((List.range j.toNat).map fun i => .int (i : Nat)) := fun Q q => h _ ⟨h1, h2, by
  unfold rangeD; simpa using q⟩
theorem evi_rg1n {j : Nat} (h : Ev d env m (.f (.int j))) (h2 : j < 2 ^ 62) : EvI (iRg1 d) env m ((List.range j).map fun i => .int (i : Nat)) := by
  have := evi_rg1 h (by omega) (by omega)
  simpa using this
theorem zipD_map {α β : Type} (g : α → Dat) (h : β → Dat) : ∀ (xs : List α) (ys : List β), zipD (xs.map g) (ys.map h) = (xs.zip ys).map fun p => .tup [g p.1, h p.2]
  | [], _ => by rw [List.map_nil, List.zip_nil_left]; rfl
  | x :: xs, [] => rfl
  | x :: xs, y :: ys => by rw [List.map_cons, List.map_cons, zipD, zipD_map g h xs ys]; rfl
theorem evi_enum {x : List Dat} (h : Ev d env m (.f (.lst x)) ∨ Ev d env m (.f (.tup x))) : EvI (iEnumD d) env m (enumD 0 x) := fun Q q => by
  rcases h with h | h <;> exact h _ q
theorem evi_zipT {xs ys : List Dat} (h : Ev da env m (.f (.tup xs))) (h' : Ev db env m (.f (.tup ys))) : EvI (iZipD da db) env m (zipD xs ys) := fun Q q => h _ (h' _ q)
theorem lcGo_map {α : Type} {tg : Tg} {g : α → Dat} {de : TD} {env : Env'} {f : α → Dat} : ∀ {xs : List α} {m : Mem} {Q : List Dat → Mem → Prop}, (∀ x ∈ xs, ∃ env2, bind tg (.f (g x)) env = some env2 ∧ Ev de env2 m (.f (f x))) → Q (xs.map f) m → lcGo tg dYes de env (xs.map g) m Q
  | [], m, Q, _, h => h
  | x :: xs, m, Q, hd, h => by
    obtain ⟨env2, e, h1⟩ := hd x List.mem_cons_self
    rw [List.map_cons]
    unfold lcGo
    rw [e]
    exact h1 _ (lcGo_map (Q := fun ds m' => Q (f x :: ds) m') (fun y hy => hd y (List.mem_cons_of_mem _ hy)) h)
theorem lcGo_filter {α : Type} {tg : Tg} {g : α → Dat} {dt : TB} {de : TD} {env : Env'} {t : α → Bool} {f : α → Dat} : ∀ {xs : List α} {m : Mem} {Q : List Dat → Mem → Prop},
    (∀ x ∈ xs, ∃ env2, bind tg (.f (g x)) env = some env2 ∧ EvB dt env2 m (t x) ∧ (t x = true → Ev de env2 m (.f (f x)))) → Q ((xs.filter t).map f) m → lcGo tg dt de env (xs.map g) m Q
  | [], m, Q, _, h => h
  | x :: xs, m, Q, hd, h => by
    obtain ⟨env2, e, h1, h2⟩ := hd x List.mem_cons_self
    rw [List.map_cons]
    unfold lcGo
    rw [e]
    refine h1 _ ?_
    cases ht : t x with
    | true =>
      rw [if_pos rfl]
      refine h2 ht _ ?_
      refine lcGo_filter (t := t) (f := f) (Q := fun ds m' => Q (f x :: ds) m') (fun y hy => hd y (List.mem_cons_of_mem _ hy)) ?_
      rw [List.filter_cons_of_pos ht] at h
      exact h
    | false =>
      rw [if_neg (by decide)]
      refine lcGo_filter (t := t) (f := f) (fun y hy => hd y (List.mem_cons_of_mem _ hy)) ?_
      rw [List.filter_cons_of_neg (by simp [ht])] at h
      exact h
theorem evn_lc {α : Type} {tg : Tg} {g f : α → Dat} {de : TD} {vs : List Nat} {di : TId} {xs : List α} {ys : List Dat} (hi : EvI di env m ys) (e : ys = xs.map g) (hl : xs.length ≤ sizeLine)
    (h : ∀ x ∈ xs, ∃ env2, bind tg (.f (g x)) (wipeE env vs) = some env2 ∧ Ev de env2 m (.f (f x))) : EvN (nLc tg dYes de vs di) env m (xs.map f) := fun Q q => hi _ (by
  subst e
  exact ⟨by simpa using hl, lcGo_map h q⟩)
theorem evn_lcf {α : Type} {tg : Tg} {g f : α → Dat} {t : α → Bool} {dt : TB} {de : TD} {vs : List Nat} {di : TId} {xs : List α} {ys : List Dat} (hi : EvI di env m ys) (e : ys = xs.map g) (hl : xs.length ≤ sizeLine)
    (h : ∀ x ∈ xs, ∃ env2, bind tg (.f (g x)) (wipeE env vs) = some env2 ∧ EvB dt env2 m (t x) ∧ (t x = true → Ev de env2 m (.f (f x)))) : EvN (nLc tg dt de vs di) env m ((xs.filter t).map f) := fun Q q => hi _ (by
  subst e
  exact ⟨by simpa using hl, lcGo_filter h q⟩)
theorem evo_no : EvO dNo env m none := fun _ q => q
theorem evo_p {i : Int} (h : Ev d env m (.f (.int i))) : EvO (dPart d) env m (some i) := fun Q q => h _ q
theorem ev_slL {lo hi : TOd} {a c : Option Int} {xs : List Dat} (h : Ev d env m x) (hl : EvO lo env m a) (hh : EvO hi env m c) (e : der env m x = some (.lst xs)) : Ev (dSl d lo hi) env m (.f (.lst (cutD xs a c))) := fun Q q => h _ (hl _ (hh _ (by
  simp only [e]; exact q)))
theorem ev_slT {lo hi : TOd} {a c : Option Int} {xs : List Dat} (h : Ev d env m x) (hl : EvO lo env m a) (hh : EvO hi env m c) (e : der env m x = some (.tup xs)) : Ev (dSl d lo hi) env m (.f (.tup (cutD xs a c))) := fun Q q => h _ (hl _ (hh _ (by
  simp only [e]; exact q)))
theorem ev_backT {xs : List Dat} (h : Ev d env m x) (e : der env m x = some (.tup xs)) : Ev (dBack d) env m (.f (.tup xs.reverse)) := fun Q q => h _ (by simp only [e]; exact q)
end
section
variable {D : En} {env : Env'} {m : Mem} {d : TD} {v : Lv} {a : Dat}
theorem st_seq {s t : TSd} (h : s { D with nx := t D } env m) : sSeq s t D env m := h
theorem st_set {i : Nat} (h : Ev d env m (.f a)) (k : D.nx (env.set i (some (.f a))) m) : sAsg (.nm i) d D env m := h _ k
theorem st_ret (h : Ev d env m (.f a)) (k : D.rt a m) : sRet d D env m := h _ k
theorem st_if {c : TB} {s t : TSd} {b : Bool} (h : EvB c env m b) (k1 : b = true → s D env m) (k2 : b = false → t D env m) : sIf c s t D env m := h _ (by
  cases b with
  | true => exact k1 rfl
  | false => exact k2 rfl)
theorem st_ifT {c : TB} {s t : TSd} (h : EvB c env m true) (k : s D env m) : sIf c s t D env m := h _ k
theorem st_ifF {c : TB} {s t : TSd} (h : EvB c env m false) (k : t D env m) : sIf c s t D env m := h _ k
theorem st_app {i : Nat} {xs : List Dat} {de : TD} {z : Dat} (e : env[i]? = some (some (.own (.lst xs)))) (h : Ev de env m (.f z)) (hl : xs.length < sizeLine) (k : D.nx (env.set i (some (.own (.lst (xs ++ [z]))))) m) : sApp (dVar i) de D env m := by
  unfold sApp
  refine ev_o e _ ?_
  have em : moOf env m (.o i) = some (.lst xs) := by unfold moOf; simp only [e]
  simp only [em]
  refine h _ ?_
  simp only [em]
  exact ⟨hl, k⟩
end
end DL

set_option maxHeartbeats 1000000
namespace DL.S
open PySem PySem.Spec PyProof.Rows L2 DL
def rd_law_deck (C : Ct)  (EX : QXe) : TSd :=
  (sSeq (sAsg (.nm 1) (dNew (nLc (.nm 2) dYes (dN (oN1 fAbs) (dCons (dVar 2) dNil)) [2] (iVal (dVar 0)))))
  (sRet (dShr (nLst (dCons (dShr (nLc (.nm 2) (dTst (dBin oGe (dVar 2) (dBin oPow (dC (.int 10)) (dC (.int 18))))) (dVar 2) [2] (iVal (dVar 1)))) (dCons (dNew (nCat (dVar 1) (dNew (nLst (dCons (dBin oAdd (dN oLen (dCons (dVar 1) dNil)) (dC (.int 5))) dNil))))) (dCons (dC (.int 0)) dNil)))))))
def rd_law_next (C : Ct)  (EX : QXe) : TSd :=
  (sSeq (sWhile (dTst (dBin (oEq not) (dBin oIx (dVar 0) (dC (.int 0))) (dNew (nLst dNil))))
  (sSeq (sAsg (.nm 5) (dBin oIx (dBin oIx (dVar 0) (dC (.int 0))) (dC (.int 0))))
  (sSeq (sIf (dTst (dBin oGt (dVar 5) (dC (.int 0))))
  (sSeq (sSetI (dBin oFdiv (dVar 5) (dVar 1)) (dBin oIx (dVar 0) (dC (.int 0))) (dC (.int 0)))
  (sRet (dBin oMod (dN (oN1 fInt) (dCons (dVar 5) dNil)) (dVar 1))))
  sNext)
  (sPop0 (dBin oIx (dVar 0) (dC (.int 0)))))))
  (sSeq (sSetI (dBin oAdd (dBin oIx (dVar 0) (dC (.int 2))) (dC (.int 1))) (dVar 0) (dC (.int 2)))
  (sSeq (sAsg (.nm 2) (dBin oIx (dVar 0) (dC (.int 2))))
  (sSeq (sAsg (.nm 3) (dBin oMod (dN (oN1 fInt) (dCons (dBin oIx (dBin oIx (dVar 0) (dC (.int 1))) (dBin oMod (dN (oN1 fInt) (dCons (dVar 2) dNil)) (dN oLen (dCons (dBin oIx (dVar 0) (dC (.int 1))) dNil)))) dNil)) (dC (.int 2147483629))))
  (sSeq (sAsg (.nm 4) (dBin oMod (dN (oN1 fInt) (dCons (dBin oAdd (dBin oAdd (dBin oMul (dVar 3) (dBin oAdd (dC (.int 50331)) (dBin oMul (dC (.int 68111)) (dVar 2)))) (dBin oMul (dBin oMul (dC (.int 41287)) (dVar 2)) (dVar 2))) (dC (.int 19))) dNil)) (dC (.int 2147483587))))
  (sRet (dBin oMod (dBin oFdiv (dBin oMod (dN (oN1 fInt) (dCons (dBin oMul (dVar 4) (dVar 4)) dNil)) (dC (.int 2147483579))) (dC (.int 16))) (dVar 1))))))))
def rd_law_same (C : Ct) (p_law_same : DSp) (EX : QXe) : TSd :=
  (sSeq (sIf (dTst (dN (oIsi C) (dCons (dVar 1) (dCons (dN oTup (dCons (dC (.ty "tuple")) (dCons (dC (.ty "list")) dNil))) dNil))))
  (sSeq (sIf (dOr (dTst (dBin (oEq not) (dN (oIsi C) (dCons (dVar 1) (dCons (dC (.ty "tuple")) dNil))) (dN (oIsi C) (dCons (dVar 0) (dCons (dC (.ty "tuple")) dNil))))) (dTst (dBin (oEq not) (dN (oIsi C) (dCons (dVar 1) (dCons (dC (.ty "list")) dNil))) (dN (oIsi C) (dCons (dVar 0) (dCons (dC (.ty "list")) dNil))))))
  (sRet (dC (.bl false)))
  sNext)
  (sRet (dAndV (dBin (oEq id) (dN oLen (dCons (dVar 0) dNil)) (dN oLen (dCons (dVar 1) dNil))) (dN (oBs fun bs => bs.all id) (dCons (dNew (nLc (.tp [2, 3]) dYes (dCall p_law_same EX0 (dCons (dVar 2) (dCons (dVar 3) dNil))) [2, 3] (iZipD (dVar 0) (dVar 1)))) dNil)))))
  sNext)
  (sSeq (sIf (dTst (dBin (oIsN id) (dVar 1) (dC .non)))
  (sRet (dBin (oIsN id) (dVar 0) (dC .non)))
  sNext)
  (sSeq (sIf (dTst (dN (oIsi C) (dCons (dVar 1) (dCons (dC (.ty "str")) dNil))))
  (sRet (dAndV (dN (oIsi C) (dCons (dVar 0) (dCons (dC (.ty "str")) dNil))) (dBin (oEq id) (dVar 0) (dVar 1))))
  sNext)
  (sSeq (sIf (dOr (dTst (dN (oIsi C) (dCons (dVar 1) (dCons (dC (.ty "bool")) dNil)))) (dTst (dN (oIsi C) (dCons (dVar 0) (dCons (dC (.ty "bool")) dNil)))))
  (sRet (dAndV (dN (oIsi C) (dCons (dVar 0) (dCons (dC (.ty "bool")) dNil))) (dAndV (dN (oIsi C) (dCons (dVar 1) (dCons (dC (.ty "bool")) dNil))) (dBin (oEq id) (dVar 0) (dVar 1)))))
  sNext)
  (sSeq (sIf (dTst (dN (oIsi C) (dCons (dVar 1) (dCons (dC (.ty "int")) dNil))))
  (sRet (dAndV (dN (oIsi C) (dCons (dVar 0) (dCons (dC (.ty "int")) dNil))) (dBin (oEq id) (dVar 0) (dVar 1))))
  sNext)
  (sRet (dAndV (dN (oIsi C) (dCons (dVar 1) (dCons (dC (.ty "dict")) dNil))) (dAndV (dN (oIsi C) (dCons (dVar 0) (dCons (dC (.ty "dict")) dNil))) (dBin (oEq id) (dN oRepr (dCons (dVar 0) dNil)) (dN oRepr (dCons (dVar 1) dNil)))))))))))
def rd_law_whole (C : Ct)  (EX : QXe) : TSd :=
  (sRet (dAndV (dN (oIsi C) (dCons (dVar 0) (dCons (dC (.ty "int")) dNil))) (dNotV (dN (oIsi C) (dCons (dVar 0) (dCons (dC (.ty "bool")) dNil))))))
def rd_is_whole (C : Ct)  (EX : QXe) : TSd :=
  (sRet (dAndV (dN (oIsi C) (dCons (dVar 0) (dCons (dC (.ty "int")) dNil))) (dNotV (dN (oIsi C) (dCons (dVar 0) (dCons (dC (.ty "bool")) dNil))))))
def rd_is_below (C : Ct) (p_is_whole : DSp) (EX : QXe) : TSd :=
  (sRet (dAndV (dCall p_is_whole EX0 (dCons (dVar 0) dNil)) (dChain oLe oLt (dC (.int 0)) (dVar 0) (dVar 1))))
end DL.S

set_option maxHeartbeats 1000000
namespace DL.S
open PySem PySem.Spec PyProof.Rows L2 DL

def Dk (c : Nat) (tl m : Mem) : Prop := ∃ (rest cells : List Int) (t : Nat), m = [.lst (rest.map Dat.int), .lst [.obj 0, .lst (cells.map Dat.int), .int t]] ++ tl ∧ t ≤ c ∧ cells ≠ [] ∧ cells.length ≤ 100
theorem Dk.mono {c d : Nat} {tl m : Mem} (h : Dk c tl m) (e : c ≤ d) : Dk d tl m := by
  obtain ⟨rest, cells, t, h1, h2, h3⟩ := h
  exact ⟨rest, cells, t, h1, Nat.le_trans h2 e, h3⟩
def noE : List Dat → Mem → Nat → List Dat → Mem → Prop := fun _ _ _ _ _ => False
def lim : Nat := 2 ^ 40
def p_next : DSp := pRel 2 (fun ds m => ∃ (many : Int) (c : Nat) (tl : Mem), ds = [.obj 1, .int many] ∧ 0 < many ∧ many < 2 ^ 40 ∧ Dk c tl m ∧ c < lim)
  (fun ds m r m' => ∃ (many i : Int), ds = [.obj 1, .int many] ∧ r = .int i ∧ 0 ≤ i ∧ i < many ∧ ∀ c tl, Dk c tl m → Dk (c + 1) tl m') noE
theorem okR1 (k : Nat) (i : Int) : okN k (.int i) = true := by cases k <;> rfl
theorem law_next (C : Ct) : ∀ ds m (Q : QD) (E : QX), p_next ds m Q E → rd_law_next C (fun c xs _ m => E c xs m) { nx := fun _ m => Q .non m, rt := Q } (env0 6 ds) m := by
  rintro ds m Q E ⟨_, ⟨many, c, tl, rfl, h0, h1, ⟨rest, cells, t, rfl, ht, hc, h100⟩, hlim⟩, hQ, _⟩
  have hl : many.natAbs.log2 < 9000 := Nat.lt_of_lt_of_le (log2_lt (k := 40) (by decide) (by omega)) (by decide)
  have e0 : env0 6 [.obj 1, .int many] = [some (.f (.obj 1)), some (.f (.int many)), none, none, none, none] := rfl
  rw [e0]
  unfold rd_law_next
  have loop : ∀ (cont : Env' → Mem → Prop) (bk ct : Env' → Mem → Prop) (rest : List Int) (x : Option Sl), (∀ m', (∃ rest' : List Int, m' = [Mo.lst (rest'.map Dat.int), .lst [.obj 0, .lst (cells.map Dat.int), .int t]] ++ tl) → ∀ i, 0 ≤ i → i < many → Q (.int i) m') → (∀ x, cont [some (.f (.obj 1)), some (.f (.int many)), none, none, none, x] ([Mo.lst [], .lst [.obj 0, .lst (cells.map Dat.int), .int t]] ++ tl)) →
    whGo (dTst (dBin (oEq not) (dBin oIx (dVar 0) (dC (.int 0))) (dNew (nLst dNil))))
    (sSeq (sAsg (.nm 5) (dBin oIx (dBin oIx (dVar 0) (dC (.int 0))) (dC (.int 0))))
  (sSeq (sIf (dTst (dBin oGt (dVar 5) (dC (.int 0))))
  (sSeq (sSetI (dBin oFdiv (dVar 5) (dVar 1)) (dBin oIx (dVar 0) (dC (.int 0))) (dC (.int 0)))
  (sRet (dBin oMod (dN (oN1 fInt) (dCons (dVar 5) dNil)) (dVar 1))))
  sNext)
  (sPop0 (dBin oIx (dVar 0) (dC (.int 0))))))
    { nx := cont, rt := Q, bk := bk, ct := ct } (rest.length + 1) [some (.f (.obj 1)), some (.f (.int many)), none, none, none, x] ([.lst (rest.map Dat.int), .lst [.obj 0, .lst (cells.map Dat.int), .int t]] ++ tl) := by
    intro cont bk ct rest
    induction rest with
    | nil =>
      intro x hq hc
      unfold whGo
      simp [dTst, dBin, dVar, dC, oIx, der, moD, atI, ixN, dNew, nLst, dNil, frs, oEq, okN, eqd, eqds]
      exact hc x
    | cons r rest ih =>
      intro x hq hc
      unfold whGo
      simp [dTst, dBin, dVar, dC, oIx, der, moD, atI, ixN, dNew, nLst, dNil, frs, oEq, okN, eqd, eqds, okR1, all_int, sSeq, sAsg, bind, sIf, oI0, oI, sSetI, sRet, dN, dCons, oN1, fInt, sNext, sPop0, moOf, setE, setM, CDivW, h0, hl]
      by_cases hr : 0 < r
      · rw [if_pos hr]
        exact hq _ ⟨(r / many) :: rest, rfl⟩ _ (Int.emod_nonneg _ (by omega)) (Int.emod_lt_of_pos _ h0)
      · rw [if_neg hr]
        exact ih _ hq hc
  refine ⟨rest.length + 1, ?_⟩
  have post : ∀ (rest' : List Int) (t' : Nat), t' ≤ t + 1 → ∀ c' tl', Dk c' tl' ([Mo.lst (rest.map Dat.int), .lst [.obj 0, .lst (cells.map Dat.int), .int t]] ++ tl) → Dk (c' + 1) tl' ([Mo.lst (rest'.map Dat.int), .lst [.obj 0, .lst (cells.map Dat.int), .int t']] ++ tl) := by
    rintro rest' t' h c' tl' ⟨r2, c2, t2, e, h2, h3, h4⟩
    simp at e
    obtain ⟨e1, ⟨e2, e3⟩, e4⟩ := e
    subst e4
    exact ⟨rest', cells, t', rfl, by omega, hc, h100⟩
  refine loop _ _ _ rest none (fun m' ⟨rest', e⟩ i h2 h3 => hQ _ _ ⟨many, i, rfl, rfl, h2, h3, ?_⟩) fun x => ?_
  · subst e
    exact post rest' t (by omega)
  · have hcl : 0 < cells.length := Nat.pos_of_ne_zero (fun h => hc (List.length_eq_zero_iff.mp h))
    obtain ⟨y, hy, hy2⟩ := atI_int (l := cells.map Dat.int) (i := ((t : Int) + 1) % (cells.length : Int)) (Int.emod_nonneg _ (by omega)) (by rw [List.length_map]; exact Int.emod_lt_of_pos _ (by omega))
    obtain ⟨v, rfl⟩ : ∃ v, y = .int v := by
      rw [List.getElem?_map] at hy2
      cases q : cells[(((t : Int) + 1) % (cells.length : Int)).toNat]? with
      | none => rw [q] at hy2; cases hy2
      | some v => rw [q] at hy2; exact ⟨v, (Option.some.inj hy2).symm⟩
    have ht2 : (t : Int) < 2 ^ 40 := by
      have : lim = 2 ^ 40 := rfl
      omega
    have m1 : CMul 68111 ((t : Int) + 1) := .inl ⟨by decide, by decide⟩
    have m2 : CMul 41287 ((t : Int) + 1) := .inl ⟨by decide, by decide⟩
    have m3 : CMul (41287 * ((t : Int) + 1)) ((t : Int) + 1) := .inr ⟨by omega, by omega⟩
    have m4 : ∀ z : Int, CMul (v % 2147483629) z := fun z => .inl ⟨by have := Int.emod_nonneg v (show (2147483629 : Int) ≠ 0 by decide); omega, by have := Int.emod_lt_of_pos v (show (0 : Int) < 2147483629 by decide); omega⟩
    have m5 : ∀ a z : Int, CMul (a % 2147483587) z := fun a z => .inl ⟨by have := Int.emod_nonneg a (show (2147483587 : Int) ≠ 0 by decide); omega, by have := Int.emod_lt_of_pos a (show (0 : Int) < 2147483587 by decide); omega⟩
    have m6 : ∀ z : Int, CDivW z 16 := fun z => ⟨by decide, by decide⟩
    simp [dBin, dVar, dC, oIx, der, moD, atI0, atI1, atI2, hy, sSeq, sAsg, bind, oI0, oI, sSetI, sRet, dN, dCons, dNil, oN1, fInt, moOf, setE, setM, oAdd, oLen, ixN, m1, m2, m3, m4, m5, m6, h0, hcl]
    exact hQ _ _ ⟨many, _, rfl, rfl, Int.emod_nonneg _ (by omega), Int.emod_lt_of_pos _ h0, post [] (t + 1) (by omega)⟩
end DL.S

set_option maxHeartbeats 1000000
namespace DL.S
open PySem PySem.Spec PyProof.Rows L2 DL

def p_deck : DSp := pRel 1 (fun ds m => ∃ ns : List Int, ds = [.lst (ns.map Dat.int)] ∧ ns.length ≤ 63 ∧ m = []) (fun ds m r m' => r = .obj 1 ∧ Dk 0 [] m') noE
def absI (i : Int) : Int := if i < 0 then -i else i
theorem law_deck (C : Ct) : ∀ ds m (Q : QD) (E : QX), p_deck ds m Q E → rd_law_deck C (fun c xs _ m => E c xs m) { nx := fun _ m => Q .non m, rt := Q } (env0 3 ds) m := by
  rintro ds m Q E ⟨_, ⟨ns, rfl, hn, rfl⟩, hQ, _⟩
  have e0 : env0 3 [.lst (ns.map Dat.int)] = [some (.f (.lst (ns.map Dat.int))), none, none] := rfl
  rw [e0]
  unfold rd_law_deck
  have s1 : 100 ≤ sizeLine := sz (by decide)
  show (ns.map Dat.int).length ≤ sizeLine ∧ lcGo _ _ _ _ _ _ _
  refine ⟨by rw [List.length_map]; omega, lc_map (f := fun d => match d with | .int i => .int (absI i) | d => d) (fun x hx Q h => ?_) ?_⟩
  · obtain ⟨i, _, rfl⟩ := List.mem_map.mp hx
    exact h
  have e1 : (ns.map Dat.int).map (fun d => match d with | .int i => .int (absI i) | d => d) = (ns.map absI).map Dat.int := by
    rw [List.map_map, List.map_map]; rfl
  rw [e1]
  show ((ns.map absI).map Dat.int).length ≤ sizeLine ∧ lcGo _ _ _ _ _ _ _
  refine ⟨by rw [List.length_map, List.length_map]; omega, lc_filter (f := id) (g := fun d => match d with | .int i => decide ((10 : Int) ^ 18 ≤ i) | _ => false) (fun x hx Q h => ?_) (fun x hx _ Q h => h) ?_⟩
  · obtain ⟨i, _, rfl⟩ := List.mem_map.mp hx
    exact ⟨⟨by decide, by decide, by decide⟩, trivial, h⟩
  have e2 : (((ns.map absI).map Dat.int).filter (fun d => match d with | .int i => decide ((10 : Int) ^ 18 ≤ i) | _ => false)).map id = ((ns.map absI).filter fun i => decide ((10 : Int) ^ 18 ≤ i)).map Dat.int := by
    rw [List.map_id, List.filter_map]; rfl
  rw [e2]
  simp [dNew, nCat, dVar, lstOf, der, nLst, dN, oLen, dCons, dNil, oAdd, dBin, dC, frs, dShr]
  refine ⟨by omega, by omega, by omega, hQ _ _ ⟨rfl, ?_⟩⟩
  refine ⟨(ns.map absI).filter fun i => decide ((10 : Int) ^ 18 ≤ i), ns.map absI ++ [(ns.length : Int) + 5], 0, ?_, Nat.le_refl _, by simp, by simp; omega⟩
  simp
end DL.S

set_option maxHeartbeats 1000000
namespace DL.S
open PySem PySem.Spec PyProof.Rows L2 DL

theorem good_tup {k : Nat} {xs : List Dat} (h : good k (.tup xs) = true) : ∃ j, k = j + 1 ∧ xs.length ≤ 10000 ∧ ∀ x ∈ xs, good j x = true := by
  cases k with
  | zero => cases h
  | succ j =>
    rw [good, Bool.and_eq_true] at h
    exact ⟨j, rfl, of_decide_eq_true h.1, List.all_eq_true.mp h.2⟩
theorem good_lst {k : Nat} {xs : List Dat} (h : good k (.lst xs) = true) : ∃ j, k = j + 1 ∧ xs.length ≤ 10000 ∧ ∀ x ∈ xs, good j x = true := by
  cases k with
  | zero => cases h
  | succ j =>
    rw [good, Bool.and_eq_true] at h
    exact ⟨j, rfl, of_decide_eq_true h.1, List.all_eq_true.mp h.2⟩
def p_same (k : Nat) : DSp := pRel 2 (fun ds m => ∃ d, ds = [d, d] ∧ good k d = true) (fun ds m r m' => r = .bl true ∧ m' = m) noE
theorem strOkN (k : Nat) {x : Str} (h : PyData.strOk x = true) : okN k (.str x) = true := by cases k <;> exact h
theorem intOkN (k : Nat) (i : Int) : okN k (.int i) = true := by cases k <;> rfl
theorem blOkN (k : Nat) (i : Bool) : okN k (.bl i) = true := by cases k <;> rfl
theorem eqd_int (i j : Int) : eqd (.int i) (.int j) = (i == j) := by simp [eqd]
theorem eqd_bl (i j : Bool) : eqd (.bl i) (.bl j) = (i == j) := by simp [eqd]
theorem eqd_str (i j : Str) : eqd (.str i) (.str j) = (i == j) := by simp [eqd]
theorem call_is {p : DSp} {EX : QXe} {da : TAd} {env : Env'} {m : Mem} {Q : QL} (xs : List Lv) (ds : List Dat) (ha : ∀ Q : List Lv → Mem → Prop, Q xs m → da env m Q) (hf : frs xs = some ds) (h : p ds m (fun d m2 => Q (.f d) m2) fun c ys m2 => EX c ys env m2) : dCall p EX da env m Q := by
  refine ha _ ?_
  rw [hf]
  exact h
theorem zipD_self : ∀ xs : List Dat, zipD xs xs = xs.map fun x => .tup [x, x]
  | [] => rfl
  | x :: xs => by rw [zipD, zipD_self xs]; rfl
theorem bools_map : ∀ bs : List Bool, bools (bs.map Dat.bl) = some bs
  | [] => rfl
  | b :: bs => by
    show (bools (bs.map Dat.bl)).map (b :: ·) = some (b :: bs)
    rw [bools_map bs]; rfl
theorem same_all {j : Nat} {xs : List Dat} {m : Mem} {env : Env'} {Q : List Dat → Mem → Prop} (he : env.length = 4) (hx : ∀ x ∈ xs, good j x = true) (h : Q (xs.map fun _ => .bl true) m) :
    lcGo (.tp [2, 3]) dYes (dCall (p_same j) EX0 (dCons (dVar 2) (dCons (dVar 3) dNil))) env (zipD xs xs) m Q := by
  rw [zipD_self]
  induction xs generalizing Q with
  | nil => exact h
  | cons x xs ih =>
    rw [List.map_cons]
    unfold lcGo
    match env, he with
    | [e0, e1, e2, e3], _ =>
      have hb : bind (.tp [2, 3]) (.f (.tup [x, x])) [e0, e1, e2, e3] = some [e0, e1, some (.f x), some (.f x)] := by simp [bind, setAll]
      rw [hb]
      dsimp only [dYes]
      rw [if_pos rfl]
      refine ⟨rfl, ⟨x, rfl, hx x (by simp)⟩, fun r m' q => ?_, fun _ _ _ q => q.elim⟩
      obtain ⟨rfl, rfl⟩ := q
      exact ih (Q := fun ds m3 => Q (.bl true :: ds) m3) (fun y hy => hx y (by simp [hy])) h
theorem law_same (C : Ct) (k : Nat) : ∀ ds m (Q : QD) (E : QX), p_same k ds m Q E → rd_law_same C (p_same (k - 1)) (fun c xs _ m => E c xs m) { nx := fun _ m => Q .non m, rt := Q } (env0 4 ds) m := by
  rintro ds m Q E ⟨_, ⟨d, rfl, hd⟩, hQ, _⟩
  have hQ' : Q (.bl true) m := hQ _ _ ⟨rfl, rfl⟩
  have e0 : env0 4 [d, d] = [some (.f d), some (.f d), none, none] := rfl
  rw [e0]
  unfold rd_law_same
  have s1 : 10000 ≤ sizeLine := sz (by decide)
  have s2 : 2 ≤ sizeLine := sz (by decide)
  cases d with
  | non => simp [sSeq, sIf, dTst, dN, oIsi, dCons, dVar, dC, dNil, oTup, frs, s2, derI, der, isaD, isaL, isa1, tyN, isT, sNext, dBin, oIsN, isN, sRet, hQ']
  | bl b => simp [sSeq, sIf, dTst, dN, oIsi, dCons, dVar, dC, dNil, oTup, frs, s2, derI, der, isaD, isaL, isa1, tyN, isT, sNext, dBin, oIsN, isN, sRet, dOr, dAndV, oEq, eqd_bl, blOkN, hQ']
  | int i => simp [sSeq, sIf, dTst, dN, oIsi, dCons, dVar, dC, dNil, oTup, frs, s2, derI, der, isaD, isaL, isa1, tyN, isT, sNext, dBin, oIsN, isN, sRet, dOr, dAndV, oEq, eqd_int, intOkN, hQ']
  | str x =>
    have hx : PyData.strOk x = true := by cases k <;> exact hd
    simp [sSeq, sIf, dTst, dN, oIsi, dCons, dVar, dC, dNil, oTup, frs, s2, derI, der, isaD, isaL, isa1, tyN, isT, sNext, dBin, oIsN, isN, sRet, dOr, dAndV, oEq, eqd_str, strOkN _ hx, hQ']
  | tup xs =>
    obtain ⟨j, rfl, hl, hx⟩ := good_tup hd
    simp [sSeq, sIf, dTst, dN, oIsi, dCons, dVar, dC, dNil, oTup, frs, s2, derI, der, isaD, isaL, isa1, tyN, isT, sNext, dBin, oIsN, isN, sRet, dOr, dAndV, oEq, eqd_int, eqd_bl, intOkN, blOkN, oLen, dNew, nLc, iZipD, zipD_len, oBs]
    refine ⟨by omega, same_all rfl hx ?_⟩
    have eb : bools (xs.map fun _ => Dat.bl true) = some (xs.map fun _ => true) := by
      rw [show (xs.map fun _ => Dat.bl true) = (xs.map fun _ => true).map Dat.bl by rw [List.map_map]; rfl]
      exact bools_map _
    have ea : (xs.map fun _ => true).all id = true := by
      rw [List.all_eq_true]
      intro b hb
      obtain ⟨_, _, rfl⟩ := List.mem_map.mp hb
      rfl
    simp only [seqOf, lstOf, tupOf, der, eb, ea]
    exact hQ'
  | lst xs =>
    obtain ⟨j, rfl, hl, hx⟩ := good_lst hd
    simp [sSeq, sIf, dTst, dN, oIsi, dCons, dVar, dC, dNil, oTup, frs, s2, derI, der, isaD, isaL, isa1, tyN, isT, sNext, dBin, oIsN, isN, sRet, dOr, dAndV, oEq, eqd_int, eqd_bl, intOkN, blOkN, oLen, dNew, nLc, iZipD, zipD_len, oBs]
    refine ⟨by omega, same_all rfl hx ?_⟩
    have eb : bools (xs.map fun _ => Dat.bl true) = some (xs.map fun _ => true) := by
      rw [show (xs.map fun _ => Dat.bl true) = (xs.map fun _ => true).map Dat.bl by rw [List.map_map]; rfl]
      exact bools_map _
    have ea : (xs.map fun _ => true).all id = true := by
      rw [List.all_eq_true]
      intro b hb
      obtain ⟨_, _, rfl⟩ := List.mem_map.mp hb
      rfl
    simp only [seqOf, lstOf, tupOf, der, eb, ea]
    exact hQ'
  | dct kvs =>
    have hx : okR 60 (.dct kvs) = true ∧ (py (.dct kvs)).shown.length ≤ 10000 ∧ PyData.strOk (py (.dct kvs)).shown = true := by
      have h' : (okR 60 (.dct kvs) && (decide ((py (.dct kvs)).shown.length ≤ 10000) && PyData.strOk (py (.dct kvs)).shown)) = true := by cases k <;> exact hd
      rw [Bool.and_eq_true, Bool.and_eq_true] at h'
      exact ⟨h'.1, of_decide_eq_true h'.2.1, h'.2.2⟩
    simp [sSeq, sIf, dTst, dN, oIsi, dCons, dVar, dC, dNil, oTup, frs, s2, derI, der, isaD, isaL, isa1, tyN, isT, sNext, dBin, oIsN, isN, sRet, dOr, dAndV, oEq, eqd_str, oRepr]
    exact ⟨hx.1, by omega, hx.1, by omega, strOkN _ hx.2.2, hQ'⟩
  | _ => cases k <;> cases hd
end DL.S

set_option maxHeartbeats 1000000
namespace K02
open PySem PySem.Spec PyProof.Rows L2 DL DL.S

def isInt : Dat → Bool
  | .int _ => true
  | _ => false
def below (b : Int) : Dat → Bool
  | .int i => decide (0 ≤ i) && decide (i < b)
  | _ => false
def linkB (n : Int) : Dat → Bool
  | .tup [.int a, .int b] => (decide (0 ≤ a) && decide (a < n)) && ((decide (0 ≤ b) && decide (b < n)) && decide (a ≠ b))
  | _ => false
theorem q_bl {Q : QD} {a b : Bool} {m : Mem} (h : Q (.bl a) m) (e : b = a) : Q (.bl b) m := e ▸ h
def p_whole : DSp := pRel 1 (fun ds m => ∃ d, ds = [d] ∧ plain d = true) (fun ds m r m' => ∃ d, ds = [d] ∧ r = .bl (isInt d) ∧ m' = m) noE
def p_below : DSp := pRel 2 (fun ds m => ∃ d b, ds = [d, .int b] ∧ plain d = true) (fun ds m r m' => ∃ d b, ds = [d, .int b] ∧ r = .bl (below b d) ∧ m' = m) noE
theorem good_plain {k : Nat} {d : Dat} (h : good k d = true) : plain d = true := by
  cases d <;> first | rfl | (cases k <;> cases h)
theorem law_is_whole (C : Ct) : ∀ ds m (Q : QD) (E : QX), p_whole ds m Q E → rd_is_whole C (fun c xs _ m => E c xs m) { nx := fun _ m => Q .non m, rt := Q } (env0 1 ds) m := by
  rintro ds m Q E ⟨_, ⟨d, rfl, hd⟩, hQ, _⟩
  have hQ' : Q (.bl (isInt d)) m := hQ _ _ ⟨d, rfl, rfl, rfl⟩
  have e0 : env0 1 [d] = [some (.f d)] := rfl
  rw [e0]
  unfold rd_is_whole
  cases d <;> first
    | (simp [sRet, dAndV, dNotV, dN, oIsi, dCons, dVar, dC, dNil, derI, der, isaD, isa1, tyN, isT]; exact hQ')
    | cases hd
theorem law_law_whole (C : Ct) : ∀ ds m (Q : QD) (E : QX), p_whole ds m Q E → DL.S.rd_law_whole C (fun c xs _ m => E c xs m) { nx := fun _ m => Q .non m, rt := Q } (env0 1 ds) m := law_is_whole C
theorem call_whole {da : TAd} {env : Env'} {m : Mem} {Q : QL} (d : Dat) (hd : plain d = true) (ha : ∀ Q : List Lv → Mem → Prop, Q [.f d] m → da env m Q) (h : Q (.f (.bl (isInt d))) m) : dCall p_whole EX0 da env m Q :=
  call_is [.f d] [d] ha rfl ⟨rfl, ⟨d, rfl, hd⟩, fun r m' ⟨d', e1, e2, e3⟩ => by cases e1; subst e2 e3; exact h, fun _ _ _ q => q.elim⟩
theorem law_is_below (C : Ct) : ∀ ds m (Q : QD) (E : QX), p_below ds m Q E → rd_is_below C p_whole (fun c xs _ m => E c xs m) { nx := fun _ m => Q .non m, rt := Q } (env0 2 ds) m := by
  rintro ds m Q E ⟨_, ⟨d, b, rfl, hd⟩, hQ, _⟩
  have hQ' : Q (.bl (below b d)) m := hQ _ _ ⟨d, b, rfl, rfl, rfl⟩
  have e0 : env0 2 [d, .int b] = [some (.f d), some (.f (.int b))] := rfl
  rw [e0]
  unfold rd_is_below sRet dAndV
  refine call_whole d hd (fun Q h => h) ?_
  cases d with
  | int i =>
    simp [isInt, dChain, dVar, dC, oI0, oI]
    by_cases h1 : 0 ≤ i
    · simp only [h1, decide_true]
      exact q_bl hQ' (by simp [below, h1])
    · simp only [h1, decide_false]
      exact q_bl hQ' (by simp [below, h1])
  | _ => first
    | (cases hd; done)
    | exact hQ'
end K02

set_option maxHeartbeats 1000000
namespace DL
open PySem PySem.Spec PyProof.Rows L2
theorem sortD_ints (ns : List Int) : sortD (ns.map Dat.int) = (ns.mergeSort fun a b => decide (a ≤ b)).map Dat.int := by
  unfold sortD
  refine (List.map_mergeSort (r := fun a b => decide (a ≤ b)) (s := PySem.W.dataLe false py) (f := Dat.int) (l := ns) fun a _ b _ => ?_).symm
  have e := congrFun (congrFun (PySem.W.dataLe_int (β := Int) id) a) b
  exact e.symm
theorem sortOk_ints {ns : List Int} (h : ∀ n ∈ ns, n.natAbs.log2 < 1920) : sortOk (ns.map Dat.int) := by
  refine ⟨?_, ?_, all_intR ns h⟩
  · rw [List.map_map]
    exact PySem.W.AllAlike.of fun _ _ => by simp [py, PySem.W.alike]
  · rw [List.map_map]
    exact PySem.W.Sortable.others fun _ => ⟨by simp [py], by simp [py]⟩
end DL

set_option maxHeartbeats 1000000
namespace K02
open PySem PySem.Spec PyProof.Rows L2 DL DL.S

def nrm : Dat → Dat
  | .tup [.int a, .int b] => .lst [.int (min a b), .int (max a b)]
  | d => d
def errGo (n : Int) : List Dat → Nat → List Dat → Dat
  | _, _, [] => .non
  | seen, k, x :: xs => if linkB n x = true then (if (seen.any fun s => eqd s (nrm x)) = true then .tup [.int k, .str "again"] else errGo n (seen ++ [nrm x]) (k + 1) xs) else .tup [.int k, .str "link"]
def errL (n : Int) : Dat → Dat
  | .tup xs => if xs.length ≤ 8 then errGo n [] 0 xs else .tup [.non, .str "links"]
  | _ => .tup [.non, .str "links"]
end K02

set_option maxHeartbeats 1000000
namespace DL
open PySem PySem.Spec PyProof.Rows L2
theorem pT.mono {γ : Type} {n args pre res} : MonoP (pT (γ := γ) n args pre res) := fun ds m Q Q' E E' i j ⟨h1, g, h2, h3, h4⟩ => ⟨h1, g, h2, h3, i _ _ h4⟩
section
variable {env : Env'} {m : Mem} {d : TD} {da : TAd} {x : Lv} {s : Dat} {ls : List Lv} {ds : List Dat} {EX : QXe} {γ : Type} {n c : Nat} {args : γ → List Dat} {pre : γ → Prop} {res : γ → Dat}
theorem ev_fn (ha : EvA da env m ls) (g : γ) (e : frs ls = some (args g)) (hn : (args g).length = n) (hp : pre g) : Ev (dCall (pT n args pre res) EX da) env m (.f (res g)) :=
  ev_call ha e fun Q E q => ⟨hn, g, rfl, hp, q⟩
end
section
variable {D : En} {env : Env'} {m : Mem} {da : TAd} {ls : List Lv} {n : Nat}
theorem rangeD_succ (k : Int) (r : Nat) : rangeD k (r + 1) = .int k :: rangeD (k + 1) r := by
  unfold rangeD
  rw [List.range_succ_eq_map, List.map_cons, List.map_map]
  congr 1
  · simp
  · refine List.map_congr_left fun a _ => ?_
    simp; omega
theorem lenSet_ev {d : TD} {x : Lv} {ns : List Int} (h : Ev d env m x) (e : seqOf env m x = some (ns.map Dat.int)) (hl : ns.length ≤ 4000) : Ev (dLenSet d) env m (.f (.int (dist ns : Nat))) := fun Q q => h _ (by
  have e2 := intsD_map (fun i : Int => i) ns
  simp only [e]
  have e3 : intsD (ns.map Dat.int) = some ns := by simpa using e2
  simp only [e3]
  exact ⟨hl, q⟩)
theorem evn_lcI {tg : Tg} {dt : TB} {de : TD} {vs : List Nat} {di : TId} {xs : List Dat} {Q : List Dat → Mem → Prop} (hi : EvI di env m xs) (hl : xs.length ≤ sizeLine) (h : lcGo tg dt de (wipeE env vs) xs m Q) : nLc tg dt de vs di env m Q := hi _ ⟨hl, h⟩
end
end DL

set_option maxHeartbeats 1000000
namespace K02
open PySem PySem.Spec PyProof.Rows L2 DL DL.S

def isOrd (n : Nat) (d : Dat) : Prop := ∃ a b : Nat, d = .tup [.int a, .int b] ∧ a < b ∧ b < n
theorem isOrd.mono {n k : Nat} {d : Dat} (h : isOrd n d) (e : n ≤ k) : isOrd k d := by
  obtain ⟨a, b, h1, h2, h3⟩ := h
  exact ⟨a, b, h1, h2, by omega⟩
end K02

set_option maxHeartbeats 1000000
namespace K02
open PySem PySem.Spec PyProof.Rows L2 DL DL.S

theorem call_next {da : TAd} {env : Env'} {m : Mem} {Q : QL} {tl : Mem} {c : Nat} (many : Int) (h0 : 0 < many) (h1 : many < 2 ^ 40) (hd : Dk c tl m) (hc : c < lim) (ha : ∀ Q : List Lv → Mem → Prop, Q [.f (.obj 1), .f (.int many)] m → da env m Q)
    (h : ∀ i m', 0 ≤ i → i < many → Dk (c + 1) tl m' → Q (.f (.int i)) m') : dCall p_next EX0 da env m Q :=
  call_is [.f (.obj 1), .f (.int many)] [.obj 1, .int many] ha rfl ⟨rfl, ⟨many, c, tl, rfl, h0, h1, hd, hc⟩, fun r m' ⟨many', i, e1, e2, e3, e4, e5⟩ => by
    cases e1; subst e2; exact h i m' e3 e4 (e5 c tl hd), fun _ _ _ q => q.elim⟩
def pr (p : Int × Int) : Dat := .tup [.int p.1, .int p.2]
theorem cutD_mem {xs : List Dat} {lo hi : Option Int} {x : Dat} (h : x ∈ DL.cutD xs lo hi) : x ∈ xs := List.mem_of_mem_drop (List.mem_of_mem_take h)
theorem cutD_len (xs : List Dat) (lo hi : Option Int) : (DL.cutD xs lo hi).length ≤ xs.length := by
  unfold DL.cutD
  rw [List.length_take, List.length_drop]
  omega
theorem pGh.mono {γ : Type} {n pre post} : MonoP (pGh (γ := γ) n pre post) := fun ds m Q Q' E E' i j ⟨h1, g, h2, h3⟩ => ⟨h1, g, h2, fun r m' q => i _ _ (h3 r m' q)⟩
end K02

set_option maxHeartbeats 1000000
namespace K02
open PySem PySem.Spec PyProof.Rows L2 DL DL.S

theorem seq_i {a b : TSd} {D : En} {env : Env'} {m : Mem} (h : a { D with nx := fun env m => b D env m } env m) : sSeq a b D env m := h
end K02

set_option maxHeartbeats 1000000
namespace K02
open PySem PySem.Spec PyProof.Rows L2 DL DL.S

def shOk : Nat → Dat → Bool
  | k + 1, .tup xs => xs.all (shOk k)
  | k + 1, .lst xs => xs.all (shOk k)
  | _, d => PyData.strOk (py d).shown
end K02

set_option maxHeartbeats 1000000
namespace K02
open PySem PySem.Spec PyProof.Rows L2 DL DL.S

def el (d : Dat) : Bool := (good 4 d && okR 30 d) && ((py d).leavesShort 40 && (decide ((py d).bulk ≤ 100) && shOk 10 d))
end K02

set_option maxHeartbeats 1000000
namespace K02
open PySem PySem.Spec PyProof.Rows L2 DL DL.S

end K02

set_option maxHeartbeats 1000000
namespace K02
open PySem PySem.Spec PyProof.Rows L2 DL DL.S
end K02

set_option maxHeartbeats 1000000
namespace DL.S
open PySem PySem.Spec PyProof.Rows L2 DL
theorem law_same0 (C : Ct) (pp : DSp) : ∀ ds m (Q : QD) (E : QX), p_same 0 ds m Q E → rd_law_same C pp (fun c xs _ m => E c xs m) { nx := fun _ m => Q .non m, rt := Q } (env0 4 ds) m := by
  rintro ds m Q E ⟨_, ⟨d, rfl, hd⟩, hQ, _⟩
  have hQ' : Q (.bl true) m := hQ _ _ ⟨rfl, rfl⟩
  have e0 : env0 4 [d, d] = [some (.f d), some (.f d), none, none] := rfl
  rw [e0]
  unfold rd_law_same
  have s2 : 2 ≤ sizeLine := sz (by decide)
  cases d with
  | non => simp [sSeq, sIf, dTst, dN, oIsi, dCons, dVar, dC, dNil, oTup, frs, s2, derI, der, isaD, isaL, isa1, tyN, isT, sNext, dBin, oIsN, isN, sRet, hQ']
  | bl b => simp [sSeq, sIf, dTst, dN, oIsi, dCons, dVar, dC, dNil, oTup, frs, s2, derI, der, isaD, isaL, isa1, tyN, isT, sNext, dBin, oIsN, isN, sRet, dOr, dAndV, oEq, eqd_bl, blOkN, hQ']
  | int i => simp [sSeq, sIf, dTst, dN, oIsi, dCons, dVar, dC, dNil, oTup, frs, s2, derI, der, isaD, isaL, isa1, tyN, isT, sNext, dBin, oIsN, isN, sRet, dOr, dAndV, oEq, eqd_int, intOkN, hQ']
  | str x => simp [sSeq, sIf, dTst, dN, oIsi, dCons, dVar, dC, dNil, oTup, frs, s2, derI, der, isaD, isaL, isa1, tyN, isT, sNext, dBin, oIsN, isN, sRet, dOr, dAndV, oEq, eqd_str, strOkN _ hd, hQ']
  | tup xs => obtain ⟨j, h, _⟩ := good_tup hd; omega
  | lst xs => obtain ⟨j, h, _⟩ := good_lst hd; omega
  | dct kvs =>
    have hx : okR 60 (.dct kvs) = true ∧ (py (.dct kvs)).shown.length ≤ 10000 ∧ PyData.strOk (py (.dct kvs)).shown = true := by
      have h' : (okR 60 (.dct kvs) && (decide ((py (.dct kvs)).shown.length ≤ 10000) && PyData.strOk (py (.dct kvs)).shown)) = true := hd
      rw [Bool.and_eq_true, Bool.and_eq_true] at h'
      exact ⟨h'.1, of_decide_eq_true h'.2.1, h'.2.2⟩
    have s1 : 10000 ≤ sizeLine := sz (by decide)
    simp [sSeq, sIf, dTst, dN, oIsi, dCons, dVar, dC, dNil, oTup, frs, s2, derI, der, isaD, isaL, isa1, tyN, isT, sNext, dBin, oIsN, isN, sRet, dOr, dAndV, oEq, eqd_str, oRepr]
    exact ⟨hx.1, by omega, hx.1, by omega, strOkN _ hx.2.2, hQ'⟩
  | _ => cases hd
end DL.S

set_option maxHeartbeats 1000000
namespace K02
open PySem PySem.Spec PyProof.Rows L2 DL DL.S

def lk (p : Lk) : Dat := .tup [.int p.1, .int p.2]
theorem Lk.le_total (p q : Lk) : (Lk.le p q || Lk.le q p) = true := by
  unfold Lk.le
  simp only [Bool.or_eq_true, decide_eq_true_eq]
  omega
structure Fnd (n : Nat) (xs : List Dat) : Prop where
  ord : ∀ x ∈ xs, isOrd n x
  nd : xs.Nodup
theorem Fnd.snoc {n : Nat} {xs : List Dat} {d : Dat} (h : Fnd n xs) (hd : isOrd n d) (hm : d ∉ xs) : Fnd n (xs ++ [d]) :=
  ⟨fun x hx => by
    rcases List.mem_append.mp hx with q | q
    · exact h.ord x q
    · rw [List.mem_singleton.mp q]; exact hd, List.nodup_append.mpr ⟨h.nd, List.pairwise_singleton _ _, fun a ha b hb e => by
    rw [List.mem_singleton.mp hb] at e; exact hm (e ▸ ha)⟩⟩
theorem Fnd.cut {n : Nat} {xs : List Dat} (h : Fnd n xs) (k : Int) : Fnd n (cutD xs none (some k)) :=
  ⟨fun x hx => h.ord x (cutD_mem hx), by
    unfold DL.cutD
    exact (h.nd.sublist (List.drop_sublist _ _)).sublist (List.take_sublist _ _)⟩
end K02

set_option maxHeartbeats 1000000
namespace K02
open PySem PySem.Spec PyProof.Rows L2 DL DL.S

section
variable {n : Nat} {ps : List Lk}
end
end K02

set_option maxHeartbeats 1000000
namespace DL.S
open PySem PySem.Spec PyProof.Rows L2 DL K02

theorem vd_small : ((List.range 300).all fun i => vd 0 0 (.int (i : Nat)) && vd 0 0 (.int (-(i : Nat)))) = true := by decide +kernel
theorem Vd.nat {k B : Nat} {i : Nat} (h : i < 300) : Vd k B (.int i) := by
  have := List.all_eq_true.mp vd_small i (List.mem_range.mpr h)
  rw [Bool.and_eq_true] at this
  exact (vd_iff.mp this.1).up (Nat.zero_le _) (Nat.zero_le _)
theorem Vd.i {k B : Nat} {i : Int} (h0 : -300 < i) (h1 : i < 300) : Vd k B (.int i) := by
  by_cases h : 0 ≤ i
  · have := Vd.nat (k := k) (B := B) (i := i.toNat) (by omega)
    rwa [show ((i.toNat : Nat) : Int) = i by omega] at this
  · have := List.all_eq_true.mp vd_small (-i).toNat (List.mem_range.mpr (by omega))
    rw [Bool.and_eq_true, show (-(((-i).toNat : Nat) : Int)) = i by omega] at this
    exact (vd_iff.mp this.2).up (Nat.zero_le _) (Nat.zero_le _)
theorem em_repr {k B : Nat} {d : Dat} {x : Lv} {env : Env'} {m : Mem} (e : der env m x = some d) (h : Vd k B d) (hk : k ≤ 60) (hB : B ≤ 100000) : EvM oRepr env m [x] (.str (py d).shown) := fun Q q => by
  unfold oRepr
  simp only [e]
  exact ⟨okR_le1 hk h.okR, h.shown hB, q⟩
theorem Vd.plain {k B : Nat} {d : Dat} (h : Vd k B d) : plain d = true := good_plain h.good
theorem Vd.okStr {k B j : Nat} {d : Dat} (h : Vd k B d) : okN j (.str (py d).shown) = true := strOkN j h.str
theorem eqd_strs (s : Str) : eqd (.str s) (.str s) = true := by simp [eqd]
end DL.S

set_option maxHeartbeats 1000000
namespace DL.S
open PySem PySem.Spec PyProof.Rows L2 DL
def rd_ascends (C : Ct) (p_is_below : DSp) (EX : QXe) : TSd :=
  (sSeq (sIf (dOr (dNot (dTst (dN (oIsi C) (dCons (dVar 0) (dCons (dC (.ty "tuple")) dNil))))) (dNot (dTst (dN (oBs fun bs => bs.all id) (dCons (dNew (nLc (.nm 4) dYes (dCall p_is_below EX0 (dCons (dVar 4) (dCons (dVar 1) dNil))) [4] (iVal (dVar 0)))) dNil)))))
  (sRet (dC (.bl false)))
  sNext)
  (sRet (dN (oBs fun bs => bs.all id) (dCons (dNew (nLc (.tp [2, 3]) dYes (dBin oLt (dVar 2) (dVar 3)) [2, 3] (iZipD (dVar 0) (dSl (dVar 0) (dPart (dC (.int 1))) dNo)))) dNil))))
def rd_law_outage (C : Ct) (p_law_next : DSp) (EX : QXe) : TSd :=
  (sSeq (sAsg (.nm 2) (dBin oAdd (dC (.int 2)) (dCall p_law_next EX0 (dCons (dVar 0) (dCons (dC (.int 4)) dNil)))))
  (sRet (dN oTuple (dCons (dNew (nLc (.nm 3) (dTst (dBin (oEq id) (dCall p_law_next EX0 (dCons (dVar 0) (dCons (dVar 2) dNil))) (dC (.int 0)))) (dVar 3) [3] (iRg1 (dVar 1)))) dNil))))
def rd_law_ascends (C : Ct) (p_law_whole : DSp) (EX : QXe) : TSd :=
  (sSeq (sIf (dOr (dNot (dTst (dN (oIsi C) (dCons (dVar 0) (dCons (dC (.ty "tuple")) dNil))))) (dNot (dTst (dN (oBs fun bs => bs.all id) (dCons (dNew (nLc (.nm 2) dYes (dAndV (dCall p_law_whole EX0 (dCons (dVar 2) dNil)) (dChain oLe oLt (dC (.int 0)) (dVar 2) (dVar 1))) [2] (iVal (dVar 0)))) dNil)))))
  (sRet (dC (.bl false)))
  sNext)
  (sRet (dAndV (dBin (oEq id) (dNew (nSort (dNew (nList (dVar 0))))) (dNew (nList (dVar 0)))) (dBin (oEq id) (dLenSet (dVar 0)) (dN oLen (dCons (dVar 0) dNil))))))
end DL.S

set_option maxHeartbeats 1000000
namespace DL.S
open PySem PySem.Spec PyProof.Rows L2 DL K02
local macro_rules | `(tactic| walk_at "ev") => `(tactic| repeat' (first
  | exact ev_c | exact ev_v rfl | exact ev_o rfl | exact eva_nil | exact e2_i0 | exact e2_add | exact e1_u | exact e2_isn | exact evo_no | exact sz (Nat.le_of_ble_eq_true rfl)
  | ((with_reducible show DL.frs _ = some _); exact rfl)
  | apply ev_bin | apply ev_un | apply ev_n | apply eva_cons | apply ev_new | apply evn_lst | apply em_tup | apply evo_p))

def lts (ns : List Int) : Bool := (ns.zip (ns.drop 1)).all fun p => decide (p.1 < p.2)
def ascN (b : Int) (ns : List Int) : Bool := (ns.all fun i => decide (0 ≤ i) && decide (i < b)) && lts ns
def ascB (b : Int) : Dat → Bool
  | .tup xs => match intsD xs with
    | some ns => ascN b ns
    | none => false
  | _ => false
theorem ascB_tup {b : Int} {xs : List Dat} : ascB b (.tup xs) = match intsD xs with
    | some ns => ascN b ns
    | none => false := rfl
theorem all_below {b : Int} : ∀ {xs : List Dat}, xs.all (below b) = true → ∃ ns : List Int, xs = ns.map Dat.int ∧ ns.all (fun i => decide (0 ≤ i) && decide (i < b)) = true
  | [], _ => ⟨[], rfl, rfl⟩
  | x :: xs, h => by
    rw [List.all_cons, Bool.and_eq_true] at h
    obtain ⟨ns, rfl, h2⟩ := all_below h.2
    cases x with
    | int i => exact ⟨i :: ns, rfl, by rw [List.all_cons, h2, Bool.and_true]; exact h.1⟩
    | _ => cases h.1
theorem intsD_m (ns : List Int) : intsD (ns.map Dat.int) = some ns := by
  have := intsD_map (fun i : Int => i) ns
  simpa using this
theorem not_below {b : Int} {xs : List Dat} (h : xs.all (below b) = false) : ascB b (.tup xs) = false := by
  rw [ascB_tup]
  cases e : intsD xs with
  | none => rfl
  | some ns =>
    have e2 : ∀ {xs : List Dat} {ns : List Int}, intsD xs = some ns → xs = ns.map Dat.int := by
      intro xs
      induction xs with
      | nil => intro ns e; cases e; rfl
      | cons x xs ih =>
        intro ns e
        cases x with
        | int i =>
          unfold intsD at e
          cases e3 : intsD xs with
          | none => rw [e3] at e; cases e
          | some ms => rw [e3] at e; cases e; rw [ih e3]; rfl
        | _ => cases e
    rw [e2 e] at h
    show ascN b ns = false
    unfold ascN
    rw [List.all_map] at h
    have h' : (ns.all fun i => decide (0 ≤ i) && decide (i < b)) = false := h
    rw [h', Bool.false_and]
theorem cutD1 {α : Type} (xs : List α) : DL.cutD xs (some 1) none = xs.drop 1 := by
  unfold DL.cutD
  rw [HT.sIx_none, show (1 : Int) = ((1 : Nat) : Int) from rfl, HT.sIx_nat]
  cases xs with
  | nil => rfl
  | cons x xs =>
    rw [List.length_cons, show min 1 (xs.length + 1) = 1 by omega]
    rw [List.take_of_length_le (by simp)]
def p_asc : DSp := pT 2 (fun g : Dat × Int => [g.1, .int g.2]) (fun g => good 9 g.1 = true) (fun g => .bl (ascB g.2 g.1))
theorem good_len {k : Nat} {xs : List Dat} (h : good k (.tup xs) = true) : xs.length ≤ 10000 := let ⟨_, _, h, _⟩ := good_tup h; h
theorem ev_below {env : Env'} {m : Mem} {da : TAd} {x : Dat} {b : Int} (hx : plain x = true) (ha : EvA da env m [.f x, .f (.int b)]) : Ev (dCall p_below EX0 da) env m (.f (.bl (below b x))) :=
  ev_call ha rfl fun Q E q => ⟨rfl, ⟨x, b, rfl, hx⟩, fun r m' ⟨d, b', e1, e2, e3⟩ => by cases e1; subst e2 e3; exact q, fun _ _ _ z => z.elim⟩
theorem law_ascends (C : Ct) : ∀ ds m (Q : QD) (E : QX), p_asc ds m Q E → rd_ascends C p_below (fun c xs _ m => E c xs m) { nx := fun _ m => Q .non m, rt := Q } (env0 5 ds) m := by
  rintro _ m Q E ⟨_, ⟨d, b⟩, rfl, hg, hq⟩
  have hpl : plain d = true := good_plain hg
  show rd_ascends C p_below _ _ [some (.f d), some (.f (.int b)), none, none, none] m
  unfold rd_ascends
  refine st_seq ?_
  cases d with
  | tup xs =>
    have hl := good_len hg
    obtain ⟨j, _, _, hx⟩ := good_tup hg
    have hs : xs.length ≤ sizeLine := sz (by omega)
    have e1 : EvN (nLc (.nm 4) dYes (dCall p_below EX0 (dCons (dVar 4) (dCons (dVar 1) dNil))) [4] (iVal (dVar 0))) [some (.f (.tup xs)), some (.f (.int b)), none, none, none] m (xs.map fun x => .bl (below b x)) :=
      evn_lc (g := id) (xs := xs) (evi_tup (ev_v rfl)) (by simp) hs fun x hxm => ⟨_, rfl, ev_below (good_plain (hx x hxm)) (eva_cons (ev_v rfl) (eva_cons (ev_v rfl) eva_nil))⟩
    have e2 : EvB (dNot (dTst (dN (oBs fun bs => bs.all id) (dCons (dNew (nLc (.nm 4) dYes (dCall p_below EX0 (dCons (dVar 4) (dCons (dVar 1) dNil))) [4] (iVal (dVar 0)))) dNil)))) [some (.f (.tup xs)), some (.f (.int b)), none, none, none] m (!(xs.all (below b))) := by
      have z := evb_not (evb_tst (ev_n (eva_cons (ev_new e1) eva_nil) (em_bs (f := fun bs => bs.all id) rfl (DL.bools_map _ _))))
      rw [List.all_map] at z
      exact z
    refine st_if (evb_or (evb_not (evb_tst (ev_n (eva_cons (ev_v rfl) (eva_cons ev_c eva_nil)) (isi_tup hpl)))) fun _ => e2) (fun hb => ?_) fun hb => ?_
    · refine st_ret ev_c ?_
      have h1 : xs.all (below b) = false := by simpa [isTup] using hb
      rw [← not_below h1]
      exact hq
    · have h1 : xs.all (below b) = true := by simpa [isTup] using hb
      obtain ⟨ns, rfl, h2⟩ := all_below h1
      have e3 : EvI (iZipD (dVar 0) (dSl (dVar 0) (dPart (dC (.int 1))) dNo)) [some (.f (.tup (ns.map Dat.int))), some (.f (.int b)), none, none, none] m ((ns.zip (ns.drop 1)).map fun p => .tup [.int p.1, .int p.2]) := by
        have z := evi_zipT (db := dSl (dVar 0) (dPart (dC (.int 1))) dNo) (ev_v (env := [some (.f (.tup (ns.map Dat.int))), some (.f (.int b)), none, none, none]) (m := m) (i := 0) rfl) (ev_slT (ev_v (i := 0) rfl) (evo_p ev_c) evo_no rfl)
        rw [cutD1, ← List.map_drop, zipD_map] at z
        exact z
      have hl2 : (ns.zip (ns.drop 1)).length ≤ sizeLine := sz (by
        rw [List.length_zip]
        simp at hl
        omega)
      have e4 := evn_lc (tg := .tp [2, 3]) (vs := [2, 3]) (de := dBin oLt (dVar 2) (dVar 3)) (f := fun p : Int × Int => .bl (decide (p.1 < p.2))) e3 rfl hl2 fun p hp => ⟨_, rfl, ev_bin (ev_v rfl) (ev_v rfl) e2_i0⟩
      have z := ev_n (eva_cons (ev_new e4) eva_nil) (em_bs (f := fun bs => bs.all id) rfl (DL.bools_map _ _))
      refine st_ret z ?_
      rw [List.all_map]
      have e5 : ascB b (.tup (ns.map Dat.int)) = lts ns := by
        rw [ascB_tup, intsD_m]
        show ascN b ns = _
        unfold ascN
        rw [h2, Bool.true_and]
      have hq' : Q (.bl (ascB b (.tup (ns.map Dat.int)))) m := hq
      rw [e5] at hq'
      exact hq'
  | _ =>
    exact st_ifT (evb_or (c := true) (b := true) (evb_not (evb_tst (b := false) (ev_n (eva_cons (ev_v rfl) (eva_cons ev_c eva_nil)) (isi_tup hpl)))) fun z => by cases z) (st_ret ev_c hq)
end DL.S

set_option maxHeartbeats 1000000
namespace DL
open PySem PySem.Spec PyProof.Rows L2
theorem ev_chain {env : Env'} {m : Mem} {f g : Op2} {da db dc : TD} {x y z : Lv} {b c : Bool} (ha : Ev da env m x) (hb : Ev db env m y) (hf : Ev2 f env m x y (.bl b)) (hc : b = true → Ev dc env m z) (hg : b = true → Ev2 g env m y z (.bl c)) : Ev (dChain f g da db dc) env m (.f (.bl (b && c))) := fun Q q => ha _ (hb _ (hf _ (by
  cases b with
  | true => exact hc rfl _ (hg rfl _ q)
  | false => exact q)))
end DL
namespace DL.S
open PySem PySem.Spec PyProof.Rows L2 DL K02

def p_out : DSp := pGh (γ := Nat × Mem × Nat) 2 (fun g ds m => ds = [.obj 1, .int g.2.2] ∧ g.2.2 ≤ 10 ∧ Dk g.1 g.2.1 m ∧ g.1 + 20 < lim)
  (fun g ds m r m' => ∃ o, r = outD o ∧ OutOk g.2.2 o ∧ Dk (g.1 + 11) g.2.1 m')
theorem out_go {tl : Mem} {many : Nat} {few : Int} {x1 : Option Sl} (h0 : 0 < few) (h1 : few < 100) : ∀ (r k : Nat) (x3 : Option Sl) (m : Mem) (c : Nat) (Q : List Dat → Mem → Prop), Dk c tl m → c + r < lim → k + r = many →
    (∀ (o : List Nat) m', o.Pairwise (· < ·) → (∀ l ∈ o, k ≤ l ∧ l < many) → Dk (c + r) tl m' → Q (o.map fun l : Nat => .int (l : Nat)) m') →
    lcGo (.nm 3) (dTst (dBin (oEq id) (dCall p_next EX0 (dCons (dVar 0) (dCons (dVar 2) dNil))) (dC (.int 0)))) (dVar 3) [some (.f (.obj 1)), x1, some (.f (.int few)), x3] (rangeD k r) m Q
  | 0, k, x3, m, c, Q, hd, hc, hk, h => h [] m List.Pairwise.nil (by simp) hd
  | r + 1, k, x3, m, c, Q, hd, hc, hk, h => by
    rw [rangeD_succ]
    unfold lcGo
    have hb : DL.bind (.nm 3) (.f (.int k)) [some (.f (.obj 1)), x1, some (.f (.int few)), x3] = some [some (.f (.obj 1)), x1, some (.f (.int few)), some (.f (.int k))] := by simp [DL.bind]
    rw [hb]
    dsimp only
    unfold dTst
    simp only [dBin]
    refine call_next few h0 (by omega) hd (by omega) (eva_cons (ev_v rfl) (eva_cons (ev_v rfl) eva_nil)) fun i m1 i0 i1 hd1 => ?_
    refine ev_c _ ?_
    refine oEq_l (okR1 _ _) rfl ?_
    show (if id (eqd (.int i) (.int 0)) = true then _ else _)
    split
    · refine ev_v rfl _ ?_
      dsimp only
      refine out_go (many := many) h0 h1 r (k + 1) x3 m1 (c + 1) _ hd1 (by omega) (by omega) fun o m' ho hl hd' => ?_
      refine h (k :: o) m' (List.Pairwise.cons (fun l hlm => by have := (hl l hlm).1; omega) ho) (fun l hlm => ?_) (by rw [show c + (r + 1) = c + 1 + r by omega]; exact hd')
      rcases List.mem_cons.mp hlm with rfl | q
      · omega
      · have := hl l q; omega
    · refine out_go (many := many) h0 h1 r (k + 1) x3 m1 (c + 1) _ hd1 (by omega) (by omega) fun o m' ho hl hd' => ?_
      exact h o m' ho (fun l hlm => by have := hl l hlm; omega) (by rw [show c + (r + 1) = c + 1 + r by omega]; exact hd')
theorem law_law_outage (C : Ct) : ∀ ds m (Q : QD) (E : QX), p_out ds m Q E → rd_law_outage C p_next (fun c xs _ m => E c xs m) { nx := fun _ m => Q .non m, rt := Q } (env0 4 ds) m := by
  rintro ds m Q E ⟨_, ⟨c, tl, many⟩, ⟨rfl, h10, hd, hc⟩, hQ⟩
  have h10 : many ≤ 10 := h10
  have hc : c + 20 < lim := hc
  have hlim : lim = 2 ^ 40 := rfl
  show rd_law_outage C p_next _ _ [some (.f (.obj 1)), some (.f (.int many)), none, none] m
  unfold rd_law_outage
  refine st_seq ?_
  unfold sAsg
  simp only [dBin]
  refine ev_c _ ?_
  refine call_next 4 (by omega) (by omega) hd (by omega) (eva_cons (ev_v rfl) (eva_cons ev_c eva_nil)) fun i m1 i0 i1 hd1 => ?_
  refine e2_add _ ?_
  simp only [DL.bind, List.set]
  unfold sRet
  simp only [dN, dCons, dNew]
  have hl : (many : Int) < 2 ^ 62 := by omega
  refine evn_lcI (xs := rangeD 0 many) (by
    have z := evi_rg1n (env := [some (Sl.f (.obj 1)), some (.f (.int many)), some (.f (.int (2 + i))), none]) (m := m1) (ev_v (i := 1) rfl) (by omega)
    have e : (List.range many).map (fun i => Dat.int (i : Nat)) = rangeD 0 many := by unfold rangeD; simp
    rw [e] at z
    exact z) (by unfold rangeD; simp; exact sz (by omega)) ?_
  refine out_go (many := many) (by omega) (by omega) many 0 none m1 (c + 1) _ hd1 (by omega) (by omega) fun o m' ho hl hd' => ?_
  simp only [dNil, oTuple, seqOf, der]
  exact hQ _ _ ⟨o, rfl, ⟨ho, fun l hlm => (hl l hlm).2⟩, hd'.mono (by show c + 1 + many ≤ c + 11; omega)⟩
end DL.S

set_option maxHeartbeats 1000000
namespace DL.S
open PySem PySem.Spec PyProof.Rows L2 DL K02

theorem step_dd (xs : List Int) (v : Int) : step_dedup xs v = if (xs.any (· == v)) = true then xs else xs ++ [v] := rfl
theorem first_len (ns : List Int) : ∀ i, i ≤ ns.length → (firstMet (fun i => ns.getD i 0) i).length = i → firstMet (fun i => ns.getD i 0) i = ns.take i ∧ (ns.take i).Nodup
  | 0, _, _ => ⟨rfl, by simp⟩
  | i + 1, hi, h => by
    have le := firstMet_length_le (fun i => ns.getD i 0) i
    rw [firstMet_succ, step_dd] at h ⊢
    by_cases ha : ((firstMet (fun i => ns.getD i 0) i).any (· == ns.getD i 0)) = true
    · rw [if_pos ha] at h; omega
    · rw [if_neg ha] at h ⊢
      have h' : (firstMet (fun i => ns.getD i 0) i).length = i := by simp at h; exact h
      obtain ⟨e, nd⟩ := first_len ns i (by omega) h'
      have lt : i < ns.length := by omega
      have e1 : ns.getD i 0 = ns[i] := by rw [List.getD_eq_getElem?_getD, List.getElem?_eq_getElem lt]; rfl
      have e2 : ns.take (i + 1) = ns.take i ++ [ns[i]] := by rw [List.take_add_one, List.getElem?_eq_getElem lt]; rfl
      rw [e] at ha ⊢
      rw [e2, e1]
      refine ⟨rfl, List.nodup_append.mpr ⟨nd, List.pairwise_singleton _ _, fun a ha' b hb hab => ?_⟩⟩
      rw [List.mem_singleton.mp hb] at hab
      refine ha (List.any_eq_true.mpr ⟨a, ha', ?_⟩)
      rw [e1, hab]; simp
theorem dist_iff (ns : List Int) : dist ns = ns.length ↔ ns.Nodup := by
  unfold dist
  constructor
  · intro h
    have := (first_len ns ns.length (Nat.le_refl _) h).2
    rwa [List.take_length] at this
  · intro h
    rw [RZ.firstMet_nodup h ns.length (Nat.le_refl _), List.take_length]
theorem lts_iff : ∀ ns : List Int, lts ns = true ↔ ns.Pairwise (· < ·)
  | [] => by simp [lts]
  | [a] => by simp [lts]
  | a :: b :: ns => by
    have ih := lts_iff (b :: ns)
    have e : lts (a :: b :: ns) = (decide (a < b) && lts (b :: ns)) := rfl
    rw [e, Bool.and_eq_true, ih, decide_eq_true_iff]
    constructor
    · rintro ⟨h1, h2⟩
      refine List.Pairwise.cons (fun x hx => ?_) h2
      rcases List.mem_cons.mp hx with rfl | q
      · exact h1
      · exact Int.lt_trans h1 ((List.pairwise_cons.mp h2).1 x q)
    · intro h
      obtain ⟨h1, h2⟩ := List.pairwise_cons.mp h
      exact ⟨h1 b (by simp), h2⟩
theorem sort_lts (ns : List Int) : (decide (ns.mergeSort (fun a b => decide (a ≤ b)) = ns) && decide (dist ns = ns.length)) = lts ns := by
  have key : (ns.mergeSort (fun a b => decide (a ≤ b)) = ns ∧ dist ns = ns.length) ↔ lts ns = true := by
    rw [lts_iff, dist_iff]
    constructor
    · rintro ⟨h1, h2⟩
      have s := List.pairwise_mergeSort (le := fun a b : Int => decide (a ≤ b)) (fun a b c h1 h2 => by simp at *; omega) (fun a b => by simp; omega) ns
      rw [h1] at s
      exact (s.and h2).imp fun {a b} z => by
        have z1 : a ≤ b := by simpa using z.1
        have z2 : a ≠ b := z.2
        omega
    · intro h
      refine ⟨List.mergeSort_of_pairwise (h.imp fun {a b} z => by simp; omega), h.imp fun {a b} z => Int.ne_of_lt z⟩
  cases h : lts ns with
  | true =>
    obtain ⟨h1, h2⟩ := key.mpr h
    simp [h1, h2]
  | false =>
    have : ¬ (ns.mergeSort (fun a b => decide (a ≤ b)) = ns ∧ dist ns = ns.length) := fun z => by rw [key.mp z] at h; cases h
    simpa using this
theorem eqds_ints : ∀ xs ys : List Int, eqds (xs.map Dat.int) (ys.map Dat.int) = decide (xs = ys)
  | [], [] => rfl
  | [], y :: ys => rfl
  | x :: xs, [] => rfl
  | x :: xs, y :: ys => by
    rw [List.map_cons, List.map_cons, eqds, eqds_ints xs ys]
    by_cases h1 : x = y
    · by_cases h2 : xs = ys
      · simp [h1, h2, eqd]
      · simp [h1, h2, eqd]
    · simp [h1, eqd]
theorem ev_whole {env : Env'} {m : Mem} {da : TAd} {x : Dat} (hx : plain x = true) (ha : EvA da env m [.f x]) : Ev (dCall p_whole EX0 da) env m (.f (.bl (K02.isInt x))) :=
  ev_call ha rfl fun Q E q => ⟨rfl, ⟨x, rfl, hx⟩, fun r m' ⟨d, e1, e2, e3⟩ => by cases e1; subst e2 e3; exact q, fun _ _ _ z => z.elim⟩
def p_lasc : DSp := pT 2 (fun g : Dat × Int => [g.1, .int g.2]) (fun g => good 9 g.1 = true ∧ ∀ xs, g.1 = .tup xs → xs.length ≤ 4000) (fun g => .bl (ascB g.2 g.1))
theorem law_law_ascends (C : Ct) : ∀ ds m (Q : QD) (E : QX), p_lasc ds m Q E → rd_law_ascends C p_whole (fun c xs _ m => E c xs m) { nx := fun _ m => Q .non m, rt := Q } (env0 3 ds) m := by
  rintro _ m Q E ⟨_, ⟨d, b⟩, rfl, ⟨hg, h4⟩, hq⟩
  have hpl : plain d = true := good_plain hg
  show rd_law_ascends C p_whole _ _ [some (.f d), some (.f (.int b)), none] m
  unfold rd_law_ascends
  refine st_seq ?_
  cases d with
  | tup xs =>
    have hl : xs.length ≤ 4000 := h4 xs rfl
    obtain ⟨j, hj, _, hx⟩ := good_tup hg
    have hs : xs.length ≤ sizeLine := sz (by omega)
    have e0 : ∀ x ∈ xs, Ev (dAndV (dCall p_whole EX0 (dCons (dVar 2) dNil)) (dChain oLe oLt (dC (.int 0)) (dVar 2) (dVar 1))) [some (.f (.tup xs)), some (.f (.int b)), some (.f x)] m (.f (.bl (below b x))) := fun x hxm => by
      have e1 := ev_whole (env := [some (Sl.f (.tup xs)), some (.f (.int b)), some (.f x)]) (m := m) (good_plain (hx x hxm)) (eva_cons (ev_v (i := 2) rfl) eva_nil)
      cases x with
      | int i => exact (ev_and e1 fun _ => ev_chain ev_c (ev_v rfl) e2_i0 (fun _ => ev_v rfl) (fun _ => e2_i0)).eq (by simp [K02.isInt, below])
      | _ => exact ev_and (b := false) (c := true) e1 (fun z => by cases z)
    have e1 : EvN (nLc (.nm 2) dYes (dAndV (dCall p_whole EX0 (dCons (dVar 2) dNil)) (dChain oLe oLt (dC (.int 0)) (dVar 2) (dVar 1))) [2] (iVal (dVar 0))) [some (.f (.tup xs)), some (.f (.int b)), none] m (xs.map fun x => .bl (below b x)) :=
      evn_lc (g := id) (xs := xs) (evi_tup (ev_v rfl)) (by simp) hs fun x hxm => ⟨_, rfl, e0 x hxm⟩
    have e2 := evb_not (evb_tst (ev_n (eva_cons (ev_new e1) eva_nil) (em_bs (f := fun bs => bs.all id) rfl (DL.bools_map _ _))))
    rw [List.all_map] at e2
    refine st_if (evb_or (evb_not (evb_tst (ev_n (eva_cons (ev_v rfl) (eva_cons ev_c eva_nil)) (isi_tup hpl)))) fun _ => e2) (fun hb => ?_) fun hb => ?_
    · refine st_ret ev_c ?_
      have h1 : xs.all (below b) = false := by simpa [isTup] using hb
      rw [← not_below h1]
      exact hq
    · have h1 : xs.all (below b) = true := by simpa [isTup] using hb
      obtain ⟨ns, rfl, h2⟩ := all_below h1
      have hlog : ∀ n ∈ ns, n.natAbs.log2 < 1920 := fun n hn => by
        have := hx (.int n) (List.mem_map_of_mem hn)
        cases j <;> simpa [good] using this
      have hl' : ns.length ≤ 4000 := by simpa using hl
      have a1 : Ev (dNew (nSort (dNew (nList (dVar 0))))) [some (.f (.tup (ns.map Dat.int))), some (.f (.int b)), none] m (.f (.lst ((ns.mergeSort (fun a b => decide (a ≤ b))).map Dat.int))) := by
        have z := ev_new (evn_sort (ev_new (evn_list (ev_v (env := [some (Sl.f (.tup (ns.map Dat.int))), some (.f (.int b)), none]) (m := m) (i := 0) rfl) rfl)) rfl (sortOk_ints hlog))
        rw [sortD_ints] at z
        exact z
      have a2 : Ev (dNew (nList (dVar 0))) [some (.f (.tup (ns.map Dat.int))), some (.f (.int b)), none] m (.f (.lst (ns.map Dat.int))) := ev_new (evn_list (ev_v rfl) rfl)
      have a3 := ev_bin a1 a2 (e2_eq (f := id) rfl rfl (by rw [okN]; exact all_int _) (by rw [okN]; exact all_int _))
      have a4 : Ev (dBin (oEq id) (dLenSet (dVar 0)) (dN oLen (dCons (dVar 0) dNil))) [some (.f (.tup (ns.map Dat.int))), some (.f (.int b)), none] m (.f (.bl (decide (dist ns = ns.length)))) := by
        refine (ev_bin (lenSet_ev (ev_v rfl) rfl hl') (ev_n (eva_cons (ev_v rfl) eva_nil) (em_len (xs := ns.map Dat.int) rfl)) (e2_eq (f := id) rfl rfl (okR1 _ _) (okR1 _ _))).eq ?_
        rw [List.length_map]
        show Lv.f (.bl (((dist ns : Nat) : Int) == (ns.length : Int))) = _
        congr 2
        by_cases h : dist ns = ns.length <;> simp [h]
        omega
      refine st_ret ((ev_and a3 fun _ => a4).eq (?_ : _ = Lv.f (.bl (lts ns)))) ?_
      · rw [show id (eqd (.lst ((ns.mergeSort (fun a b => decide (a ≤ b))).map Dat.int)) (.lst (ns.map Dat.int))) = decide (ns.mergeSort (fun a b => decide (a ≤ b)) = ns) from eqds_ints _ _, sort_lts]
      · have e5 : ascB b (.tup (ns.map Dat.int)) = lts ns := by
          rw [ascB_tup, intsD_m]
          show ascN b ns = _
          unfold ascN
          rw [h2, Bool.true_and]
        have hq' : Q (.bl (ascB b (.tup (ns.map Dat.int)))) m := hq
        rw [e5] at hq'
        exact hq'
  | _ =>
    exact st_ifT (evb_or (c := true) (b := true) (evb_not (evb_tst (b := false) (ev_n (eva_cons (ev_v rfl) (eva_cons ev_c eva_nil)) (isi_tup hpl)))) fun z => by cases z) (st_ret ev_c hq)
end DL.S

set_option maxHeartbeats 1000000
namespace DL.S
open PySem PySem.Spec PyProof.Rows L2 DL K02
theorem OutOk.item {many k B : Nat} {o : List Nat} (h : OutOk many o) (h8 : many ≤ 8) : ∀ x ∈ o.map (fun l : Nat => Dat.int (l : Nat)), Vd k B x := fun x hx => by
  obtain ⟨l, hl, rfl⟩ := List.mem_map.mp hx
  have := h.lt l hl
  exact Vd.nat (by omega)
theorem OutOk.vd {many : Nat} {o : List Nat} (h : OutOk many o) (h8 : many ≤ 8) : Vd 1 10 (outD o) :=
  Vd.tup (B := 0) (L := 8) (h.item h8) (by simp; have := h.len; omega) (by omega) (by omega)
end DL.S

set_option maxHeartbeats 1000000
namespace DL
open PySem PySem.Spec PyProof.Rows L2
theorem asg_i {tg : Tg} {de : TD} {D : En} {env : Env'} {m : Mem} (h : de env m fun x m1 => match bind tg x env with | some env2 => D.nx env2 m1 | none => False) : sAsg tg de D env m := h
theorem sq_set {i : Nat} {d : TD} {u : TSd} {a : Dat} {D : En} {env : Env'} {m : Mem} (h : Ev d env m (.f a)) (k : u D (env.set i (some (.f a))) m) : sSeq (sAsg (.nm i) d) u D env m := h _ k
theorem sq_asg {tg : Tg} {de : TD} {u : TSd} {D : En} {env : Env'} {m : Mem} (h : de env m fun x m1 => match bind tg x env with | some env2 => u D env2 m1 | none => False) : sSeq (sAsg tg de) u D env m := h
theorem sq_if {c : TB} {s t u : TSd} {D : En} {env : Env'} {m : Mem} (h : c env m fun b m1 => if b = true then s { D with nx := u D } env m1 else t { D with nx := u D } env m1) : sSeq (sIf c s t) u D env m := h
theorem sq_for {tg : Tg} {di : TId} {tb u : TSd} {D : En} {env : Env'} {m : Mem} (h : di env m fun xs m1 => forGo tg tb { D with nx := u D } xs env m1) : sSeq (sFor tg di tb) u D env m := h
theorem for_rg {tb : TSd} {D : En} {i : Nat} (I : Nat → Env' → Mem → Prop) : ∀ (r : Nat) (k : Nat) (env : Env') (m : Mem), I k env m →
    (∀ j env m, I j env m → k ≤ j → j < k + r → ∀ D' : En, (∀ env m, I (j + 1) env m → D'.nx env m) → (∀ env m, I (j + 1) env m → D'.ct env m) → (∀ d m, D.rt d m → D'.rt d m) → (∀ env m, D.nx env m → D'.bk env m) → tb D' (env.set i (some (.f (.int (j : Nat))))) m) →
    (∀ env m, I (k + r) env m → D.nx env m) → forGo (.nm i) tb D (rangeD k r) env m
  | 0, k, env, m, h0, _, hq => hq _ _ h0
  | r + 1, k, env, m, h0, hs, hq => by
    rw [rangeD_succ]
    unfold forGo
    show tb _ (env.set i (some (.f (.int (k : Nat))))) m
    have go : ∀ env m, I (k + 1) env m → forGo (.nm i) tb D (rangeD ((k : Int) + 1) r) env m := fun env m h => by
      have z := for_rg (tb := tb) (D := D) (i := i) I r (k + 1) env m h (fun j env m hj h1 h2 D' a b c d => hs j env m hj (by omega) (by omega) D' a b c d) (fun env m h => hq env m (by rw [show k + (r + 1) = k + 1 + r by omega]; exact h))
      rw [show (((k + 1 : Nat) : Nat) : Int) = (k : Int) + 1 by omega] at z
      exact z
    exact hs k env m h0 (Nat.le_refl _) (by omega) _ go go (fun _ _ h => h) fun _ _ h => h
end DL
namespace DL.S
open PySem PySem.Spec PyProof.Rows L2 DL K02
theorem bels_ints (k : Nat) : ∀ ns : List Int, bels k (ns.map Dat.int) = true
  | [] => rfl
  | n :: ns => by rw [List.map_cons, bels, bels_ints k ns]; rfl
theorem dk_bel {c : Nat} {m : Mem} (h : Dk c [] m) : belM m.length m = true := by
  obtain ⟨rest, cells, t, rfl, _⟩ := h
  simp [belM, bels_ints, bels, DL.bel]
section
variable {da : TAd} {env : Env'} {m tl : Mem} {Q : QL} {c : Nat}
theorem call_deck {is : List Int} (hl : is.length ≤ 63) (hm : m = []) (ha : EvA da env m [.f (.lst (is.map Dat.int))]) (h : ∀ m', Dk 0 [] m' → Q (.f (.obj 1)) m') : dCall p_deck EX0 da env m Q := by
  subst hm
  exact call_is [.f (.lst (is.map Dat.int))] [.lst (is.map Dat.int)] ha rfl ⟨rfl, ⟨is, rfl, hl, rfl⟩, fun r m1 ⟨e, hd⟩ => by subst e; exact h m1 hd, fun _ _ _ q => q.elim⟩
theorem call_out {many : Nat} (h10 : many ≤ 10) (hd : Dk c tl m) (hc : c + 20 < lim) (ha : EvA da env m [.f (.obj 1), .f (.int many)])
    (h : ∀ o m', OutOk many o → Dk (c + 11) tl m' → Q (.f (outD o)) m') : dCall p_out EX0 da env m Q :=
  call_is [.f (.obj 1), .f (.int many)] [.obj 1, .int many] ha rfl ⟨rfl, (c, tl, many), ⟨rfl, h10, hd, hc⟩, fun r m' ⟨o, e, h1, h2⟩ => by subst e; exact h o m' h1 h2⟩
theorem ev_same {k : Nat} {d : Dat} (hd : good k d = true) (ha : EvA da env m [.f d, .f d]) : Ev (dCall (p_same k) EX0 da) env m (.f (.bl true)) :=
  ev_call ha rfl fun Q E q => ⟨rfl, ⟨d, rfl, hd⟩, fun r m' ⟨e2, e3⟩ => by subst e2 e3; exact q, fun _ _ _ q => q.elim⟩
end
end DL.S
namespace DL
open PySem PySem.Spec PyProof.Rows L2 DL.S K02
end DL

set_option maxHeartbeats 1000000
namespace K02
open PySem PySem.Spec PyProof.Rows L2 DL DL.S

def lkb (q : Lk × Bool) : Dat := if q.2 = true then .tup [.int q.1.2, .int q.1.1] else lk q.1
structure MixOk (n : Nat) (qs : List (Lk × Bool)) : Prop where
  n1 : 1 ≤ n
  n7 : n ≤ 7
  l8 : qs.length ≤ 8
  ord : ∀ q ∈ qs, q.1.1 < q.1.2 ∧ q.1.2 < n
  nd : (qs.map (·.1)).Nodup
section
variable {n : Nat} {qs : List (Lk × Bool)}
theorem good_lkb {q : Lk × Bool} (h1 : q.1.1 < 300) (h2 : q.1.2 < 300) : Vd 1 4 (lkb q) := by
  unfold lkb
  split
  · exact Vd.tup (B := 0) (L := 2) (fun x hx => by
      simp only [List.mem_cons, List.not_mem_nil, or_false] at hx
      rcases hx with rfl | rfl
      · exact Vd.nat h2
      · exact Vd.nat h1) (by simp) (by omega) (by omega)
  · exact Vd.tup (B := 0) (L := 2) (fun x hx => by
      simp only [List.mem_cons, List.not_mem_nil, or_false] at hx
      rcases hx with rfl | rfl
      · exact Vd.nat h1
      · exact Vd.nat h2) (by simp) (by omega) (by omega)
theorem MixOk.vd (h : MixOk n qs) : Vd 2 60 (.tup (qs.map lkb)) := by
  have n7 := h.n7
  refine Vd.tup (B := 4) (L := 8) (fun x hx => ?_) (by simpa using h.l8) (by omega) (by omega)
  obtain ⟨q, hq, rfl⟩ := List.mem_map.mp hx
  have := h.ord q hq
  exact good_lkb (q := q) (by omega) (by omega)
end
theorem lt_irrefl {p : Lk} : ¬ Lk.lt p p := by unfold Lk.lt; omega
end K02

set_option maxHeartbeats 1000000
namespace DL.S
open PySem PySem.Spec PyProof.Rows L2 DL
end DL.S

set_option maxHeartbeats 1000000
namespace DL
open PySem PySem.Spec PyProof.Rows L2
end DL
namespace DL.S
open PySem PySem.Spec PyProof.Rows L2 DL K02

theorem eqd_ii (a b : Int) : eqd (.int a) (.int b) = decide (a = b) := by
  rw [eqd_int]
  by_cases h : a = b <;> simp [h]
def inOk (C : Ct) (d : Dat) : Prop := good 5 d = true ∨ ∃ c xs, d = .ins c xs ∧ C.own c = true ∧ C.isaB c "tuple" = some false
theorem inOk.pl {C : Ct} {d : Dat} (h : inOk C d) : isPl C d := h.imp good_plain id
theorem inOk.items {C : Ct} {d : Dat} (h : inOk C d) : ∀ xs, d = .tup xs → ∀ x ∈ xs, plain x = true := fun xs e x hx => by
  subst e
  rcases h with h | ⟨c, ys, e, _⟩
  · rw [good, Bool.and_eq_true, List.all_eq_true] at h
    exact good_plain (h.2 x hx)
  · cases e
end DL.S

set_option maxHeartbeats 1000000
namespace DL.S
open PySem PySem.Spec PyProof.Rows L2 DL
end DL.S

set_option maxHeartbeats 1000000
namespace DL.S
open PySem PySem.Spec PyProof.Rows L2 DL
def fi_cells : Nat → Option Nat := fiOf ft_cells
def fi_widthO : Nat → Option Nat := fiOf ft_widthO
def rd_outages_error (C : Ct) (p_is_whole : DSp) (p_ascends : DSp) (EX : QXe) : TSd :=
  (sSeq (sIf (dOr (dNot (dTst (dCall p_is_whole EX0 (dCons (dVar 0) dNil)))) (dNot (dTst (dChain oLe oLe (dC (.int 0)) (dVar 0) (dC (.int 8))))))
  (sRet (dN oTup (dCons (dC .non) (dCons (dC (.str "many")) dNil))))
  sNext)
  (sSeq (sIf (dNot (dTst (dN (oIsi C) (dCons (dVar 1) (dCons (dC (.ty "tuple")) dNil)))))
  (sRet (dN oTup (dCons (dC .non) (dCons (dC (.str "members")) dNil))))
  sNext)
  (sSeq (sSetD0 2)
  (sSeq (sFor (.tp [3, 4]) (iEnumD (dVar 1))
  (sSeq (sIf (dNot (dTst (dCall p_ascends EX0 (dCons (dVar 4) (dCons (dVar 0) dNil)))))
  (sRet (dN oTup (dCons (dVar 3) (dCons (dC (.str "outage")) dNil))))
  sNext)
  (sSeq (sIf (dTst (dBin (oInT id) (dVar 4) (dVar 2)))
  (sRet (dN oTup (dCons (dVar 3) (dCons (dC (.str "again")) dNil))))
  sNext)
  (sPutT (dC (.bl true)) (dVar 2) (dVar 4)))))
  (sRet (dC .non))))))
def rd_number_of (C : Ct)  (EX : QXe) : TSd :=
  (sRet (dN (oIs List.sum fun _ => True) (dCons (dNew (nLc (.nm 1) dYes (dBin oShl (dC (.int 1)) (dVar 1)) [1] (iVal (dVar 0)))) dNil)))
def rd_Outages_init (C : Ct) (p_outages_error : DSp) (p_number_of : DSp) (EX : QXe) : TSd :=
  (sSeq (sAsg (.nm 3) (dCall p_outages_error EX0 (dCons (dVar 1) (dCons (dVar 2) dNil))))
  (sSeq (sIf (dTst (dBin (oIsN not) (dVar 3) (dC .non)))
  (sRaise (mOwn 8 1 (dCons (dVar 3) dNil)) EX)
  sNext)
  (sSeq (sFldD fi_widthO (dVar 0) (dVar 1))
  (sSeq (sAsg (.nm 4) (dDc (.nm 5) dYes (dCall p_number_of EX0 (dCons (dVar 5) dNil)) (dC (.bl true)) [5] (iVal (dVar 2))))
  (sFldD fi_cells (dVar 0) (dNew (nLc (.nm 6) dYes (dBin (oInDk id) (dVar 6) (dVar 4)) [6] (iRg1 (dBin oShl (dC (.int 1)) (dVar 1))))))))))
def rd_law_every (C : Ct)  (EX : QXe) : TSd :=
  (sSeq (sAsg (.nm 1) (dNew (nLst (dCons (dN oTup dNil) dNil))))
  (sSeq (sFor (.nm 2) (iRg1 (dVar 0))
  (sAsg (.nm 1) (dNew (nCat (dVar 1) (dNew (nLc (.nm 3) dYes (dBin oAdd (dVar 3) (dN oTup (dCons (dVar 2) dNil))) [3] (iVal (dVar 1))))))))
  (sRet (dVar 1))))
end DL.S

set_option maxHeartbeats 1000000
namespace DL.S
open PySem PySem.Spec PyProof.Rows L2 DL
end DL.S

set_option maxHeartbeats 1000000
namespace DL.S
open PySem PySem.Spec PyProof.Rows L2 DL
end DL.S

set_option maxHeartbeats 1000000
namespace DL.S
open PySem PySem.Spec PyProof.Rows L2 DL
end DL.S

set_option maxHeartbeats 1000000
namespace DL.S
open PySem PySem.Spec PyProof.Rows L2 DL
end DL.S

set_option maxHeartbeats 1000000
namespace DL.S
open PySem PySem.Spec PyProof.Rows L2 DL
end DL.S

set_option maxHeartbeats 1000000
namespace DL.S
open PySem PySem.Spec PyProof.Rows L2 DL
end DL.S

set_option maxHeartbeats 1000000
namespace DL.S
open PySem PySem.Spec PyProof.Rows L2 DL
end DL.S

set_option maxHeartbeats 1000000
namespace DL.S
open PySem PySem.Spec PyProof.Rows L2 DL
end DL.S

set_option maxHeartbeats 1000000
namespace DL.S
open PySem PySem.Spec PyProof.Rows L2 DL
end DL.S

set_option maxHeartbeats 1000000
namespace DL.S
open PySem PySem.Spec PyProof.Rows L2 DL
def rd_law_some (C : Ct) (p_law_every : DSp) (p_law_next : DSp) (p_law_outage : DSp) (EX : QXe) : TSd :=
  (sSeq (sPar 2 3 (dCall p_law_every EX0 (dCons (dVar 1) dNil)) (dCall p_law_next EX0 (dCons (dVar 0) (dCons (dC (.int 6)) dNil))))
  (sSeq (sAsg (.nm 4) (dBin oAdd (dC (.int 2)) (dCall p_law_next EX0 (dCons (dVar 0) (dCons (dC (.int 4)) dNil)))))
  (sSeq (sSetN 5 (nLc (.nm 12) (dTst (dBin (oEq id) (dCall p_law_next EX0 (dCons (dVar 0) (dCons (dVar 4) dNil))) (dC (.int 0)))) (dVar 12) [12] (iVal (dVar 2))))
  (sSeq (sAsg (.tp [6, 7]) (dN oTup (dCons (dCall p_law_outage EX0 (dCons (dVar 0) (dCons (dVar 1) dNil))) (dCons (dCall p_law_outage EX0 (dCons (dVar 0) (dCons (dVar 1) dNil))) dNil))))
  (sSeq (sSetN 8 (nLc (.nm 12) (dOr (dTst (dEqZ id (zOp zDiff (zSet (dVar 6)) (zSet (dVar 12))) zNil)) (dTst (dEqZ id (zOp zDiff (zSet (dVar 7)) (zSet (dVar 12))) zNil))) (dVar 12) [12] (iVal (dVar 2))))
  (sSeq (sSetN 9 (nLc (.nm 12) (dOr (dTst (dEqZ id (zOp zDiff (zSet (dVar 12)) (zSet (dVar 6))) zNil)) (dTst (dEqZ id (zOp zDiff (zSet (dVar 12)) (zSet (dVar 7))) zNil))) (dVar 12) [12] (iVal (dVar 2))))
  (sSeq (sPick 10 (pkSlot 5 (pkSlot 8 (pkSlot 9 (pkNew (nLc (.nm 12) (dTst (dBin (oIn not) (dVar 12) (dVar 5))) (dVar 12) [12] (iVal (dVar 2))) (pkSlot 5 (pkSlot 8 pkNil)))))) (dVar 3))
  (sSeq (sSetN 11 (nLst dNil))
  (sSeq (sWhile (dTst (dBin (oEq not) (dVar 10) (dNew (nLst dNil))))
  (sAppPop (dVar 11) (dVar 10) (dCall p_law_next EX0 (dCons (dVar 0) (dCons (dN oLen (dCons (dVar 10) dNil)) dNil)))))
  (sRetO 11))))))))))
end DL.S

set_option maxHeartbeats 1000000
namespace DL.S
open PySem PySem.Spec PyProof.Rows L2 DL
end DL.S

set_option maxHeartbeats 1000000
namespace DL.S
open PySem PySem.Spec PyProof.Rows L2 DL
end DL.S

set_option maxHeartbeats 2000000
namespace K09
open PySem PySem.Spec PyProof.Rows L2 DL DL.S
def fi_error : Nat → Option Nat := fiOf ft_error
def isE : Nat → Nat → Option Bool := fi2 ise
def tst_SpareError : Nat → Option Bool := tsOf ts_SpareError
structure Txt (K : PySem.W.Frag) (mg : Str → Option Value) (C : Ct) : Prop where
  ns : NoSys K
  ct : CtOk C K
  f_abs : mg "abs" = none
  f_all : mg "all" = none
  f_bool : mg "bool" = none
  f_dict : mg "dict" = none
  f_enumerate : mg "enumerate" = none
  f_int : mg "int" = none
  f_isinstance : mg "isinstance" = none
  f_len : mg "len" = none
  f_list : mg "list" = none
  f_range : mg "range" = none
  f_repr : mg "repr" = none
  f_set : mg "set" = none
  f_sorted : mg "sorted" = none
  f_str : mg "str" = none
  f_sum : mg "sum" = none
  f_tuple : mg "tuple" = none
  f_zip : mg "zip" = none
  c_MAX_LINKS : ∃ t, mg "MAX_LINKS" = some (.int 8 t)
  k_BadOutages : mg "BadOutages" = some (.ref (C.addr 8))
  fl_cells : FiOk K C "cells" fi_cells
  fl_widthO : FiOk K C "width" fi_widthO
  xf_error : XfiOk K C "error" fi_error
  isE : IsEOk K C isE
  g_SpareError : mg "SpareError" = some (.ref (C.addr 0))
  tst_SpareError : ∀ c b, tst_SpareError c = some b → PySem.W.exmOne K (.ref (C.addr c)) (.ref (C.addr 0)) = some b
section
variable {P : Program} {w : World} {K : PySem.W.Frag} {mg : Str → Option Value} {base : Heap} {C : Ct}
theorem sc_law_deck : FnScope ["_law_script", "_law_cells", "_law_number"] ["_law_script"] (defScope st_law_deck) := ⟨rfl, rfl, rfl, by decide +kernel, rfl, by decide +kernel, by decide +kernel⟩
theorem wk_law_deck (T : Txt K mg C) {K0 : Nat} {f : Addr} {fd : FuncData} {p : DSp} (mono : MonoP p) (len : ∀ ds m Q E, p ds m Q E → ds.length = 1)
    (F : FunD K "_law_deck" "_law_deck" (defArgs st_law_deck) (defBody st_law_deck) (defScope st_law_deck) [] [] f fd)
    (law : ∀ ds m (Q : QD) (E : QX), p ds m Q E → rd_law_deck C  (fun c xs _ m => E c xs m) { nx := fun _ m => Q .non m, rt := Q } (env0 3 ds) m) : DF P w K mg base C (K0 + 1) f fd ["_law_script"] p := by
  refine df_of (k := K0) (d := rd_law_deck C ) F sc_law_deck mono len ?_ law
  intro cdv A outer s H E B EX hr tk
  exact (dss_cons (ds_setC [("_law_number", 2)] rfl sc_law_deck.nd (di_val (de_var 0)) (fun _ _ _ _ _ => (tg_v sc_law_deck.nd)) (fun _ _ _ _ _ => dts_nil) (fun _ _ _ _ _ => (de_b call_absD T.f_abs boot_abs (da_cons (de_var 2) da_nil))) (blkB_ok (by kernel_rfl)) (by decide))
  (dss_one (ds_ret (DN.shr (dn_lst (da_cons (DN.shr (dn_comp [("_law_number", 2)] rfl sc_law_deck.nd (di_val (de_var 1)) (fun _ _ _ _ _ => (tg_v sc_law_deck.nd)) (fun _ _ _ _ _ => (dts_one (dt_cmp op_geD (de_var 2) (de_bin op_powD de_int de_int)))) (fun _ _ _ _ _ => (de_var 2)) (blkB_ok (by kernel_rfl)) (by decide))) (da_cons (DN.de (dn_cat (de_var 1) (DN.de (dn_lst (da_cons (de_bin op_addD (de_b call_lenD T.f_len boot_len (da_cons (de_var 1) da_nil)) de_int) da_nil))))) (da_cons de_int da_nil))))))))

theorem sc_law_next : FnScope ["_law_deck_here", "_law_many", "_law_turn", "_law_number", "_law_mixed", "_law_rest"] ["_law_deck_here", "_law_many"] (defScope st_law_next) := ⟨rfl, rfl, rfl, by decide +kernel, rfl, by decide +kernel, by decide +kernel⟩
theorem wk_law_next (T : Txt K mg C) {K0 : Nat} {f : Addr} {fd : FuncData} {p : DSp} (mono : MonoP p) (len : ∀ ds m Q E, p ds m Q E → ds.length = 2)
    (F : FunD K "_law_next" "_law_next" (defArgs st_law_next) (defBody st_law_next) (defScope st_law_next) [] [] f fd)
    (law : ∀ ds m (Q : QD) (E : QX), p ds m Q E → rd_law_next C  (fun c xs _ m => E c xs m) { nx := fun _ m => Q .non m, rt := Q } (env0 6 ds) m) : DF P w K mg base C (K0 + 1) f fd ["_law_deck_here", "_law_many"] p := by
  refine df_of (k := K0) (d := rd_law_next C ) F sc_law_next mono len ?_ law
  intro cdv A outer s H E B EX hr tk
  exact (dss_cons (ds_while (passes_of rfl) (dt_cmp (op_neR hr) (de_ix ix_D (de_var 0) de_int) (DN.de (dn_lst da_nil))) (dss_cons (ds_setV sc_law_next.nd (de_ix ix_D (de_ix ix_D (de_var 0) de_int) de_int))
  (dss_cons (ds_if (dt_cmp op_gtD (de_var 5) de_int) (dss_cons (ds_setI (de_bin op_fdivWD (de_var 5) (de_var 1)) (de_ix ix_D (de_var 0) de_int) de_int)
  (dss_one (ds_ret (de_bin op_modD (de_t call_intD T.f_int boot_int (da_cons (de_var 5) da_nil)) (de_var 1))))) dss_nil)
  (dss_one (ds_pop0 (de_ix ix_D (de_var 0) de_int))))))
  (dss_cons (ds_setI (de_bin op_addD (de_ix ix_D (de_var 0) de_int) de_int) (de_var 0) de_int)
  (dss_cons (ds_setV sc_law_next.nd (de_ix ix_D (de_var 0) de_int))
  (dss_cons (ds_setV sc_law_next.nd (de_bin op_modD (de_t call_intD T.f_int boot_int (da_cons (de_ix ix_D (de_ix ix_D (de_var 0) de_int) (de_bin op_modD (de_t call_intD T.f_int boot_int (da_cons (de_var 2) da_nil)) (de_b call_lenD T.f_len boot_len (da_cons (de_ix ix_D (de_var 0) de_int) da_nil)))) da_nil)) de_int))
  (dss_cons (ds_setV sc_law_next.nd (de_bin op_modD (de_t call_intD T.f_int boot_int (da_cons (de_bin op_addD (de_bin op_addD (de_bin op_mulD (de_var 3) (de_bin op_addD de_int (de_bin op_mulD de_int (de_var 2)))) (de_bin op_mulD (de_bin op_mulD de_int (de_var 2)) (de_var 2))) de_int) da_nil)) de_int))
  (dss_one (ds_ret (de_bin op_modD (de_bin op_fdivWD (de_bin op_modD (de_t call_intD T.f_int boot_int (da_cons (de_bin op_mulD (de_var 4) (de_var 4)) da_nil)) de_int) de_int) (de_var 1)))))))))

theorem sc_law_every : FnScope ["_law_many", "_law_found", "_law_link", "_law_outage_here"] ["_law_many"] (defScope st_law_every) := ⟨rfl, rfl, rfl, by decide +kernel, rfl, by decide +kernel, by decide +kernel⟩
theorem wk_law_every (T : Txt K mg C) {K0 : Nat} {f : Addr} {fd : FuncData} {p : DSp} (mono : MonoP p) (len : ∀ ds m Q E, p ds m Q E → ds.length = 1)
    (F : FunD K "_law_every" "_law_every" (defArgs st_law_every) (defBody st_law_every) (defScope st_law_every) [] [] f fd)
    (law : ∀ ds m (Q : QD) (E : QX), p ds m Q E → rd_law_every C  (fun c xs _ m => E c xs m) { nx := fun _ m => Q .non m, rt := Q } (env0 4 ds) m) : DF P w K mg base C (K0 + 1) f fd ["_law_many"] p := by
  refine df_of (k := K0) (d := rd_law_every C ) F sc_law_every mono len ?_ law
  intro cdv A outer s H E B EX hr tk
  exact (dss_cons (ds_setV sc_law_every.nd (DN.de (dn_lst (da_cons (de_tup da_nil) da_nil))))
  (dss_cons (ds_for (passes_of rfl) rfl (di_range1 rfl T.f_range (de_var 0)) (tg_v sc_law_every.nd) (dss_one (ds_setV sc_law_every.nd (DN.de (dn_cat (de_var 1) (DN.de (dn_comp [("_law_outage_here", 3)] rfl sc_law_every.nd (di_val (de_var 1)) (fun _ _ _ _ _ => (tg_v sc_law_every.nd)) (fun _ _ _ _ _ => dts_nil) (fun _ _ _ _ _ => (de_bin op_addD (de_var 3) (de_tup (da_cons (de_var 2) da_nil)))) (blkB_ok (by kernel_rfl)) (by decide))))))))
  (dss_one (ds_ret (de_var 1)))))

theorem sc_law_outage : FnScope ["_law_deck_here", "_law_many", "_law_few", "_law_link"] ["_law_deck_here", "_law_many"] (defScope st_law_outage) := ⟨rfl, rfl, rfl, by decide +kernel, rfl, by decide +kernel, by decide +kernel⟩
theorem wk_law_outage (T : Txt K mg C) {K0 : Nat} {f : Addr} {fd : FuncData} {p_law_next : DSp} {k_law_next : Nat} {p : DSp} (mono : MonoP p) (len : ∀ ds m Q E, p ds m Q E → ds.length = 2) (c_law_next : FnC P w K mg base C "_law_next" k_law_next ["_law_deck_here", "_law_many"] p_law_next) (h_law_next : k_law_next ≤ K0)
    (F : FunD K "_law_outage" "_law_outage" (defArgs st_law_outage) (defBody st_law_outage) (defScope st_law_outage) [] [] f fd)
    (law : ∀ ds m (Q : QD) (E : QX), p ds m Q E → rd_law_outage C p_law_next (fun c xs _ m => E c xs m) { nx := fun _ m => Q .non m, rt := Q } (env0 4 ds) m) : DF P w K mg base C (K0 + 1) f fd ["_law_deck_here", "_law_many"] p := by
  refine df_of (k := K0) (d := rd_law_outage C p_law_next) F sc_law_outage mono len ?_ law
  intro cdv A outer s H E B EX hr tk
  exact (dss_cons (ds_setV sc_law_outage.nd (de_bin op_addD de_int (de_fn c_law_next hr (by omega) (da_cons (de_var 0) (da_cons de_int da_nil)) passD0)))
  (dss_one (ds_ret (de_t call_tupleD T.f_tuple boot_tuple (da_cons (DN.de (dn_comp [("_law_link", 3)] rfl sc_law_outage.nd (di_range1 rfl T.f_range (de_var 1)) (fun _ _ _ _ _ => (tg_v sc_law_outage.nd)) (fun _ _ _ _ _ => (dts_one (dt_cmp (op_eqR hr) (de_fn c_law_next hr (by omega) (da_cons (de_var 0) (da_cons (de_var 2) da_nil)) passD0) de_int))) (fun _ _ _ _ _ => (de_var 3)) (blkB_ok (by kernel_rfl)) (by decide))) da_nil)))))

theorem sc_law_some : FnScope ["_law_deck_here", "_law_many", "_law_every_here", "_law_kind", "_law_few", "_law_drawn", "_law_one", "_law_other", "_law_rising", "_law_falling", "_law_left", "_law_found", "_law_outage_here"] ["_law_deck_here", "_law_many"] (defScope st_law_some) := ⟨rfl, rfl, rfl, by decide +kernel, rfl, by decide +kernel, by decide +kernel⟩
theorem wk_law_some (T : Txt K mg C) {K0 : Nat} {f : Addr} {fd : FuncData} {p_law_every : DSp} {k_law_every : Nat} {p_law_next : DSp} {k_law_next : Nat} {p_law_outage : DSp} {k_law_outage : Nat} {p : DSp} (mono : MonoP p) (len : ∀ ds m Q E, p ds m Q E → ds.length = 2) (c_law_every : FnC P w K mg base C "_law_every" k_law_every ["_law_many"] p_law_every) (h_law_every : k_law_every ≤ K0) (c_law_next : FnC P w K mg base C "_law_next" k_law_next ["_law_deck_here", "_law_many"] p_law_next) (h_law_next : k_law_next ≤ K0) (c_law_outage : FnC P w K mg base C "_law_outage" k_law_outage ["_law_deck_here", "_law_many"] p_law_outage) (h_law_outage : k_law_outage ≤ K0)
    (F : FunD K "_law_some" "_law_some" (defArgs st_law_some) (defBody st_law_some) (defScope st_law_some) [] [] f fd)
    (law : ∀ ds m (Q : QD) (E : QX), p ds m Q E → rd_law_some C p_law_every p_law_next p_law_outage (fun c xs _ m => E c xs m) { nx := fun _ m => Q .non m, rt := Q } (env0 13 ds) m) : DF P w K mg base C (K0 + 1) f fd ["_law_deck_here", "_law_many"] p := by
  refine df_of (k := K0) (d := rd_law_some C p_law_every p_law_next p_law_outage) F sc_law_some mono len ?_ law
  intro cdv A outer s H E B EX hr tk
  exact (dss_cons (ds_par rfl sc_law_some.nd rfl rfl (by decide) rfl rfl (de_fn c_law_every hr (by omega) (da_cons (de_var 1) da_nil) passD0) (de_fn c_law_next hr (by omega) (da_cons (de_var 0) (da_cons de_int da_nil)) passD0) (by rfl))
  (dss_cons (ds_setV sc_law_some.nd (de_bin op_addD de_int (de_fn c_law_next hr (by omega) (da_cons (de_var 0) (da_cons de_int da_nil)) passD0)))
  (dss_cons (ds_setNV sc_law_some.nd (dn_comp [("_law_outage_here", 12)] rfl sc_law_some.nd (di_val (de_var 2)) (fun _ _ _ _ _ => (tg_v sc_law_some.nd)) (fun _ _ _ _ _ => (dts_one (dt_cmp (op_eqR hr) (de_fn c_law_next hr (by omega) (da_cons (de_var 0) (da_cons (de_var 4) da_nil)) passD0) de_int))) (fun _ _ _ _ _ => (de_var 12)) (blkB_ok (by kernel_rfl)) (by decide)))
  (dss_cons (ds_asg (de_tup (da_cons (de_fn c_law_outage hr (by omega) (da_cons (de_var 0) (da_cons (de_var 1) da_nil)) passD0) (da_cons (de_fn c_law_outage hr (by omega) (da_cons (de_var 0) (da_cons (de_var 1) da_nil)) passD0) da_nil))) (tg_tp rfl (tgs_v sc_law_some.nd (tgs_v sc_law_some.nd tgs_nil))))
  (dss_cons (ds_setCN [("_law_outage_here", 12)] rfl sc_law_some.nd (di_val (de_var 2)) (fun _ _ _ _ _ => (tg_v sc_law_some.nd)) (fun _ _ _ _ _ => (dts_one (DW.dt (dw_or (dt_eqZR hr (dz_sub (dz_set T.f_set (de_var 6)) (dz_set T.f_set (de_var 12))) (dz_nil T.f_set)) (dw_or1 (dt_eqZR hr (dz_sub (dz_set T.f_set (de_var 7)) (dz_set T.f_set (de_var 12))) (dz_nil T.f_set))))))) (fun _ _ _ _ _ => (de_var 12)) (blkB_ok (by kernel_rfl)) (by decide))
  (dss_cons (ds_setCN [("_law_outage_here", 12)] rfl sc_law_some.nd (di_val (de_var 2)) (fun _ _ _ _ _ => (tg_v sc_law_some.nd)) (fun _ _ _ _ _ => (dts_one (DW.dt (dw_or (dt_eqZR hr (dz_sub (dz_set T.f_set (de_var 12)) (dz_set T.f_set (de_var 6))) (dz_nil T.f_set)) (dw_or1 (dt_eqZR hr (dz_sub (dz_set T.f_set (de_var 12)) (dz_set T.f_set (de_var 7))) (dz_nil T.f_set))))))) (fun _ _ _ _ _ => (de_var 12)) (blkB_ok (by kernel_rfl)) (by decide))
  (dss_cons (ds_pick sc_law_some.nd (pk_slot 5 (pk_slot 8 (pk_slot 9 (pk_new (dn_comp [("_law_outage_here", 12)] rfl sc_law_some.nd (di_val (de_var 2)) (fun _ _ _ _ _ => (tg_v sc_law_some.nd)) (fun _ _ _ _ _ => (dts_one (dt_cmp (op_ninR hr) (de_var 12) (de_var 5)))) (fun _ _ _ _ _ => (de_var 12)) (blkB_ok (by kernel_rfl)) (by decide)) (pk_slot 5 (pk_slot 8 pk_nil)))))) (de_var 3))
  (dss_cons (ds_setNV sc_law_some.nd (dn_lst da_nil))
  (dss_cons (ds_while (passes_of rfl) (dt_cmp (op_neR hr) (de_var 10) (DN.de (dn_lst da_nil))) (dss_one (ds_appPop (de_var 11) (de_var 10) (de_fn c_law_next hr (by omega) (da_cons (de_var 0) (da_cons (de_b call_lenD T.f_len boot_len (da_cons (de_var 10) da_nil)) da_nil)) passD0))))
  (dss_one (ds_retO 11)))))))))))

theorem sc_law_same : FnScope ["_law_found", "_law_due_here", "_law_one", "_law_other"] ["_law_found", "_law_due_here"] (defScope st_law_same) := ⟨rfl, rfl, rfl, by decide +kernel, rfl, by decide +kernel, by decide +kernel⟩
theorem wk_law_same (T : Txt K mg C) {K0 : Nat} {f : Addr} {fd : FuncData} {p_law_same : DSp} {k_law_same : Nat} {p : DSp} (mono : MonoP p) (len : ∀ ds m Q E, p ds m Q E → ds.length = 2) (c_law_same : FnCG P w K mg base C "_law_same" k_law_same ["_law_found", "_law_due_here"] p_law_same) (h_law_same : k_law_same ≤ K0)
    (F : FunD K "_law_same" "_law_same" (defArgs st_law_same) (defBody st_law_same) (defScope st_law_same) [] [] f fd)
    (law : ∀ ds m (Q : QD) (E : QX), p ds m Q E → rd_law_same C p_law_same (fun c xs _ m => E c xs m) { nx := fun _ m => Q .non m, rt := Q } (env0 4 ds) m) : DG P w K mg base C (K0 + 1) f fd ["_law_found", "_law_due_here"] p := by
  refine dg_of (k := K0) (d := rd_law_same C p_law_same) F sc_law_same mono len ?_ law
  intro cdv A outer s H E B EX hrg tk
  have hr := hrg.room
  have gd := hrg.gd
  exact (dss_cons (ds_if (dt_val (de_b (call_isiD T.ct) T.f_isinstance boot_isinstance (da_cons (de_var 1) (da_cons (de_tup (da_cons (de_tyN T.f_tuple boot_tuple) (da_cons (de_tyN T.f_list boot_list) da_nil))) da_nil)))) (dss_cons (ds_if (DW.dt (dw_or (dt_cmp (op_neR hr) (de_b (call_isiD T.ct) T.f_isinstance boot_isinstance (da_cons (de_var 1) (da_cons (de_tyN T.f_tuple boot_tuple) da_nil))) (de_b (call_isiD T.ct) T.f_isinstance boot_isinstance (da_cons (de_var 0) (da_cons (de_tyN T.f_tuple boot_tuple) da_nil)))) (dw_or1 (dt_cmp (op_neR hr) (de_b (call_isiD T.ct) T.f_isinstance boot_isinstance (da_cons (de_var 1) (da_cons (de_tyN T.f_list boot_list) da_nil))) (de_b (call_isiD T.ct) T.f_isinstance boot_isinstance (da_cons (de_var 0) (da_cons (de_tyN T.f_list boot_list) da_nil))))))) (dss_one (ds_ret de_bl)) dss_nil)
  (dss_one (ds_ret (de_and (de_cmp (op_eqR hr) (de_b call_lenD T.f_len boot_len (da_cons (de_var 0) da_nil)) (de_b call_lenD T.f_len boot_len (da_cons (de_var 1) da_nil))) (de_one (de_b (call_allD rfl) T.f_all boot_all (da_cons (DN.de (dn_comp [("_law_one", 2), ("_law_other", 3)] rfl sc_law_same.nd (di_zip rfl T.f_zip (de_var 0) (de_var 1)) (fun _ _ _ _ _ => (tg_tp rfl (tgs_v sc_law_same.nd (tgs_v sc_law_same.nd tgs_nil)))) (fun _ _ _ _ _ => dts_nil) (fun _ _ _ _ _ => (de_fnG c_law_same hrg (by omega) (da_cons (de_var 2) (da_cons (de_var 3) da_nil)) passD0)) (blkB_ok (by kernel_rfl)) (by decide))) da_nil))))))) dss_nil)
  (dss_cons (ds_if (dt_cmp op_isNd (de_var 1) de_non) (dss_one (ds_ret (de_cmp op_isNd (de_var 0) de_non))) dss_nil)
  (dss_cons (ds_if (dt_val (de_b (call_isiD T.ct) T.f_isinstance boot_isinstance (da_cons (de_var 1) (da_cons (de_tyN T.f_str boot_str) da_nil)))) (dss_one (ds_ret (de_and (de_b (call_isiD T.ct) T.f_isinstance boot_isinstance (da_cons (de_var 0) (da_cons (de_tyN T.f_str boot_str) da_nil))) (de_one (de_cmp (op_eqR hr) (de_var 0) (de_var 1)))))) dss_nil)
  (dss_cons (ds_if (DW.dt (dw_or (dt_val (de_b (call_isiD T.ct) T.f_isinstance boot_isinstance (da_cons (de_var 1) (da_cons (de_tyN T.f_bool boot_bool) da_nil)))) (dw_or1 (dt_val (de_b (call_isiD T.ct) T.f_isinstance boot_isinstance (da_cons (de_var 0) (da_cons (de_tyN T.f_bool boot_bool) da_nil))))))) (dss_one (ds_ret (de_and (de_b (call_isiD T.ct) T.f_isinstance boot_isinstance (da_cons (de_var 0) (da_cons (de_tyN T.f_bool boot_bool) da_nil))) (de_and (de_b (call_isiD T.ct) T.f_isinstance boot_isinstance (da_cons (de_var 1) (da_cons (de_tyN T.f_bool boot_bool) da_nil))) (de_one (de_cmp (op_eqR hr) (de_var 0) (de_var 1))))))) dss_nil)
  (dss_cons (ds_if (dt_val (de_b (call_isiD T.ct) T.f_isinstance boot_isinstance (da_cons (de_var 1) (da_cons (de_tyN T.f_int boot_int) da_nil)))) (dss_one (ds_ret (de_and (de_b (call_isiD T.ct) T.f_isinstance boot_isinstance (da_cons (de_var 0) (da_cons (de_tyN T.f_int boot_int) da_nil))) (de_one (de_cmp (op_eqR hr) (de_var 0) (de_var 1)))))) dss_nil)
  (dss_one (ds_ret (de_and (de_b (call_isiD T.ct) T.f_isinstance boot_isinstance (da_cons (de_var 1) (da_cons (de_tyN T.f_dict boot_dict) da_nil))) (de_and (de_b (call_isiD T.ct) T.f_isinstance boot_isinstance (da_cons (de_var 0) (da_cons (de_tyN T.f_dict boot_dict) da_nil))) (de_one (de_cmp (op_eqR hr) (de_b (reprR hr gd T.ns) T.f_repr boot_repr (da_cons (de_var 0) da_nil)) (de_b (reprR hr gd T.ns) T.f_repr boot_repr (da_cons (de_var 1) da_nil)))))))))))))

theorem sc_law_bent : FnScope ["_law_deck_here", "_law_outage_here", "_law_many", "_law_at", "_law_link", "_law_some_here"] ["_law_deck_here", "_law_outage_here", "_law_many"] (defScope st_law_bent) := ⟨rfl, rfl, rfl, by decide +kernel, rfl, by decide +kernel, by decide +kernel⟩
def rd_law_bent (C : Ct) (p_law_next : DSp) (EX : QXe) : TSd :=
  (sSeq (sAsg (.nm 3) (dCall p_law_next EX0 (dCons (dVar 0) (dCons (dBin oAdd (dN oLen (dCons (dVar 1) dNil)) (dC (.int 1))) dNil))))
  (sSeq (sAsg (.nm 4) (dBin oIx (dNew (nLst (dCons (dC (.int 0)) (dCons (dVar 2) (dCons (dBin oSub (dVar 2) (dC (.int 1))) (dCons (dUn (oU fun i => -i) (dC (.int 1))) (dCons (dC (.bl true)) (dCons (dC .non) (dCons (dC (.str "0")) (dCons (dBin oPow (dC (.int 10)) (dC (.int 30))) dNil)))))))))) (dCall p_law_next EX0 (dCons (dVar 0) (dCons (dC (.int 8)) dNil)))))
  (sSeq (sAsg (.nm 5) (dNew (nLst (dCons (dBin oAdd (dBin oAdd (dSl (dVar 1) dNo (dPart (dVar 3))) (dN oTup (dCons (dVar 4) dNil))) (dSl (dVar 1) (dPart (dVar 3)) dNo)) (dCons (dBin oAdd (dBin oAdd (dSl (dVar 1) dNo (dPart (dVar 3))) (dN oTup (dCons (dVar 4) dNil))) (dSl (dVar 1) (dPart (dBin oAdd (dVar 3) (dC (.int 1)))) dNo)) (dCons (dBack (dVar 1)) (dCons (dNew (nList (dVar 1))) dNil)))))))
  (sSeq (sAsg (.nm 5) (dNew (nCat (dVar 5) (dNew (nLst (dCons (dBin oAdd (dVar 1) (dSl (dVar 1) (dPart (dUn (oU fun i => -i) (dC (.int 1)))) dNo)) (dCons (dSl (dVar 1) (dPart (dC (.int 1))) dNo) (dCons (dN oTup (dCons (dVar 1) dNil)) (dCons (dSl (dVar 1) dNo (dPart (dVar 3))) (dCons (dN oStr (dCons (dVar 1) dNil)) (dCons (dC (.dct [])) (dCons (dC .non) (dCons (dC (.int 0)) dNil)))))))))))))
  (sSeq (sAsg (.nm 5) (dNew (nCat (dVar 5) (dNew (nLst (dCons (dN oTup (dCons (dC (.int 0)) (dCons (dNew (nLst (dCons (dC (.int 1)) dNil))) dNil))) (dCons (dN oTup (dCons (dN oTup dNil) (dCons (dC (.int 0)) dNil))) (dCons (dTupRg (rRg1 (dVar 2))) (dCons (dTupRg (rRg1 (dBin oAdd (dVar 2) (dC (.int 1))))) (dCons (dN oTup (dCons (dC (.bl false)) dNil)) (dCons (dN oTup (dCons (dC (.int 0)) (dCons (dC (.bl true)) dNil))) (dCons (dN oTup (dCons (dC (.int 1)) (dCons (dC (.int 0)) dNil))) (dCons (dC (.str "")) dNil)))))))))))))
  (sRet (dBin oIx (dVar 5) (dCall p_law_next EX0 (dCons (dVar 0) (dCons (dN oLen (dCons (dVar 5) dNil)) dNil))))))))))
theorem wk_law_bent (T : Txt K mg C) {K0 : Nat} {f : Addr} {fd : FuncData} {p_law_next : DSp} {k_law_next : Nat} {p : DSp} (mono : MonoP p) (len : ∀ ds m Q E, p ds m Q E → ds.length = 3) (c_law_next : FnC P w K mg base C "_law_next" k_law_next ["_law_deck_here", "_law_many"] p_law_next) (h_law_next : k_law_next ≤ K0)
    (F : FunD K "_law_bent" "_law_bent" (defArgs st_law_bent) (defBody st_law_bent) (defScope st_law_bent) [] [] f fd)
    (law : ∀ ds m (Q : QD) (E : QX), p ds m Q E → rd_law_bent C p_law_next (fun c xs _ m => E c xs m) { nx := fun _ m => Q .non m, rt := Q } (env0 6 ds) m) : DG P w K mg base C (K0 + 1) f fd ["_law_deck_here", "_law_outage_here", "_law_many"] p := by
  refine dg_of (k := K0) (d := rd_law_bent C p_law_next) F sc_law_bent mono len ?_ law
  intro cdv A outer s H E B EX hrg tk
  have hr := hrg.room
  have gd := hrg.gd
  exact (dss_cons (ds_setV sc_law_bent.nd (de_fn c_law_next hr (by omega) (da_cons (de_var 0) (da_cons (de_bin op_addD (de_b call_lenD T.f_len boot_len (da_cons (de_var 1) da_nil)) de_int) da_nil)) passD0))
  (dss_cons (ds_setV sc_law_bent.nd (de_ix ix_D (DN.de (dn_lst (da_cons de_int (da_cons (de_var 2) (da_cons (de_bin op_subD (de_var 2) de_int) (da_cons (de_un un_negD de_int) (da_cons de_bl (da_cons de_non (da_cons de_str (da_cons (de_bin op_powD de_int de_int) da_nil)))))))))) (de_fn c_law_next hr (by omega) (da_cons (de_var 0) (da_cons de_int da_nil)) passD0)))
  (dss_cons (ds_setV sc_law_bent.nd (DN.de (dn_lst (da_cons (de_bin op_addD (de_bin op_addD (de_sl (de_var 1) do_none (do_some (de_var 3))) (de_tup (da_cons (de_var 4) da_nil))) (de_sl (de_var 1) (do_some (de_var 3)) do_none)) (da_cons (de_bin op_addD (de_bin op_addD (de_sl (de_var 1) do_none (do_some (de_var 3))) (de_tup (da_cons (de_var 4) da_nil))) (de_sl (de_var 1) (do_some (de_bin op_addD (de_var 3) de_int)) do_none)) (da_cons (de_back (de_var 1)) (da_cons (DN.de (dn_list rfl T.f_list boot_list (de_var 1))) da_nil)))))))
  (dss_cons (ds_setV sc_law_bent.nd (DN.de (dn_cat (de_var 5) (DN.de (dn_lst (da_cons (de_bin op_addD (de_var 1) (de_sl (de_var 1) (do_some (de_un un_negD de_int)) do_none)) (da_cons (de_sl (de_var 1) (do_some de_int) do_none) (da_cons (de_tup (da_cons (de_var 1) da_nil)) (da_cons (de_sl (de_var 1) do_none (do_some (de_var 3))) (da_cons (de_t (strR hr gd T.ns) T.f_str boot_str (da_cons (de_var 1) da_nil)) (da_cons de_dct0 (da_cons de_non (da_cons de_int da_nil)))))))))))))
  (dss_cons (ds_setV sc_law_bent.nd (DN.de (dn_cat (de_var 5) (DN.de (dn_lst (da_cons (de_tup (da_cons de_int (da_cons (DN.de (dn_lst (da_cons de_int da_nil))) da_nil))) (da_cons (de_tup (da_cons (de_tup da_nil) (da_cons de_int da_nil))) (da_cons (de_tupRg T.f_tuple (dr_1 T.f_range (de_var 2))) (da_cons (de_tupRg T.f_tuple (dr_1 T.f_range (de_bin op_addD (de_var 2) de_int))) (da_cons (de_tup (da_cons de_bl da_nil)) (da_cons (de_tup (da_cons de_int (da_cons de_bl da_nil))) (da_cons (de_tup (da_cons de_int (da_cons de_int da_nil))) (da_cons de_str da_nil)))))))))))))
  (dss_one (ds_ret (de_ix ix_D (de_var 5) (de_fn c_law_next hr (by omega) (da_cons (de_var 0) (da_cons (de_b call_lenD T.f_len boot_len (da_cons (de_var 5) da_nil)) da_nil)) passD0)))))))))

theorem sc_law_whole : FnScope ["_law_value"] ["_law_value"] (defScope st_law_whole) := ⟨rfl, rfl, rfl, by decide +kernel, rfl, by decide +kernel, by decide +kernel⟩
theorem wk_law_whole (T : Txt K mg C) {K0 : Nat} {f : Addr} {fd : FuncData} {p : DSp} (mono : MonoP p) (len : ∀ ds m Q E, p ds m Q E → ds.length = 1)
    (F : FunD K "_law_whole" "_law_whole" (defArgs st_law_whole) (defBody st_law_whole) (defScope st_law_whole) [] [] f fd)
    (law : ∀ ds m (Q : QD) (E : QX), p ds m Q E → rd_law_whole C  (fun c xs _ m => E c xs m) { nx := fun _ m => Q .non m, rt := Q } (env0 1 ds) m) : DF P w K mg base C (K0 + 1) f fd ["_law_value"] p := by
  refine df_of (k := K0) (d := rd_law_whole C ) F sc_law_whole mono len ?_ law
  intro cdv A outer s H E B EX hr tk
  exact (dss_one (ds_ret (de_and (de_b (call_isiD T.ct) T.f_isinstance boot_isinstance (da_cons (de_var 0) (da_cons (de_tyN T.f_int boot_int) da_nil))) (de_one (de_not (de_b (call_isiD T.ct) T.f_isinstance boot_isinstance (da_cons (de_var 0) (da_cons (de_tyN T.f_bool boot_bool) da_nil))))))))

theorem sc_law_ascends : FnScope ["_law_value", "_law_bound", "_law_item"] ["_law_value", "_law_bound"] (defScope st_law_ascends) := ⟨rfl, rfl, rfl, by decide +kernel, rfl, by decide +kernel, by decide +kernel⟩
theorem wk_law_ascends (T : Txt K mg C) {K0 : Nat} {f : Addr} {fd : FuncData} {p_law_whole : DSp} {k_law_whole : Nat} {p : DSp} (mono : MonoP p) (len : ∀ ds m Q E, p ds m Q E → ds.length = 2) (c_law_whole : FnC P w K mg base C "_law_whole" k_law_whole ["_law_value"] p_law_whole) (h_law_whole : k_law_whole ≤ K0)
    (F : FunD K "_law_ascends" "_law_ascends" (defArgs st_law_ascends) (defBody st_law_ascends) (defScope st_law_ascends) [] [] f fd)
    (law : ∀ ds m (Q : QD) (E : QX), p ds m Q E → rd_law_ascends C p_law_whole (fun c xs _ m => E c xs m) { nx := fun _ m => Q .non m, rt := Q } (env0 3 ds) m) : DF P w K mg base C (K0 + 1) f fd ["_law_value", "_law_bound"] p := by
  refine df_of (k := K0) (d := rd_law_ascends C p_law_whole) F sc_law_ascends mono len ?_ law
  intro cdv A outer s H E B EX hr tk
  exact (dss_cons (ds_if (DW.dt (dw_or (dt_not (dt_val (de_b (call_isiD T.ct) T.f_isinstance boot_isinstance (da_cons (de_var 0) (da_cons (de_tyN T.f_tuple boot_tuple) da_nil))))) (dw_or1 (dt_not (dt_val (de_b (call_allD rfl) T.f_all boot_all (da_cons (DN.de (dn_comp [("_law_item", 2)] rfl sc_law_ascends.nd (di_val (de_var 0)) (fun _ _ _ _ _ => (tg_v sc_law_ascends.nd)) (fun _ _ _ _ _ => dts_nil) (fun _ _ _ _ _ => (de_and (de_fn c_law_whole hr (by omega) (da_cons (de_var 2) da_nil) passD0) (de_one (de_chain op_leD op_ltD de_int (de_var 2) (de_var 1))))) (blkB_ok (by kernel_rfl)) (by decide))) da_nil))))))) (dss_one (ds_ret de_bl)) dss_nil)
  (dss_one (ds_ret (de_and (de_cmp (op_eqR hr) (DN.de (dn_sortedR hr T.ns T.f_sorted (DN.de (dn_list rfl T.f_list boot_list (de_var 0))))) (DN.de (dn_list rfl T.f_list boot_list (de_var 0)))) (de_one (de_cmp (op_eqR hr) (de_lenSet T.f_len T.f_set (de_var 0)) (de_b call_lenD T.f_len boot_len (da_cons (de_var 0) da_nil))))))))

theorem sc_law_due : FnScope ["_law_many", "_law_members", "_law_seen", "_law_k"] ["_law_many", "_law_members"] (defScope st_law_due) := ⟨rfl, rfl, rfl, by decide +kernel, rfl, by decide +kernel, by decide +kernel⟩
def rd_law_due (C : Ct) (p_law_whole : DSp) (p_law_ascends : DSp) (EX : QXe) : TSd :=
  (sSeq (sIf (dOr (dNot (dTst (dCall p_law_whole EX0 (dCons (dVar 0) dNil)))) (dOr (dTst (dBin oLt (dVar 0) (dC (.int 0)))) (dTst (dBin oGt (dVar 0) (dC (.int 8))))))
  (sRet (dN oTup (dCons (dC .non) (dCons (dC (.str "many")) dNil))))
  sNext)
  (sSeq (sIf (dNot (dTst (dN (oIsi C) (dCons (dVar 1) (dCons (dC (.ty "tuple")) dNil)))))
  (sRet (dN oTup (dCons (dC .non) (dCons (dC (.str "members")) dNil))))
  sNext)
  (sSeq (sSetN 2 (nLst dNil))
  (sSeq (sFor (.nm 3) (iRg1 (dN oLen (dCons (dVar 1) dNil)))
  (sSeq (sIf (dNot (dTst (dCall p_law_ascends EX0 (dCons (dBin oIx (dVar 1) (dVar 3)) (dCons (dVar 0) dNil)))))
  (sRet (dN oTup (dCons (dVar 3) (dCons (dC (.str "outage")) dNil))))
  sNext)
  (sSeq (sIf (dTst (dBin (oIn id) (dBin oIx (dVar 1) (dVar 3)) (dVar 2)))
  (sRet (dN oTup (dCons (dVar 3) (dCons (dC (.str "again")) dNil))))
  sNext)
  (sApp (dVar 2) (dBin oIx (dVar 1) (dVar 3))))))
  (sRet (dC .non))))))
theorem wk_law_due (T : Txt K mg C) {K0 : Nat} {f : Addr} {fd : FuncData} {p_law_whole : DSp} {k_law_whole : Nat} {p_law_ascends : DSp} {k_law_ascends : Nat} {p : DSp} (mono : MonoP p) (len : ∀ ds m Q E, p ds m Q E → ds.length = 2) (c_law_whole : FnC P w K mg base C "_law_whole" k_law_whole ["_law_value"] p_law_whole) (h_law_whole : k_law_whole ≤ K0) (c_law_ascends : FnC P w K mg base C "_law_ascends" k_law_ascends ["_law_value", "_law_bound"] p_law_ascends) (h_law_ascends : k_law_ascends ≤ K0)
    (F : FunD K "_law_due" "_law_due" (defArgs st_law_due) (defBody st_law_due) (defScope st_law_due) [] [] f fd)
    (law : ∀ ds m (Q : QD) (E : QX), p ds m Q E → rd_law_due C p_law_whole p_law_ascends (fun c xs _ m => E c xs m) { nx := fun _ m => Q .non m, rt := Q } (env0 4 ds) m) : DF P w K mg base C (K0 + 1) f fd ["_law_many", "_law_members"] p := by
  refine df_of (k := K0) (d := rd_law_due C p_law_whole p_law_ascends) F sc_law_due mono len ?_ law
  intro cdv A outer s H E B EX hr tk
  exact (dss_cons (ds_if (DW.dt (dw_or (dt_not (dt_val (de_fn c_law_whole hr (by omega) (da_cons (de_var 0) da_nil) passD0))) (dw_or (dt_cmp op_ltD (de_var 0) de_int) (dw_or1 (dt_cmp op_gtD (de_var 0) de_int))))) (dss_one (ds_ret (de_tup (da_cons de_non (da_cons de_str da_nil))))) dss_nil)
  (dss_cons (ds_if (dt_not (dt_val (de_b (call_isiD T.ct) T.f_isinstance boot_isinstance (da_cons (de_var 1) (da_cons (de_tyN T.f_tuple boot_tuple) da_nil))))) (dss_one (ds_ret (de_tup (da_cons de_non (da_cons de_str da_nil))))) dss_nil)
  (dss_cons (ds_setNV sc_law_due.nd (dn_lst da_nil))
  (dss_cons (ds_for (passes_of rfl) rfl (di_range1 rfl T.f_range (de_b call_lenD T.f_len boot_len (da_cons (de_var 1) da_nil))) (tg_v sc_law_due.nd) (dss_cons (ds_if (dt_not (dt_val (de_fn c_law_ascends hr (by omega) (da_cons (de_ix ix_D (de_var 1) (de_var 3)) (da_cons (de_var 0) da_nil)) passD0))) (dss_one (ds_ret (de_tup (da_cons (de_var 3) (da_cons de_str da_nil))))) dss_nil)
  (dss_cons (ds_if (dt_cmp (op_inR hr) (de_ix ix_D (de_var 1) (de_var 3)) (de_var 2)) (dss_one (ds_ret (de_tup (da_cons (de_var 3) (da_cons de_str da_nil))))) dss_nil)
  (dss_one (ds_app (de_var 2) (de_ix ix_D (de_var 1) (de_var 3)))))))
  (dss_one (ds_ret de_non))))))

theorem sc_is_whole : FnScope ["value"] ["value"] (defScope st_is_whole) := ⟨rfl, rfl, rfl, by decide +kernel, rfl, by decide +kernel, by decide +kernel⟩
theorem wk_is_whole (T : Txt K mg C) {K0 : Nat} {f : Addr} {fd : FuncData} {p : DSp} (mono : MonoP p) (len : ∀ ds m Q E, p ds m Q E → ds.length = 1)
    (F : FunD K "is_whole" "is_whole" (defArgs st_is_whole) (defBody st_is_whole) (defScope st_is_whole) [] [] f fd)
    (law : ∀ ds m (Q : QD) (E : QX), p ds m Q E → rd_is_whole C  (fun c xs _ m => E c xs m) { nx := fun _ m => Q .non m, rt := Q } (env0 1 ds) m) : DF P w K mg base C (K0 + 1) f fd ["value"] p := by
  refine df_of (k := K0) (d := rd_is_whole C ) F sc_is_whole mono len ?_ law
  intro cdv A outer s H E B EX hr tk
  exact (dss_one (ds_ret (de_and (de_b (call_isiD T.ct) T.f_isinstance boot_isinstance (da_cons (de_var 0) (da_cons (de_tyN T.f_int boot_int) da_nil))) (de_one (de_not (de_b (call_isiD T.ct) T.f_isinstance boot_isinstance (da_cons (de_var 0) (da_cons (de_tyN T.f_bool boot_bool) da_nil))))))))

theorem sc_is_below : FnScope ["value", "bound"] ["value", "bound"] (defScope st_is_below) := ⟨rfl, rfl, rfl, by decide +kernel, rfl, by decide +kernel, by decide +kernel⟩
theorem wk_is_below (T : Txt K mg C) {K0 : Nat} {f : Addr} {fd : FuncData} {p_is_whole : DSp} {k_is_whole : Nat} {p : DSp} (mono : MonoP p) (len : ∀ ds m Q E, p ds m Q E → ds.length = 2) (c_is_whole : FnC P w K mg base C "is_whole" k_is_whole ["value"] p_is_whole) (h_is_whole : k_is_whole ≤ K0)
    (F : FunD K "is_below" "is_below" (defArgs st_is_below) (defBody st_is_below) (defScope st_is_below) [] [] f fd)
    (law : ∀ ds m (Q : QD) (E : QX), p ds m Q E → rd_is_below C p_is_whole (fun c xs _ m => E c xs m) { nx := fun _ m => Q .non m, rt := Q } (env0 2 ds) m) : DF P w K mg base C (K0 + 1) f fd ["value", "bound"] p := by
  refine df_of (k := K0) (d := rd_is_below C p_is_whole) F sc_is_below mono len ?_ law
  intro cdv A outer s H E B EX hr tk
  exact (dss_one (ds_ret (de_and (de_fn c_is_whole hr (by omega) (da_cons (de_var 0) da_nil) passD0) (de_one (de_chain op_leD op_ltD de_int (de_var 0) (de_var 1))))))

theorem sc_ascends : FnScope ["value", "bound", "one", "other", "item"] ["value", "bound"] (defScope st_ascends) := ⟨rfl, rfl, rfl, by decide +kernel, rfl, by decide +kernel, by decide +kernel⟩
theorem wk_ascends (T : Txt K mg C) {K0 : Nat} {f : Addr} {fd : FuncData} {p_is_below : DSp} {k_is_below : Nat} {p : DSp} (mono : MonoP p) (len : ∀ ds m Q E, p ds m Q E → ds.length = 2) (c_is_below : FnC P w K mg base C "is_below" k_is_below ["value", "bound"] p_is_below) (h_is_below : k_is_below ≤ K0)
    (F : FunD K "ascends" "ascends" (defArgs st_ascends) (defBody st_ascends) (defScope st_ascends) [] [] f fd)
    (law : ∀ ds m (Q : QD) (E : QX), p ds m Q E → rd_ascends C p_is_below (fun c xs _ m => E c xs m) { nx := fun _ m => Q .non m, rt := Q } (env0 5 ds) m) : DF P w K mg base C (K0 + 1) f fd ["value", "bound"] p := by
  refine df_of (k := K0) (d := rd_ascends C p_is_below) F sc_ascends mono len ?_ law
  intro cdv A outer s H E B EX hr tk
  exact (dss_cons (ds_if (DW.dt (dw_or (dt_not (dt_val (de_b (call_isiD T.ct) T.f_isinstance boot_isinstance (da_cons (de_var 0) (da_cons (de_tyN T.f_tuple boot_tuple) da_nil))))) (dw_or1 (dt_not (dt_val (de_b (call_allD rfl) T.f_all boot_all (da_cons (DN.de (dn_comp [("item", 4)] rfl sc_ascends.nd (di_val (de_var 0)) (fun _ _ _ _ _ => (tg_v sc_ascends.nd)) (fun _ _ _ _ _ => dts_nil) (fun _ _ _ _ _ => (de_fn c_is_below hr (by omega) (da_cons (de_var 4) (da_cons (de_var 1) da_nil)) passD0)) (blkB_ok (by kernel_rfl)) (by decide))) da_nil))))))) (dss_one (ds_ret de_bl)) dss_nil)
  (dss_one (ds_ret (de_b (call_allD rfl) T.f_all boot_all (da_cons (DN.de (dn_comp [("one", 2), ("other", 3)] rfl sc_ascends.nd (di_zip rfl T.f_zip (de_var 0) (de_sl (de_var 0) (do_some de_int) do_none)) (fun _ _ _ _ _ => (tg_tp rfl (tgs_v sc_ascends.nd (tgs_v sc_ascends.nd tgs_nil)))) (fun _ _ _ _ _ => dts_nil) (fun _ _ _ _ _ => (de_cmp op_ltD (de_var 2) (de_var 3))) (blkB_ok (by kernel_rfl)) (by decide))) da_nil)))))

theorem sc_outages_error : FnScope ["many", "members", "seen", "index", "member"] ["many", "members"] (defScope st_outages_error) := ⟨rfl, rfl, rfl, by decide +kernel, rfl, by decide +kernel, by decide +kernel⟩
theorem wk_outages_error (T : Txt K mg C) {K0 : Nat} {f : Addr} {fd : FuncData} {p_is_whole : DSp} {k_is_whole : Nat} {p_ascends : DSp} {k_ascends : Nat} {p : DSp} (mono : MonoP p) (len : ∀ ds m Q E, p ds m Q E → ds.length = 2) (c_is_whole : FnC P w K mg base C "is_whole" k_is_whole ["value"] p_is_whole) (h_is_whole : k_is_whole ≤ K0) (c_ascends : FnC P w K mg base C "ascends" k_ascends ["value", "bound"] p_ascends) (h_ascends : k_ascends ≤ K0)
    (F : FunD K "outages_error" "outages_error" (defArgs st_outages_error) (defBody st_outages_error) (defScope st_outages_error) [] [] f fd)
    (law : ∀ ds m (Q : QD) (E : QX), p ds m Q E → rd_outages_error C p_is_whole p_ascends (fun c xs _ m => E c xs m) { nx := fun _ m => Q .non m, rt := Q } (env0 5 ds) m) : DF P w K mg base C (K0 + 1) f fd ["many", "members"] p := by
  refine df_of (k := K0) (d := rd_outages_error C p_is_whole p_ascends) F sc_outages_error mono len ?_ law
  intro cdv A outer s H E B EX hr tk
  exact (dss_cons (ds_if (DW.dt (dw_or (dt_not (dt_val (de_fn c_is_whole hr (by omega) (da_cons (de_var 0) da_nil) passD0))) (dw_or1 (dt_not (dt_chain op_leD op_leD de_int (de_var 0) (de_gInt T.c_MAX_LINKS)))))) (dss_one (ds_ret (de_tup (da_cons de_non (da_cons de_str da_nil))))) dss_nil)
  (dss_cons (ds_if (dt_not (dt_val (de_b (call_isiD T.ct) T.f_isinstance boot_isinstance (da_cons (de_var 1) (da_cons (de_tyN T.f_tuple boot_tuple) da_nil))))) (dss_one (ds_ret (de_tup (da_cons de_non (da_cons de_str da_nil))))) dss_nil)
  (dss_cons (ds_setD0 sc_outages_error.nd)
  (dss_cons (ds_for (passes_of rfl) rfl (di_enum rfl T.f_enumerate (de_var 1)) (tg_tp rfl (tgs_v sc_outages_error.nd (tgs_v sc_outages_error.nd tgs_nil))) (dss_cons (ds_if (dt_not (dt_val (de_fn c_ascends hr (by omega) (da_cons (de_var 4) (da_cons (de_var 0) da_nil)) passD0))) (dss_one (ds_ret (de_tup (da_cons (de_var 3) (da_cons de_str da_nil))))) dss_nil)
  (dss_cons (ds_if (dt_cmp (op_inT hr) (de_var 4) (de_var 2)) (dss_one (ds_ret (de_tup (da_cons (de_var 3) (da_cons de_str da_nil))))) dss_nil)
  (dss_one (ds_putT hr de_bl (de_var 2) (de_var 4))))))
  (dss_one (ds_ret de_non))))))

theorem sc_number_of : FnScope ["outage", "link"] ["outage"] (defScope st_number_of) := ⟨rfl, rfl, rfl, by decide +kernel, rfl, by decide +kernel, by decide +kernel⟩
theorem wk_number_of (T : Txt K mg C) {K0 : Nat} {f : Addr} {fd : FuncData} {p : DSp} (mono : MonoP p) (len : ∀ ds m Q E, p ds m Q E → ds.length = 1)
    (F : FunD K "number_of" "number_of" (defArgs st_number_of) (defBody st_number_of) (defScope st_number_of) [] [] f fd)
    (law : ∀ ds m (Q : QD) (E : QX), p ds m Q E → rd_number_of C  (fun c xs _ m => E c xs m) { nx := fun _ m => Q .non m, rt := Q } (env0 2 ds) m) : DF P w K mg base C (K0 + 1) f fd ["outage"] p := by
  refine df_of (k := K0) (d := rd_number_of C ) F sc_number_of mono len ?_ law
  intro cdv A outer s H E B EX hr tk
  exact (dss_one (ds_ret (de_b (call_sumD rfl) T.f_sum boot_sum (da_cons (DN.de (dn_comp [("link", 1)] rfl sc_number_of.nd (di_val (de_var 0)) (fun _ _ _ _ _ => (tg_v sc_number_of.nd)) (fun _ _ _ _ _ => dts_nil) (fun _ _ _ _ _ => (de_bin op_shlD de_int (de_var 1))) (blkB_ok (by kernel_rfl)) (by decide))) da_nil))))

theorem sc_Outages_init : FnScope ["self", "many", "members", "error", "numbers", "member", "number"] ["self", "many", "members"] (defScope st_Outages_init) := ⟨rfl, rfl, rfl, by decide +kernel, rfl, by decide +kernel, by decide +kernel⟩
theorem wk_Outages_init (T : Txt K mg C) {K0 : Nat} {f : Addr} {fd : FuncData} {p_outages_error : DSp} {k_outages_error : Nat} {p_number_of : DSp} {k_number_of : Nat} {p : DSp} (mono : MonoP p) (len : ∀ ds m Q E, p ds m Q E → ds.length = 3) (c_outages_error : FnC P w K mg base C "outages_error" k_outages_error ["many", "members"] p_outages_error) (h_outages_error : k_outages_error ≤ K0) (c_number_of : FnC P w K mg base C "number_of" k_number_of ["outage"] p_number_of) (h_number_of : k_number_of ≤ K0) (x_BadOutages : XcC P w K mg base C "BadOutages" 8 ["error"]) (h_BadOutages : 2 ≤ K0)
    (F : FunD K "__init__" "Outages.__init__" (defArgs st_Outages_init) (defBody st_Outages_init) (defScope st_Outages_init) [] [] f fd)
    (law : ∀ ds m (Q : QD) (E : QX), p ds m Q E → rd_Outages_init C p_outages_error p_number_of (fun c xs _ m => E c xs m) { nx := fun _ m => Q .non m, rt := Q } (env0 7 ds) m) : DF P w K mg base C (K0 + 1) f fd ["self", "many", "members"] p := by
  refine df_of (k := K0) (d := rd_Outages_init C p_outages_error p_number_of) F sc_Outages_init mono len ?_ law
  intro cdv A outer s H E B EX hr tk
  exact (dss_cons (ds_setV sc_Outages_init.nd (de_fn c_outages_error hr (by omega) (da_cons (de_var 1) (da_cons (de_var 2) da_nil)) passD0))
  (dss_cons (ds_if (dt_cmp op_notNd (de_var 3) de_non) (dss_one (ds_raise rfl tk (dm_x x_BadOutages hr (by omega) (da_cons (de_var 3) da_nil)))) dss_nil)
  (dss_cons (ds_fld T.fl_widthO (de_var 0) (de_var 1))
  (dss_cons (ds_setV sc_Outages_init.nd (de_dcB [("member", 5)] rfl sc_Outages_init.nd (di_val (de_var 2)) (fun _ _ _ _ _ => (tg_v sc_Outages_init.nd)) (fun _ _ _ _ _ => dts_nil) (fun _ _ _ _ _ => (de_fn c_number_of hr (by omega) (da_cons (de_var 5) da_nil) passD0)) (fun _ _ _ _ _ => de_bl) (blkB_ok (by kernel_rfl)) (by decide)))
  (dss_one (ds_fld T.fl_cells (de_var 0) (DN.de (dn_comp [("number", 6)] rfl sc_Outages_init.nd (di_range1 rfl T.f_range (de_bin op_shlD de_int (de_var 1))) (fun _ _ _ _ _ => (tg_v sc_Outages_init.nd)) (fun _ _ _ _ _ => dts_nil) (fun _ _ _ _ _ => (de_cmp op_inDk (de_var 6) (de_var 4))) (blkB_ok (by kernel_rfl)) (by decide)))))))))

theorem sc_law_told : FnScope ["_law_many", "_law_members", "_law_found", "error"] ["_law_many", "_law_members"] (defScope st_law_told) := ⟨rfl, rfl, rfl, by decide +kernel, rfl, by decide +kernel, by decide +kernel⟩
def rd_law_told (C : Ct)  (p_Outages_init : DSp) (EX : QXe) : TSd :=
  (sSeq (sAsg (.nm 2) (dC .non))
  (sSeq (sTry 3 tst_SpareError (fun EX' => (sDrop (dMakeF 21 2 p_Outages_init EX' (dCons (dVar 0) (dCons (dVar 1) dNil))))) (fun a c xs => (sAsg (.nm 2) (dIf (dTst (dN (oIsE a c isE) (dCons (dVar 3) (dCons (dC (.cls 8)) dNil)))) (dXf a c xs fi_error (dVar 3)) (dC (.str "other"))))) EX)
  (sRet (dVar 2))))
theorem wk_law_told (T : Txt K mg C) {K0 : Nat} {f : Addr} {fd : FuncData} {p_Outages_init : DSp} {k_Outages : Nat} {p : DSp} (mono : MonoP p) (len : ∀ ds m Q E, p ds m Q E → ds.length = 2) (m_Outages : MkC P w K mg base C "Outages" 21 2 k_Outages ["self", "many", "members"] p_Outages_init) (h_Outages : k_Outages + 1 ≤ K0)
    (F : FunD K "_law_told" "_law_told" (defArgs st_law_told) (defBody st_law_told) (defScope st_law_told) [] [] f fd)
    (law : ∀ ds m (Q : QD) (E : QX), p ds m Q E → rd_law_told C  p_Outages_init (fun c xs _ m => E c xs m) { nx := fun _ m => Q .non m, rt := Q } (env0 4 ds) m) : DF P w K mg base C (K0 + 1) f fd ["_law_many", "_law_members"] p := by
  refine df_of (k := K0) (d := rd_law_told C  p_Outages_init) F sc_law_told mono len ?_ law
  intro cdv A outer s H E B EX hr tk
  exact (dss_cons (ds_setV sc_law_told.nd de_non)
  (dss_cons (ds_try rfl rfl sc_law_told.nd rfl rfl ⟨rfl, by decide, Or.inl T.g_SpareError⟩ tk T.tst_SpareError (fun EX' => (by repeat (first | exact (fun _ _ _ _ l h => l.nx _ _ h) | apply sSeq.mono | apply sDrop.mono | apply sAsg.mono | apply sRet.mono | apply sIf.mono | apply dMakeF.mono | apply dCall.mono | apply dIf.mono | apply dTst.mono | apply dN.mono | apply dXf.mono | apply dBin.mono | apply dCons.mono | apply dProp.mono | apply dCm.mono | exact dNil.mono | exact dVar.mono _ | exact dC.mono _ | exact oIsE.mono | exact oTup.mono | exact m_Outages.F.mono))) (fun a c xs => (by repeat (first | exact (fun _ _ _ _ l h => l.nx _ _ h) | apply sSeq.mono | apply sDrop.mono | apply sAsg.mono | apply sRet.mono | apply sIf.mono | apply dMakeF.mono | apply dCall.mono | apply dIf.mono | apply dTst.mono | apply dN.mono | apply dXf.mono | apply dBin.mono | apply dCons.mono | apply dProp.mono | apply dCm.mono | exact dNil.mono | exact dVar.mono _ | exact dC.mono _ | exact oIsE.mono | exact oTup.mono | exact m_Outages.F.mono))) (fun pn xe B' EX' tk' hp' => (dss_one (ds_expr (de_mk m_Outages rfl hr (by omega) (da_cons (de_var 0) (da_cons (de_var 1) da_nil)) (TakesD.pass tk'))))) (fun a oe d pn c vs xs B' hz hd hx => (dss_one (ds_setV sc_law_told.nd (de_ifExp (dt_val (de_isE T.isE hz hd hx rfl T.f_isinstance boot_isinstance (da_cons (de_var 3) (da_cons (de_gCls T.k_BadOutages) da_nil)))) (de_xf T.xf_error hz hd hx (de_var 3)) de_str)))))
  (dss_one (ds_ret (de_var 2)))))

theorem sc_law : FnScope ["_law_script", "_law_deck_here", "_law_turn", "_law_many", "_law_members", "_law_change", "_law_sizes", "_law_size", "_law_rows", "_law_kept", "_law_at", "_law_kind", "_law_again", "_law_bent_here"] ["_law_script"] (defScope st_law) := ⟨rfl, rfl, rfl, by decide +kernel, rfl, by decide +kernel, by decide +kernel⟩
def rd_law (C : Ct) (p_law_deck : DSp) (p_law_next : DSp) (p_law_some : DSp) (p_law_bent : DSp) (p_law_every : DSp) (p_law_same : DSp) (p_law_due : DSp) (p_law_told : DSp) (EX : QXe) : TSd :=
  (sSeq (sAsg (.nm 1) (dCall p_law_deck EX0 (dCons (dVar 0) dNil)))
  (sSeq (sFor (.nm 2) (iRg1 (dC (.int 6)))
  (sSeq (sAsg (.nm 3) (dCall p_law_next EX0 (dCons (dVar 1) (dCons (dC (.int 6)) dNil))))
  (sSeq (sAsg (.nm 4) (dNew (nObj (dCall p_law_some EX0 (dCons (dVar 1) (dCons (dVar 3) dNil))))))
  (sSeq (sFor (.nm 5) (iRg1 (dCall p_law_next EX0 (dCons (dVar 1) (dCons (dC (.int 4)) dNil))))
  (sSeq (sPar 10 11 (dCall p_law_next EX0 (dCons (dVar 1) (dCons (dBin oAdd (dN oLen (dCons (dVar 4) dNil)) (dC (.int 1))) dNil))) (dCall p_law_next EX0 (dCons (dVar 1) (dCons (dC (.int 3)) dNil))))
  (sSeq (sAsg (.nm 12) (dBin oIx (dNew (nCat (dVar 4) (dNew (nLst (dCons (dN oTup dNil) dNil))))) (dCall p_law_next EX0 (dCons (dVar 1) (dCons (dBin oAdd (dN oLen (dCons (dVar 4) dNil)) (dC (.int 1))) dNil)))))
  (sSeq (sAsg (.nm 13) (dCall p_law_bent EX0 (dCons (dVar 1) (dCons (dBin oIx (dCall p_law_every EX0 (dCons (dVar 3) dNil)) (dBin oMul (dCall p_law_next EX0 (dCons (dVar 1) (dCons (dC (.int 2)) dNil))) (dCall p_law_next EX0 (dCons (dVar 1) (dCons (dBin oShl (dC (.int 1)) (dVar 3)) dNil))))) (dCons (dVar 3) dNil)))))
  (sAsg (.nm 4) (dNew (nCat (dNew (nCat (dSl (dVar 4) dNo (dPart (dVar 10))) (dNew (nLst (dCons (dBin oIx (dNew (nLst (dCons (dVar 13) (dCons (dVar 12) dNil)))) (dN (oN1 fInt) (dCons (dBin (oEq id) (dVar 11) (dC (.int 2))) dNil))) dNil))))) (dSl (dVar 4) (dPart (dBin oAdd (dVar 10) (dN (oN1 fInt) (dCons (dBin (oEq id) (dVar 11) (dC (.int 0))) dNil)))) dNo))))))))
  (sSeq (sAsg (.nm 6) (dNew (nLst (dCons (dVar 3) (dCons (dVar 3) (dCons (dVar 3) (dCons (dVar 3) (dCons (dVar 3) (dCons (dBin oAdd (dVar 3) (dC (.int 1))) (dCons (dC (.int 8)) (dCons (dC (.int 9)) (dCons (dUn (oU fun i => -i) (dC (.int 1))) (dCons (dC .non) (dCons (dC (.bl true)) (dCons (dN oStr (dCons (dVar 3) dNil)) (dCons (dN oTup (dCons (dVar 3) dNil)) (dCons (dBin oPow (dC (.int 10)) (dC (.int 30))) dNil)))))))))))))))))
  (sSeq (sPar 7 8 (dBin oIx (dVar 6) (dCall p_law_next EX0 (dCons (dVar 1) (dCons (dC (.int 14)) dNil)))) (dBin oIx (dNew (nLst (dCons (dN oTuple (dCons (dVar 4) dNil)) (dCons (dN oTuple (dCons (dVar 4) dNil)) (dCons (dVar 4) dNil))))) (dCall p_law_next EX0 (dCons (dVar 1) (dCons (dC (.int 3)) dNil)))))
  (sSeq (sIf (dTst (dBin (oEq id) (dCall p_law_next EX0 (dCons (dVar 1) (dCons (dC (.int 10)) dNil))) (dC (.int 0))))
  (sAsg (.nm 8) (dCall p_law_bent EX0 (dCons (dVar 1) (dCons (dN oTup dNil) (dCons (dVar 3) dNil)))))
  sNext)
  (sSeq (sAsg (.nm 9) (dN oRepr (dCons (dN oTup (dCons (dVar 7) (dCons (dVar 8) dNil))) dNil)))
  (sIf (dOr (dNot (dTst (dCall p_law_same EX0 (dCons (dCall p_law_told EX0 (dCons (dVar 7) (dCons (dVar 8) dNil))) (dCons (dCall p_law_due EX0 (dCons (dVar 7) (dCons (dVar 8) dNil))) dNil))))) (dTst (dBin (oEq not) (dN oRepr (dCons (dN oTup (dCons (dVar 7) (dCons (dVar 8) dNil))) dNil)) (dVar 9))))
  (sRet (dC (.bl false)))
  sNext)))))))))
  (sRet (dC (.bl true)))))
theorem wk_law (T : Txt K mg C) {K0 : Nat} {f : Addr} {fd : FuncData} {p_law_deck : DSp} {k_law_deck : Nat} {p_law_next : DSp} {k_law_next : Nat} {p_law_some : DSp} {k_law_some : Nat} {p_law_bent : DSp} {k_law_bent : Nat} {p_law_every : DSp} {k_law_every : Nat} {p_law_same : DSp} {k_law_same : Nat} {p_law_due : DSp} {k_law_due : Nat} {p_law_told : DSp} {k_law_told : Nat} {p : DSp} (mono : MonoP p) (len : ∀ ds m Q E, p ds m Q E → ds.length = 1) (c_law_deck : FnC P w K mg base C "_law_deck" k_law_deck ["_law_script"] p_law_deck) (h_law_deck : k_law_deck ≤ K0) (c_law_next : FnC P w K mg base C "_law_next" k_law_next ["_law_deck_here", "_law_many"] p_law_next) (h_law_next : k_law_next ≤ K0) (c_law_some : FnC P w K mg base C "_law_some" k_law_some ["_law_deck_here", "_law_many"] p_law_some) (h_law_some : k_law_some ≤ K0) (c_law_bent : FnCG P w K mg base C "_law_bent" k_law_bent ["_law_deck_here", "_law_outage_here", "_law_many"] p_law_bent) (h_law_bent : k_law_bent ≤ K0) (c_law_every : FnC P w K mg base C "_law_every" k_law_every ["_law_many"] p_law_every) (h_law_every : k_law_every ≤ K0) (c_law_same : FnCG P w K mg base C "_law_same" k_law_same ["_law_found", "_law_due_here"] p_law_same) (h_law_same : k_law_same ≤ K0) (c_law_due : FnC P w K mg base C "_law_due" k_law_due ["_law_many", "_law_members"] p_law_due) (h_law_due : k_law_due ≤ K0) (c_law_told : FnC P w K mg base C "_law_told" k_law_told ["_law_many", "_law_members"] p_law_told) (h_law_told : k_law_told ≤ K0)
    (F : FunD K "law" "law" (defArgs st_law) (defBody st_law) (defScope st_law) [] [] f fd)
    (law : ∀ ds m (Q : QD) (E : QX), p ds m Q E → rd_law C p_law_deck p_law_next p_law_some p_law_bent p_law_every p_law_same p_law_due p_law_told (fun c xs _ m => E c xs m) { nx := fun _ m => Q .non m, rt := Q } (env0 14 ds) m) : DG P w K mg base C (K0 + 1) f fd ["_law_script"] p := by
  refine dg_of (k := K0) (d := rd_law C p_law_deck p_law_next p_law_some p_law_bent p_law_every p_law_same p_law_due p_law_told) F sc_law mono len ?_ law
  intro cdv A outer s H E B EX hrg tk
  have hr := hrg.room
  have gd := hrg.gd
  exact (dss_cons (ds_setV sc_law.nd (de_fn c_law_deck hr (by omega) (da_cons (de_var 0) da_nil) passD0))
  (dss_cons (ds_for (passes_of rfl) rfl (di_range1 rfl T.f_range de_int) (tg_v sc_law.nd) (dss_cons (ds_setV sc_law.nd (de_fn c_law_next hr (by omega) (da_cons (de_var 1) (da_cons de_int da_nil)) passD0))
  (dss_cons (ds_setV sc_law.nd (DN.de (dn_obj (de_fn c_law_some hr (by omega) (da_cons (de_var 1) (da_cons (de_var 3) da_nil)) passD0))))
  (dss_cons (ds_for (passes_of rfl) rfl (di_range1 rfl T.f_range (de_fn c_law_next hr (by omega) (da_cons (de_var 1) (da_cons de_int da_nil)) passD0)) (tg_v sc_law.nd) (dss_cons (ds_par rfl sc_law.nd rfl rfl (by decide) rfl rfl (de_fn c_law_next hr (by omega) (da_cons (de_var 1) (da_cons (de_bin op_addD (de_b call_lenD T.f_len boot_len (da_cons (de_var 4) da_nil)) de_int) da_nil)) passD0) (de_fn c_law_next hr (by omega) (da_cons (de_var 1) (da_cons de_int da_nil)) passD0) (by rfl))
  (dss_cons (ds_setV sc_law.nd (de_ix ix_D (DN.de (dn_cat (de_var 4) (DN.de (dn_lst (da_cons (de_tup da_nil) da_nil))))) (de_fn c_law_next hr (by omega) (da_cons (de_var 1) (da_cons (de_bin op_addD (de_b call_lenD T.f_len boot_len (da_cons (de_var 4) da_nil)) de_int) da_nil)) passD0)))
  (dss_cons (ds_setV sc_law.nd (de_fnG c_law_bent hrg (by omega) (da_cons (de_var 1) (da_cons (de_ix ix_D (de_fn c_law_every hr (by omega) (da_cons (de_var 3) da_nil) passD0) (de_bin op_mulD (de_fn c_law_next hr (by omega) (da_cons (de_var 1) (da_cons de_int da_nil)) passD0) (de_fn c_law_next hr (by omega) (da_cons (de_var 1) (da_cons (de_bin op_shlD de_int (de_var 3)) da_nil)) passD0))) (da_cons (de_var 3) da_nil))) passD0))
  (dss_one (ds_setV sc_law.nd (DN.de (dn_cat (DN.de (dn_cat (de_sl (de_var 4) do_none (do_some (de_var 10))) (DN.de (dn_lst (da_cons (de_ix ix_D (DN.de (dn_lst (da_cons (de_var 13) (da_cons (de_var 12) da_nil)))) (de_t call_intD T.f_int boot_int (da_cons (de_cmp (op_eqR hr) (de_var 11) de_int) da_nil))) da_nil))))) (de_sl (de_var 4) (do_some (de_bin op_addD (de_var 10) (de_t call_intD T.f_int boot_int (da_cons (de_cmp (op_eqR hr) (de_var 11) de_int) da_nil)))) do_none)))))))))
  (dss_cons (ds_setV sc_law.nd (DN.de (dn_lst (da_cons (de_var 3) (da_cons (de_var 3) (da_cons (de_var 3) (da_cons (de_var 3) (da_cons (de_var 3) (da_cons (de_bin op_addD (de_var 3) de_int) (da_cons de_int (da_cons de_int (da_cons (de_un un_negD de_int) (da_cons de_non (da_cons de_bl (da_cons (de_t (strR hr gd T.ns) T.f_str boot_str (da_cons (de_var 3) da_nil)) (da_cons (de_tup (da_cons (de_var 3) da_nil)) (da_cons (de_bin op_powD de_int de_int) da_nil)))))))))))))))))
  (dss_cons (ds_par rfl sc_law.nd rfl rfl (by decide) rfl rfl (de_ix ix_D (de_var 6) (de_fn c_law_next hr (by omega) (da_cons (de_var 1) (da_cons de_int da_nil)) passD0)) (de_ix ix_D (DN.de (dn_lst (da_cons (de_t call_tupleD T.f_tuple boot_tuple (da_cons (de_var 4) da_nil)) (da_cons (de_t call_tupleD T.f_tuple boot_tuple (da_cons (de_var 4) da_nil)) (da_cons (de_var 4) da_nil))))) (de_fn c_law_next hr (by omega) (da_cons (de_var 1) (da_cons de_int da_nil)) passD0)) (by rfl))
  (dss_cons (ds_if (dt_cmp (op_eqR hr) (de_fn c_law_next hr (by omega) (da_cons (de_var 1) (da_cons de_int da_nil)) passD0) de_int) (dss_one (ds_setV sc_law.nd (de_fnG c_law_bent hrg (by omega) (da_cons (de_var 1) (da_cons (de_tup da_nil) (da_cons (de_var 3) da_nil))) passD0))) dss_nil)
  (dss_cons (ds_setV sc_law.nd (de_b (reprR hr gd T.ns) T.f_repr boot_repr (da_cons (de_tup (da_cons (de_var 7) (da_cons (de_var 8) da_nil))) da_nil)))
  (dss_one (ds_if (DW.dt (dw_or (dt_not (dt_val (de_fnG c_law_same hrg (by omega) (da_cons (de_fn c_law_told hr (by omega) (da_cons (de_var 7) (da_cons (de_var 8) da_nil)) passD0) (da_cons (de_fn c_law_due hr (by omega) (da_cons (de_var 7) (da_cons (de_var 8) da_nil)) passD0) da_nil)) passD0))) (dw_or1 (dt_cmp (op_neR hr) (de_b (reprR hr gd T.ns) T.f_repr boot_repr (da_cons (de_tup (da_cons (de_var 7) (da_cons (de_var 8) da_nil))) da_nil)) (de_var 9))))) (dss_one (ds_ret de_bl)) dss_nil))))))))))
  (dss_one (ds_ret de_bl))))

end
end K09

set_option maxHeartbeats 1000000
namespace DL
theorem ev_tupRg {env : Env'} {m : Mem} {d : TD} {j : Int} (h : Ev d env m (.f (.int j))) (hb : L2.RgOk 0 j) : Ev (dTupRg (rRg1 d)) env m (.f (.tup (rangeD 0 j.toNat))) := fun Q q => h _ ⟨hb, by rw [Int.sub_zero]; exact q⟩
theorem em_strT2 {env : Env'} {m : Mem} {d : Dat} (h : okR 60 d = true) (hl : (py d).shown.length ≤ PySem.sizeLine) (hs : ∀ s, d ≠ .str s) (e : der env m (.f d) = some d) : EvM oStr env m [.f d] (.str (py d).shown) := fun Q q => by
  unfold oStr
  simp only [e]
  cases d with
  | str s => exact absurd rfl (hs s)
  | _ => exact ⟨h, hl, q⟩
end DL
namespace K09
open PySem PySem.Spec PyProof.Rows L2 DL DL.S
open K02 hiding isInt
local macro_rules | `(tactic| walk_at "ev") => `(tactic| repeat' (first
  | exact ev_c | exact ev_v rfl | exact ev_o rfl | exact eva_nil | exact e2_i0 | exact e2_add | exact e1_u | exact e2_isn | exact evo_no | exact sz (Nat.le_of_ble_eq_true rfl)
  | ((with_reducible show DL.frs _ = some _); exact rfl) | ((with_reducible show der _ _ _ = some _); exact rfl) | ((with_reducible show lstOf _ _ _ = some _); exact rfl) | ((with_reducible show seqOf _ _ _ = some _); exact rfl)
  | apply ev_bin | apply ev_un | apply ev_n | apply eva_cons | apply ev_new | apply evn_lst | apply em_tup | apply evo_p | apply ev_slT | apply ev_backT | apply evn_list | apply evn_cat | apply e2_addT | apply ev_tupRg))

def lnks (many : Nat) : List Dat := [.int 0, .int many, .int ((many : Int) - 1), .int (-1), .bl true, .non, .str "0", .int 1000000000000000000000000000000]
theorem lnks_vd {many : Nat} (h8 : many ≤ 8) : ∀ x ∈ lnks many, Vd 0 2 x := fun x hx => by
  simp only [lnks, List.mem_cons, List.not_mem_nil, or_false] at hx
  rcases hx with rfl | rfl | rfl | rfl | rfl | rfl | rfl | rfl
  · exact Vd.i (by omega) (by omega)
  · exact Vd.nat (by omega)
  · exact Vd.i (by omega) (by omega)
  · exact Vd.i (by omega) (by omega)
  · exact Vd.bl _
  · exact Vd.non
  · exact vd_iff.mp (by decide +kernel)
  · exact vd_iff.mp (by decide +kernel)
def vals (xs : List Dat) (many : Nat) (a : Int) (l : Dat) (s : Str) : List Dat :=
  [.tup (DL.cutD xs none (some a) ++ [l] ++ DL.cutD xs (some a) none), .tup (DL.cutD xs none (some a) ++ [l] ++ DL.cutD xs (some (a + 1)) none), .tup xs.reverse, .lst xs,
    .tup (xs ++ DL.cutD xs (some (-1)) none), .tup (DL.cutD xs (some 1) none), .tup [.tup xs], .tup (DL.cutD xs none (some a)), .str s, .dct [], .non, .int 0,
    .tup [.int 0, .lst [.int 1]], .tup [.tup [], .int 0], .tup (rangeD 0 many), .tup (rangeD 0 (many + 1)), .tup [.bl false], .tup [.int 0, .bl true], .tup [.int 1, .int 0], .str ""]
theorem range_vd {k : Nat} (h : k ≤ 20) : Vd 1 40 (.tup (rangeD 0 k)) := by
  refine Vd.tup (B := 0) (L := 20) (fun x hx => ?_) (by unfold rangeD; simp; omega) (by omega) (by omega)
  obtain ⟨i, hi, rfl⟩ := List.mem_map.mp hx
  have := List.mem_range.mp hi
  exact Vd.i (by omega) (by omega)
theorem vals_vd {many : Nat} {o : List Nat} {a : Int} {l : Dat} {s : Str} (h : OutOk many o) (h8 : many ≤ 8) (hl : Vd 0 2 l) (hs : Vd 0 30 (.str s)) :
    ∀ x ∈ vals (o.map fun l : Nat => .int (l : Nat)) many a l s, Vd 3 100 x ∧ ∀ ys, x = .tup ys → ys.length ≤ 100 := by
  intro x hx
  have ho := h.len
  have hi := fun k B => h.item (k := k) (B := B) h8
  generalize hxs : (o.map fun l : Nat => Dat.int (l : Nat)) = xs at *
  have hlen : xs.length ≤ 8 := by rw [← hxs]; simp; omega
  have hc : ∀ lo hi, (DL.cutD xs lo hi).length ≤ 8 := fun lo hi => Nat.le_trans (cutD_len xs lo hi) hlen
  have hm : ∀ lo hi' x, x ∈ DL.cutD xs lo hi' → Vd 0 2 x := fun lo hi' x hx => hi 0 2 x (cutD_mem hx)
  have two : ∀ (ys : List Dat), (∀ x ∈ ys, Vd 0 2 x) → ys.length ≤ 20 → Vd 3 100 (.tup ys) ∧ ∀ zs, Dat.tup ys = .tup zs → zs.length ≤ 100 := fun ys h1 h2 =>
    ⟨(Vd.tup (L := 20) h1 h2 (by omega) (Nat.le_refl _)).up (by omega) (by omega), fun zs e => by cases e; omega⟩
  have flat : ∀ {x : Dat}, Vd 3 100 x → (∀ ys, x ≠ .tup ys) → Vd 3 100 x ∧ ∀ ys, x = .tup ys → ys.length ≤ 100 := fun h1 h2 => ⟨h1, fun ys e => absurd e (h2 ys)⟩
  simp only [vals, List.mem_cons, List.not_mem_nil, or_false] at hx
  rcases hx with rfl | rfl | rfl | rfl | rfl | rfl | rfl | rfl | rfl | rfl | rfl | rfl | rfl | rfl | rfl | rfl | rfl | rfl | rfl | rfl
  · have c1 := hc none (some a)
    have c2 := hc (some a) none
    refine two _ (fun x hx => ?_) (by simp; omega)
    simp only [List.mem_append, List.mem_singleton] at hx
    rcases hx with (q | rfl) | q
    · exact hm _ _ x q
    · exact hl
    · exact hm _ _ x q
  · have c1 := hc none (some a)
    have c2 := hc (some (a + 1)) none
    refine two _ (fun x hx => ?_) (by simp; omega)
    simp only [List.mem_append, List.mem_singleton] at hx
    rcases hx with (q | rfl) | q
    · exact hm _ _ x q
    · exact hl
    · exact hm _ _ x q
  · exact two _ (fun x hx => hi 0 2 x (List.mem_reverse.mp hx)) (by simp; omega)
  · exact flat ((Vd.lst (L := 20) (hi 0 2) (by omega) (by omega) (Nat.le_refl _)).up (by omega) (by omega)) (fun _ e => by cases e)
  · have c1 := hc (some (-1)) none
    refine two _ (fun x hx => ?_) (by simp; omega)
    rcases List.mem_append.mp hx with q | q
    · exact hi 0 2 x q
    · exact hm _ _ x q
  · exact two _ (hm _ _) (Nat.le_trans (hc _ _) (by omega))
  · refine ⟨(Vd.tup (L := 1) (B := 60) (k := 1) (fun x hx => ?_) (by simp) (by omega) (Nat.le_refl _)).up (by omega) (by omega), fun zs e => by cases e; simp⟩
    rw [List.mem_singleton.mp hx]
    exact Vd.tup (L := 20) (hi 0 2) (by omega) (by omega) (by omega)
  · exact two _ (hm _ _) (Nat.le_trans (hc _ _) (by omega))
  · exact flat (hs.up (by omega) (by omega)) (fun _ e => by cases e)
  · exact flat (vd_iff.mp (by decide +kernel)) (fun _ e => by cases e)
  · exact flat Vd.non (fun _ e => by cases e)
  · exact flat (Vd.i (by omega) (by omega)) (fun _ e => by cases e)
  · exact ⟨vd_iff.mp (by decide +kernel), fun zs e => by cases e; simp⟩
  · exact ⟨vd_iff.mp (by decide +kernel), fun zs e => by cases e; simp⟩
  · exact ⟨(range_vd (by omega)).up (by omega) (by omega), fun zs e => by cases e; unfold rangeD; simp; omega⟩
  · exact ⟨(range_vd (by omega)).up (by omega) (by omega), fun zs e => by cases e; unfold rangeD; simp; omega⟩
  · exact ⟨vd_iff.mp (by decide +kernel), fun zs e => by cases e; simp⟩
  · exact ⟨vd_iff.mp (by decide +kernel), fun zs e => by cases e; simp⟩
  · exact ⟨vd_iff.mp (by decide +kernel), fun zs e => by cases e; simp⟩
  · exact flat (vd_iff.mp (by decide +kernel)) (fun _ e => by cases e)
def p_bent : DSp := pGh (γ := Nat × Mem × Nat × List Nat) 3 (fun g ds m => ds = [.obj 1, outD g.2.2.2, .int g.2.2.1] ∧ OutOk g.2.2.1 g.2.2.2 ∧ g.2.2.1 ≤ 8 ∧ Dk g.1 g.2.1 m ∧ g.1 + 20 < lim)
  (fun g ds m r m' => (Vd 3 100 r ∧ ∀ ys, r = .tup ys → ys.length ≤ 100) ∧ Dk (g.1 + 3) g.2.1 m')
theorem cpow30 : CPow 10 30 := by unfold CPow; decide
theorem law_law_bent (C : Ct) : ∀ ds m (Q : QD) (E : QX), p_bent ds m Q E → rd_law_bent C p_next (fun c xs _ m => E c xs m) { nx := fun _ m => Q .non m, rt := Q } (env0 6 ds) m := by
  rintro ds m Q E ⟨_, ⟨c, tl, many, o⟩, ⟨rfl, ho, h8, hd, hc⟩, hQ⟩
  have ho : OutOk many o := ho
  have h8 : many ≤ 8 := h8
  have hc : c + 20 < lim := hc
  have hlen := ho.len
  show rd_law_bent C p_next _ _ [some (.f (.obj 1)), some (.f (.tup (o.map fun l : Nat => Dat.int (l : Nat)))), some (.f (.int many)), none, none, none] m
  have hxl : (o.map fun l : Nat => Dat.int (l : Nat)).length = o.length := List.length_map ..
  have hst := ho.shown h8
  have hov := ho.vd h8
  have hok : okR 60 (.tup (o.map fun l : Nat => Dat.int (l : Nat))) = true := okR_le1 (by omega) hov.okR
  have hsl : (py (.tup (o.map fun l : Nat => Dat.int (l : Nat)))).shown.length ≤ sizeLine := hov.shown (by omega)
  have hv := fun a l hl => vals_vd (a := a) (l := l) ho h8 hl hst
  have hcl := fun lo hi => cutD_len (o.map fun l : Nat => Dat.int (l : Nat)) lo hi
  generalize hxs : (o.map fun l : Nat => Dat.int (l : Nat)) = xs at *
  have s2 : 1000 ≤ sizeLine := sz (by decide)
  have hlim : lim = 2 ^ 40 := rfl
  unfold rd_law_bent
  refine st_seq (asg_i ?_)
  refine call_next ((xs.length : Int) + 1) (by omega) (by omega) hd (by omega) (eva_cons (ev_v rfl) (eva_cons (ev_bin (ev_n (eva_cons (ev_v rfl) eva_nil) (em_len rfl)) ev_c e2_add) eva_nil)) fun a m1 a0 a1 hd1 => ?_
  simp only [DL.bind, List.set]
  refine st_seq (asg_i ?_)
  have el : Ev (dNew (nLst (dCons (dC (.int 0)) (dCons (dVar 2) (dCons (dBin oSub (dVar 2) (dC (.int 1))) (dCons (dUn (oU fun i => -i) (dC (.int 1))) (dCons (dC (.bl true)) (dCons (dC .non) (dCons (dC (.str "0")) (dCons (dBin oPow (dC (.int 10)) (dC (.int 30))) dNil)))))))))) [some (.f (.obj 1)), some (.f (.tup xs)), some (.f (.int many)), some (.f (.int a)), none, none] m1 (.f (.lst (lnks many))) := by
    walk_at "ev"
    · exact e2_i cpow30
  simp only [dBin]
  refine el _ ?_
  refine call_next 8 (by omega) (by omega) hd1 (by omega) (eva_cons (ev_v rfl) (eva_cons ev_c eva_nil)) fun i m2 i0 i1 hd2 => ?_
  obtain ⟨l, el1, el2⟩ := atI_int (l := lnks many) i0 (by show i < ((lnks many).length : Nat); simp [lnks]; omega)
  refine e2_ix (x := .f (.lst (lnks many))) rfl el1 _ ?_
  simp only [DL.bind, List.set]
  have hl := lnks_vd h8 l (List.mem_of_getElem? el2)
  have c1 := hcl none (some a)
  have c2 := hcl (some a) none
  have c3 := hcl (some (a + 1)) none
  have c4 := hcl (some (-1)) none
  refine st_seq (st_set (a := .lst [.tup (DL.cutD xs none (some a) ++ [l] ++ DL.cutD xs (some a) none), .tup (DL.cutD xs none (some a) ++ [l] ++ DL.cutD xs (some (a + 1)) none), .tup xs.reverse, .lst xs]) ?_ ?_)
  · walk_at "ev"
    all_goals first | rfl | (simp only [List.length_append, List.length_singleton]; omega)
  simp only [List.set]
  refine st_seq (st_set (a := .lst ([.tup (DL.cutD xs none (some a) ++ [l] ++ DL.cutD xs (some a) none), .tup (DL.cutD xs none (some a) ++ [l] ++ DL.cutD xs (some (a + 1)) none), .tup xs.reverse, .lst xs] ++
    [.tup (xs ++ DL.cutD xs (some (-1)) none), .tup (DL.cutD xs (some 1) none), .tup [.tup xs], .tup (DL.cutD xs none (some a)), .str (py (outD o)).shown, .dct [], .non, .int 0])) ?_ ?_)
  · have est : EvM oStr [some (.f (.obj 1)), some (.f (.tup xs)), some (.f (.int many)), some (.f (.int a)), some (.f l), some (.f (.lst [.tup (DL.cutD xs none (some a) ++ [l] ++ DL.cutD xs (some a) none), .tup (DL.cutD xs none (some a) ++ [l] ++ DL.cutD xs (some (a + 1)) none), .tup xs.reverse, .lst xs]))] m2 [.f (.tup xs)] (.str (py (outD o)).shown) := by
      have z := em_strT2 (env := [some (.f (.obj 1)), some (.f (.tup xs)), some (.f (.int many)), some (.f (.int a)), some (.f l), some (.f (.lst [.tup (DL.cutD xs none (some a) ++ [l] ++ DL.cutD xs (some a) none), .tup (DL.cutD xs none (some a) ++ [l] ++ DL.cutD xs (some (a + 1)) none), .tup xs.reverse, .lst xs]))]) (m := m2) hok hsl (fun s e => by cases e) rfl
      unfold outD
      rw [hxs]
      exact z
    walk_at "ev"
    all_goals first | exact est | rfl | (simp only [List.length_append, List.length_singleton]; omega) | (simp; omega)
  simp only [List.set]
  refine st_seq (st_set (a := .lst (vals xs many a l (py (outD o)).shown)) (Ev.eq (v := .f (.lst (([.tup (DL.cutD xs none (some a) ++ [l] ++ DL.cutD xs (some a) none), .tup (DL.cutD xs none (some a) ++ [l] ++ DL.cutD xs (some (a + 1)) none), .tup xs.reverse, .lst xs] ++
    [.tup (xs ++ DL.cutD xs (some (-1)) none), .tup (DL.cutD xs (some 1) none), .tup [.tup xs], .tup (DL.cutD xs none (some a)), .str (py (outD o)).shown, .dct [], .non, .int 0]) ++
    [.tup [.int 0, .lst [.int 1]], .tup [.tup [], .int 0], .tup (rangeD 0 (many : Int).toNat), .tup (rangeD 0 ((many : Int) + 1).toNat), .tup [.bl false], .tup [.int 0, .bl true], .tup [.int 1, .int 0], .str ""]))) ?_ ?_) ?_)
  · walk_at "ev"
    all_goals first | exact RgOk.of_le (by omega) (by omega) (by omega) (by omega) | rfl | (simp; omega)
  · rw [show ((many : Int) + 1).toNat = many + 1 by omega, show (many : Int).toNat = many by omega]
    rfl
  simp only [List.set]
  unfold sRet
  simp only [dBin]
  refine ev_v rfl _ ?_
  refine call_next 20 (by omega) (by omega) hd2 (by omega) (eva_cons (ev_v rfl) (eva_cons (ev_n (eva_cons (ev_v rfl) eva_nil) (em_len (xs := vals xs many a l (py (outD o)).shown) rfl)) eva_nil)) fun j m3 j0 j1 hd3 => ?_
  obtain ⟨r, er1, er2⟩ := atI_int (l := vals xs many a l (py (outD o)).shown) j0 (by show j < ((20 : Nat) : Int); omega)
  refine e2_ix (x := .f (.lst (vals xs many a l (py (outD o)).shown))) rfl er1 _ ?_
  exact hQ _ _ ⟨hv a l hl r (List.mem_of_getElem? er2), hd3⟩
end K09

set_option maxHeartbeats 1000000
namespace DL
open PySem PySem.Spec PyProof.Rows L2
section
variable {env : Env'} {m : Mem} {d da db : TD} {x y : Lv}
theorem e2_inK {f : Bool → Bool} {a : Dat} {kvs : List (Dat × Dat)} {k : NestedKey} {ns : List NestedKey} (e : dDct env m y = some kvs) (hk : tKey a = some k) (hn : tKeys kvs = some ns) (nd : ns.Nodup) : Ev2 (oInT f) env m (.f a) y (.bl (f (getT kvs k).isSome)) := fun Q q => by
  unfold oInT; simp only [e, hk, hn]; exact ⟨nd, q⟩
end
end DL
namespace DL.S
open PySem PySem.Spec PyProof.Rows L2 DL K02

end DL.S

set_option maxHeartbeats 1000000
namespace DL.S
open PySem PySem.Spec PyProof.Rows L2 DL K02

section
variable (n : Nat) (A : Nat → List Nat) (g : Nat)
end
section
variable {n : Nat} {A : Nat → List Nat} {g : Nat}
theorem lev_succ (k v : Nat) : lev n A g (k + 1) v = match lev n A g k v with
    | some d => some d
    | none => if ((List.range n).any fun u => decide (lev n A g k u = some k) && decide (v ∈ A u)) = true then some (k + 1) else none := rfl
theorem lev_le {k v d : Nat} (h : lev n A g k v = some d) : d ≤ k := by
  induction k generalizing d with
  | zero =>
    unfold lev at h
    split at h
    · cases h; exact Nat.le_refl _
    · cases h
  | succ k ih =>
    unfold lev at h
    split at h
    · cases h; have := ih ‹_›; omega
    · split at h
      · cases h; exact Nat.le_refl _
      · cases h
theorem lev_up {k v d : Nat} (h : lev n A g k v = some d) : lev n A g (k + 1) v = some d := by
  unfold lev
  rw [h]
theorem lev_ups {k j v d : Nat} (h : lev n A g k v = some d) : lev n A g (k + j) v = some d := by
  induction j with
  | zero => exact h
  | succ j ih => exact lev_up ih
theorem lev_at {k v d : Nat} (h : lev n A g k v = some d) : lev n A g d v = some d := by
  induction k generalizing d with
  | zero =>
    have := lev_le h
    have e : d = 0 := by omega
    subst e; exact h
  | succ k ih =>
    have h' := h
    unfold lev at h
    split at h
    · cases h; exact ih ‹_›
    · split at h
      · cases h; exact h'
      · cases h
theorem Mid.old {k w d : Nat} {acc : List Nat} {kn : List (Nat × Nat)} {more : List Nat} (h : Mid n A g k acc kn more) (hw : getN kn w = some d) : Mid n A g k (acc ++ [w]) kn more := by
  refine ⟨fun v => ?_, h.get, h.nd, h.lt, h.ml⟩
  rw [List.mem_append, List.mem_singleton, h.mem]
  constructor
  · exact fun ⟨a, b⟩ => ⟨.inl a, b⟩
  · rintro ⟨a | rfl, b⟩
    · exact ⟨a, b⟩
    · have := h.get v
      rw [hw, b] at this
      by_cases z : v ∈ more
      · exact ⟨((h.mem v).mp z).1, b⟩
      · simp [z] at this
structure Rnd (n : Nat) (A : Nat → List Nat) (g k : Nat) (kn : List (Nat × Nat)) (E : List Nat) : Prop where
  mem : ∀ v, v ∈ E ↔ lev n A g k v = some k
  get : ∀ v, getN kn v = lev n A g k v
  nd : (kn.map (·.1)).Nodup
  lt : ∀ p ∈ kn, p.1 < n ∧ p.2 ≤ n
  el : E.length ≤ kn.length
theorem Rnd.start (hg : g < n) : Rnd n A g 0 [(g, 0)] [g] := by
  refine ⟨fun v => ?_, fun v => ?_, by simp, fun p hp => ?_, by simp⟩
  · unfold lev
    rw [List.mem_singleton]
    by_cases e : v = g <;> simp [e]
  · unfold lev
    by_cases e : v = g
    · simp [getN, e]
    · have e' : ¬ g = v := fun z => e z.symm
      simp [getN, e, e']
  · rw [List.mem_singleton.mp hp]; exact ⟨hg, Nat.zero_le _⟩
theorem Rnd.next {k : Nat} {kn kn' : List (Nat × Nat)} {E more : List Nat} (h : Rnd n A g k kn E) (hE : ∀ u ∈ E, u < n) (m : Mid n A g k (E.flatMap A) kn' more) : Rnd n A g (k + 1) kn' more := by
  have key : ∀ v, lev n A g k v = none → (v ∈ more ↔ lev n A g (k + 1) v = some (k + 1)) := fun v e => by
    rw [m.mem, lev_succ, e]
    dsimp only
    have : v ∈ E.flatMap A ↔ ((List.range n).any fun u => decide (lev n A g k u = some k) && decide (v ∈ A u)) = true := by
      rw [List.mem_flatMap, List.any_eq_true]
      constructor
      · rintro ⟨u, hu, hv⟩
        exact ⟨u, List.mem_range.mpr (hE u hu), by rw [Bool.and_eq_true, decide_eq_true_iff, decide_eq_true_iff]; exact ⟨(h.mem u).mp hu, hv⟩⟩
      · rintro ⟨u, hu, hc⟩
        rw [Bool.and_eq_true, decide_eq_true_iff, decide_eq_true_iff] at hc
        exact ⟨u, (h.mem u).mpr hc.1, hc.2⟩
    rw [this]
    by_cases z : ((List.range n).any fun u => decide (lev n A g k u = some k) && decide (v ∈ A u)) = true
    · simp [z]
    · rw [if_neg z]
      simp [z]
  refine ⟨fun v => ?_, fun v => ?_, m.nd, m.lt, m.ml⟩
  · cases e : lev n A g k v with
    | none => exact key v e
    | some d =>
      rw [m.mem, e, lev_up e]
      have := lev_le e
      constructor
      · rintro ⟨_, z⟩; cases z
      · intro z; cases z; omega
  · rw [m.get v]
    cases e : lev n A g k v with
    | some d => exact (lev_up e).symm
    | none =>
      dsimp only
      by_cases z : v ∈ more
      · rw [if_pos z, (key v e).mp z]
      · rw [if_neg z]
        cases e2 : lev n A g (k + 1) v with
        | none => rfl
        | some d =>
          have hd := lev_le e2
          have hd2 : d = k + 1 := by
            by_cases q : d ≤ k
            · have := lev_at e2
              have := lev_ups (j := k - d) this
              rw [show d + (k - d) = k by omega, e] at this
              cases this
            · omega
          subst hd2
          exact absurd ((key v e).mpr e2) z
end
end DL.S

set_option maxHeartbeats 1000000
namespace DL.S
open PySem PySem.Spec PyProof.Rows L2 DL K02

theorem e2_inDk {f : Bool → Bool} {env : Env'} {m : Mem} {x : Lv} {ks : List (Int × Dat)} {k : Int} (h : iDct env m x = some ks) (nd : (ks.map (·.1)).Nodup) : Ev2 (oInDk f) env m (.f (.int k)) x (.bl (f (getI ks k).isSome)) := fun Q q => by
  unfold oInDk
  simp only [h]
  exact ⟨nd, q⟩
theorem iDct_f {env : Env'} {m : Mem} {ks : List (Int × Dat)} : iDct env m (.f (.dct (asDct ks))) = some ks := by
  unfold iDct der
  exact intKeys_as ks
section
variable {n g k : Nat} {A : Nat → List Nat} {ps : List Lk} {o : List Nat} {m : Mem} {x4 : Option Sl}
end
end DL.S

set_option maxHeartbeats 1000000
namespace DL
open PySem PySem.Spec PyProof.Rows L2
theorem sq_ifF {c : TB} {s u : TSd} {D : En} {env : Env'} {m : Mem} (h : EvB c env m false) (k : u D env m) : sSeq (sIf c s sNext) u D env m := h _ k
end DL
namespace DL.S
open PySem PySem.Spec PyProof.Rows L2 DL K02

section
variable {env : Env'} {m : Mem} {da : TAd} {d : TD} {n : Nat} {ps : List Lk}
end
theorem all_map {α : Type} {f : α → Bool} {xs : List α} (h : ∀ x ∈ xs, f x = true) : (xs.map f).all id = true := by
  rw [List.all_eq_true]
  intro b hb
  obtain ⟨x, hx, rfl⟩ := List.mem_map.mp hb
  exact h x hx
end DL.S

set_option maxHeartbeats 1000000
namespace DL
open PySem PySem.Spec PyProof.Rows L2
end DL
namespace DL.S
open PySem PySem.Spec PyProof.Rows L2 DL K02

section
variable {env : Env'} {m : Mem} {da : TAd} {n : Nat} {ps : List Lk} {t mk : Nat}
end
end DL.S

set_option maxHeartbeats 1000000
namespace DL
open PySem PySem.Spec PyProof.Rows L2
theorem sq_fld {fi : Nat → Option Nat} {de : TD} {z : Dat} {c : Nat} {xs : List Dat} {m0 : Mem} {env : Env'} {u : TSd} {D : En} (he : Ev de env (m0 ++ [.ins c xs]) (.f z)) (e0 : env[0]? = some (some (.f (.obj m0.length)))) (ef : fi c = some xs.length) (k : u D env (m0 ++ [.ins c (xs ++ [z])])) : sSeq (sFldD fi (dVar 0) de) u D env (m0 ++ [.ins c xs]) := by
  unfold sSeq sFldD
  refine he _ ((ev_v (a := .obj m0.length) e0) _ ?_)
  have h1 : (m0 ++ [Mo.ins c xs])[m0.length]? = some (.ins c xs) := by simp
  simp only [moOf, h1, ef]
  rw [if_neg (Nat.lt_irrefl _)]
  refine ⟨True.intro, ?_⟩
  simp only [setE, setM]
  have h2 : (m0 ++ [Mo.ins c xs]).set m0.length (.ins c (xs ++ [z])) = m0 ++ [.ins c (xs ++ [z])] := by simp
  rw [h2]
  exact k
theorem st_fld {fi : Nat → Option Nat} {de : TD} {z : Dat} {c : Nat} {xs : List Dat} {m0 : Mem} {env : Env'} {D : En} (he : Ev de env (m0 ++ [.ins c xs]) (.f z)) (e0 : env[0]? = some (some (.f (.obj m0.length)))) (ef : fi c = some xs.length) (k : D.nx env (m0 ++ [.ins c (xs ++ [z])])) : sFldD fi (dVar 0) de D env (m0 ++ [.ins c xs]) :=
  sq_fld (u := fun D env m => D.nx env m) he e0 ef k
end DL
namespace DL.S
open PySem PySem.Spec PyProof.Rows L2 DL K02

theorem bels_map {α : Type} {k : Nat} {f : α → Dat} (h : ∀ x, bel k (f x) = true) : ∀ xs : List α, bels k (xs.map f) = true
  | [] => rfl
  | x :: xs => by rw [List.map_cons, bels, h, bels_map h xs]; rfl
end DL.S

set_option maxHeartbeats 1000000
namespace DL
open PySem PySem.Spec PyProof.Rows L2
end DL
namespace DL.S
open PySem PySem.Spec PyProof.Rows L2 DL K02

section
variable {n : Nat} {ps : List Lk} {t mk : Nat} {rs : Rws} {o : List Nat} {start : Nat}
end
end DL.S

set_option maxHeartbeats 1000000
namespace DL
open PySem PySem.Spec PyProof.Rows L2
theorem call_i {p : DSp} {EX : QXe} {da : TAd} {env : Env'} {m : Mem} {Q : QL} (h : da env m fun xs m1 => match DL.frs xs with
  | some ds => p ds m1 (fun d m2 => Q (.f d) m2) (fun c ys m2 => EX c ys env m2)
  | none => False) : dCall p EX da env m Q := h
end DL
namespace DL.S
open PySem PySem.Spec PyProof.Rows L2 DL K02

section
variable {D : En} {m : Mem} {ps : List Lk} {mk : Nat} {x0 x2 : Option Sl}
end
end DL.S

set_option maxHeartbeats 1000000
namespace DL
open PySem PySem.Spec PyProof.Rows L2
end DL
namespace DL.S
open PySem PySem.Spec PyProof.Rows L2 DL K02

end DL.S

set_option maxHeartbeats 1000000
namespace DL.S
open PySem PySem.Spec PyProof.Rows L2 DL K02

end DL.S

set_option maxHeartbeats 1000000
namespace DL
open PySem PySem.Spec PyProof.Rows L2
end DL
namespace DL.S
open PySem PySem.Spec PyProof.Rows L2 DL K02
section
variable {D : En} {n : Nat} {ps : List Lk} {t mk : Nat} {few kind : Int} {x10 : Option Sl}
end
end DL.S

set_option maxHeartbeats 1000000
namespace DL.S
open PySem PySem.Spec PyProof.Rows L2 DL K02

def numOut (i : Nat) : List Nat := (List.range 8).filter fun l => i.testBit l
def every : Nat → List (List Nat)
  | 0 => [[]]
  | n + 1 => every n ++ (every n).map (· ++ [n])
def numV (o : List Nat) : Nat := (o.map fun l => 2 ^ l).sum
theorem every_num {n : Nat} (h : n ≤ 8) : every n = (List.range (2 ^ n)).map numOut := by
  have : ∀ n : Fin 9, every n = (List.range (2 ^ n.val)).map numOut := by decide +kernel
  exact this ⟨n, by omega⟩
theorem num_every {n : Nat} (h : n ≤ 8) : (every n).map numV = List.range (2 ^ n) := by
  have : ∀ n : Fin 9, (every n).map numV = List.range (2 ^ n.val) := by decide +kernel
  exact this ⟨n, by omega⟩
theorem every_ok : ∀ {n : Nat} {o : List Nat}, o ∈ every n → OutOk n o
  | 0, o, h => by
    have : o = [] := by simpa [every] using h
    subst this
    exact ⟨.nil, by simp⟩
  | n + 1, o, h => by
    have h : o ∈ every n ∨ o ∈ (every n).map (· ++ [n]) := List.mem_append.mp h
    rcases h with h | h
    · have := every_ok h
      exact ⟨this.1, fun l hl => Nat.lt_succ_of_lt (this.2 l hl)⟩
    · obtain ⟨q, hq, rfl⟩ := List.mem_map.mp h
      have := every_ok hq
      refine ⟨List.pairwise_append.mpr ⟨this.1, by simp, fun a ha b hb => ?_⟩, fun l hl => ?_⟩
      · have hb : b = n := by simpa using hb
        subst hb
        exact this.2 a ha
      · rcases List.mem_append.mp hl with hl | hl
        · exact Nat.lt_succ_of_lt (this.2 l hl)
        · have hl : l = n := by simpa using hl
          omega
theorem every_len {n : Nat} (h : n ≤ 8) : (every n).length ≤ 256 := by
  rw [every_num h, List.length_map, List.length_range]
  exact Nat.pow_le_pow_right (by omega) h
theorem every_nd {n : Nat} (h : n ≤ 8) : (every n).Nodup := by
  have e := num_every h
  have : ((every n).map numV).Nodup := by rw [e]; exact List.nodup_range
  exact List.Pairwise.of_map (R := fun a b => a ≠ b) numV (fun a b hne e => hne (congrArg numV e)) this
def p_numof : DSp := pT 1 (fun o : List Nat => [outD o]) (fun o => OutOk 8 o) (fun o => .int (numV o))
theorem intsD_map {α : Type} (f : α → Int) : ∀ l : List α, intsD (l.map fun x => Dat.int (f x)) = some (l.map f)
  | [] => rfl
  | x :: l => by
    show (intsD (l.map fun x => Dat.int (f x))).map (f x :: ·) = _
    rw [intsD_map f l]; rfl
theorem sum_pow (o : List Nat) : (o.map fun l : Nat => (1 : Int) * 2 ^ ((l : Int)).toNat).sum = (numV o : Int) := by
  unfold numV
  induction o with
  | nil => rfl
  | cons l o ih =>
    rw [List.map_cons, List.sum_cons, ih, List.map_cons, List.sum_cons]
    push_cast
    simp
theorem outOk_len {o : List Nat} {n : Nat} (h : OutOk n o) : o.length ≤ n := by
  have := asc_len (many := n) (k := 0) h.1 (fun l hl => ⟨Nat.zero_le _, h.2 l hl⟩)
  simpa using this
theorem law_number_of (C : Ct) : ∀ ds m (Q : QD) (E : QX), p_numof ds m Q E → rd_number_of C (fun c xs _ m => E c xs m) { nx := fun _ m => Q .non m, rt := Q } (env0 2 ds) m := by
  rintro _ m Q E ⟨_, o, rfl, ho, hq⟩
  have ho : OutOk 8 o := ho
  have hl := outOk_len ho
  have ec := evn_lc (env := [some (.f (outD o)), none]) (m := m) (tg := .nm 1) (de := dBin oShl (dC (.int 1)) (dVar 1)) (vs := [1]) (di := iVal (dVar 0))
    (xs := o) (g := fun l : Nat => .int (l : Nat)) (f := fun l : Nat => .int ((1 : Int) * 2 ^ ((l : Int)).toNat)) (evi_tup (ev_v rfl)) rfl (sz (by omega))
    (fun l hlo => ⟨_, rfl, ev_bin ev_c (ev_v rfl) (e2_i (c := CPow) (g := fun i j => .int (i * 2 ^ j.toNat)) ?_)⟩)
  · refine st_ret ((ev_n (eva_cons (ev_new ec) eva_nil) (em_is (f := List.sum) (c := fun _ => True) rfl (intsD_map _ _) trivial)).eq ?_) hq
    rw [sum_pow]
  · have := ho.2 l hlo
    unfold CPow
    omega
end DL.S

set_option maxHeartbeats 1000000
namespace DL.S
open PySem PySem.Spec PyProof.Rows L2 DL K02

def outK (o : List Nat) : NestedKey := .tup (o.map fun l : Nat => .num (l : Int))
theorem keyNs_nat : ∀ o : List Nat, keyNs (o.map fun l : Nat => Dat.int (l : Nat)) = some (o.map fun l : Nat => NestedKey.num (l : Int))
  | [] => rfl
  | l :: o => by
    rw [List.map_cons]
    unfold keyNs
    rw [keyNs_nat o]
    rfl
theorem depthAll_nat : ∀ o : List Nat, NestedKey.depthAll (o.map fun l : Nat => NestedKey.num (l : Int)) = 0
  | [] => by simp [NestedKey.depthAll]
  | l :: o => by
    rw [List.map_cons]
    unfold NestedKey.depthAll
    rw [depthAll_nat o]
    simp [NestedKey.depth]
theorem tKey_out (o : List Nat) : tKey (outD o) = some (outK o) := by
  have h1 : keyN (outD o) = some (outK o) := by
    unfold outD keyN
    rw [keyNs_nat]; rfl
  have h2 : (outK o).depth ≤ 8 := by
    unfold outK NestedKey.depth
    rw [depthAll_nat]
    decide
  unfold tKey
  rw [if_pos (by rfl), h1]
  simp only [h2, if_true]
theorem outK_inj {o q : List Nat} (h : outK o = outK q) : o = q := by
  unfold outK at h
  injection h with h
  refine (List.map_inj_right (f := fun l : Nat => NestedKey.num (l : Int)) fun a b e => ?_).mp h
  have e : NestedKey.num (a : Int) = NestedKey.num (b : Int) := e
  injection e with e
  omega
def seenD (os : List (List Nat)) : List (Dat × Dat) := os.map fun o => (outD o, .bl true)
theorem tKeys_seen : ∀ os : List (List Nat), tKeys (seenD os) = some (os.map outK)
  | [] => rfl
  | o :: os => by
    show tKeys ((outD o, .bl true) :: seenD os) = _
    rw [tKeys, tKey_out, tKeys_seen os]
    rfl
theorem getT_seen (o : List Nat) : ∀ os : List (List Nat), o ∉ os → getT (seenD os) (outK o) = none
  | [], _ => rfl
  | q :: os, h => by
    have ih := getT_seen o os fun z => h (List.mem_cons_of_mem _ z)
    have hq : ¬ outK q = outK o := fun z => h (by rw [outK_inj z]; exact List.mem_cons_self)
    unfold getT at ih ⊢
    show Option.map _ (List.find? _ ((outD q, .bl true) :: seenD os)) = _
    rw [List.find?_cons_of_neg (by simp only [tKey_out, Option.some.injEq]; simpa using hq)]
    exact ih
theorem putT_seen {os : List (List Nat)} {o : List Nat} (h : o ∉ os) : putT (seenD os) (outD o) (outK o) (.bl true) = seenD (os ++ [o]) := by
  unfold putT
  rw [getT_seen o os h]
  simp [seenD]
theorem seen_nd {os : List (List Nat)} (h : os.Nodup) : (os.map outK).Nodup := List.Pairwise.map outK (fun a b hab e => hab (outK_inj e)) h
theorem st_putT {i : Nat} {kvs : List (Dat × Dat)} {ns : List NestedKey} {k : NestedKey} {de di : TD} {key z : Dat} {D : En} {env : Env'} {m : Mem} (e : env[i]? = some (some (.own (.dct kvs)))) (he : Ev de env m (.f z)) (hi : Ev di env m (.f key)) (hk : tKey key = some k) (hn : tKeys kvs = some ns) (nd : ns.Nodup) (hl : kvs.length < sizeLine)
    (h : D.nx (env.set i (some (.own (.dct (putT kvs key k z))))) m) : sPutT de (dVar i) di D env m := by
  unfold sPutT
  refine he _ (ev_o e _ (hi _ ?_))
  have em : moOf env m (.o i) = some (.dct kvs) := by unfold moOf; simp only [e]
  simp only [em, hk, hn]
  exact ⟨nd, hl, h⟩
theorem dDct_own {env : Env'} {m : Mem} {i : Nat} {kvs : List (Dat × Dat)} (e : env[i]? = some (some (.own (.dct kvs)))) : dDct env m (.o i) = some kvs := by
  unfold dDct der
  simp only [e, moD]
theorem sq_D0 {j : Nat} {u : TSd} {D : En} {env : Env'} {m : Mem} (k : u D (env.set j (some (.own (.dct [])))) m) : sSeq (sSetD0 j) u D env m := k
def p_oerr : DSp := pT 2 (fun g : Nat × List (List Nat) => [.int g.1, .tup (g.2.map outD)]) (fun g => g.1 ≤ 8 ∧ OutsOk g.1 g.2) (fun _ => .non)
theorem enumD_cons (k : Nat) (x : Dat) (xs : List Dat) : enumD k (x :: xs) = .tup [.int k, x] :: enumD (k + 1) xs := rfl
end DL.S

set_option maxHeartbeats 1000000
namespace DL.S
open PySem PySem.Spec PyProof.Rows L2 DL K02

def putAll (ks : List (Int × Dat)) (is : List Int) : List (Int × Dat) := is.foldl (fun a i => putI a i (.bl true)) ks
theorem putI_keys (ks : List (Int × Dat)) (k : Int) (d : Dat) : (putI ks k d).map (·.1) = if k ∈ ks.map (·.1) then ks.map (·.1) else ks.map (·.1) ++ [k] := by
  unfold putI
  by_cases h : k ∈ ks.map (·.1)
  · have : (ks.any fun p => decide (p.1 = k)) = true := by
      obtain ⟨p, hp, e⟩ := List.mem_map.mp h
      exact List.any_eq_true.mpr ⟨p, hp, decide_eq_true e⟩
    rw [if_pos this, if_pos h, List.map_map]
    refine List.map_congr_left fun p _ => ?_
    show (if p.1 = k then (p.1, d) else p).1 = p.1
    split <;> rfl
  · have : ¬ (ks.any fun p => decide (p.1 = k)) = true := fun z => by
      obtain ⟨p, hp, e⟩ := List.any_eq_true.mp z
      exact h (List.mem_map.mpr ⟨p, hp, of_decide_eq_true e⟩)
    rw [if_neg this, if_neg h, List.map_append]
    rfl
theorem putAll_keys : ∀ (is : List Int) (ks : List (Int × Dat)), (ks.map (·.1)).Nodup → ((putAll ks is).map (·.1)).Nodup ∧ ∀ x, x ∈ (putAll ks is).map (·.1) ↔ x ∈ ks.map (·.1) ∨ x ∈ is
  | [], ks, h => ⟨h, fun x => by simp [putAll]⟩
  | i :: is, ks, h => by
    have hk := putI_keys ks i (.bl true)
    have nd : ((putI ks i (.bl true)).map (·.1)).Nodup := by
      rw [hk]
      split
      · exact h
      · rename_i hn
        rw [List.nodup_append]
        refine ⟨h, by simp, fun a ha b hb e => ?_⟩
        have : b = i := by simpa using hb
        subst this; subst e
        exact hn ha
    obtain ⟨h1, h2⟩ := putAll_keys is (putI ks i (.bl true)) nd
    refine ⟨h1, fun x => ?_⟩
    have h2 : x ∈ (putAll ks (i :: is)).map (·.1) ↔ x ∈ (putI ks i (.bl true)).map (·.1) ∨ x ∈ is := h2 x
    rw [h2, hk]
    split
    · rename_i hm
      constructor
      · rintro (a | a)
        · exact .inl a
        · exact .inr (List.mem_cons_of_mem _ a)
      · rintro (a | a)
        · exact .inl a
        · rcases List.mem_cons.mp a with rfl | a
          · exact .inl hm
          · exact .inr a
    · simp [or_assoc]
theorem getI_some (ks : List (Int × Dat)) (k : Int) : (getI ks k).isSome = decide (k ∈ ks.map (·.1)) := by
  unfold getI
  rw [Option.isSome_map, Bool.eq_iff_iff, List.find?_isSome]
  simp
theorem dc_go {α : Type} {tg : Tg} {dk dv : TD} {env : Env'} {m : Mem} {g : α → Dat} {kf : α → Int} : ∀ {xs : List α} {acc : List (Int × Dat)} {Q : List (Int × Dat) → Mem → Prop}, (∀ x ∈ xs, ∃ env2, bind tg (.f (g x)) env = some env2 ∧ Ev dk env2 m (.f (.int (kf x))) ∧ Ev dv env2 m (.f (.bl true))) →
    Q (putAll acc (xs.map kf)) m → dcGo tg dYes dk dv env (xs.map g) acc m Q
  | [], acc, Q, _, h => h
  | x :: xs, acc, Q, hd, h => by
    obtain ⟨env2, e, h1, h2⟩ := hd x List.mem_cons_self
    rw [List.map_cons]
    unfold dcGo
    rw [e]
    show (dYes env2 m fun b m1 => _)
    unfold dYes
    simp only [if_true]
    refine h1 _ (h2 _ ?_)
    exact dc_go (fun y hy => hd y (List.mem_cons_of_mem _ hy)) h
def cellsOf (many : Nat) (os : List (List Nat)) : List Bool := (List.range (2 ^ many)).map fun i => decide (i ∈ os.map numV)
def p_initO : DSp := pGh (γ := Mem × Nat × List (List Nat)) 3 (fun g ds m => ds = [.obj g.1.length, .int g.2.1, .tup (g.2.2.map outD)] ∧ m = g.1 ++ [.ins 21 []] ∧ g.2.1 ≤ 8 ∧ OutsOk g.2.1 g.2.2)
  (fun g ds m r m' => r = .non ∧ m' = g.1 ++ [.ins 21 [.int g.2.1, .lst ((cellsOf g.2.1 g.2.2).map Dat.bl)]])
theorem shl1 (n : Nat) : (1 : Int) * 2 ^ ((n : Int)).toNat = ((2 ^ n : Nat) : Int) := by
  push_cast
  simp
theorem ev_shl1 {env : Env'} {m : Mem} {d : TD} {n : Nat} (h8 : n ≤ 8) (h : Ev d env m (.f (.int n))) : Ev (dBin oShl (dC (.int 1)) d) env m (.f (.int ((2 ^ n : Nat) : Int))) := by
  have e := ev_bin (ev_c (a := .int 1)) h (e2_i (c := CPow) (g := fun i j => .int (i * 2 ^ j.toNat)) (i := 1) (j := (n : Int)) (by unfold CPow; omega))
  rw [shl1] at e
  exact e
theorem pow_le {n : Nat} (h : n ≤ 8) : 2 ^ n ≤ 256 := Nat.pow_le_pow_right (by omega) h
theorem law_Outages_init (C : Ct) : ∀ ds m (Q : QD) (E : QX), p_initO ds m Q E → rd_Outages_init C p_oerr p_numof (fun c xs _ m => E c xs m) { nx := fun _ m => Q .non m, rt := Q } (env0 7 ds) m := by
  rintro ds m Q E ⟨_, ⟨m0, many, os⟩, ⟨rfl, rfl, h8, h⟩, hQ⟩
  have h8 : many ≤ 8 := h8
  have h : OutsOk many os := h
  have hp := pow_le h8
  have hq : Q .non (m0 ++ [.ins 21 [.int many, .lst ((cellsOf many os).map Dat.bl)]]) := hQ _ _ ⟨rfl, rfl⟩
  show rd_Outages_init C p_oerr p_numof _ _ [some (.f (.obj m0.length)), some (.f (.int many)), some (.f (.tup (os.map outD))), none, none, none, none] (m0 ++ [.ins 21 []])
  unfold rd_Outages_init
  refine sq_set (a := .non) (ev_fn (γ := Nat × List (List Nat)) (eva_cons (ev_v rfl) (eva_cons (ev_v rfl) eva_nil)) (many, os) rfl rfl ⟨h8, h⟩) ?_
  show (sSeq _ _) _ [some (.f (.obj m0.length)), some (.f (.int many)), some (.f (.tup (os.map outD))), some (.f .non), none, none, none] _
  refine sq_ifF (EvB.eq (evb_tst (ev_bin (ev_v rfl) ev_c e2_isn)) rfl) ?_
  refine sq_fld (ev_v rfl) rfl (show fi_widthO 21 = some 0 from rfl) ?_
  have ed : ∀ m, Ev (dDc (.nm 5) dYes (dCall p_numof EX0 (dCons (dVar 5) dNil)) (dC (.bl true)) [5] (iVal (dVar 2))) [some (.f (.obj m0.length)), some (.f (.int many)), some (.f (.tup (os.map outD))), some (.f .non), none, none, none] m (.f (.dct (asDct (putAll [] (os.map fun o => (numV o : Int)))))) := fun m Q q => by
    unfold dDc
    refine (evi_tup (d := dVar 2) (xs := os.map outD) (ev_v rfl)) _ ⟨by rw [List.length_map]; exact Nat.le_trans h.2.2 (Nat.le_trans (by decide : 256 ≤ 1000) (sz (by decide))), ?_⟩
    refine dc_go (kf := fun o => (numV o : Int)) (fun o ho => ⟨_, rfl, ev_fn (γ := List Nat) (eva_cons (ev_v rfl) eva_nil) o rfl rfl ?_, ev_c⟩) q
    have := h.1 o ho
    exact ⟨this.1, fun l hl => Nat.lt_of_lt_of_le (this.2 l hl) h8⟩
  refine sq_set (ed _) ?_
  show sFldD _ _ _ _ [some (.f (.obj m0.length)), some (.f (.int many)), some (.f (.tup (os.map outD))), some (.f .non), some (.f (.dct (asDct (putAll [] (os.map fun o => (numV o : Int)))))), none, none] _
  obtain ⟨nd, mem⟩ := putAll_keys (os.map fun o => (numV o : Int)) [] List.nodup_nil
  have ec := evn_lc (env := [some (.f (.obj m0.length)), some (.f (.int many)), some (.f (.tup (os.map outD))), some (.f .non), some (.f (.dct (asDct (putAll [] (os.map fun o => (numV o : Int)))))), none, none]) (m := m0 ++ [.ins 21 ([] ++ [.int many])]) (tg := .nm 6) (de := dBin (oInDk id) (dVar 6) (dVar 4)) (vs := [6]) (di := iRg1 (dBin oShl (dC (.int 1)) (dVar 1)))
    (xs := List.range (2 ^ many)) (g := fun k => .int (k : Nat)) (f := fun i => .bl (decide (i ∈ os.map numV))) (evi_rg1n (j := 2 ^ many) (ev_shl1 h8 (ev_v rfl)) (by omega)) rfl (by rw [List.length_range]; exact Nat.le_trans hp (Nat.le_trans (by decide : 256 ≤ 1000) (sz (by decide))))
    (fun i hi => ⟨_, rfl, ?_⟩)
  · refine st_fld (z := .lst ((cellsOf many os).map Dat.bl)) ?_ rfl (show fi_cells 21 = some 1 from rfl) hq
    refine (ev_new ec).eq ?_
    unfold cellsOf
    rw [List.map_map]
    rfl
  · refine (ev_bin (ev_v rfl) (ev_v rfl) (e2_inDk (f := id) (ks := putAll [] (os.map fun o => (numV o : Int))) (k := (i : Int)) iDct_f nd)).eq ?_
    show Lv.f (Dat.bl (getI _ _).isSome) = _
    rw [getI_some]
    congr 2
    refine decide_eq_decide.mpr ?_
    rw [mem]
    constructor
    · rintro (z | z)
      · cases z
      · obtain ⟨o, ho, e⟩ := List.mem_map.mp z
        exact List.mem_map.mpr ⟨o, ho, by omega⟩
    · intro z
      obtain ⟨o, ho, e⟩ := List.mem_map.mp z
      exact .inr (List.mem_map.mpr ⟨o, ho, by omega⟩)
theorem bels_set (k many : Nat) (cs : List Bool) : bels k [Dat.int many, .lst (cs.map Dat.bl)] = true := by
  have : bels k (cs.map Dat.bl) = true := bels_map (fun _ => rfl) cs
  simp [bels, bel, this]
end DL.S

set_option maxHeartbeats 1000000
namespace DL.S
open PySem PySem.Spec PyProof.Rows L2 DL K02

end DL.S

set_option maxHeartbeats 1000000
namespace DL.S
open PySem PySem.Spec PyProof.Rows L2 DL K02

end DL.S

set_option maxHeartbeats 1000000
namespace DL.S
open PySem PySem.Spec PyProof.Rows L2 DL K02

def p_levery : DSp := pT 1 (fun n : Nat => [.int n]) (fun n => n ≤ 8) (fun n => .lst ((every n).map outD))
theorem law_law_every (C : Ct) : ∀ ds m (Q : QD) (E : QX), p_levery ds m Q E → rd_law_every C (fun c xs _ m => E c xs m) { nx := fun _ m => Q .non m, rt := Q } (env0 4 ds) m := by
  rintro _ m Q E ⟨_, n, rfl, h8, hq⟩
  have h8 : n ≤ 8 := h8
  show rd_law_every C _ _ [some (.f (.int n)), none, none, none] m
  unfold rd_law_every
  refine sq_set (a := .lst [outD []]) (ev_new (evn_lst (eva_cons (ev_n eva_nil (em_tup (xs := []) rfl (sz (Nat.le_of_ble_eq_true rfl)))) eva_nil) rfl (sz (Nat.le_of_ble_eq_true rfl)))) ?_
  show (sSeq _ _) _ [some (.f (.int n)), some (.f (.lst ((every 0).map outD))), none, none] m
  refine sq_for ((evi_rg1n (j := n) (ev_v rfl) (by omega)) _ ?_)
  have er : (List.range n).map (fun i => Dat.int (i : Nat)) = rangeD ((0 : Nat) : Int) n := by unfold rangeD; simp
  rw [er]
  refine for_rg (I := fun j env m' => m' = m ∧ ∃ y2 y3, env = [some (.f (.int n)), some (.f (.lst ((every j).map outD))), y2, y3]) n 0 _ _ ⟨rfl, _, _, rfl⟩ ?_ ?_
  · rintro j env m' ⟨rfl, y2, y3, rfl⟩ h1 h2 D' nx ct rt bk
    have hl := every_len (n := j) (by omega)
    show sAsg _ _ D' [some (.f (.int n)), some (.f (.lst ((every j).map outD))), some (.f (.int j)), y3] m'
    have ec := evn_lc (env := [some (.f (.int n)), some (.f (.lst ((every j).map outD))), some (.f (.int j)), y3]) (m := m') (tg := .nm 3) (de := dBin oAdd (dVar 3) (dN oTup (dCons (dVar 2) dNil))) (vs := [3]) (di := iVal (dVar 1))
      (xs := every j) (g := outD) (f := fun o => outD (o ++ [j])) (evi_lst (ev_v rfl)) rfl (Nat.le_trans hl (Nat.le_trans (by decide : 256 ≤ 1000) (sz (by decide))))
      (fun o ho => ⟨_, rfl, (ev_bin (ev_v rfl) (ev_n (eva_cons (ev_v rfl) eva_nil) (em_tup (xs := [.int j]) rfl (sz (Nat.le_of_ble_eq_true rfl)))) (e2_addT (xs := o.map fun l : Nat => .int (l : Nat)) (ys := [.int j]) (by have := outOk_len (every_ok ho); simp only [List.length_map, List.length_cons, List.length_nil]; exact Nat.le_trans (by omega : _ ≤ 1000) (sz (by decide))))).eq (by unfold outD; rw [List.map_append]; rfl)⟩)
    refine st_set (ev_new (evn_cat (xs := (every j).map outD) (ev_v rfl) (ev_new ec) rfl rfl (by simp only [List.length_map]; exact Nat.le_trans (by omega : _ ≤ 1000) (sz (by decide))))) ?_
    refine nx _ _ ⟨rfl, some (.f (.int j)), y3, ?_⟩
    have e : (every (j + 1)).map outD = (every j).map outD ++ (every j).map (fun o => outD (o ++ [j])) := by
      show (every j ++ (every j).map (· ++ [j])).map outD = _
      rw [List.map_append, List.map_map]; rfl
    rw [e]
    rfl
  · rintro env m' ⟨rfl, y2, y3, rfl⟩
    rw [Nat.zero_add]
    have hq' : Q (.lst ((every n).map outD)) m' := hq
    dsimp only
    exact st_ret (D := { nx := fun _ m => Q .non m, rt := Q }) (a := .lst ((every n).map outD)) (ev_v rfl) hq'
end DL.S

set_option maxHeartbeats 1000000
namespace DL.S
open PySem PySem.Spec PyProof.Rows L2 DL K02

section
variable {D : En} {m : Mem} {n : Nat} {x0 x1 x2 x4 x7 : Option Sl}
end
end DL.S

set_option maxHeartbeats 1000000
namespace DL.S
open PySem PySem.Spec PyProof.Rows L2 DL K02

section
variable {m : Mem} {n t mk : Nat} {ps : List Lk} {fs : List Nat} {kind : Int}
end
end DL.S

set_option maxHeartbeats 1000000
namespace DL.S
open PySem PySem.Spec PyProof.Rows L2 DL K02
theorem cons_k {d : TD} {r : TAd} {env : Env'} {m : Mem} {Q : List Lv → Mem → Prop} (h : d env m fun x m1 => r env m1 fun xs m2 => Q (x :: xs) m2) : dCons d r env m Q := h
theorem nil_k {env : Env'} {m : Mem} {Q : List Lv → Mem → Prop} (h : Q [] m) : dNil env m Q := h

theorem dk_len {c d : Nat} {m m' : Mem} (h : Dk c [] m) (h' : Dk d [] m') : m.length = m'.length := by
  obtain ⟨rest, cells, t, h1, _⟩ := h
  obtain ⟨rest', cells', t', h1', _⟩ := h'
  subst h1 h1'
  rfl
end DL.S

set_option maxHeartbeats 1000000
namespace K02
open PySem PySem.Spec PyProof.Rows L2 DL DL.S
end K02

set_option maxHeartbeats 1000000
namespace DL.S
open PySem PySem.Spec PyProof.Rows L2 DL K02

theorem em_tupL {env : Env'} {m : Mem} {l : List Dat} : EvM oTuple env m [.f (.lst l)] (.tup l) := fun Q q => by
  simp only [oTuple, seqOf, der]; exact q
section
variable {env : Env'} {m : Mem} {d : TD} {b : BG}
end
end DL.S

set_option maxHeartbeats 1000000
namespace DL.S
open PySem PySem.Spec PyProof.Rows L2 DL K02

theorem eqd_nn (a b : Nat) : eqd (.int (a : Nat)) (.int (b : Nat)) = decide (a = b) := by
  rw [eqd_ii]
  exact decide_eq_decide.mpr (by omega)
theorem turns_mem {tb : TSd} {D : En} {i : Nat} (I : Nat → Env' → Mem → Prop) : ∀ {xs : List Dat} (k : Nat) {env : Env'} {m : Mem}, I k env m →
    (∀ x ∈ xs, ∀ j env m, j < k + xs.length → I j env m → ∀ D' : En, (∀ env m, I (j + 1) env m → D'.nx env m) → (∀ d m, D.rt d m → D'.rt d m) → tb D' (env.set i (some (.f x))) m) →
    (∀ env m, I (k + xs.length) env m → D.nx env m) → forGo (.nm i) tb D xs env m
  | [], k, env, m, h0, _, hq => hq _ _ h0
  | x :: xs, k, env, m, h0, hs, hq => by
    unfold forGo
    show tb _ (env.set i (some (.f x))) m
    have go : ∀ env m, I (k + 1) env m → forGo (.nm i) tb D xs env m := fun env m h => turns_mem I (k + 1) h (fun y hy j env m hj => hs y (List.mem_cons_of_mem _ hy) j env m (by rw [List.length_cons]; omega)) (fun env m h => hq env m (by rw [List.length_cons, show k + (xs.length + 1) = k + 1 + xs.length by omega]; exact h))
    exact hs x List.mem_cons_self k env m (by rw [List.length_cons]; omega) h0 _ go fun _ _ h => h
end DL.S

set_option maxHeartbeats 1000000
namespace DL.S
open PySem PySem.Spec PyProof.Rows L2 DL K02
theorem sq_setN {i : Nat} {p : TN} {xs : List Dat} {u : TSd} {D : En} {env : Env'} {m : Mem} (h : EvN p env m xs) (k : u D (env.set i (some (.own (.lst xs)))) m) : sSeq (sSetN i p) u D env m := h _ k
section
variable {n g k : Nat} {ps : List Lk} {o : List Nat} {m : Mem}
end
end DL.S

set_option maxHeartbeats 1000000
namespace DL.S
open PySem PySem.Spec PyProof.Rows L2 DL K02

def labS (f : Nat → Nat) (p : Lk) (v : Nat) : Nat := if f v = f p.1 ∨ f v = f p.2 then min (f p.1) (f p.2) else f v
structure Rep (f : Nat → Nat) : Prop where
  le : ∀ v, f v ≤ v
  idem : ∀ v, f (f v) = f v
theorem Rep.step {f : Nat → Nat} (h : Rep f) (p : Lk) : Rep (labS f p) := by
  refine ⟨fun v => ?_, fun v => ?_⟩
  · unfold labS
    have h1 := h.le v
    split
    · rename_i z
      rcases z with z | z <;> omega
    · exact h1
  · have key : ∀ w, f w = f p.1 ∨ f w = f p.2 → labS f p w = min (f p.1) (f p.2) := fun w hw => by unfold labS; rw [if_pos hw]
    by_cases hv : f v = f p.1 ∨ f v = f p.2
    · rw [key v hv]
      rcases Nat.le_total (f p.1) (f p.2) with z | z
      · rw [Nat.min_eq_left z, key (f p.1) (.inl (h.idem p.1)), Nat.min_eq_left z]
      · rw [Nat.min_eq_right z, key (f p.2) (.inr (h.idem p.2)), Nat.min_eq_right z]
    · have e : labS f p v = f v := by unfold labS; rw [if_neg hv]
      rw [e]
      unfold labS
      rw [h.idem v, if_neg hv]
end DL.S

set_option maxHeartbeats 1000000
namespace DL.S
open PySem PySem.Spec PyProof.Rows L2 DL K02
section
variable {n g : Nat} {A : Nat → List Nat}
end
section
variable {n g : Nat} {ps : List Lk} {o : List Nat} {m : Mem}
end
end DL.S

set_option maxHeartbeats 1000000
namespace DL.S
open PySem PySem.Spec PyProof.Rows L2 DL K02
section
variable {n : Nat} {ps : List Lk} {o : List Nat}
end
end DL.S

set_option maxHeartbeats 1000000
namespace DL.S
open PySem PySem.Spec PyProof.Rows L2 DL K02

def BkT (g : BG) : Prop := BkOk g ∧ g.1.2.1 < g.1.1.1
theorem ScOk.bt {g : BG} (h : ScOk g) : BkT g := ⟨h.bk, h.tg⟩
section
variable {D : En} {m : Mem} {b : BG} {rs : Rws} {x2 : Option Sl}
end
end DL.S
namespace DL.S
end DL.S

set_option maxHeartbeats 1000000
namespace DL.S
open PySem PySem.Spec PyProof.Rows L2 DL K02

abbrev intsO (o : List Nat) : List Int := o.map fun l : Nat => (l : Int)
theorem num_out {l i : Nat} (h : l ≤ 8) (hi : i < 2 ^ l) : numV (numOut i) = i := by
  have e := num_every h
  rw [every_num h, List.map_map] at e
  have e2 := congrArg (fun x => x[i]?) e
  simp only [List.getElem?_map, List.getElem?_range hi] at e2
  exact Option.some.inj e2
theorem zipD_map {α : Type} (f g : α → Dat) : ∀ xs : List α, zipD (xs.map f) (xs.map g) = xs.map fun x => .tup [f x, g x]
  | [] => rfl
  | x :: xs => by rw [List.map_cons, List.map_cons, zipD, zipD_map f g xs]; rfl
end DL.S

set_option maxHeartbeats 1000000
namespace DL.S
open PySem PySem.Spec PyProof.Rows L2 DL K02
abbrev OP := List Nat → Bool
section
variable {env : Env'} {m : Mem} {d1 d2 : TD} {l : Nat} {P R : OP}
end
end DL.S

set_option maxHeartbeats 1000000
namespace DL.S
open PySem PySem.Spec PyProof.Rows L2 DL K02
def outV : Dat → List Nat
  | .tup xs => match intsD xs with
    | some ns => ns.map Int.toNat
    | none => []
  | _ => []
theorem ints_of {xs : List Dat} {ns : List Int} (e : intsD xs = some ns) : xs = ns.map Dat.int := by
  induction xs generalizing ns with
  | nil => cases e; rfl
  | cons x xs ih =>
    cases x with
    | int i =>
      unfold intsD at e
      cases e3 : intsD xs with
      | none => rw [e3] at e; cases e
      | some ms => rw [e3] at e; cases e; rw [ih e3]; rfl
    | _ => cases e
theorem lts_pair : ∀ {ns : List Int}, lts ns = true → ns.Pairwise (· < ·)
  | [], _ => .nil
  | [a], _ => by simp
  | a :: b :: ns, h => by
    unfold lts at h
    have h : (decide (a < b) && ((b :: ns).zip ((b :: ns).drop 1)).all fun p => decide (p.1 < p.2)) = true := h
    rw [Bool.and_eq_true, decide_eq_true_eq] at h
    have ih := lts_pair (ns := b :: ns) h.2
    refine .cons (fun x hx => ?_) ih
    rcases List.mem_cons.mp hx with rfl | hx
    · exact h.1
    · exact Int.lt_trans h.1 ((List.pairwise_cons.mp ih).1 x hx)
theorem asc_out {l : Nat} {v : Dat} (h : ascB l v = true) : v = outD (outV v) ∧ OutOk l (outV v) := by
  cases v with
  | tup xs =>
    rw [ascB_tup] at h
    cases e : intsD xs with
    | none => rw [e] at h; cases h
    | some ns =>
      rw [e] at h
      have h : ascN l ns = true := h
      unfold ascN at h
      rw [Bool.and_eq_true, List.all_eq_true] at h
      have hb : ∀ i ∈ ns, 0 ≤ i ∧ i < l := fun i hi => by
        have := h.1 i hi
        rw [Bool.and_eq_true, decide_eq_true_eq, decide_eq_true_eq] at this
        exact this
      have ev : outV (.tup xs) = ns.map Int.toNat := by
        show (match intsD xs with | some ns => ns.map Int.toNat | none => []) = _
        rw [e]
      rw [ev]
      refine ⟨?_, ?_, fun i hi => ?_⟩
      · have e2 := ints_of e
        subst e2
        unfold outD
        rw [List.map_map]
        congr 1
        refine List.map_congr_left fun i hi => ?_
        have := hb i hi
        show Dat.int i = .int ((i.toNat : Nat) : Int)
        rw [Int.toNat_of_nonneg this.1]
      · rw [List.pairwise_map]
        refine List.Pairwise.imp_of_mem (fun ha hb' hab => ?_) (lts_pair h.2)
        have h1 := hb _ ha
        have h2 := hb _ hb'
        omega
      · obtain ⟨j, hj, rfl⟩ := List.mem_map.mp hi
        have := hb j hj
        omega
  | _ => cases h
theorem outOk_mem {l : Nat} (h : l ≤ 8) {o : List Nat} (ho : OutOk l o) : o ∈ every l := by
  have hs := ho
  induction l generalizing o with
  | zero =>
    have : o = [] := List.eq_nil_iff_forall_not_mem.mpr fun x hx => absurd (ho.2 x hx) (Nat.not_lt_zero _)
    subst this
    simp [every]
  | succ l ih =>
    by_cases hm : l ∈ o
    · obtain ⟨a, b, rfl⟩ := List.append_of_mem hm
      have hb : b = [] := List.eq_nil_iff_forall_not_mem.mpr fun x hx => by
        have h1 := ho.2 x (by simp [hx])
        have h2 := (List.pairwise_append.mp ho.1).2.1
        rw [List.pairwise_cons] at h2
        have := h2.1 x hx
        omega
      subst hb
      have hp := List.pairwise_append.mp ho.1
      have ha : OutOk l a := ⟨hp.1, fun x hx => by
        have := hp.2.2 x hx l List.mem_cons_self
        exact this⟩
      exact List.mem_append_right _ (List.mem_map.mpr ⟨a, ih (by omega) ha ha, rfl⟩)
    · have ha : OutOk l o := ⟨ho.1, fun x hx => by
        have h1 := ho.2 x hx
        have : x ≠ l := fun e => hm (e ▸ hx)
        omega⟩
      exact List.mem_append_left _ (ih (by omega) ha ha)
theorem num_lt {l : Nat} (h : l ≤ 8) {o : List Nat} (ho : OutOk l o) : numV o < 2 ^ l ∧ numOut (numV o) = o := by
  have hm := outOk_mem h ho
  rw [every_num h] at hm
  obtain ⟨i, hi, rfl⟩ := List.mem_map.mp hm
  have hi := List.mem_range.mp hi
  rw [num_out h hi]
  exact ⟨hi, rfl⟩
end DL.S

set_option maxHeartbeats 1000000
namespace DL.S
open PySem PySem.Spec PyProof.Rows L2 DL K02

def bkD' (d : Dat) : Nat := (py d).bulk
def bkL (xs : List Dat) : Nat := PyData.bulkAll (pys xs)
theorem bk_tup (xs : List Dat) : bkD' (.tup xs) = bkL xs := by unfold bkD' bkL; rw [py, PyData.bulk]
theorem bkL_cons (x : Dat) (xs : List Dat) : bkL (x :: xs) = bkD' x + 1 + bkL xs := by unfold bkL bkD'; rw [pys, PyData.bulkAll]
theorem bkL_mem {xs : List Dat} {x : Dat} (h : x ∈ xs) : bkD' x + 1 ≤ bkL xs := by
  induction xs with
  | nil => cases h
  | cons y xs ih =>
    rw [bkL_cons]
    rcases List.mem_cons.mp h with rfl | z
    · omega
    · have := ih z; omega
theorem bkL_len (xs : List Dat) : xs.length ≤ bkL xs := by
  induction xs with
  | nil => exact Nat.le_refl _
  | cons x xs ih => rw [bkL_cons, List.length_cons]; omega
theorem cutD_sub {α : Type} (xs : List α) (lo hi : Option Int) : (DL.cutD xs lo hi).Sublist xs := (List.take_sublist _ _).trans (List.drop_sublist _ _)
theorem okN_up1 : ∀ {k : Nat} {d : Dat}, okN k d = true → okN (k + 1) d = true
  | _, .non, _ => rfl
  | _, .bl _, _ => rfl
  | _, .int _, h => rfl
  | k, .str _, h => by cases k <;> exact h
  | 0, .tup _, h => by cases h
  | 0, .lst _, h => by cases h
  | k + 1, .tup xs, h => List.all_eq_true.mpr fun x hx => okN_up1 (k := k) (List.all_eq_true.mp h x hx)
  | k + 1, .lst xs, h => List.all_eq_true.mpr fun x hx => okN_up1 (k := k) (List.all_eq_true.mp h x hx)
  | k, .dct _, h => by cases k <;> cases h
  | k, .ins _ _, h => by cases k <;> cases h
  | k, .obj _, h => by cases k <;> cases h
  | k, .ref _, h => by cases k <;> cases h
  | k, .ty _, h => by cases k <;> cases h
  | k, .cls _, h => by cases k <;> cases h
theorem okN_leU {j k : Nat} {d : Dat} (e : j ≤ k) (h : okN j d = true) : okN k d = true := by
  obtain ⟨i, rfl⟩ : ∃ i, k = j + i := ⟨k - j, by omega⟩
  induction i with
  | zero => exact h
  | succ i ih => exact okN_up1 (ih (by omega))

section
variable {C : Ct} {env : Env'} {m : Mem} {da db : TD}
end
end DL.S

set_option maxHeartbeats 1000000
namespace DL.S
open PySem PySem.Spec PyProof.Rows L2 DL K02
theorem intsD_natO (o : List Nat) : intsD (o.map fun l : Nat => Dat.int (l : Nat)) = some (intsO o) := DL.intsD_map (fun l : Nat => (l : Int)) o
def subB (a b : List Nat) : Bool := a.all fun l => decide (l ∈ b)
theorem mem_intsO {l : Nat} {o : List Nat} : ((l : Int) ∈ intsO o) ↔ l ∈ o := by
  unfold intsO
  rw [List.mem_map]
  exact ⟨fun ⟨k, hk, e⟩ => by have : k = l := by omega
                              exact this ▸ hk, fun h => ⟨l, h, rfl⟩⟩
theorem diff_nil (a b : List Nat) : sameL (zDiff (intsO a) (intsO b)) [] = subB a b := by
  unfold sameL zDiff subB
  rw [List.all_nil, Bool.and_true, Bool.eq_iff_iff, List.all_eq_true, List.all_eq_true]
  constructor
  · intro h l hl
    refine decide_eq_true ?_
    by_cases c : l ∈ b
    · exact c
    · have := h l (List.mem_filter.mpr ⟨mem_intsO.mpr hl, by rw [Bool.not_eq_true', decide_eq_false_iff_not, mem_intsO]; exact c⟩)
      simp at this
  · intro h x hx
    obtain ⟨h1, h2⟩ := List.mem_filter.mp hx
    obtain ⟨l, hl, rfl⟩ := List.mem_map.mp h1
    rw [Bool.not_eq_true', decide_eq_false_iff_not, mem_intsO] at h2
    exact absurd (of_decide_eq_true (h l hl)) h2
theorem ev_zdiff {env : Env'} {m : Mem} {da db : TD} {a b : List Nat} (ha : Ev da env m (.f (outD a))) (hb : Ev db env m (.f (outD b))) (la : a.length ≤ 11) (lb : b.length ≤ 11) : Ev (dEqZ id (zOp zDiff (zSet da) (zSet db)) zNil) env m (.f (.bl (subB a b))) := fun Q q => by
  have sa : ∀ Q : List Int → Mem → Prop, Q (intsO a) m → zSet da env m Q := fun Q q => ha _ (by
    simp only [outD, seqOf, der, intsD_natO]
    exact ⟨by rw [List.length_map]; omega, q⟩)
  have sb : ∀ Q : List Int → Mem → Prop, Q (intsO b) m → zSet db env m Q := fun Q q => hb _ (by
    simp only [outD, seqOf, der, intsD_natO]
    exact ⟨by rw [List.length_map]; omega, q⟩)
  refine sa _ (sb _ ⟨by rw [List.length_map]; exact la, ?_⟩)
  show Q (.f (.bl (sameL (zDiff (intsO a) (intsO b)) []))) m
  rw [diff_nil]
  exact q
end DL.S

set_option maxHeartbeats 1000000
namespace DL.S
open PySem PySem.Spec PyProof.Rows L2 DL K02
noncomputable def p_lsome : DSp := pGh (γ := Nat × Nat) 2 (fun g ds m => ds = [.obj 1, .int g.2] ∧ Dk g.1 [] m ∧ g.1 + 2000 < lim ∧ g.2 ≤ 8)
  (fun g ds m r m' => ∃ (os : List (List Nat)) (m2 : Mem), r = .obj m2.length ∧ m' = m2 ++ [.lst (os.map outD)] ∧ m2.length = m.length ∧ OutsOk g.2 os ∧ Dk (g.1 + 1000) [] m2)
abbrev smEnv (l : Nat) (kind few : Int) (x5 x6 x7 x8 x9 x10 x11 x12 : Option Sl) : Env' :=
  [some (.f (.obj 1)), some (.f (.int l)), some (.f (.lst ((every l).map outD))), some (.f (.int kind)), some (.f (.int few)), x5, x6, x7, x8, x9, x10, x11, x12]
theorem some_go {l : Nat} {kind few : Int} {x5 x6 x7 x8 x9 x10 x11 : Option Sl} (h0 : 0 < few) (h1 : few < 100) : ∀ (r : List (List Nat)) (x12 : Option Sl) (m : Mem) (c : Nat) (Q : List Dat → Mem → Prop), Dk c [] m → c + r.length < lim →
    (∀ (os : List (List Nat)) m', os.Sublist r → Dk (c + r.length) [] m' → Q (os.map outD) m') →
    lcGo (.nm 12) (dTst (dBin (oEq id) (dCall p_next EX0 (dCons (dVar 0) (dCons (dVar 4) dNil))) (dC (.int 0)))) (dVar 12) (smEnv l kind few x5 x6 x7 x8 x9 x10 x11 x12) (r.map outD) m Q
  | [], x12, m, c, Q, hd, hc, h => h [] m (.refl _) hd
  | o :: r, x12, m, c, Q, hd, hc, h => by
    rw [List.map_cons]
    rw [List.length_cons] at hc h
    unfold lcGo
    have hb : DL.bind (.nm 12) (.f (outD o)) (smEnv l kind few x5 x6 x7 x8 x9 x10 x11 x12) = some (smEnv l kind few x5 x6 x7 x8 x9 x10 x11 (some (.f (outD o)))) := by simp [DL.bind]
    rw [hb]
    dsimp only
    unfold dTst
    simp only [dBin]
    refine call_next few h0 (by omega) hd (by omega) (eva_cons (ev_v rfl) (eva_cons (ev_v rfl) eva_nil)) fun i m1 i0 i1 hd1 => ?_
    refine ev_c _ ?_
    refine oEq_l (okR1 _ _) rfl ?_
    show (if id (eqd (.int i) (.int 0)) = true then _ else _)
    split
    · refine ev_v rfl _ ?_
      dsimp only
      refine some_go h0 h1 r x12 m1 (c + 1) _ hd1 (by omega) fun os m' ho hd' => ?_
      exact h (o :: os) m' (ho.cons_cons o) (by rw [show c + (r.length + 1) = c + 1 + r.length by omega]; exact hd')
    · refine some_go h0 h1 r x12 m1 (c + 1) _ hd1 (by omega) fun os m' ho hd' => ?_
      exact h os m' (ho.cons o) (by rw [show c + (r.length + 1) = c + 1 + r.length by omega]; exact hd')
theorem sm_nil (os : List (List Nat)) : eqd (.lst (os.map outD)) (.lst []) = decide (os = []) := by cases os <;> simp [eqd, eqds]
theorem okN_outs (k : Nat) (os : List (List Nat)) : okN (k + 3) (.lst (os.map outD)) = true := by
  show (os.map outD).all (okN (k + 2)) = true
  rw [List.all_map, List.all_eq_true]
  intro o _
  show (o.map fun l : Nat => Dat.int (l : Nat)).all (okN (k + 1)) = true
  rw [List.all_map, List.all_eq_true]
  intro l _
  rfl
theorem sm_loop {D : En} {l : Nat} {kind few : Int} {x5 x6 x7 x8 x9 : Option Sl} {all : List (List Nat)} (hal : all.length ≤ 256) : ∀ (r : Nat) (os ms : List (List Nat)) (x12 : Option Sl) (m : Mem) (c : Nat), os.length = r → (os ++ ms).Perm all → Dk c [] m → c + r < lim →
    (∀ (ms' : List (List Nat)) x10 x12 m', Dk (c + r) [] m' → ms'.Perm all → D.nx (smEnv l kind few x5 x6 x7 x8 x9 x10 (some (.own (.lst (ms'.map outD)))) x12) m') →
    whGo (dTst (dBin (oEq not) (dVar 10) (dNew (nLst dNil))))
  (sAppPop (dVar 11) (dVar 10) (dCall p_next EX0 (dCons (dVar 0) (dCons (dN oLen (dCons (dVar 10) dNil)) dNil)))) D (r + 1) (smEnv l kind few x5 x6 x7 x8 x9 (some (.own (.lst (os.map outD)))) (some (.own (.lst (ms.map outD)))) x12) m
  | 0, os, ms, x12, m, c, hl, hp, hd, hc, hq => by
    have e : os = [] := List.length_eq_zero_iff.mp hl
    subst e
    have ev : EvB (dTst (dBin (oEq not) (dVar 10) (dNew (nLst dNil)))) (smEnv l kind few x5 x6 x7 x8 x9 (some (.own (.lst (([] : List (List Nat)).map outD)))) (some (.own (.lst (ms.map outD)))) x12) m false :=
      (evb_tst (ev_bin (ev_o rfl) (ev_new (evn_lst eva_nil rfl (Nat.zero_le _))) (e2_eq (f := not) (a := .lst []) (c := .lst []) rfl rfl rfl rfl))).eq rfl
    unfold whGo
    refine ev _ ?_
    exact hq ms _ _ m hd hp
  | r + 1, os, ms, x12, m, c, hl, hp, hd, hc, hq => by
    have hlim : lim = 2 ^ 40 := rfl
    have hsum : os.length + ms.length ≤ 256 := by
      have := hp.length_eq
      rw [List.length_append] at this
      omega
    have ev : EvB (dTst (dBin (oEq not) (dVar 10) (dNew (nLst dNil)))) (smEnv l kind few x5 x6 x7 x8 x9 (some (.own (.lst (os.map outD)))) (some (.own (.lst (ms.map outD)))) x12) m true := by
      have := evb_tst (ev_bin (ev_o (a := .lst (os.map outD)) rfl) (ev_new (evn_lst (xs := []) eva_nil rfl (Nat.zero_le _))) (e2_eq (env := smEnv l kind few x5 x6 x7 x8 x9 (some (.own (.lst (os.map outD)))) (some (.own (.lst (ms.map outD)))) x12) (m := m) (f := not) (x := .o 10) (y := .f (.lst [])) (a := .lst (os.map outD)) (c := .lst []) rfl rfl (okN_outs 57 os) rfl))
      rw [sm_nil] at this
      have hne : ¬ os = [] := fun z => by subst z; simp at hl
      rw [decide_eq_false hne] at this
      exact this
    unfold whGo
    refine ev _ ?_
    rw [if_pos rfl]
    unfold sAppPop
    refine ev_o (a := .lst (ms.map outD)) rfl _ ?_
    refine ev_o (a := .lst (os.map outD)) rfl _ ?_
    refine call_next (tl := []) (c := c) (os.length : Int) (by omega) (by omega) hd (by omega) (eva_cons (ev_v rfl) (eva_cons ((ev_n (eva_cons (ev_o rfl) eva_nil) (em_len (x := .o 10) (xs := os.map outD) rfl)).eq (by rw [List.length_map])) eva_nil)) fun i m1 i0 i1 hd1 => ?_
    obtain ⟨j, rfl⟩ : ∃ j : Nat, i = (j : Int) := ⟨i.toNat, by omega⟩
    have hj : j < os.length := by omega
    have e8 : moOf (smEnv l kind few x5 x6 x7 x8 x9 (some (.own (.lst (os.map outD)))) (some (.own (.lst (ms.map outD)))) x12) m1 (.o 11) = some (.lst (ms.map outD)) := rfl
    have e7 : moOf (smEnv l kind few x5 x6 x7 x8 x9 (some (.own (.lst (os.map outD)))) (some (.own (.lst (ms.map outD)))) x12) m1 (.o 10) = some (.lst (os.map outD)) := rfl
    have eg : (os.map outD)[((j : Int)).toNat]? = some (outD os[j]) := by
      rw [show ((j : Int)).toNat = j by omega, List.getElem?_map, List.getElem?_eq_getElem hj]
      rfl
    simp only [e8, e7, eg]
    refine ⟨by decide, by omega, by omega, by rw [List.length_map]; exact Nat.lt_of_lt_of_le (by omega : ms.length < 1000) (sz (by decide)), ?_⟩
    have ee : (os.map outD).eraseIdx ((j : Int)).toNat = (os.eraseIdx j).map outD := by
      rw [show ((j : Int)).toNat = j by omega]
      exact (PySem.map_eraseIdx outD os j).symm
    have ea : ms.map outD ++ [outD os[j]] = (ms ++ [os[j]]).map outD := by rw [List.map_append]; rfl
    rw [ee, ea]
    show whGo _ _ _ _ (smEnv l kind few x5 x6 x7 x8 x9 (some (.own (.lst ((os.eraseIdx j).map outD)))) (some (.own (.lst ((ms ++ [os[j]]).map outD)))) x12) m1
    have hp2 : (os.eraseIdx j ++ (ms ++ [os[j]])).Perm all := by
      have h1 := erase_perm os j os[j] (List.getElem?_eq_getElem hj)
      refine List.Perm.trans ?_ hp
      refine List.Perm.trans ?_ (h1.append_right ms)
      rw [← List.append_assoc]
      exact List.perm_append_singleton _ _
    refine sm_loop hal r (os.eraseIdx j) (ms ++ [os[j]]) _ m1 (c + 1) (by rw [List.length_eraseIdx_of_lt hj]; omega) hp2 hd1 (by omega) fun ms' x10 x12 m' hd' hp' => hq ms' x10 x12 m' (by rw [show c + (r + 1) = c + 1 + r by omega]; exact hd') hp'
theorem bels_outs (k : Nat) (os : List (List Nat)) : bels k (os.map outD) = true := bels_map (fun o => by
  show bels k (o.map fun l : Nat => Dat.int (l : Nat)) = true
  exact bels_map (fun _ => rfl) o) os
theorem pick_i {D : En} {l : Nat} {kind few : Int} {dr ri fa ne : List (List Nat)} {x6 x7 x11 x12 : Option Sl} {m : Mem} {dn : TN} (h0 : 0 ≤ kind) (h6 : kind < 6)
    (hn : EvN dn (smEnv l kind few (some (.own (.lst (dr.map outD)))) x6 x7 (some (.own (.lst (ri.map outD)))) (some (.own (.lst (fa.map outD)))) none x11 x12) m (ne.map outD))
    (h : ∀ (os : List (List Nat)) x5 x8 x9, os = dr ∨ os = ri ∨ os = fa ∨ os = ne → D.nx (smEnv l kind few x5 x6 x7 x8 x9 (some (.own (.lst (os.map outD)))) x11 x12) m) :
    sPick 10 (pkSlot 5 (pkSlot 8 (pkSlot 9 (pkNew dn (pkSlot 5 (pkSlot 8 pkNil)))))) (dVar 3) D (smEnv l kind few (some (.own (.lst (dr.map outD)))) x6 x7 (some (.own (.lst (ri.map outD)))) (some (.own (.lst (fa.map outD)))) none x11 x12) m := by
  show dn _ m (fun xs m1 => _)
  refine hn _ ?_
  show 6 ≤ sizeLine ∧ dVar 3 _ m _
  refine ⟨sz (by decide), ev_v rfl _ ?_⟩
  have hk : kind = 0 ∨ kind = 1 ∨ kind = 2 ∨ kind = 3 ∨ kind = 4 ∨ kind = 5 := by omega
  rcases hk with rfl | rfl | rfl | rfl | rfl | rfl
  · exact h dr none _ _ (.inl rfl)
  · exact h ri _ none _ (.inr (.inl rfl))
  · exact h fa _ _ none (.inr (.inr (.inl rfl)))
  · exact h ne _ _ _ (.inr (.inr (.inr rfl)))
  · exact h dr none _ _ (.inl rfl)
  · exact h ri _ none _ (.inr (.inl rfl))
theorem law_law_some (C : Ct) : ∀ ds m (Q : QD) (E : QX), p_lsome ds m Q E → rd_law_some C p_levery p_next p_out (fun c xs _ m => E c xs m) { nx := fun _ m => Q .non m, rt := Q } (env0 13 ds) m := by
  rintro ds m Q E ⟨_, ⟨c, l⟩, ⟨rfl, hd, hc, h8⟩, hQ⟩
  have h8 : l ≤ 8 := h8
  have hd : Dk c [] m := hd
  have hc : c + 2000 < lim := hc
  have hlim : lim = 2 ^ 40 := rfl
  have hev := every_len h8
  have hsz : (every l).length ≤ sizeLine := Nat.le_trans hev (Nat.le_trans (by decide : 256 ≤ 1000) (sz (by decide)))
  show rd_law_some C p_levery p_next p_out _ _ [some (.f (.obj 1)), some (.f (.int l)), none, none, none, none, none, none, none, none, none, none, none] m
  unfold rd_law_some
  refine seq_i ?_
  have el : Ev (dCall p_levery EX0 (dCons (dVar 1) dNil)) [some (.f (.obj 1)), some (.f (.int l)), none, none, none, none, none, none, none, none, none, none, none] m (.f (.lst ((every l).map outD))) := ev_fn (γ := Nat) (eva_cons (ev_v rfl) eva_nil) l rfl rfl h8
  refine el _ ?_
  refine call_next (tl := []) (c := c) 6 (by omega) (by omega) hd (by omega) (eva_cons (ev_v rfl) (eva_cons ev_c eva_nil)) fun kind m1 k0 k1 hd1 => ?_
  dsimp only
  show (sSeq _ _) _ [some (.f (.obj 1)), some (.f (.int l)), some (.f (.lst ((every l).map outD))), some (.f (.int kind)), none, none, none, none, none, none, none, none, none] m1
  refine sq_asg ?_
  refine ev_c _ ?_
  refine call_next (tl := []) (c := c + 1) 4 (by omega) (by omega) hd1 (by omega) (eva_cons (ev_v rfl) (eva_cons ev_c eva_nil)) fun few m2 f0 f1 hd2 => ?_
  refine e2_add _ ?_
  show (sSeq _ _) _ (smEnv l kind (2 + few) none none none none none none none none) m2
  refine seq_i ?_
  refine evn_lcI (xs := (every l).map outD) (evi_lst (ev_v rfl)) (by rw [List.length_map]; exact hsz) ?_
  show lcGo _ _ _ (smEnv l kind (2 + few) none none none none none none none none) _ m2 _
  refine some_go (by omega) (by omega) (every l) none m2 (c + 1 + 1) _ hd2 (by omega) fun dr m3 hdr hd3 => ?_
  dsimp only
  show (sSeq _ _) _ (smEnv l kind (2 + few) (some (.own (.lst (dr.map outD)))) none none none none none none none) m3
  refine sq_asg ?_
  simp only [dN, dCons]
  refine call_out (tl := []) (c := c + 1 + 1 + (every l).length) (many := l) (by omega) hd3 (by omega) (eva_cons (ev_v rfl) (eva_cons (ev_v rfl) eva_nil)) fun o1 m4 ho1 hd4 => ?_
  refine call_out (tl := []) (c := c + 1 + 1 + (every l).length + 11) (many := l) (by omega) hd4 (by omega) (eva_cons (ev_v rfl) (eva_cons (ev_v rfl) eva_nil)) fun o2 m5 ho2 hd5 => ?_
  simp only [dNil, oTup, frs]
  refine ⟨sz (Nat.le_of_ble_eq_true rfl), ?_⟩
  show (sSeq _ _) _ (smEnv l kind (2 + few) (some (.own (.lst (dr.map outD)))) (some (.f (outD o1))) (some (.f (outD o2))) none none none none none) m5
  have l1 := ho1.len
  have l2 := ho2.len
  have lq : ∀ q ∈ every l, q.length ≤ 11 := fun q hq => by have := outOk_len (every_ok hq); omega
  refine sq_setN (evn_lcf (tg := .nm 12) (xs := every l) (g := outD) (f := outD) (t := fun q => subB o1 q || subB o2 q) (evi_lst (ev_v rfl)) rfl hsz (fun q hq => ⟨_, rfl, ?_, fun _ => ev_v rfl⟩)) ?_
  · exact evb_or (evb_tst (ev_zdiff (ev_v rfl) (ev_v rfl) (by omega) (lq q hq))) fun _ => evb_tst (ev_zdiff (ev_v rfl) (ev_v rfl) (by omega) (lq q hq))
  show (sSeq _ _) _ (smEnv l kind (2 + few) (some (.own (.lst (dr.map outD)))) (some (.f (outD o1))) (some (.f (outD o2))) (some (.own (.lst (((every l).filter fun q => subB o1 q || subB o2 q).map outD)))) none none none none) m5
  refine sq_setN (evn_lcf (tg := .nm 12) (xs := every l) (g := outD) (f := outD) (t := fun q => subB q o1 || subB q o2) (evi_lst (ev_v rfl)) rfl hsz (fun q hq => ⟨_, rfl, ?_, fun _ => ev_v rfl⟩)) ?_
  · exact evb_or (evb_tst (ev_zdiff (ev_v rfl) (ev_v rfl) (lq q hq) (by omega))) fun _ => evb_tst (ev_zdiff (ev_v rfl) (ev_v rfl) (lq q hq) (by omega))
  show (sSeq _ _) _ (smEnv l kind (2 + few) (some (.own (.lst (dr.map outD)))) (some (.f (outD o1))) (some (.f (outD o2))) (some (.own (.lst (((every l).filter fun q => subB o1 q || subB o2 q).map outD)))) (some (.own (.lst (((every l).filter fun q => subB q o1 || subB q o2).map outD)))) none none none) m5
  refine seq_i ?_
  have en := evn_lcf (env := smEnv l kind (2 + few) (some (.own (.lst (dr.map outD)))) (some (.f (outD o1))) (some (.f (outD o2))) (some (.own (.lst (((every l).filter fun q => subB o1 q || subB o2 q).map outD)))) (some (.own (.lst (((every l).filter fun q => subB q o1 || subB q o2).map outD)))) none none none) (m := m5) (tg := .nm 12) (dt := dTst (dBin (oIn not) (dVar 12) (dVar 5))) (de := dVar 12) (vs := [12]) (di := iVal (dVar 2))
    (xs := every l) (g := outD) (f := outD) (t := fun q => !((dr.map outD).any fun b => eqd b (outD q))) (evi_lst (ev_v rfl)) rfl hsz (fun q hq => ⟨_, rfl, evb_tst (ev_bin (ev_v rfl) (ev_o rfl) (e2_in (f := not) (y := .o 5) (bs := dr.map outD) rfl rfl (by
      show (q.map fun l : Nat => Dat.int (l : Nat)).all (okN 59) = true
      rw [List.all_map, List.all_eq_true]
      intro l _
      rfl) (okN_outs 57 dr))), fun _ => ev_v rfl⟩)
  refine pick_i k0 k1 en fun os x5 x8 x9 hos => ?_
  have hsub : os.Sublist (every l) := by
    rcases hos with rfl | rfl | rfl | rfl
    · exact hdr
    · exact List.filter_sublist
    · exact List.filter_sublist
    · exact List.filter_sublist
  have hol : os.length ≤ 256 := Nat.le_trans hsub.length_le hev
  dsimp only
  refine sq_setN (evn_lst eva_nil rfl (Nat.zero_le _)) ?_
  show (sSeq _ _) _ (smEnv l kind (2 + few) x5 (some (.f (outD o1))) (some (.f (outD o2))) x8 x9 (some (.own (.lst (os.map outD)))) (some (.own (.lst (([] : List (List Nat)).map outD)))) none) m5
  refine seq_i ?_
  refine ⟨os.length + 1, sm_loop (all := os) hol os.length os [] none m5 (c + 1 + 1 + (every l).length + 11 + 11) rfl (by simp) hd5 (by omega) fun ms x10 x12 m6 hd6 hp => ?_⟩
  dsimp only
  unfold sRetO
  show Q (.obj m6.length) (m6 ++ [.lst (ms.map outD)])
  have hok : OutsOk l ms := ⟨fun o ho => every_ok (hsub.mem (hp.mem_iff.mp ho)), hp.nodup_iff.mpr ((every_nd h8).sublist hsub), by rw [hp.length_eq]; exact hol⟩
  exact hQ _ _ ⟨ms, m6, rfl, rfl, dk_len hd6 hd, hok, hd6.mono (by show _ ≤ c + 1000; omega)⟩
theorem evn_lsome {da : TAd} {env : Env'} {m : Mem} {l c : Nat} {Q : List Dat → Mem → Prop} (h8 : l ≤ 8) (hd : Dk c [] m) (hc : c + 2000 < lim) (ha : EvA da env m [.f (.obj 1), .f (.int l)])
    (h : ∀ (os : List (List Nat)) m', OutsOk l os → Dk (c + 1000) [] m' → Q (os.map outD) m') : nObj (dCall p_lsome EX0 da) env m Q :=
  call_is [.f (.obj 1), .f (.int l)] [.obj 1, .int l] ha rfl ⟨rfl, (c, l), ⟨rfl, hd, hc, h8⟩, fun r m' ⟨os, m2, e1, e2, e3, ho, hd2⟩ => by
    subst e1 e2
    exact ⟨m2, os.map outD, rfl, rfl, e3, dk_bel hd2, bels_outs _ _, h os m2 ho hd2⟩⟩
end DL.S

set_option maxHeartbeats 1000000
namespace DL.S
open PySem PySem.Spec PyProof.Rows L2 DL K02
section
variable {env : Env'} {m : Mem} {d1 d2 : TD} {l l' : Nat} {P R : OP}
end
end DL.S

set_option maxHeartbeats 1000000
namespace DL.S
open PySem PySem.Spec PyProof.Rows L2 DL K02
section
variable {env : Env'} {m : Mem} {da : TAd} {l k : Nat} {nb : Int}
end
end DL.S

set_option maxHeartbeats 1000000
namespace DL.S
open PySem PySem.Spec PyProof.Rows L2 DL K02
theorem eqds_nats : ∀ a b : List Nat, eqds (a.map fun l : Nat => Dat.int (l : Nat)) (b.map fun l : Nat => Dat.int (l : Nat)) = decide (a = b)
  | [], [] => rfl
  | [], _ :: _ => by simp [eqds]
  | _ :: _, [] => by simp [eqds]
  | x :: a, y :: b => by
    simp only [List.map_cons, eqds, eqds_nats a b, eqd_nn, List.cons.injEq]
    by_cases h : x = y <;> by_cases h2 : a = b <;> simp [h, h2]
theorem eqd_outD (a b : List Nat) : eqd (outD a) (outD b) = decide (a = b) := by
  show eqd (.tup (a.map fun l : Nat => Dat.int (l : Nat))) (.tup (b.map fun l : Nat => Dat.int (l : Nat))) = _
  rw [eqd, eqds_nats]
theorem okN_outsA (k : Nat) (os : List (List Nat)) : (os.map outD).all (okN (k + 2)) = true := okN_outs k os
section
variable {l : Nat} {os qs : List (List Nat)} {P : OP}
end
end DL.S
namespace DL.S
open PySem PySem.Spec PyProof.Rows L2 DL K02
end DL.S
namespace DL.S
open PySem PySem.Spec PyProof.Rows L2 DL K02
end DL.S
namespace DL.S
open PySem PySem.Spec PyProof.Rows L2 DL K02
end DL.S
namespace DL.S
open PySem PySem.Spec PyProof.Rows L2 DL K02
end DL.S

set_option maxHeartbeats 1000000
namespace DL.S
open PySem PySem.Spec PyProof.Rows L2 DL K02
end DL.S
namespace DL.S
open PySem PySem.Spec PyProof.Rows L2 DL K02
end DL.S
namespace DL.S
open PySem PySem.Spec PyProof.Rows L2 DL K02
end DL.S

set_option maxHeartbeats 1000000
namespace DL.S
open PySem PySem.Spec PyProof.Rows L2 DL K02
end DL.S

set_option maxHeartbeats 1000000
namespace DL.S
open PySem PySem.Spec PyProof.Rows L2 DL K02
end DL.S

set_option maxHeartbeats 1000000
namespace DL.AU
open PySem PySem.Spec PyProof.Rows L2 DL DL.S K02
section
variable {env : Env'} {m : Mem} {d da db : TD} {x y : Lv} {z : Dat}
theorem av {i : Nat} {a : Dat} (e : env[i]? = some (some (.f a))) : Ev (dVar i) env m (.f a) := ev_v e
theorem ao {i : Nat} {a : Mo} (e : env[i]? = some (some (.own a))) : Ev (dVar i) env m (.o i) := ev_o e
theorem aSame {k : Nat} {r : TAd} {a c : Dat} (ha : EvA r env m [.f a, .f c]) (he : a = c) (hg : good k c = true) : Ev (dCall (p_same k) EX0 r) env m (.f (.bl true)) := by
  subst he
  exact ev_same hg ha
theorem aEq {f : Bool → Bool} {a c : Dat} (ea : der env m x = some a) (ec : der env m y = some c) (ha : okN 60 a = true) (hc : okN 60 c = true) : Ev2 (oEq f) env m x y (.bl (f (eqd a c))) := e2_eq ea ec ha hc
theorem aTup {r : TAd} {ls : List Lv} {xs : List Dat} (ha : EvA r env m ls) (e : frs ls = some xs) (hl : Nat.ble xs.length 16777216 = true) : Ev (dN oTup r) env m (.f (.tup xs)) := ev_n ha (em_tup e (sz (Nat.le_of_ble_eq_true hl)))
theorem aLst {r : TAd} {ls : List Lv} {xs : List Dat} (ha : EvA r env m ls) (e : frs ls = some xs) (hl : Nat.ble xs.length 16777216 = true) : Ev (dNew (nLst r)) env m (.f (.lst xs)) := ev_new (evn_lst ha e (sz (Nat.le_of_ble_eq_true hl)))
theorem aLstN {r : TAd} {ls : List Lv} {xs : List Dat} (ha : EvA r env m ls) (e : frs ls = some xs) (hl : Nat.ble xs.length 16777216 = true) : EvN (nLst r) env m xs := evn_lst ha e (sz (Nat.le_of_ble_eq_true hl))
theorem aLen {r : TAd} {l : Lv} {xs : List Dat} (ha : EvA r env m [l]) (e : seqOf env m l = some xs) : Ev (dN oLen r) env m (.f (.int xs.length)) := ev_n ha (em_len e)
theorem aTupL {r : TAd} {l : List Dat} (ha : EvA r env m [.f (.lst l)]) : Ev (dN oTuple r) env m (.f (.tup l)) := ev_n ha em_tupL
theorem gNil {k : Nat} : ([] : List Dat).all (good k) = true := rfl
theorem gCons {k : Nat} {a : Dat} {as : List Dat} (h : good k a = true) (hs : as.all (good k) = true) : (a :: as).all (good k) = true := by
  rw [List.all_cons, h, hs]; rfl
theorem gLst {k : Nat} {as : List Dat} (hl : Nat.ble as.length 10000 = true) (h : as.all (good k) = true) : good (k + 1) (.lst as) = true := by
  rw [good, h, Bool.and_true]
  exact decide_eq_true (Nat.le_of_ble_eq_true hl)
theorem gTup {k : Nat} {as : List Dat} (hl : Nat.ble as.length 10000 = true) (h : as.all (good k) = true) : good (k + 1) (.tup as) = true := by
  rw [good, h, Bool.and_true]
  exact decide_eq_true (Nat.le_of_ble_eq_true hl)
theorem next {da : TAd} {Q : QL} {tl : Mem} {c : Nat} (many : Int) (ha : EvA da env m [.f (.obj 1), .f (.int many)]) (hd : Dk c tl m) (h0 : 0 < many) (h1 : many < 2 ^ 40) (hc : c < lim)
    (h : ∀ (i : Int) m', 0 ≤ i → i < many → Dk (c + 1) tl m' → Q (.f (.int i)) m') : dCall p_next EX0 da env m Q := call_next many h0 h1 hd hc ha h
theorem tstNext {da : TAd} {Q : Bool → Mem → Prop} {tl : Mem} {c : Nat} (many v : Int) (ha : EvA da env m [.f (.obj 1), .f (.int many)]) (hd : Dk c tl m) (h0 : 0 < many) (h1 : many < 2 ^ 40) (hc : c < lim)
    (h : ∀ (b : Bool) m', Dk (c + 1) tl m' → Q b m') : dTst (dBin (oEq id) (dCall p_next EX0 da) (dC (.int v))) env m Q := by
  unfold dTst
  simp only [dBin]
  refine next many ha hd h0 h1 hc fun i m1 i0 i1 hd1 => ?_
  refine ev_c _ ((e2_eq (f := id) (a := .int i) (c := .int v) rfl rfl (okR1 _ _) (okR1 _ _)) _ ?_)
  exact h _ _ hd1
end
end DL.AU

set_option maxHeartbeats 1000000
namespace DL.S
open PySem PySem.Spec PyProof.Rows L2 DL K02

def errL (n : Nat) : List Dat → Nat → List (List Nat) → Dat
  | [], _, _ => .non
  | x :: xs, i, seen => if ascB n x = true then (if outV x ∈ seen then .tup [.int i, .str "again"] else errL n xs (i + 1) (seen ++ [outV x])) else .tup [.int i, .str "outage"]
def oerrF (a b : Dat) : Dat := match a with
  | .int i => if 0 ≤ i ∧ i ≤ 8 then (match b with
    | .tup xs => errL i.toNat xs 0 []
    | _ => .tup [.non, .str "members"]) else .tup [.non, .str "many"]
  | _ => .tup [.non, .str "many"]
def okM (x : Dat) : Prop := good 8 x = true ∧ ∀ xs, x = .tup xs → xs.length ≤ 1000
def ErrPre (a b : Dat) : Prop := (∃ j, good j a = true) ∧ (∃ j, good j b = true) ∧ ∀ xs, b = .tup xs → xs.length ≤ 300 ∧ ∀ x ∈ xs, okM x
def p_oerrG : DSp := pT 2 (fun g : Dat × Dat => [g.1, g.2]) (fun g => ErrPre g.1 g.2) (fun g => oerrF g.1 g.2)
theorem getT_in (o : List Nat) : ∀ os : List (List Nat), o ∈ os → (getT (seenD os) (outK o)).isSome = true
  | q :: os, h => by
    unfold getT
    show (Option.map _ (List.find? _ ((outD q, .bl true) :: seenD os))).isSome = true
    by_cases e : q = o
    · subst e
      rw [List.find?_cons_of_pos (by simp only [tKey_out]; simp)]
      rfl
    · have ih := getT_in o os ((List.mem_cons.mp h).resolve_left fun z => e z.symm)
      rw [List.find?_cons_of_neg (by simp only [tKey_out, Option.some.injEq]; simpa using fun z => e (outK_inj z))]
      exact ih
theorem errL_good (n : Nat) : ∀ (xs : List Dat) (i : Nat) (seen : List (List Nat)), i + xs.length ≤ 300 → good 1 (errL n xs i seen) = true
  | [], _, _, _ => rfl
  | x :: xs, i, seen, h => by
    rw [List.length_cons] at h
    unfold errL
    have hi : good 0 (.int (i : Nat)) = true := (Vd.nat (k := 0) (B := 0) (by omega)).good
    have w1 : good 0 (.str "again") = true := by decide +kernel
    have w2 : good 0 (.str "outage") = true := by decide +kernel
    split
    · split
      · show (decide (2 ≤ 10000) && [Dat.int (i : Nat), .str "again"].all (good 0)) = true
        rw [List.all_cons, List.all_cons, hi, w1]; rfl
      · exact errL_good n xs (i + 1) _ (by omega)
    · show (decide (2 ≤ 10000) && [Dat.int (i : Nat), .str "outage"].all (good 0)) = true
      rw [List.all_cons, List.all_cons, hi, w2]; rfl
theorem oeG_loop {D : En} {m : Mem} {n : Nat} {x1 : Option Sl} : ∀ (r : List Dat) (pre : List (List Nat)) (k : Nat) (x3 x4 : Option Sl), (∀ x ∈ r, okM x) → pre.Nodup → pre.length + r.length ≤ 300 →
    (errL n r k pre ≠ .non → D.rt (errL n r k pre) m) → (errL n r k pre = .non → ∀ x2 x3 x4, D.nx [some (.f (.int (n : Nat))), x1, x2, x3, x4] m) →
    forGo (.tp [3, 4]) (sSeq (sIf (dNot (dTst (dCall p_asc EX0 (dCons (dVar 4) (dCons (dVar 0) dNil)))))
  (sRet (dN oTup (dCons (dVar 3) (dCons (dC (.str "outage")) dNil))))
  sNext)
  (sSeq (sIf (dTst (dBin (oInT id) (dVar 4) (dVar 2)))
  (sRet (dN oTup (dCons (dVar 3) (dCons (dC (.str "again")) dNil))))
  sNext)
  (sPutT (dC (.bl true)) (dVar 2) (dVar 4)))) D (enumD k r) [some (.f (.int (n : Nat))), x1, some (.own (.dct (seenD pre))), x3, x4] m
  | [], pre, k, x3, x4, _, _, _, hr, hq => hq rfl _ _ _
  | x :: r, pre, k, x3, x4, hm, nd, hl, hr, hq => by
    rw [enumD_cons]
    unfold forGo
    show (sSeq _ _) _ [some (.f (.int (n : Nat))), x1, some (.own (.dct (seenD pre))), some (.f (.int k)), some (.f x)] m
    rw [List.length_cons] at hl
    have hx := hm x List.mem_cons_self
    have ea : EvB (dNot (dTst (dCall p_asc EX0 (dCons (dVar 4) (dCons (dVar 0) dNil))))) [some (.f (.int (n : Nat))), x1, some (.own (.dct (seenD pre))), some (.f (.int k)), some (.f x)] m (!ascB (n : Int) x) :=
      evb_not (evb_tst (ev_fn (γ := Dat × Int) (eva_cons (ev_v rfl) (eva_cons (ev_v rfl) eva_nil)) (x, (n : Int)) rfl rfl (good_le (by omega) hx.1)))
    by_cases h : ascB (n : Int) x = true
    · rw [h] at ea
      refine sq_ifF ea ?_
      obtain ⟨e1, e2⟩ := asc_out h
      obtain ⟨o, ho⟩ : ∃ o, outV x = o := ⟨_, rfl⟩
      unfold errL at hr hq
      rw [if_pos h, ho] at hr hq
      rw [ho] at e1 e2
      subst e1
      by_cases hs : o ∈ pre
      · rw [if_pos hs] at hr
        refine seq_i (st_ifT (EvB.eq (evb_tst (ev_bin (ev_v rfl) (ev_o rfl) (e2_inK (f := id) (dDct_own rfl) (tKey_out o) (tKeys_seen pre) (seen_nd nd)))) (by rw [getT_in o pre hs]; rfl)) ?_)
        exact st_ret (ev_n (eva_cons (ev_v rfl) (eva_cons ev_c eva_nil)) (em_tup rfl (sz (Nat.le_of_ble_eq_true rfl)))) (hr (by simp))
      · rw [if_neg hs] at hr hq
        refine sq_ifF (EvB.eq (evb_tst (ev_bin (ev_v rfl) (ev_o rfl) (e2_inK (f := id) (dDct_own rfl) (tKey_out o) (tKeys_seen pre) (seen_nd nd)))) (by rw [getT_seen o pre hs]; rfl)) ?_
        refine st_putT (kvs := seenD pre) rfl ev_c (ev_v rfl) (tKey_out o) (tKeys_seen pre) (seen_nd nd) (by unfold seenD; rw [List.length_map]; exact Nat.lt_of_lt_of_le (by omega : _ < 1000) (sz (by decide))) ?_
        rw [putT_seen hs]
        show forGo _ _ _ _ [some (.f (.int (n : Nat))), x1, some (.own (.dct (seenD (pre ++ [o])))), some (.f (.int k)), some (.f (outD o))] m
        refine oeG_loop r (pre ++ [o]) (k + 1) _ _ (fun q hq => hm q (List.mem_cons_of_mem _ hq)) ?_ (by simp; omega) hr hq
        rw [List.nodup_append]
        exact ⟨nd, List.pairwise_singleton _ _, fun a ha b hb e => hs (by rw [List.mem_singleton.mp hb] at e; exact e ▸ ha)⟩
    · rw [Bool.not_eq_true] at h
      rw [h] at ea
      unfold errL at hr
      rw [if_neg (by rw [h]; exact Bool.false_ne_true)] at hr
      refine seq_i (st_ifT ea ?_)
      exact st_ret (ev_n (eva_cons (ev_v rfl) (eva_cons ev_c eva_nil)) (em_tup rfl (sz (Nat.le_of_ble_eq_true rfl)))) (hr (by simp))
theorem oerr_in {i : Int} (h : 0 ≤ i ∧ i ≤ 8) (b : Dat) : oerrF (.int i) b = (match b with
    | .tup xs => errL i.toNat xs 0 []
    | _ => .tup [.non, .str "members"]) := by
  show (if 0 ≤ i ∧ i ≤ 8 then _ else _) = _
  rw [if_pos h]
theorem oerr_out {i : Int} (h : ¬ (0 ≤ i ∧ i ≤ 8)) (b : Dat) : oerrF (.int i) b = .tup [.non, .str "many"] := by
  show (if 0 ≤ i ∧ i ≤ 8 then _ else _) = _
  rw [if_neg h]
theorem isInt_int {a : Dat} (hp : plain a = true) (h : K02.isInt a = true) : ∃ i, a = .int i := by
  cases a <;> first | exact ⟨_, rfl⟩ | cases h
theorem law_outages_errorG (C : Ct) : ∀ ds m (Q : QD) (E : QX), p_oerrG ds m Q E → rd_outages_error C p_whole p_asc (fun c xs _ m => E c xs m) { nx := fun _ m => Q .non m, rt := Q } (env0 5 ds) m := by
  rintro _ m Q E ⟨_, ⟨a, b⟩, rfl, ⟨⟨ja, ha⟩, ⟨jb, hb⟩, hm⟩, hq⟩
  have pa := good_plain ha
  have pb := good_plain hb
  have hq : Q (oerrF a b) m := hq
  show rd_outages_error C p_whole p_asc _ _ [some (.f a), some (.f b), none, none, none] m
  unfold rd_outages_error
  have many : (∃ i : Int, a = .int i ∧ 0 ≤ i ∧ i ≤ 8) ∨ (∀ b, oerrF a b = .tup [.non, .str "many"]) := by
    cases a with
    | int i =>
      by_cases h : 0 ≤ i ∧ i ≤ 8
      · exact .inl ⟨i, rfl, h⟩
      · exact .inr fun b => oerr_out h b
    | _ => exact .inr fun b => rfl
  have ew : ∀ env : Env', env[0]? = some (some (.f a)) → EvB (dNot (dTst (dCall p_whole EX0 (dCons (dVar 0) dNil)))) env m (!K02.isInt a) := fun env e => evb_not (evb_tst (ev_whole pa (eva_cons (ev_v e) eva_nil)))
  have ec : ∀ i : Int, a = .int i → EvB (dNot (dTst (dChain oLe oLe (dC (.int 0)) (dVar 0) (dC (.int 8))))) [some (.f a), some (.f b), none, none, none] m (!(decide ((0 : Int) ≤ i) && decide (i ≤ 8))) := fun i e => by
    subst e
    exact evb_not (evb_tst (ev_chain (f := oLe) (g := oLe) (x := .f (.int 0)) (y := .f (.int i)) (z := .f (.int 8)) (b := decide ((0 : Int) ≤ i)) (c := decide (i ≤ 8)) ev_c (ev_v rfl) e2_i0 (fun _ => ev_c) fun _ => e2_i0))
  rcases many with ⟨i, rfl, h0, h8⟩ | hmany
  · refine sq_ifF (EvB.eq (evb_or (ew _ rfl) fun _ => ec i rfl) (by rw [decide_eq_true h0, decide_eq_true h8]; rfl)) ?_
    have et : EvB (dNot (dTst (dN (oIsi C) (dCons (dVar 1) (dCons (dC (.ty "tuple")) dNil))))) [some (.f (.int i)), some (.f b), none, none, none] m (!isTup b) := evb_not (evb_tst (ev_n (eva_cons (ev_v rfl) (eva_cons ev_c eva_nil)) (isi_tup pb)))
    by_cases ht : ∃ xs, b = .tup xs
    · obtain ⟨xs, rfl⟩ := ht
      obtain ⟨n, rfl⟩ : ∃ n : Nat, i = n := ⟨i.toNat, by omega⟩
      obtain ⟨hl, hx⟩ := hm xs rfl
      have e0 : oerrF (.int (n : Nat)) (.tup xs) = errL n xs 0 [] := by
        rw [oerr_in ⟨h0, h8⟩]
        show errL ((n : Int)).toNat xs 0 [] = _
        rw [show ((n : Int)).toNat = n by omega]
      rw [e0] at hq
      refine sq_ifF et ?_
      refine sq_D0 ?_
      show (sSeq _ _) _ [some (.f (.int (n : Nat))), some (.f (.tup xs)), some (.own (.dct (seenD []))), none, none] m
      refine sq_for ((evi_enum (x := xs) (.inr (ev_v rfl))) _ ?_)
      refine oeG_loop xs [] 0 none none hx List.nodup_nil (by simpa using hl) (fun _ => hq) fun hn x2 x3 x4 => ?_
      rw [hn] at hq
      show sRet (dC .non) { nx := fun _ m => Q .non m, rt := Q } [some (.f (.int (n : Nat))), some (.f (.tup xs)), x2, x3, x4] m
      exact st_ret (a := .non) ev_c hq
    · have hf : isTup b = false := by cases b <;> first | rfl | exact absurd ⟨_, rfl⟩ ht
      rw [hf] at et
      have e0 : oerrF (.int i) b = .tup [.non, .str "members"] := by
        rw [oerr_in ⟨h0, h8⟩]
        cases b <;> first | rfl | exact absurd ⟨_, rfl⟩ ht
      rw [e0] at hq
      exact seq_i (st_ifT et (st_ret (ev_n (eva_cons ev_c (eva_cons ev_c eva_nil)) (em_tup rfl (sz (Nat.le_of_ble_eq_true rfl)))) hq))
  · rw [hmany b] at hq
    refine seq_i (st_ifT ?_ (st_ret (ev_n (eva_cons ev_c (eva_cons ev_c eva_nil)) (em_tup rfl (sz (Nat.le_of_ble_eq_true rfl)))) hq))
    by_cases hi : K02.isInt a = true
    · obtain ⟨i, rfl⟩ := isInt_int pa hi
      refine EvB.eq (evb_or (ew _ rfl) fun _ => ec i rfl) ?_
      have hno : ¬ (0 ≤ i ∧ i ≤ 8) := fun h => by
        have := hmany (.int 0)
        rw [oerr_in h] at this
        have h2 : Dat.tup [.non, .str "members"] = Dat.tup [.non, .str "many"] := this
        simp only [Dat.tup.injEq, List.cons.injEq, Dat.str.injEq] at h2
        exact absurd h2.2.1 (by decide +kernel)
      rw [hi]
      show (false || !(decide (0 ≤ i) && decide (i ≤ 8))) = true
      by_cases h0 : 0 ≤ i
      · have : ¬ i ≤ 8 := fun z => hno ⟨h0, z⟩
        rw [decide_eq_false this, Bool.and_false]; rfl
      · rw [decide_eq_false h0]; rfl
    · rw [Bool.not_eq_true] at hi
      exact EvB.eq (evb_or (c := true) (EvB.eq (ew _ rfl) (by rw [hi])) fun z => by cases z) rfl
theorem errL_none {n : Nat} : ∀ {xs : List Dat} {i : Nat} {seen : List (List Nat)}, errL n xs i seen = .non → seen.Nodup → ∃ os : List (List Nat), xs = os.map outD ∧ (∀ o ∈ os, OutOk n o) ∧ (seen ++ os).Nodup
  | [], _, seen, _, nd => ⟨[], rfl, (fun o (h : o ∈ ([] : List (List Nat))) => absurd h List.not_mem_nil), (by simpa using nd)⟩
  | x :: xs, i, seen, h, nd => by
    unfold errL at h
    split at h
    · rename_i ha
      split at h
      · cases h
      · rename_i hs
        obtain ⟨e1, e2⟩ := asc_out ha
        obtain ⟨os, h1, h2, h3⟩ := errL_none h (by
          rw [List.nodup_append]
          exact ⟨nd, List.pairwise_singleton _ _, fun a ha b hb e => hs (by rw [List.mem_singleton.mp hb] at e; exact e ▸ ha)⟩)
        refine ⟨outV x :: os, by rw [List.map_cons, ← e1, h1], fun o ho => ?_, by rw [List.append_assoc] at h3; exact h3⟩
        rcases List.mem_cons.mp ho with rfl | z
        · exact e2
        · exact h2 o z
    · cases h
def p_initOG : DSp := pGhE (γ := Mem × Dat × Dat) 3 (fun g ds m => ds = [.obj g.1.length, g.2.1, g.2.2] ∧ m = g.1 ++ [.ins 21 []] ∧ ErrPre g.2.1 g.2.2)
  (fun g ds m r m' => oerrF g.2.1 g.2.2 = .non ∧ r = .non ∧ ∃ (n : Nat) (cs : List Bool), m' = g.1 ++ [.ins 21 [.int (n : Nat), .lst (List.map Dat.bl cs)]])
  (fun g ds m c xs m' => oerrF g.2.1 g.2.2 ≠ .non ∧ (c = 8 ∧ xs = [oerrF g.2.1 g.2.2]) ∧ m' = m)
theorem errF_not {a b : Dat} (h : isN (.f (oerrF a b)) = true) : oerrF a b = .non := by
  cases e : oerrF a b with
  | non => rfl
  | _ => rw [e] at h; cases h
theorem oerr_none {a b : Dat} (h : oerrF a b = .non) : ∃ (n : Nat) (os : List (List Nat)), a = .int (n : Nat) ∧ n ≤ 8 ∧ b = .tup (os.map outD) ∧ (∀ o ∈ os, OutOk n o) ∧ os.Nodup := by
  unfold oerrF at h
  split at h
  · rename_i i
    split at h
    · rename_i hi
      split at h
      · rename_i xs
        obtain ⟨os, h1, h2, h3⟩ := errL_none h List.nodup_nil
        exact ⟨i.toNat, os, by rw [show ((i.toNat : Nat) : Int) = i by omega], by omega, by rw [h1], h2, by simpa using h3⟩
      · cases h
    · cases h
  · cases h
theorem outs_len {n : Nat} (h8 : n ≤ 8) {os : List (List Nat)} (h : ∀ o ∈ os, OutOk n o) (nd : os.Nodup) : os.length ≤ 256 := by
  have hn : (os.map numV).Nodup := List.pairwise_map.mpr (List.Pairwise.imp_of_mem (fun {a b} ha hb (hne : a ≠ b) e => hne (by
    rw [← (num_lt h8 (h a ha)).2, ← (num_lt h8 (h b hb)).2, e])) nd)
  have := nodup_len (n := 2 ^ n) hn fun x hx => by
    obtain ⟨o, ho, rfl⟩ := List.mem_map.mp hx
    exact (num_lt h8 (h o ho)).1
  rw [List.length_map] at this
  exact Nat.le_trans this (pow_le h8)
theorem law_Outages_initG (C : Ct) : ∀ ds m (Q : QD) (E : QX), p_initOG ds m Q E → rd_Outages_init C p_oerrG p_numof (fun c xs _ m => E c xs m) { nx := fun _ m => Q .non m, rt := Q } (env0 7 ds) m := by
  rintro ds m Q E ⟨_, ⟨m0, a, b⟩, ⟨rfl, rfl, hp⟩, hQ, hE⟩
  have hp : ErrPre a b := hp
  have ha := good_plain hp.1.choose_spec
  show rd_Outages_init C p_oerrG p_numof _ _ [some (.f (.obj m0.length)), some (.f a), some (.f b), none, none, none, none] (m0 ++ [.ins 21 []])
  by_cases he : oerrF a b = .non
  · obtain ⟨n, os, rfl, h8, rfl, ho, nd⟩ := oerr_none he
    have hq : ∀ cs, Q .non (m0 ++ [.ins 21 [.int (n : Nat), .lst (List.map Dat.bl cs)]]) := fun cs => hQ _ _ ⟨he, rfl, n, cs, rfl⟩
    have h0 := law_Outages_init C [.obj m0.length, .int n, .tup (os.map outD)] (m0 ++ [.ins 21 []]) Q E ⟨rfl, (m0, n, os), ⟨rfl, rfl, h8, ho, nd, outs_len h8 ho nd⟩, fun r m' ⟨e1, e2⟩ => by subst e1 e2; exact hq _⟩
    have h0 : rd_Outages_init C p_oerr p_numof (fun c xs _ m => E c xs m) { nx := fun _ m => Q .non m, rt := Q } [some (.f (.obj m0.length)), some (.f (.int (n : Nat))), some (.f (.tup (os.map outD))), none, none, none, none] (m0 ++ [.ins 21 []]) := h0
    unfold rd_Outages_init at h0 ⊢
    obtain ⟨_, g, _, _, h1⟩ := h0
    have e1 : Ev (dCall p_oerrG EX0 (dCons (dVar 1) (dCons (dVar 2) dNil))) [some (.f (.obj m0.length)), some (.f (.int (n : Nat))), some (.f (.tup (os.map outD))), none, none, none, none] (m0 ++ [.ins 21 []]) (.f (oerrF (.int (n : Nat)) (.tup (os.map outD)))) := ev_fn (γ := Dat × Dat) (eva_cons (ev_v rfl) (eva_cons (ev_v rfl) eva_nil)) (.int (n : Nat), .tup (os.map outD)) rfl rfl hp
    rw [he] at e1
    refine sq_set e1 ?_
    exact h1
  · unfold rd_Outages_init
    refine sq_set (a := oerrF a b) (ev_fn (γ := Dat × Dat) (eva_cons (ev_v rfl) (eva_cons (ev_v rfl) eva_nil)) (a, b) rfl rfl hp) ?_
    show (sSeq _ _) _ [some (.f (.obj m0.length)), some (.f a), some (.f b), some (.f (oerrF a b)), none, none, none] _
    have hn : isN (.f (oerrF a b)) = false := by
      cases e : isN (.f (oerrF a b)) with
      | true => exact absurd (errF_not e) he
      | false => rfl
    refine seq_i (st_ifT (EvB.eq (evb_tst (ev_bin (ev_v rfl) ev_c (e2_isn (f := not)))) (by rw [hn]; rfl)) ?_)
    unfold sRaise mOwn
    refine cons_k (ev_v (a := oerrF a b) rfl _ (nil_k ?_))
    exact ⟨rfl, hE _ _ _ ⟨he, ⟨rfl, rfl⟩, rfl⟩⟩
theorem bel_errL (k n : Nat) : ∀ (xs : List Dat) (i : Nat) (seen : List (List Nat)), bel k (errL n xs i seen) = true
  | [], _, _ => rfl
  | x :: xs, i, seen => by
    unfold errL
    split
    · split
      · rfl
      · exact bel_errL k n xs (i + 1) _
    · rfl
theorem bel_oerr (k : Nat) (a b : Dat) : bel k (oerrF a b) = true := by
  cases a with
  | int i =>
    by_cases h : 0 ≤ i ∧ i ≤ 8
    · rw [oerr_in h]
      cases b <;> first | exact bel_errL k _ _ _ _ | rfl
    · rw [oerr_out h]; rfl
  | _ => rfl
theorem good_oerr {a b : Dat} (h : ErrPre a b) : good 1 (oerrF a b) = true := by
  have w : good 1 (.tup [.non, .str "many"]) = true := by decide +kernel
  have w2 : good 1 (.tup [.non, .str "members"]) = true := by decide +kernel
  cases a with
  | int i =>
    by_cases hi : 0 ≤ i ∧ i ≤ 8
    · rw [oerr_in hi]
      cases b with
      | tup xs => exact errL_good _ xs 0 [] (by have := (h.2.2 xs rfl).1; omega)
      | _ => exact w2
    · rw [oerr_out hi]; exact w
  | _ => exact w
theorem okM_vd {k B : Nat} {x : Dat} (h : Vd k B x) (hk : k ≤ 8) (hB : B ≤ 1000) : okM x := ⟨good_le hk h.good, fun xs e => by
  subst e
  have := h.bulk
  have hb : bkD' (.tup xs) ≤ B := this
  rw [bk_tup] at hb
  have := bkL_len xs
  omega⟩
theorem okM_in {k B : Nat} {ys : List Dat} (h : Vd k B (.tup ys)) (hk : k ≤ 8) (hB : B ≤ 1000) : ∀ y ∈ ys, okM y := fun y hy => by
  obtain ⟨j, rfl, _, hg⟩ := good_tup h.good
  refine ⟨good_le (by omega) (hg y hy), fun zs e => ?_⟩
  subst e
  have hb : bkD' (.tup ys) ≤ B := h.bulk
  rw [bk_tup] at hb
  have h1 := bkL_mem hy
  rw [bk_tup] at h1
  have := bkL_len zs
  omega
end DL.S

set_option maxHeartbeats 1000000
namespace K09
open PySem PySem.Spec PyProof.Rows L2 DL DL.S
open K02 hiding isInt
set_option hygiene false
local macro_rules | `(tactic| trivial) => `(tactic| with_reducible exact eva_nil)
local macro_rules | `(tactic| trivial) => `(tactic| ((with_reducible apply ev_bin) <;> trivial))
local macro_rules | `(tactic| trivial) => `(tactic| ((with_reducible apply ev_if) <;> trivial))
local macro_rules | `(tactic| trivial) => `(tactic| ((with_reducible apply AU.aTup) <;> first | rfl | trivial))
local macro_rules | `(tactic| trivial) => `(tactic| ((with_reducible apply AU.aLst) <;> first | rfl | trivial))
local macro_rules | `(tactic| trivial) => `(tactic| ((with_reducible apply AU.aLstN) <;> first | rfl | trivial))
local macro_rules | `(tactic| trivial) => `(tactic| ((with_reducible apply AU.aLen) <;> first | rfl | trivial))
local macro_rules | `(tactic| trivial) => `(tactic| ((with_reducible apply AU.aTupL) <;> first | rfl | trivial))
local macro_rules | `(tactic| trivial) => `(tactic| ((with_reducible apply eva_cons) <;> trivial))
local macro_rules | `(tactic| trivial) => `(tactic| with_reducible exact ev_c)
local macro_rules | `(tactic| trivial) => `(tactic| ((with_reducible apply AU.ao) <;> rfl))
local macro_rules | `(tactic| trivial) => `(tactic| ((with_reducible apply AU.av) <;> rfl))
local macro_rules | `(tactic| trivial) => `(tactic| with_reducible exact e2_add)
local macro_rules | `(tactic| trivial) => `(tactic| with_reducible exact e2_i0)
local macro_rules | `(tactic| trivial) => `(tactic| with_reducible exact e2_isn)
local macro_rules | `(tactic| trivial) => `(tactic| ((with_reducible apply e2_ix) <;> rfl))
local macro_rules | `(tactic| trivial) => `(tactic| ((with_reducible apply AU.aEq) <;> first | rfl | trivial))
local macro_rules | `(tactic| trivial) => `(tactic| ((with_reducible apply AU.aSame) <;> first | trivial | rfl))
local macro_rules | `(tactic| trivial) => `(tactic| ((with_reducible apply evb_tst) <;> trivial))
local macro_rules | `(tactic| trivial) => `(tactic| ((with_reducible apply evb_not) <;> trivial))
local macro_rules | `(tactic| trivial) => `(tactic| with_reducible exact AU.gNil)
local macro_rules | `(tactic| trivial) => `(tactic| ((with_reducible apply AU.gCons) <;> trivial))
local macro_rules | `(tactic| trivial) => `(tactic| ((with_reducible apply AU.gLst) <;> first | rfl | trivial))
local macro_rules | `(tactic| trivial) => `(tactic| ((with_reducible apply AU.gTup) <;> first | rfl | trivial))
local macro_rules | `(tactic| trivial) => `(tactic| with_reducible assumption)

theorem call_bent {da : TAd} {env : Env'} {m tl : Mem} {Q : QL} {c many : Nat} {o : List Nat} (ho : OutOk many o) (h8 : many ≤ 8) (hd : Dk c tl m) (hc : c + 20 < lim) (ha : EvA da env m [.f (.obj 1), .f (outD o), .f (.int many)])
    (h : ∀ r m', (Vd 3 100 r ∧ ∀ ys, r = .tup ys → ys.length ≤ 100) → Dk (c + 3) tl m' → Q (.f r) m') : dCall p_bent EX0 da env m Q :=
  call_is [.f (.obj 1), .f (outD o), .f (.int many)] [.obj 1, outD o, .int many] ha rfl ⟨rfl, (c, tl, many, o), ⟨rfl, ho, h8, hd, hc⟩, fun r m' ⟨h1, h2⟩ => h r m' h1 h2⟩
theorem evb_isE {a : Addr} {c c' i : Nat} {r : Bool} {f : Nat → Nat → Option Bool} {env : Env'} {m : Mem} (h : env[i]? = some (some (.f (.ref a)))) (e : f c c' = some r) : EvB (dTst (dN (oIsE a c f) (dCons (dVar i) (dCons (dC (.cls c')) dNil)))) env m r :=
  evb_tst (ev_n (eva_cons (ev_v h) (eva_cons ev_c eva_nil)) fun Q q => ⟨rfl, by rw [e]; exact q⟩)
def p_ldue : DSp := pT 2 (fun g : Dat × Dat => [g.1, g.2]) (fun g => ErrPre g.1 g.2) (fun g => oerrF g.1 g.2)
theorem errL_cons (n : Nat) (x : Dat) (xs : List Dat) (i : Nat) (seen : List (List Nat)) : DL.S.errL n (x :: xs) i seen = if ascB n x = true then (if outV x ∈ seen then .tup [.int i, .str "again"] else DL.S.errL n xs (i + 1) (seen ++ [outV x])) else .tup [.int i, .str "outage"] := rfl
theorem due_step {D : En} {m : Mem} {n : Nat} {x : Dat} {xs : List Dat} {seen : List (List Nat)} {k : Nat} (hx : okM x) (hk : xs[k]? = some x) (hl : seen.length ≤ 300)
    (h1 : ascB n x = false → D.rt (.tup [.int k, .str "outage"]) m) (h2 : ascB n x = true → outV x ∈ seen → D.rt (.tup [.int k, .str "again"]) m) (h3 : ascB n x = true → outV x ∉ seen → D.nx [some (.f (.int (n : Nat))), some (.f (.tup xs)), some (.own (.lst ((seen ++ [outV x]).map outD))), some (.f (.int (k : Nat)))] m) :
    (sSeq (sIf (dNot (dTst (dCall p_lasc EX0 (dCons (dBin oIx (dVar 1) (dVar 3)) (dCons (dVar 0) dNil)))))
  (sRet (dN oTup (dCons (dVar 3) (dCons (dC (.str "outage")) dNil))))
  sNext)
  (sSeq (sIf (dTst (dBin (oIn id) (dBin oIx (dVar 1) (dVar 3)) (dVar 2)))
  (sRet (dN oTup (dCons (dVar 3) (dCons (dC (.str "again")) dNil))))
  sNext)
  (sApp (dVar 2) (dBin oIx (dVar 1) (dVar 3))))) D [some (.f (.int (n : Nat))), some (.f (.tup xs)), some (.own (.lst (seen.map outD))), some (.f (.int (k : Nat)))] m := by
  have ex : Ev (dBin oIx (dVar 1) (dVar 3)) [some (.f (.int (n : Nat))), some (.f (.tup xs)), some (.own (.lst (seen.map outD))), some (.f (.int (k : Nat)))] m (.f x) := ev_bin (ev_v rfl) (ev_v rfl) (e2_ix (xs := xs) rfl (DL.atI_nat hk))
  have ea : EvB (dNot (dTst (dCall p_lasc EX0 (dCons (dBin oIx (dVar 1) (dVar 3)) (dCons (dVar 0) dNil))))) [some (.f (.int (n : Nat))), some (.f (.tup xs)), some (.own (.lst (seen.map outD))), some (.f (.int (k : Nat)))] m (!ascB (n : Int) x) :=
    evb_not (evb_tst (ev_fn (γ := Dat × Int) (eva_cons ex (eva_cons (ev_v rfl) eva_nil)) (x, (n : Int)) rfl rfl ⟨good_le (by omega) hx.1, fun ys e => by have := hx.2 ys e; omega⟩))
  by_cases h : ascB (n : Int) x = true
  · rw [h] at ea
    refine sq_ifF ea ?_
    obtain ⟨e1, e2⟩ := asc_out h
    have ok1 : okN 60 x = true := by rw [e1]; exact List.all_eq_true.mp (okN_outsA 57 [outV x]) _ (by simp) |> okN_leU (by omega)
    have okL : (seen.map outD).all (okN 59) = true := okN_outsA 57 seen
    have ei : EvB (dTst (dBin (oIn id) (dBin oIx (dVar 1) (dVar 3)) (dVar 2))) [some (.f (.int (n : Nat))), some (.f (.tup xs)), some (.own (.lst (seen.map outD))), some (.f (.int (k : Nat)))] m (decide (outV x ∈ seen)) := by
      refine EvB.eq (evb_tst (ev_bin ex (ev_o rfl) (e2_in (f := id) (a := x) (bs := seen.map outD) (by rw [e1]; rfl) rfl ok1 okL))) ?_
      show (seen.map outD).any (fun b => eqd b x) = _
      rw [e1]
      have : outV (outD (outV x)) = outV x := by rw [← e1]
      rw [this, List.any_map]
      clear h1 h2 h3 ea ex okL hl
      induction seen with
      | nil => rfl
      | cons o s ih =>
        rw [List.any_cons, ih]
        show (eqd (outD o) (outD (outV x)) || _) = _
        rw [eqd_outD]
        by_cases q : o = outV x <;> simp [q, eq_comm]
    by_cases hs : outV x ∈ seen
    · rw [decide_eq_true hs] at ei
      exact seq_i (st_ifT ei (st_ret (ev_n (eva_cons (ev_v rfl) (eva_cons ev_c eva_nil)) (em_tup rfl (sz (Nat.le_of_ble_eq_true rfl)))) (h2 h hs)))
    · rw [decide_eq_false hs] at ei
      refine sq_ifF ei ?_
      have s4 : 10000 ≤ sizeLine := sz (by decide)
      refine st_app rfl ex (by rw [List.length_map]; omega) ?_
      have ea2 : seen.map outD ++ [x] = (seen ++ [outV x]).map outD := by rw [List.map_append, List.map_cons, List.map_nil, ← e1]
      rw [ea2]
      exact h3 h hs
  · rw [Bool.not_eq_true] at h
    rw [h] at ea
    exact seq_i (st_ifT ea (st_ret (ev_n (eva_cons (ev_v rfl) (eva_cons ev_c eva_nil)) (em_tup rfl (sz (Nat.le_of_ble_eq_true rfl)))) (h1 h)))
theorem law_law_due (C : Ct) : ∀ ds m (Q : QD) (E : QX), p_ldue ds m Q E → rd_law_due C p_whole p_lasc (fun c xs _ m => E c xs m) { nx := fun _ m => Q .non m, rt := Q } (env0 4 ds) m := by
  rintro _ m Q E ⟨_, ⟨a, b⟩, rfl, ⟨⟨ja, ha⟩, ⟨jb, hb⟩, hm⟩, hq⟩
  have pa := good_plain ha
  have pb := good_plain hb
  have hq : Q (oerrF a b) m := hq
  show rd_law_due C p_whole p_lasc _ _ [some (.f a), some (.f b), none, none] m
  unfold rd_law_due
  have ew : EvB (dNot (dTst (dCall p_whole EX0 (dCons (dVar 0) dNil)))) [some (.f a), some (.f b), none, none] m (!K02.isInt a) := evb_not (evb_tst (ev_whole pa (eva_cons (ev_v rfl) eva_nil)))
  by_cases hi : K02.isInt a = true
  · obtain ⟨i, rfl⟩ := isInt_int pa hi
    have ec : EvB (dOr (dNot (dTst (dCall p_whole EX0 (dCons (dVar 0) dNil)))) (dOr (dTst (dBin oLt (dVar 0) (dC (.int 0)))) (dTst (dBin oGt (dVar 0) (dC (.int 8)))))) [some (.f (.int i)), some (.f b), none, none] m (false || (decide (i < 0) || decide (i > 8)))  := evb_or ew fun _ => evb_or (evb_tst (ev_bin (ev_v rfl) ev_c e2_i0)) fun _ => evb_tst (ev_bin (ev_v rfl) ev_c e2_i0)
    by_cases h : 0 ≤ i ∧ i ≤ 8
    · refine sq_ifF (EvB.eq ec (by rw [decide_eq_false (by omega), decide_eq_false (by omega)]; rfl)) ?_
      rw [oerr_in h] at hq
      have et : EvB (dNot (dTst (dN (oIsi C) (dCons (dVar 1) (dCons (dC (.ty "tuple")) dNil))))) [some (.f (.int i)), some (.f b), none, none] m (!isTup b) := evb_not (evb_tst (ev_n (eva_cons (ev_v rfl) (eva_cons ev_c eva_nil)) (isi_tup pb)))
      by_cases ht : ∃ xs, b = .tup xs
      · obtain ⟨xs, rfl⟩ := ht
        obtain ⟨n, rfl⟩ : ∃ n : Nat, i = n := ⟨i.toNat, by omega⟩
        obtain ⟨hl, hx⟩ := hm xs rfl
        have hq : Q (DL.S.errL n xs 0 []) m := by
          have hq : Q (DL.S.errL ((n : Int)).toNat xs 0 []) m := hq
          rwa [show ((n : Int)).toNat = n by omega] at hq
        refine sq_ifF et ?_
        refine sq_setN (xs := ([] : List (List Nat)).map outD) (evn_lst eva_nil rfl (Nat.zero_le _)) ?_
        refine sq_for ((evi_rg1n (j := xs.length) (ev_n (eva_cons (ev_v rfl) eva_nil) (em_len (xs := xs) rfl)) (by omega)) _ ?_)
        rw [show (List.range xs.length).map (fun i => Dat.int (i : Nat)) = rangeD ((0 : Nat) : Int) xs.length by unfold rangeD; simp]
        refine for_rg (I := fun k env m1 => m1 = m ∧ ∃ (seen : List (List Nat)) (x3 : Option Sl), seen.length ≤ k ∧ DL.S.errL n (xs.drop k) k seen = DL.S.errL n xs 0 [] ∧ env = [some (.f (.int (n : Nat))), some (.f (.tup xs)), some (.own (.lst (seen.map outD))), x3]) xs.length 0 _ _ ⟨rfl, [], none, Nat.le_refl _, rfl, rfl⟩ ?_ ?_
        · rintro k env m1 ⟨rfl, seen, x3, hsl, he, rfl⟩ h1 h2 D' nx ct rt bk
          have hk : k < xs.length := by omega
          have hd : xs.drop k = xs[k] :: xs.drop (k + 1) := List.drop_eq_getElem_cons hk
          rw [hd, errL_cons] at he
          refine due_step (x := xs[k]) (hx _ (List.getElem_mem hk)) (List.getElem?_eq_getElem hk) (by omega) (fun ha => rt _ _ ?_) (fun ha hs => rt _ _ ?_) fun ha hs => nx _ _ ⟨rfl, seen ++ [outV xs[k]], _, by rw [List.length_append]; show seen.length + 1 ≤ k + 1; omega, ?_, rfl⟩
          · rw [if_neg (by rw [ha]; exact Bool.false_ne_true)] at he
            rw [he]; exact hq
          · rw [if_pos ha, if_pos hs] at he
            rw [he]; exact hq
          · rw [if_pos ha, if_neg hs] at he
            exact he
        · rintro env m1 ⟨rfl, seen, x3, hsl, he, rfl⟩
          rw [Nat.zero_add, List.drop_length] at he
          have he : Dat.non = DL.S.errL n xs 0 [] := he
          rw [← he] at hq
          dsimp only
          exact st_ret (a := .non) ev_c hq
      · have hf : isTup b = false := by cases b <;> first | rfl | exact absurd ⟨_, rfl⟩ ht
        rw [hf] at et
        have hq : Q (.tup [.non, .str "members"]) m := by
          cases b <;> first | exact hq | exact absurd ⟨_, rfl⟩ ht
        exact seq_i (st_ifT et (st_ret (ev_n (eva_cons ev_c (eva_cons ev_c eva_nil)) (em_tup rfl (sz (Nat.le_of_ble_eq_true rfl)))) hq))
    · rw [oerr_out h] at hq
      refine seq_i (st_ifT (EvB.eq ec ?_) (st_ret (ev_n (eva_cons ev_c (eva_cons ev_c eva_nil)) (em_tup rfl (sz (Nat.le_of_ble_eq_true rfl)))) hq))
      by_cases h0 : i < 0
      · rw [decide_eq_true h0]; rfl
      · rw [decide_eq_false h0, decide_eq_true (by omega)]; rfl
  · rw [Bool.not_eq_true] at hi
    have hq : Q (.tup [.non, .str "many"]) m := by
      cases a <;> first | exact hq | cases hi
    refine seq_i (st_ifT (EvB.eq (evb_or (c := true) (EvB.eq ew (by rw [hi])) fun z => by cases z) rfl) (st_ret (ev_n (eva_cons ev_c (eva_cons ev_c eva_nil)) (em_tup rfl (sz (Nat.le_of_ble_eq_true rfl)))) hq))
def p_ltold : DSp := pGh (γ := Mem × Dat × Dat) 2 (fun g ds m => ds = [g.2.1, g.2.2] ∧ m = g.1 ∧ belM g.1.length g.1 = true ∧ ErrPre g.2.1 g.2.2) (fun g ds m r m' => r = oerrF g.2.1 g.2.2 ∧ m' = g.1)
theorem law_law_told (C : Ct) : ∀ ds m (Q : QD) (E : QX), p_ltold ds m Q E → rd_law_told C p_initOG (fun c xs _ m => E c xs m) { nx := fun _ m => Q .non m, rt := Q } (env0 4 ds) m := by
  rintro _ m Q E ⟨_, ⟨m0, a, b⟩, ⟨rfl, rfl, hb, hp⟩, hQ⟩
  have hp : ErrPre a b := hp
  have hb : belM m.length m = true := hb
  have hq : Q (oerrF a b) m := hQ _ _ ⟨rfl, rfl⟩
  have da : frs [.f a, .f b] = some [a, b] := rfl
  show rd_law_told C p_initOG _ _ [some (.f a), some (.f b), none, none] m
  unfold rd_law_told
  refine sq_set ev_c ?_
  show (sSeq _ _) _ [some (.f a), some (.f b), some (.f .non), none] m
  refine seq_i ?_
  intro EX' hE
  unfold sDrop
  refine (eva_cons (ev_v rfl) (eva_cons (ev_v rfl) eva_nil)) _ ?_
  show p_initOG [.obj m.length, a, b] (m ++ [.ins 21 []]) _ _
  refine ⟨rfl, (m, a, b), ⟨rfl, rfl, hp⟩, ?_, ?_⟩
  · rintro r m' ⟨he, rfl, n, cs, rfl⟩
    refine ⟨rfl, m, _, rfl, rfl, rfl, hb, bels_set _ n cs, ?_⟩
    rw [he] at hq
    dsimp only
    exact st_ret (ev_v rfl) hq
  · rintro c xs m' ⟨he, ⟨rfl, rfl⟩, rfl⟩
    refine ⟨m, _, rfl, rfl, hb, by simp [bels, bel_oerr], hE _ _ _ _ ?_⟩
    unfold hGo
    show ∀ a', _
    intro a'
    have i1 : isE 8 8 = some true := rfl
    have i2 : fi_error 8 = some 0 := rfl
    have t1 : EvB (dTst (dN (oIsE a' 8 isE) (dCons (dVar 3) (dCons (dC (.cls 8)) dNil)))) [some (.f a), some (.f b), some (.f .non), some (.f (.ref a'))] m true := evb_isE rfl i1
    have a1 : Ev (dXf a' 8 [oerrF a b] fi_error (dVar 3)) [some (.f a), some (.f b), some (.f .non), some (.f (.ref a'))] m (.f (oerrF a b)) := fun Q q => (ev_v (i := 3) (a := .ref a') rfl) _ ⟨rfl, by simp only [i2]; exact q⟩
    refine st_set ((ev_if (u := oerrF a b) (w := .non) t1 (fun _ => a1) fun z => by cases z).eq rfl) ?_
    dsimp only [En.gone]
    show sRet _ _ [some (.f a), some (.f b), some (.f (oerrF a b)), none] m
    exact st_ret (ev_v rfl) hq
theorem em_strN {n : Nat} (h : n < 300) {env : Env'} {m : Mem} : EvM oStr env m [.f (.int (n : Nat))] (.str (py (.int (n : Nat))).shown) := fun Q q =>
  ⟨(Vd.nat (k := 60) (B := 0) h).okR, (Vd.nat (k := 60) (B := 0) h).shown (by omega), q⟩
theorem str_vd : ((List.range 6).all fun n => vd 0 40 (.str (py (.int (n : Nat))).shown)) = true := by decide +kernel
def szL (n : Nat) : List Dat := [.int (n : Nat), .int (n : Nat), .int (n : Nat), .int (n : Nat), .int (n : Nat), .int ((n : Int) + 1), .int 8, .int 9, .int (-1), .non, .bl true, .str (py (.int (n : Nat))).shown, .tup [.int (n : Nat)], .int 1000000000000000000000000000000]
theorem sz_vd {n : Nat} (h : n < 6) : ∀ x ∈ szL n, Vd 1 60 x := fun x hx => by
  simp only [szL, List.mem_cons, List.not_mem_nil, or_false] at hx
  rcases hx with rfl | rfl | rfl | rfl | rfl | rfl | rfl | rfl | rfl | rfl | rfl | rfl | rfl | rfl
  · exact Vd.nat (by omega)
  · exact Vd.nat (by omega)
  · exact Vd.nat (by omega)
  · exact Vd.nat (by omega)
  · exact Vd.nat (by omega)
  · exact Vd.i (by omega) (by omega)
  · exact Vd.i (by omega) (by omega)
  · exact Vd.i (by omega) (by omega)
  · exact Vd.i (by omega) (by omega)
  · exact Vd.non
  · exact Vd.bl _
  · exact (vd_iff.mp (List.all_eq_true.mp str_vd n (List.mem_range.mpr h))).up (by omega) (by omega)
  · exact Vd.tup (k := 0) (B := 0) (L := 1) (fun y hy => by rw [List.mem_singleton.mp hy]; exact Vd.nat (by omega)) (by simp) (by omega) (by omega)
  · exact (vd_iff.mp (show vd 0 0 (.int 1000000000000000000000000000000) = true by decide +kernel)).up (by omega) (by omega)
def okW (x : Dat) : Prop := Vd 3 100 x
section
variable {D : En} {x0 x2 : Option Sl} {m : Mem} {c n : Nat} {vs : List Dat}
theorem vd_out {o : List Nat} (h : OutOk n o) (h8 : n ≤ 8) : okW (outD o) := (h.vd h8).up (by omega) (by omega)
theorem ix_of {xs : List Dat} {i : Int} (h0 : 0 ≤ i) (h1 : i < xs.length) : ∃ x ∈ xs, atI xs i = some x := by
  obtain ⟨j, rfl⟩ : ∃ j : Nat, i = j := ⟨i.toNat, by omega⟩
  have hj : j < xs.length := by omega
  exact ⟨xs[j], List.getElem_mem hj, DL.atI_nat (List.getElem?_eq_getElem hj)⟩
theorem cut_mem {xs : List Dat} {lo hi : Option Int} {x : Dat} (h : x ∈ DL.cutD xs lo hi) : x ∈ xs := (cutD_sub xs lo hi).mem h
theorem cutD_toX {α : Type} (xs : List α) (k : Nat) : DL.cutD xs none (some (k : Int)) = xs.take k := by
  unfold DL.cutD
  rw [HT.sIx_none, HT.sIx_nat]
  simp only [List.drop_zero, Nat.sub_zero]
  by_cases h : k ≤ xs.length
  · rw [Nat.min_eq_left h]
  · rw [Nat.min_eq_right (by omega), List.take_of_length_le (Nat.le_refl _), List.take_of_length_le (by omega)]
theorem cutD_fromX {α : Type} (xs : List α) (k : Nat) : DL.cutD xs (some (k : Int)) none = xs.drop k := by
  unfold DL.cutD
  rw [HT.sIx_none, HT.sIx_nat]
  by_cases h : k ≤ xs.length
  · rw [Nat.min_eq_left h, List.take_of_length_le (by simp)]
  · rw [Nat.min_eq_right (by omega), List.drop_of_length_le (Nat.le_refl _), List.drop_of_length_le (by omega)]
    simp
theorem change (hn : n < 6) (hd : Dk c [] m) (hc : c + 100 < lim) (hv : ∀ v ∈ vs, okW v) (hl : vs.length ≤ 290) {x5 x6 x7 x8 x9 x10 x11 x12 x13 : Option Sl} (hq : ∀ vs' x5 x6 x7 x8 x9 x10 x11 x12 x13 m', (∀ v ∈ vs', okW v) → vs'.length ≤ vs.length + 1 → Dk (c + 10) [] m' → D.nx [x0, some (.f (.obj 1)), x2, some (.f (.int (n : Nat))), some (.f (.lst vs')), x5, x6, x7, x8, x9, x10, x11, x12, x13] m') :
    (sSeq (sPar 10 11 (dCall p_next EX0 (dCons (dVar 1) (dCons (dBin oAdd (dN oLen (dCons (dVar 4) dNil)) (dC (.int 1))) dNil))) (dCall p_next EX0 (dCons (dVar 1) (dCons (dC (.int 3)) dNil))))
  (sSeq (sAsg (.nm 12) (dBin oIx (dNew (nCat (dVar 4) (dNew (nLst (dCons (dN oTup dNil) dNil))))) (dCall p_next EX0 (dCons (dVar 1) (dCons (dBin oAdd (dN oLen (dCons (dVar 4) dNil)) (dC (.int 1))) dNil)))))
  (sSeq (sAsg (.nm 13) (dCall p_bent EX0 (dCons (dVar 1) (dCons (dBin oIx (dCall p_levery EX0 (dCons (dVar 3) dNil)) (dBin oMul (dCall p_next EX0 (dCons (dVar 1) (dCons (dC (.int 2)) dNil))) (dCall p_next EX0 (dCons (dVar 1) (dCons (dBin oShl (dC (.int 1)) (dVar 3)) dNil))))) (dCons (dVar 3) dNil)))))
  (sAsg (.nm 4) (dNew (nCat (dNew (nCat (dSl (dVar 4) dNo (dPart (dVar 10))) (dNew (nLst (dCons (dBin oIx (dNew (nLst (dCons (dVar 13) (dCons (dVar 12) dNil)))) (dN (oN1 fInt) (dCons (dBin (oEq id) (dVar 11) (dC (.int 2))) dNil))) dNil))))) (dSl (dVar 4) (dPart (dBin oAdd (dVar 10) (dN (oN1 fInt) (dCons (dBin (oEq id) (dVar 11) (dC (.int 0))) dNil)))) dNo))))))) D [x0, some (.f (.obj 1)), x2, some (.f (.int (n : Nat))), some (.f (.lst vs)), x5, x6, x7, x8, x9, x10, x11, x12, x13] m := by
  have hlim : lim = 2 ^ 40 := rfl
  have s4 : 10000 ≤ sizeLine := sz (by decide)
  have el : ∀ env : Env', env[4]? = some (some (.f (.lst vs))) → ∀ m, Ev (dBin oAdd (dN oLen (dCons (dVar 4) dNil)) (dC (.int 1))) env m (.f (.int ((vs.length : Int) + 1))) := fun env e m => ev_bin (ev_n (eva_cons (ev_v e) eva_nil) (em_len (xs := vs) rfl)) ev_c e2_add
  refine seq_i ?_
  unfold sPar
  refine AU.next ((vs.length : Int) + 1) (eva_cons (ev_v rfl) (eva_cons (el _ rfl _) eva_nil)) hd (by omega) (by omega) (by omega) fun i m1 i0 i1 hd1 => ?_
  obtain ⟨a, rfl⟩ : ∃ a : Nat, i = a := ⟨i.toNat, by omega⟩
  refine AU.next 3 (by trivial) hd1 (by omega) (by omega) (by omega) fun i m2 i2 i3 hd2 => ?_
  obtain ⟨q, rfl⟩ : ∃ a : Nat, i = a := ⟨i.toNat, by omega⟩
  dsimp only
  show sSeq _ _ D [x0, some (.f (.obj 1)), x2, some (.f (.int (n : Nat))), some (.f (.lst vs)), x5, x6, x7, x8, x9, some (.f (.int (a : Nat))), some (.f (.int (q : Nat))), x12, x13] m2
  refine sq_asg ?_
  simp only [dBin]
  refine (ev_new (evn_cat (xs := vs) (ys := [.tup []]) (ev_v rfl) (AU.aLst (xs := [.tup []]) (eva_cons (AU.aTup (xs := []) eva_nil rfl rfl) eva_nil) rfl rfl) rfl rfl (by show vs.length + 1 ≤ _; omega))).use ?_
  refine AU.next ((vs.length : Int) + 1) (eva_cons (ev_v rfl) (eva_cons (el _ rfl _) eva_nil)) hd2 (by omega) (by omega) (by omega) fun i m3 i4 i5 hd3 => ?_
  obtain ⟨ag, hag, eag⟩ := ix_of (xs := vs ++ [.tup []]) i4 (by rw [List.length_append]; show i < ((vs.length + 1 : Nat) : Int); omega)
  have oag : okW ag := by
    rcases List.mem_append.mp hag with z | z
    · exact hv ag z
    · rw [List.mem_singleton.mp z]
      exact vd_iff.mp (by decide +kernel)
  refine e2_ix (xs := vs ++ [.tup []]) rfl eag _ ?_
  show sSeq _ _ D [x0, some (.f (.obj 1)), x2, some (.f (.int (n : Nat))), some (.f (.lst vs)), x5, x6, x7, x8, x9, some (.f (.int (a : Nat))), some (.f (.int (q : Nat))), some (.f (ag)), x13] m3
  refine sq_asg ?_
  refine (show dCall p_bent EX0 _ _ _ _ from ?_)
  refine (show dCons _ _ _ _ _ from ?_)
  refine cons_k (ev_v (a := .obj 1) rfl _ (cons_k ?_))
  simp only [dBin]
  have eev : Ev (dCall p_levery EX0 (dCons (dVar 3) dNil)) [x0, some (.f (.obj 1)), x2, some (.f (.int (n : Nat))), some (.f (.lst vs)), x5, x6, x7, x8, x9, some (.f (.int (a : Nat))), some (.f (.int (q : Nat))), some (.f (ag)), x13] m3 (.f (.lst ((every n).map outD))) := ev_fn (γ := Nat) (eva_cons (ev_v rfl) eva_nil) n rfl rfl (by show n ≤ 8; omega)
  refine eev _ ?_
  refine AU.next 2 (by trivial) hd3 (by omega) (by omega) (by omega) fun i m4 i6 i7 hd4 => ?_
  refine AU.next ((2 ^ n : Nat) : Int) (eva_cons (ev_v rfl) (eva_cons (ev_shl1 (by omega) (ev_v rfl)) eva_nil)) hd4 (by have : 0 < 2 ^ n := Nat.pow_pos (by omega); omega) (by have := pow_le (n := n) (by omega); omega) (by omega) fun j m5 i8 i9 hd5 => ?_
  have hln : (every n).length = 2 ^ n := by rw [every_num (by omega), List.length_map, List.length_range]
  have hp := pow_le (n := n) (by omega)
  have hij : 0 ≤ i * j ∧ i * j < ((2 ^ n : Nat) : Int) := by
    rcases (show i = 0 ∨ i = 1 by omega) with rfl | rfl
    · rw [Int.zero_mul]; have : 0 < 2 ^ n := Nat.pow_pos (by omega); omega
    · rw [Int.one_mul]; omega
  refine (show Ev2 oMul _ _ (.f (.int i)) (.f (.int j)) (.int (i * j)) from fun Q q => ⟨.inl ⟨by omega, by omega⟩, q⟩) _ ?_
  obtain ⟨ov, hov, eov⟩ := ix_of (xs := (every n).map outD) hij.1 (by rw [List.length_map, hln]; exact hij.2)
  obtain ⟨o, ho, rfl⟩ := List.mem_map.mp hov
  refine e2_ix (xs := (every n).map outD) rfl eov _ ?_
  refine cons_k (ev_v (a := .int (n : Nat)) rfl _ (nil_k ?_))
  refine (show p_bent [.obj 1, outD o, .int (n : Nat)] m5 _ _ from ⟨rfl, (c + 1 + 1 + 1 + 1 + 1, [], n, o), ⟨rfl, every_ok ho, by show n ≤ 8; omega, hd5, by show c + 1 + 1 + 1 + 1 + 1 + 20 < lim; omega⟩, fun bt m6 ⟨hbt, hd6⟩ => ?_⟩)
  have hd6 : Dk (c + 1 + 1 + 1 + 1 + 1 + 3) [] m6 := hd6
  show sAsg _ _ D [x0, some (.f (.obj 1)), x2, some (.f (.int (n : Nat))), some (.f (.lst vs)), x5, x6, x7, x8, x9, some (.f (.int (a : Nat))), some (.f (.int (q : Nat))), some (.f (ag)), some (.f (bt))] m6
  have obt : okW bt := hbt.1
  have k2 : Ev (dN (oN1 fInt) (dCons (dBin (oEq id) (dVar 11) (dC (.int 2))) dNil)) [x0, some (.f (.obj 1)), x2, some (.f (.int (n : Nat))), some (.f (.lst vs)), x5, x6, x7, x8, x9, some (.f (.int (a : Nat))), some (.f (.int (q : Nat))), some (.f (ag)), some (.f (bt))] m6 (.f (.int (if decide (q = 2) = true then 1 else 0))) := ev_n (eva_cons ((ev_bin (ev_v rfl) ev_c (e2_eq (f := id) (a := .int (q : Nat)) (c := .int ((2 : Nat) : Int)) rfl rfl (okR1 _ _) (okR1 _ _))).eq (w := .f (.bl (decide (q = 2)))) (by rw [eqd_nn]; rfl)) eva_nil) (fun Q q => q)
  have k0 : Ev (dN (oN1 fInt) (dCons (dBin (oEq id) (dVar 11) (dC (.int 0))) dNil)) [x0, some (.f (.obj 1)), x2, some (.f (.int (n : Nat))), some (.f (.lst vs)), x5, x6, x7, x8, x9, some (.f (.int (a : Nat))), some (.f (.int (q : Nat))), some (.f (ag)), some (.f (bt))] m6 (.f (.int (if decide (q = 0) = true then 1 else 0))) := ev_n (eva_cons ((ev_bin (ev_v rfl) ev_c (e2_eq (f := id) (a := .int (q : Nat)) (c := .int ((0 : Nat) : Int)) rfl rfl (okR1 _ _) (okR1 _ _))).eq (w := .f (.bl (decide (q = 0)))) (by rw [eqd_nn]; rfl)) eva_nil) (fun Q q => q)
  obtain ⟨w, hw, ew⟩ := ix_of (xs := [bt, ag]) (i := (if decide (q = 2) = true then 1 else 0)) (by split <;> omega) (by show _ < (2 : Int); split <;> omega)
  have ow : okW w := by
    simp only [List.mem_cons, List.not_mem_nil, or_false] at hw
    rcases hw with rfl | rfl
    · exact obt
    · exact oag
  have s1 : Ev (dSl (dVar 4) dNo (dPart (dVar 10))) [x0, some (.f (.obj 1)), x2, some (.f (.int (n : Nat))), some (.f (.lst vs)), x5, x6, x7, x8, x9, some (.f (.int (a : Nat))), some (.f (.int (q : Nat))), some (.f (ag)), some (.f (bt))] m6 (.f (.lst (DL.cutD vs none (some (a : Int))))) := ev_slL (xs := vs) (ev_v rfl) evo_no (evo_p (ev_v rfl)) rfl
  have s2 := ev_slL (xs := vs) (ev_v (i := 4) (env := [x0, some (.f (.obj 1)), x2, some (.f (.int (n : Nat))), some (.f (.lst vs)), x5, x6, x7, x8, x9, some (.f (.int (a : Nat))), some (.f (.int (q : Nat))), some (.f (ag)), some (.f (bt))]) (m := m6) rfl) (evo_p (ev_bin (ev_v (i := 10) rfl) k0 e2_add)) evo_no rfl
  have l1 := (cutD_sub vs none (some (a : Int))).length_le
  have hsum : ∀ e : Int, e = 0 ∨ e = 1 → (DL.cutD vs none (some (a : Int))).length + (DL.cutD vs (some ((a : Int) + e)) none).length ≤ vs.length := fun e he => by
    obtain ⟨e, rfl⟩ : ∃ k : Nat, e = k := ⟨e.toNat, by omega⟩
    rw [cutD_toX, show ((a : Int) + (e : Nat)) = ((a + e : Nat) : Int) by push_cast; rfl, cutD_fromX, List.length_take, List.length_drop]
    omega
  have hs2 := hsum (if decide (q = 0) = true then 1 else 0) (by split <;> simp)
  have e1 := ev_new (evn_cat (xs := DL.cutD vs none (some (a : Int))) (ys := [w]) s1 (AU.aLst (xs := [w]) (eva_cons (ev_bin (AU.aLst (xs := [bt, ag]) (eva_cons (ev_v (i := 13) rfl) (eva_cons (ev_v (i := 12) rfl) eva_nil)) rfl rfl) k2 (e2_ix rfl ew)) eva_nil) rfl rfl) rfl rfl (by show _ + 1 ≤ _; omega))
  have e2 := ev_new (evn_cat e1 s2 rfl rfl (by rw [List.length_append]; show _ + 1 + _ ≤ _; omega))
  refine st_set e2 (hq _ _ _ _ _ _ _ _ _ _ _ (fun v hv' => ?_) (by rw [List.length_append, List.length_append]; show _ + 1 + _ ≤ _; omega) (hd6.mono (by omega)))
  rcases List.mem_append.mp hv' with z | z
  · rcases List.mem_append.mp z with z | z
    · exact hv v (cut_mem z)
    · rw [List.mem_singleton.mp z]; exact ow
  · exact hv v (cut_mem z)
def okRw (r : Dat) : Prop := Vd 5 30000 r ∧ ∀ xs, r = .tup xs → xs.length ≤ 300 ∧ ∀ x ∈ xs, okM x
theorem rw_bent {r : Dat} (h : Vd 3 100 r ∧ ∀ ys, r = .tup ys → ys.length ≤ 100) : okRw r := ⟨h.1.up (by omega) (by omega), fun xs e => by
  have := h.2 xs e
  subst e
  exact ⟨by omega, okM_in h.1 (by omega) (by omega)⟩⟩
theorem rw_list {vs : List Dat} (hv : ∀ v ∈ vs, okW v) (hl : vs.length ≤ 260) : okRw (.tup vs) ∧ okRw (.lst vs) :=
  ⟨⟨(Vd.tup (L := 260) hv hl (by omega) (by omega)).up (by omega) (Nat.le_refl _), fun xs e => by cases e; exact ⟨by omega, fun x hx => okM_vd (hv x hx) (by omega) (by omega)⟩⟩,
    ⟨(Vd.lst (L := 260) hv hl (by omega) (by omega)).up (by omega) (Nat.le_refl _), fun xs e => by cases e⟩⟩
theorem check {sz0 rw0 : Dat} (hb : belM m.length m = true) (hs : Vd 1 60 sz0) (hr : okRw rw0) {x5 x6 x9 x10 x11 x12 x13 : Option Sl} (hq : ∀ x9, D.nx [x0, some (.f (.obj 1)), x2, some (.f (.int (n : Nat))), some (.f (.lst vs)), x5, x6, some (.f (sz0)), some (.f (rw0)), x9, x10, x11, x12, x13] m) :
    (sSeq (sAsg (.nm 9) (dN oRepr (dCons (dN oTup (dCons (dVar 7) (dCons (dVar 8) dNil))) dNil)))
  (sIf (dOr (dNot (dTst (dCall (p_same 6) EX0 (dCons (dCall p_ltold EX0 (dCons (dVar 7) (dCons (dVar 8) dNil))) (dCons (dCall p_ldue EX0 (dCons (dVar 7) (dCons (dVar 8) dNil))) dNil))))) (dTst (dBin (oEq not) (dN oRepr (dCons (dN oTup (dCons (dVar 7) (dCons (dVar 8) dNil))) dNil)) (dVar 9))))
  (sRet (dC (.bl false)))
  sNext)) D [x0, some (.f (.obj 1)), x2, some (.f (.int (n : Nat))), some (.f (.lst vs)), x5, x6, some (.f (sz0)), some (.f (rw0)), x9, x10, x11, x12, x13] m := by
  have hv : Vd 6 60002 (.tup [sz0, rw0]) := Vd.tup (k := 5) (B := 30000) (L := 2) (fun y hy => by
    simp only [List.mem_cons, List.not_mem_nil, or_false] at hy
    rcases hy with rfl | rfl
    · exact hs.up (by omega) (by omega)
    · exact hr.1) (Nat.le_refl _) (by omega) (by omega)
  have hp : ErrPre sz0 rw0 := ⟨⟨1, hs.good⟩, ⟨5, hr.1.good⟩, hr.2⟩
  have er : ∀ env : Env', env[7]? = some (some (.f sz0)) → env[8]? = some (some (.f rw0)) → Ev (dN oRepr (dCons (dN oTup (dCons (dVar 7) (dCons (dVar 8) dNil))) dNil)) env m (.f (.str (py (.tup [sz0, rw0])).shown)) := fun env h7 h8 =>
    ev_n (eva_cons (AU.aTup (xs := [sz0, rw0]) (eva_cons (ev_v h7) (eva_cons (ev_v h8) eva_nil)) rfl rfl) eva_nil) (em_repr rfl hv (by omega) (by omega))
  refine sq_set (er _ rfl rfl) ?_
  show sIf _ _ _ D [x0, some (.f (.obj 1)), x2, some (.f (.int (n : Nat))), some (.f (.lst vs)), x5, x6, some (.f (sz0)), some (.f (rw0)), some (.f (.str (py (.tup [sz0, rw0])).shown)), x10, x11, x12, x13] m
  have et : Ev (dCall p_ltold EX0 (dCons (dVar 7) (dCons (dVar 8) dNil))) [x0, some (.f (.obj 1)), x2, some (.f (.int (n : Nat))), some (.f (.lst vs)), x5, x6, some (.f (sz0)), some (.f (rw0)), some (.f (.str (py (.tup [sz0, rw0])).shown)), x10, x11, x12, x13] m (.f (oerrF sz0 rw0)) := fun Q q => call_i ((eva_cons (ev_v (i := 7) rfl) (eva_cons (ev_v (i := 8) rfl) eva_nil)) _ ⟨rfl, (m, sz0, rw0), ⟨rfl, rfl, hb, hp⟩, fun r m' ⟨e1, e2⟩ => by subst e1 e2; exact q⟩)
  have ed : Ev (dCall p_ldue EX0 (dCons (dVar 7) (dCons (dVar 8) dNil))) [x0, some (.f (.obj 1)), x2, some (.f (.int (n : Nat))), some (.f (.lst vs)), x5, x6, some (.f (sz0)), some (.f (rw0)), some (.f (.str (py (.tup [sz0, rw0])).shown)), x10, x11, x12, x13] m (.f (oerrF sz0 rw0)) := ev_fn (γ := Dat × Dat) (eva_cons (ev_v rfl) (eva_cons (ev_v rfl) eva_nil)) (sz0, rw0) rfl rfl hp
  refine st_ifF (EvB.eq (evb_or (c := false) (evb_not (evb_tst (AU.aSame (a := oerrF sz0 rw0) (c := oerrF sz0 rw0) (eva_cons et (eva_cons ed eva_nil)) rfl (good_le (by omega) (good_oerr hp))))) fun _ => EvB.eq (evb_tst (ev_bin (er _ rfl rfl) (ev_v rfl) (e2_eq (f := not) rfl rfl hv.okStr hv.okStr))) (by rw [eqd_strs]; rfl)) rfl) (hq _)
theorem turn (hd : Dk c [] m) (hc : c + 3000 < lim) {x3 x4 x5 x6 x7 x8 x9 x10 x11 x12 x13 : Option Sl} (hq : ∀ x3 x4 x5 x6 x7 x8 x9 x10 x11 x12 x13 m', Dk (c + 1200) [] m' → D.nx [x0, some (.f (.obj 1)), x2, x3, x4, x5, x6, x7, x8, x9, x10, x11, x12, x13] m') :
    (sSeq (sAsg (.nm 3) (dCall p_next EX0 (dCons (dVar 1) (dCons (dC (.int 6)) dNil))))
  (sSeq (sAsg (.nm 4) (dNew (nObj (dCall p_lsome EX0 (dCons (dVar 1) (dCons (dVar 3) dNil))))))
  (sSeq (sFor (.nm 5) (iRg1 (dCall p_next EX0 (dCons (dVar 1) (dCons (dC (.int 4)) dNil))))
  (sSeq (sPar 10 11 (dCall p_next EX0 (dCons (dVar 1) (dCons (dBin oAdd (dN oLen (dCons (dVar 4) dNil)) (dC (.int 1))) dNil))) (dCall p_next EX0 (dCons (dVar 1) (dCons (dC (.int 3)) dNil))))
  (sSeq (sAsg (.nm 12) (dBin oIx (dNew (nCat (dVar 4) (dNew (nLst (dCons (dN oTup dNil) dNil))))) (dCall p_next EX0 (dCons (dVar 1) (dCons (dBin oAdd (dN oLen (dCons (dVar 4) dNil)) (dC (.int 1))) dNil)))))
  (sSeq (sAsg (.nm 13) (dCall p_bent EX0 (dCons (dVar 1) (dCons (dBin oIx (dCall p_levery EX0 (dCons (dVar 3) dNil)) (dBin oMul (dCall p_next EX0 (dCons (dVar 1) (dCons (dC (.int 2)) dNil))) (dCall p_next EX0 (dCons (dVar 1) (dCons (dBin oShl (dC (.int 1)) (dVar 3)) dNil))))) (dCons (dVar 3) dNil)))))
  (sAsg (.nm 4) (dNew (nCat (dNew (nCat (dSl (dVar 4) dNo (dPart (dVar 10))) (dNew (nLst (dCons (dBin oIx (dNew (nLst (dCons (dVar 13) (dCons (dVar 12) dNil)))) (dN (oN1 fInt) (dCons (dBin (oEq id) (dVar 11) (dC (.int 2))) dNil))) dNil))))) (dSl (dVar 4) (dPart (dBin oAdd (dVar 10) (dN (oN1 fInt) (dCons (dBin (oEq id) (dVar 11) (dC (.int 0))) dNil)))) dNo))))))))
  (sSeq (sAsg (.nm 6) (dNew (nLst (dCons (dVar 3) (dCons (dVar 3) (dCons (dVar 3) (dCons (dVar 3) (dCons (dVar 3) (dCons (dBin oAdd (dVar 3) (dC (.int 1))) (dCons (dC (.int 8)) (dCons (dC (.int 9)) (dCons (dUn (oU fun i => -i) (dC (.int 1))) (dCons (dC .non) (dCons (dC (.bl true)) (dCons (dN oStr (dCons (dVar 3) dNil)) (dCons (dN oTup (dCons (dVar 3) dNil)) (dCons (dBin oPow (dC (.int 10)) (dC (.int 30))) dNil)))))))))))))))))
  (sSeq (sPar 7 8 (dBin oIx (dVar 6) (dCall p_next EX0 (dCons (dVar 1) (dCons (dC (.int 14)) dNil)))) (dBin oIx (dNew (nLst (dCons (dN oTuple (dCons (dVar 4) dNil)) (dCons (dN oTuple (dCons (dVar 4) dNil)) (dCons (dVar 4) dNil))))) (dCall p_next EX0 (dCons (dVar 1) (dCons (dC (.int 3)) dNil)))))
  (sSeq (sIf (dTst (dBin (oEq id) (dCall p_next EX0 (dCons (dVar 1) (dCons (dC (.int 10)) dNil))) (dC (.int 0))))
  (sAsg (.nm 8) (dCall p_bent EX0 (dCons (dVar 1) (dCons (dN oTup dNil) (dCons (dVar 3) dNil)))))
  sNext)
  (sSeq (sAsg (.nm 9) (dN oRepr (dCons (dN oTup (dCons (dVar 7) (dCons (dVar 8) dNil))) dNil)))
  (sIf (dOr (dNot (dTst (dCall (p_same 6) EX0 (dCons (dCall p_ltold EX0 (dCons (dVar 7) (dCons (dVar 8) dNil))) (dCons (dCall p_ldue EX0 (dCons (dVar 7) (dCons (dVar 8) dNil))) dNil))))) (dTst (dBin (oEq not) (dN oRepr (dCons (dN oTup (dCons (dVar 7) (dCons (dVar 8) dNil))) dNil)) (dVar 9))))
  (sRet (dC (.bl false)))
  sNext)))))))) D [x0, some (.f (.obj 1)), x2, x3, x4, x5, x6, x7, x8, x9, x10, x11, x12, x13] m := by
  have hlim : lim = 2 ^ 40 := rfl
  refine sq_asg ?_
  refine AU.next 6 (by trivial) hd (by omega) (by omega) (by omega) fun i m1 i0 i1 hd1 => ?_
  obtain ⟨n, rfl⟩ : ∃ a : Nat, i = a := ⟨i.toNat, by omega⟩
  have hn : n < 6 := by omega
  show sSeq _ _ D [x0, some (.f (.obj 1)), x2, some (.f (.int (n : Nat))), x4, x5, x6, x7, x8, x9, x10, x11, x12, x13] m1
  refine sq_asg ?_
  refine (show dNew _ _ _ _ from ?_)
  refine evn_lsome (l := n) (by omega) hd1 (by omega) (eva_cons (ev_v rfl) (eva_cons (ev_v rfl) eva_nil)) fun os m2 hos hd2 => ?_
  have h0 : (∀ v ∈ os.map outD, okW v) ∧ (os.map outD).length ≤ 256 := ⟨fun v hv => by
    obtain ⟨o, ho, rfl⟩ := List.mem_map.mp hv
    exact vd_out (hos.1 o ho) (by omega), by rw [List.length_map]; exact hos.2.2⟩
  generalize os.map outD = vs at h0
  obtain ⟨hv0, hl0⟩ := h0
  show sSeq _ _ D [x0, some (.f (.obj 1)), x2, some (.f (.int (n : Nat))), some (.f (.lst vs)), x5, x6, x7, x8, x9, x10, x11, x12, x13] m2
  refine sq_for ?_
  show iRg1 _ _ _ _
  refine AU.next 4 (by trivial) hd2 (by omega) (by omega) (by omega) fun j m3 j0 j1 hd3 => ?_
  refine ⟨by omega, by omega, ?_⟩
  have hjl : (rangeD 0 j.toNat).length ≤ 3 := by unfold rangeD; rw [List.length_map, List.length_range]; omega
  generalize rangeD 0 j.toNat = js at hjl
  refine turns_mem (I := fun k env m => Dk (c + 1002 + 10 * k) [] m ∧ ∃ vs : List Dat, (∀ v ∈ vs, okW v) ∧ vs.length ≤ 256 + k ∧ ∃ x5 x6 x7 x8 x9 x10 x11 x12 x13, env = [x0, some (.f (.obj 1)), x2, some (.f (.int (n : Nat))), some (.f (.lst vs)), x5, x6, x7, x8, x9, x10, x11, x12, x13]) 0 ⟨hd3.mono (by omega), vs, hv0, by omega, _, _, _, _, _, _, _, _, _, rfl⟩ ?_ ?_
  · rintro v hv k env m' hk ⟨hd', vs, hvs, hvl, x5, x6, x7, x8, x9, x10, x11, x12, x13, rfl⟩ D' nx rt
    have hk : k < 3 := by omega
    show (sSeq (sPar 10 11 (dCall p_next EX0 (dCons (dVar 1) (dCons (dBin oAdd (dN oLen (dCons (dVar 4) dNil)) (dC (.int 1))) dNil))) (dCall p_next EX0 (dCons (dVar 1) (dCons (dC (.int 3)) dNil))))
  (sSeq (sAsg (.nm 12) (dBin oIx (dNew (nCat (dVar 4) (dNew (nLst (dCons (dN oTup dNil) dNil))))) (dCall p_next EX0 (dCons (dVar 1) (dCons (dBin oAdd (dN oLen (dCons (dVar 4) dNil)) (dC (.int 1))) dNil)))))
  (sSeq (sAsg (.nm 13) (dCall p_bent EX0 (dCons (dVar 1) (dCons (dBin oIx (dCall p_levery EX0 (dCons (dVar 3) dNil)) (dBin oMul (dCall p_next EX0 (dCons (dVar 1) (dCons (dC (.int 2)) dNil))) (dCall p_next EX0 (dCons (dVar 1) (dCons (dBin oShl (dC (.int 1)) (dVar 3)) dNil))))) (dCons (dVar 3) dNil)))))
  (sAsg (.nm 4) (dNew (nCat (dNew (nCat (dSl (dVar 4) dNo (dPart (dVar 10))) (dNew (nLst (dCons (dBin oIx (dNew (nLst (dCons (dVar 13) (dCons (dVar 12) dNil)))) (dN (oN1 fInt) (dCons (dBin (oEq id) (dVar 11) (dC (.int 2))) dNil))) dNil))))) (dSl (dVar 4) (dPart (dBin oAdd (dVar 10) (dN (oN1 fInt) (dCons (dBin (oEq id) (dVar 11) (dC (.int 0))) dNil)))) dNo))))))) D' [x0, some (.f (.obj 1)), x2, some (.f (.int (n : Nat))), some (.f (.lst vs)), some (.f (v)), x6, x7, x8, x9, x10, x11, x12, x13] m'
    exact change hn hd' (by omega) hvs (by omega) fun vs' y5 y6 y7 y8 y9 y10 y11 y12 y13 m2 h1 h2 hd2 => nx _ _ ⟨by rw [show c + 1002 + 10 * (k + 1) = c + 1002 + 10 * k + 10 by omega]; exact hd2, vs', h1, by omega, _, _, _, _, _, _, _, _, _, rfl⟩
  · rintro env m' ⟨hd', vs, hvs, hvl, x5, x6, x7, x8, x9, x10, x11, x12, x13, rfl⟩
    dsimp only
    have hvl : vs.length ≤ 260 := by omega
    have hd' : Dk (c + 1040) [] m' := hd'.mono (by omega)
    show sSeq _ _ D [x0, some (.f (.obj 1)), x2, some (.f (.int (n : Nat))), some (.f (.lst vs)), x5, x6, x7, x8, x9, x10, x11, x12, x13] m'
    have e30 : Ev (dBin oPow (dC (.int 10)) (dC (.int 30))) [x0, some (.f (.obj 1)), x2, some (.f (.int (n : Nat))), some (.f (.lst vs)), x5, x6, x7, x8, x9, x10, x11, x12, x13] m' (.f (.int 1000000000000000000000000000000)) := ev_bin ev_c ev_c (e2_i (g := fun i j => .int (i ^ j.toNat)) cpow30)
    refine sq_set (a := .lst (szL n)) (AU.aLst (xs := szL n) (eva_cons (ev_v rfl) (eva_cons (ev_v rfl) (eva_cons (ev_v rfl) (eva_cons (ev_v rfl) (eva_cons (ev_v rfl) (eva_cons (ev_bin (ev_v rfl) ev_c e2_add) (eva_cons ev_c (eva_cons ev_c (eva_cons (ev_un ev_c e1_u) (eva_cons ev_c (eva_cons ev_c (eva_cons (ev_n (eva_cons (ev_v rfl) eva_nil) (em_strN (by omega))) (eva_cons (AU.aTup (xs := [.int (n : Nat)]) (eva_cons (ev_v rfl) eva_nil) rfl rfl) (eva_cons e30 eva_nil)))))))))))))) rfl rfl) ?_
    show sSeq _ _ D [x0, some (.f (.obj 1)), x2, some (.f (.int (n : Nat))), some (.f (.lst vs)), x5, some (.f (.lst (szL n))), x7, x8, x9, x10, x11, x12, x13] m'
    refine seq_i ?_
    unfold sPar
    simp only [dBin]
    refine ev_v (i := 6) rfl _ ?_
    refine AU.next 14 (by trivial) hd' (by omega) (by omega) (by omega) fun i m4 i2 i3 hd4 => ?_
    obtain ⟨s0, hs0, es0⟩ := ix_of (xs := szL n) i2 i3
    refine e2_ix (xs := szL n) rfl es0 _ ?_
    refine (AU.aLst (xs := [.tup vs, .tup vs, .lst vs]) (eva_cons (AU.aTupL (eva_cons (ev_v (i := 4) rfl) eva_nil)) (eva_cons (AU.aTupL (eva_cons (ev_v (i := 4) rfl) eva_nil)) (eva_cons (ev_v (i := 4) rfl) eva_nil))) rfl rfl).use ?_
    refine AU.next 3 (by trivial) hd4 (by omega) (by omega) (by omega) fun i m5 i4 i5 hd5 => ?_
    obtain ⟨r0, hr0, er0⟩ := ix_of (xs := [.tup vs, .tup vs, .lst vs]) i4 i5
    refine e2_ix (xs := [.tup vs, .tup vs, .lst vs]) rfl er0 _ ?_
    have hrw : okRw r0 := by
      have := rw_list hvs hvl
      simp only [List.mem_cons, List.not_mem_nil, or_false] at hr0
      rcases hr0 with rfl | rfl | rfl
      · exact this.1
      · exact this.1
      · exact this.2
    have hsv := sz_vd hn s0 hs0
    show sSeq _ _ D [x0, some (.f (.obj 1)), x2, some (.f (.int (n : Nat))), some (.f (.lst vs)), x5, some (.f (.lst (szL n))), some (.f (s0)), some (.f (r0)), x9, x10, x11, x12, x13] m5
    refine sq_if ?_
    refine AU.tstNext 10 0 (by trivial) hd5 (by omega) (by omega) (by omega) fun b m6 hd6 => ?_
    cases b with
    | false =>
      rw [if_neg Bool.false_ne_true]
      refine (show sNext _ _ _ from ?_)
      show (sSeq (sAsg (.nm 9) (dN oRepr (dCons (dN oTup (dCons (dVar 7) (dCons (dVar 8) dNil))) dNil)))
  (sIf (dOr (dNot (dTst (dCall (p_same 6) EX0 (dCons (dCall p_ltold EX0 (dCons (dVar 7) (dCons (dVar 8) dNil))) (dCons (dCall p_ldue EX0 (dCons (dVar 7) (dCons (dVar 8) dNil))) dNil))))) (dTst (dBin (oEq not) (dN oRepr (dCons (dN oTup (dCons (dVar 7) (dCons (dVar 8) dNil))) dNil)) (dVar 9))))
  (sRet (dC (.bl false)))
  sNext)) D [x0, some (.f (.obj 1)), x2, some (.f (.int (n : Nat))), some (.f (.lst vs)), x5, some (.f (.lst (szL n))), some (.f (s0)), some (.f (r0)), x9, x10, x11, x12, x13] m6
      exact check (dk_bel hd6) hsv hrw fun x9 => hq _ _ _ _ _ _ _ _ _ _ _ _ (hd6.mono (by omega))
    | true =>
      rw [if_pos rfl]
      refine (show dCall p_bent EX0 _ _ _ _ from ?_)
      refine call_bent (o := []) (many := n) (tl := []) ⟨.nil, by simp⟩ (by omega) hd6 (by omega) (eva_cons (ev_v (i := 1) rfl) (eva_cons (AU.aTup (xs := []) eva_nil rfl rfl) (eva_cons (ev_v (i := 3) rfl) eva_nil))) fun bt m7 hbt hd7 => ?_
      show (sSeq (sAsg (.nm 9) (dN oRepr (dCons (dN oTup (dCons (dVar 7) (dCons (dVar 8) dNil))) dNil)))
  (sIf (dOr (dNot (dTst (dCall (p_same 6) EX0 (dCons (dCall p_ltold EX0 (dCons (dVar 7) (dCons (dVar 8) dNil))) (dCons (dCall p_ldue EX0 (dCons (dVar 7) (dCons (dVar 8) dNil))) dNil))))) (dTst (dBin (oEq not) (dN oRepr (dCons (dN oTup (dCons (dVar 7) (dCons (dVar 8) dNil))) dNil)) (dVar 9))))
  (sRet (dC (.bl false)))
  sNext)) D [x0, some (.f (.obj 1)), x2, some (.f (.int (n : Nat))), some (.f (.lst vs)), x5, some (.f (.lst (szL n))), some (.f (s0)), some (.f (bt)), x9, x10, x11, x12, x13] m7
      exact check (dk_bel hd7) hsv (rw_bent hbt) fun x9 => hq _ _ _ _ _ _ _ _ _ _ _ _ (hd7.mono (by omega))
end
theorem law_law (C : Ct) : ∀ ds m (Q : QD) (E : QX), pLaw 63 ds m Q E → rd_law C p_deck p_next p_lsome p_bent p_levery (p_same 6) p_ldue p_ltold (fun c xs _ m => E c xs m) { nx := fun _ m => Q .non m, rt := Q } (env0 14 ds) m := by
  rintro ds m Q E ⟨is, hl, rfl, rfl, hq⟩
  show rd_law C p_deck p_next p_lsome p_bent p_levery (p_same 6) p_ldue p_ltold _ _ [some (.f (.lst (is.map Dat.int))), none, none, none, none, none, none, none, none, none, none, none, none, none] []
  unfold rd_law
  refine sq_asg ?_
  refine call_deck hl rfl (by trivial) fun m1 hd => ?_
  refine sq_for ((evi_rg1n (j := 6) ev_c (by omega)) _ ?_)
  have hlim : lim = 2 ^ 40 := rfl
  refine turns_mem (I := fun c env m => Dk (1200 * c) [] m ∧ ∃ x2 x3 x4 x5 x6 x7 x8 x9 x10 x11 x12 x13, env = [some (.f (.lst (is.map Dat.int))), some (.f (.obj 1)), x2, x3, x4, x5, x6, x7, x8, x9, x10, x11, x12, x13]) 0 ⟨hd, _, _, _, _, _, _, _, _, _, _, _, _, rfl⟩ ?_ ?_
  · rintro x hx j env m hj ⟨hd, x2, x3, x4, x5, x6, x7, x8, x9, x10, x11, x12, x13, rfl⟩ D' nx rt
    have hj : j < 6 := by simpa using hj
    refine turn hd (by omega) fun y3 y4 y5 y6 y7 y8 y9 y10 y11 y12 y13 m' hd' => nx _ _ ⟨by rw [show 1200 * (j + 1) = 1200 * j + 1200 by omega]; exact hd', _, _, _, _, _, _, _, _, _, _, _, _, rfl⟩
  · rintro env m _
    dsimp only
    exact st_ret ev_c (hq _)
end K09

set_option maxHeartbeats 0
namespace K09
open PySem PySem.Spec PyProof.Rows L2 DL DL.S
open K02 hiding isInt
theorem sc_BadOutages_xi : FnScope ["self", "error"] ["self", "error"] (defScope st_BadOutages_xi) := ⟨rfl, rfl, rfl, by decide +kernel, rfl, by decide +kernel, by decide +kernel⟩
theorem ob_eq (s : PySem.W.SharedT) : ob s = hk.obs s.abs := obsRG_eq (HandSHeadRun.getT_eq s)
section
variable {P : Program} {w : World} {K : PySem.W.Frag} {h : Heap} {mg : Str → Option Value} {f : Addr}
theorem txt (inK : K.In h) (G : h.Ns mainGlobals mg) (c : SaysY ex fn K) : Txt K mg (tab.ct K) :=
  ⟨noSysB_ok (c.fact 0),
   Tab.ok (c.fact 1),
   He.free_ok inK G (c.fact 2),
   He.free_ok inK G (c.fact 3),
   He.free_ok inK G (c.fact 4),
   He.free_ok inK G (c.fact 5),
   He.free_ok inK G (c.fact 6),
   He.free_ok inK G (c.fact 7),
   He.free_ok inK G (c.fact 8),
   He.free_ok inK G (c.fact 9),
   He.free_ok inK G (c.fact 10),
   He.free_ok inK G (c.fact 11),
   He.free_ok inK G (c.fact 12),
   He.free_ok inK G (c.fact 13),
   He.free_ok inK G (c.fact 14),
   He.free_ok inK G (c.fact 15),
   He.free_ok inK G (c.fact 16),
   He.free_ok inK G (c.fact 17),
   He.free_ok inK G (c.fact 18),
   He.int_ok inK G (c.fact 19),
   He.glo_ok inK G (c.fact 20),
   Tab.fi_ok (c.fact 21),
   Tab.fi_ok (c.fact 22),
   Tab.xf_ok (c.fact 23),
   Tab.ie_ok (c.fact 24),
   He.glo_ok inK G (c.fact 25),
   Tab.ex_ok (c.fact 26)⟩
theorem facts (inK : K.In h) (G : h.Ns mainGlobals mg) (hfa : mg ("law" : Str) = some (.ref f)) (c : SaysY ex fn K) :
    ∃ fd : FuncData, (∀ (s : Shared) (v : Value), BindsTo s fd ⟨[v], []⟩ [("_law_script", v)]) ∧ ∀ base : Heap, FnG P w K mg base (L2.CX P w) 8 f fd ["_law_script"] (spD (tab.ct K) w K 1 (pLaw 63)) := by
  have G0 : FunD K "_law_deck" "_law_deck" (defArgs st_law_deck) (defBody st_law_deck) (defScope st_law_deck) [] [] (He.fAd K ("_law_deck", none)) (fdA K ("_law_deck", none)) := c.def_ 0 rfl
  have G1 : FunD K "_law_next" "_law_next" (defArgs st_law_next) (defBody st_law_next) (defScope st_law_next) [] [] (He.fAd K ("_law_next", none)) (fdA K ("_law_next", none)) := c.def_ 1 rfl
  have G2 : FunD K "_law_every" "_law_every" (defArgs st_law_every) (defBody st_law_every) (defScope st_law_every) [] [] (He.fAd K ("_law_every", none)) (fdA K ("_law_every", none)) := c.def_ 2 rfl
  have G3 : FunD K "_law_outage" "_law_outage" (defArgs st_law_outage) (defBody st_law_outage) (defScope st_law_outage) [] [] (He.fAd K ("_law_outage", none)) (fdA K ("_law_outage", none)) := c.def_ 3 rfl
  have G4 : FunD K "_law_some" "_law_some" (defArgs st_law_some) (defBody st_law_some) (defScope st_law_some) [] [] (He.fAd K ("_law_some", none)) (fdA K ("_law_some", none)) := c.def_ 4 rfl
  have G5 : FunD K "_law_same" "_law_same" (defArgs st_law_same) (defBody st_law_same) (defScope st_law_same) [] [] (He.fAd K ("_law_same", none)) (fdA K ("_law_same", none)) := c.def_ 5 rfl
  have G6 : FunD K "_law_bent" "_law_bent" (defArgs st_law_bent) (defBody st_law_bent) (defScope st_law_bent) [] [] (He.fAd K ("_law_bent", none)) (fdA K ("_law_bent", none)) := c.def_ 6 rfl
  have G7 : FunD K "_law_whole" "_law_whole" (defArgs st_law_whole) (defBody st_law_whole) (defScope st_law_whole) [] [] (He.fAd K ("_law_whole", none)) (fdA K ("_law_whole", none)) := c.def_ 7 rfl
  have G8 : FunD K "_law_ascends" "_law_ascends" (defArgs st_law_ascends) (defBody st_law_ascends) (defScope st_law_ascends) [] [] (He.fAd K ("_law_ascends", none)) (fdA K ("_law_ascends", none)) := c.def_ 8 rfl
  have G9 : FunD K "_law_due" "_law_due" (defArgs st_law_due) (defBody st_law_due) (defScope st_law_due) [] [] (He.fAd K ("_law_due", none)) (fdA K ("_law_due", none)) := c.def_ 9 rfl
  have G10 : FunD K "is_whole" "is_whole" (defArgs st_is_whole) (defBody st_is_whole) (defScope st_is_whole) [] [] (He.fAd K ("is_whole", none)) (fdA K ("is_whole", none)) := c.def_ 10 rfl
  have G11 : FunD K "is_below" "is_below" (defArgs st_is_below) (defBody st_is_below) (defScope st_is_below) [] [] (He.fAd K ("is_below", none)) (fdA K ("is_below", none)) := c.def_ 11 rfl
  have G12 : FunD K "ascends" "ascends" (defArgs st_ascends) (defBody st_ascends) (defScope st_ascends) [] [] (He.fAd K ("ascends", none)) (fdA K ("ascends", none)) := c.def_ 12 rfl
  have G13 : FunD K "outages_error" "outages_error" (defArgs st_outages_error) (defBody st_outages_error) (defScope st_outages_error) [] [] (He.fAd K ("outages_error", none)) (fdA K ("outages_error", none)) := c.def_ 13 rfl
  have G14 : FunD K "number_of" "number_of" (defArgs st_number_of) (defBody st_number_of) (defScope st_number_of) [] [] (He.fAd K ("number_of", none)) (fdA K ("number_of", none)) := c.def_ 14 rfl
  have G15 : FunD K "__init__" "Outages.__init__" (defArgs st_Outages_init) (defBody st_Outages_init) (defScope st_Outages_init) [] [] (He.fAd K ("Outages", some "__init__")) (fdA K ("Outages", some "__init__")) := c.def_ 15 rfl
  have G16 : FunD K "_law_told" "_law_told" (defArgs st_law_told) (defBody st_law_told) (defScope st_law_told) [] [] (He.fAd K ("_law_told", none)) (fdA K ("_law_told", none)) := c.def_ 16 rfl
  have G17 : FunD K "law" "law" (defArgs st_law) (defBody st_law) (defScope st_law) [] [] (He.fAd K ("law", none)) (fdA K ("law", none)) := c.def_ 17 rfl
  have G18 : FunD K "__init__" "BadOutages.__init__" (defArgs st_BadOutages_xi) (defBody st_BadOutages_xi) (defScope st_BadOutages_xi) [] [] (He.fAd K ("BadOutages", some "__init__")) (fdA K ("BadOutages", some "__init__")) := c.def_ 18 rfl
  have T := txt inK G c
  have e := hfa.symm.trans (He.glo_ok inK G (c.fact 44))
  cases e
  have b := FunD.bindsA (ps := ["_law_script"]) G17 fun _ _ _ _ _ _ us hl => match us, hl with | [_], _ => rfl
  refine ⟨_, fun s v => b s [v] rfl, fun base => ?_⟩
  have x_BadOutages : XcC P w K mg base (tab.ct K) "BadOutages" 8 ["error"] := Tab.xc_ok (c.fact 48) rfl (He.glo_ok inK G (c.fact 47)) rfl (by decide) ⟨_, exc_init1 G18 sc_BadOutages_xi (fun cdv A outer s H E => pss_one (ps_ost (pv 0) (pv 1))), (FunD.bindsN G18 (ps := ["self", "error"]) fun _ _ _ _ _ _ us hl => match us, hl with | [_, _], _ => rfl)⟩
  have c_law_deck : FnC P w K mg base (tab.ct K) "_law_deck" 1 ["_law_script"] (p_deck) := ⟨He.glo_ok inK G (c.fact 28), G0.kp, wk_law_deck T (K0 := 0) (by first | exact pRel.mono | exact pGh.mono | exact pLaw.mono | exact pNo.mono | exact pT.mono | exact pGhE.mono) (by first | exact pRel.len | exact pGh.len | exact pLaw.len | exact pNo.len | exact pT.len | exact pGhE.len) G0 (DL.S.law_deck (tab.ct K)), (FunD.bindsN G0 (ps := ["_law_script"]) fun _ _ _ _ _ _ us hl => match us, hl with | [_], _ => rfl), (by first | exact pRel.len | exact pGh.len | exact pLaw.len | exact pNo.len | exact pT.len | exact pGhE.len)⟩
  have c_law_next : FnC P w K mg base (tab.ct K) "_law_next" 1 ["_law_deck_here", "_law_many"] (p_next) := ⟨He.glo_ok inK G (c.fact 29), G1.kp, wk_law_next T (K0 := 0) (by first | exact pRel.mono | exact pGh.mono | exact pLaw.mono | exact pNo.mono | exact pT.mono | exact pGhE.mono) (by first | exact pRel.len | exact pGh.len | exact pLaw.len | exact pNo.len | exact pT.len | exact pGhE.len) G1 (DL.S.law_next (tab.ct K)), (FunD.bindsN G1 (ps := ["_law_deck_here", "_law_many"]) fun _ _ _ _ _ _ us hl => match us, hl with | [_, _], _ => rfl), (by first | exact pRel.len | exact pGh.len | exact pLaw.len | exact pNo.len | exact pT.len | exact pGhE.len)⟩
  have c_law_every : FnC P w K mg base (tab.ct K) "_law_every" 1 ["_law_many"] (p_levery) := ⟨He.glo_ok inK G (c.fact 30), G2.kp, wk_law_every T (K0 := 0) (by first | exact pRel.mono | exact pGh.mono | exact pLaw.mono | exact pNo.mono | exact pT.mono | exact pGhE.mono) (by first | exact pRel.len | exact pGh.len | exact pLaw.len | exact pNo.len | exact pT.len | exact pGhE.len) G2 (DL.S.law_law_every (tab.ct K)), (FunD.bindsN G2 (ps := ["_law_many"]) fun _ _ _ _ _ _ us hl => match us, hl with | [_], _ => rfl), (by first | exact pRel.len | exact pGh.len | exact pLaw.len | exact pNo.len | exact pT.len | exact pGhE.len)⟩
  have c_law_outage : FnC P w K mg base (tab.ct K) "_law_outage" 2 ["_law_deck_here", "_law_many"] (p_out) := ⟨He.glo_ok inK G (c.fact 31), G3.kp, wk_law_outage T (K0 := 1) (by first | exact pRel.mono | exact pGh.mono | exact pLaw.mono | exact pNo.mono | exact pT.mono | exact pGhE.mono) (by first | exact pRel.len | exact pGh.len | exact pLaw.len | exact pNo.len | exact pT.len | exact pGhE.len) c_law_next (by omega) G3 (DL.S.law_law_outage (tab.ct K)), (FunD.bindsN G3 (ps := ["_law_deck_here", "_law_many"]) fun _ _ _ _ _ _ us hl => match us, hl with | [_, _], _ => rfl), (by first | exact pRel.len | exact pGh.len | exact pLaw.len | exact pNo.len | exact pT.len | exact pGhE.len)⟩
  have c_law_some : FnC P w K mg base (tab.ct K) "_law_some" 3 ["_law_deck_here", "_law_many"] (p_lsome) := ⟨He.glo_ok inK G (c.fact 32), G4.kp, wk_law_some T (K0 := 2) (by first | exact pRel.mono | exact pGh.mono | exact pLaw.mono | exact pNo.mono | exact pT.mono | exact pGhE.mono) (by first | exact pRel.len | exact pGh.len | exact pLaw.len | exact pNo.len | exact pT.len | exact pGhE.len) c_law_every (by omega) c_law_next (by omega) c_law_outage (by omega) G4 (DL.S.law_law_some (tab.ct K)), (FunD.bindsN G4 (ps := ["_law_deck_here", "_law_many"]) fun _ _ _ _ _ _ us hl => match us, hl with | [_, _], _ => rfl), (by first | exact pRel.len | exact pGh.len | exact pLaw.len | exact pNo.len | exact pT.len | exact pGhE.len)⟩
  have c_law_same_no : FnCG P w K mg base (tab.ct K) "_law_same" 0 ["_law_found", "_law_due_here"] pNo := ⟨He.glo_ok inK G (c.fact 33), G5.kp, noG, (FunD.bindsN G5 (ps := ["_law_found", "_law_due_here"]) fun _ _ _ _ _ _ us hl => match us, hl with | [_, _], _ => rfl), pNo.len⟩
  have c_law_same0 : FnCG P w K mg base (tab.ct K) "_law_same" 1 ["_law_found", "_law_due_here"] (p_same 0) := ⟨He.glo_ok inK G (c.fact 33), G5.kp, wk_law_same T (K0 := 0) (by first | exact pRel.mono | exact pGh.mono | exact pLaw.mono | exact pNo.mono | exact pT.mono | exact pGhE.mono) (by first | exact pRel.len | exact pGh.len | exact pLaw.len | exact pNo.len | exact pT.len | exact pGhE.len) c_law_same_no (by omega) G5 (DL.S.law_same0 (tab.ct K) _), (FunD.bindsN G5 (ps := ["_law_found", "_law_due_here"]) fun _ _ _ _ _ _ us hl => match us, hl with | [_, _], _ => rfl), (by first | exact pRel.len | exact pGh.len | exact pLaw.len | exact pNo.len | exact pT.len | exact pGhE.len)⟩
  have c_law_same1 : FnCG P w K mg base (tab.ct K) "_law_same" 2 ["_law_found", "_law_due_here"] (p_same 1) := ⟨He.glo_ok inK G (c.fact 33), G5.kp, wk_law_same T (K0 := 1) (by first | exact pRel.mono | exact pGh.mono | exact pLaw.mono | exact pNo.mono | exact pT.mono | exact pGhE.mono) (by first | exact pRel.len | exact pGh.len | exact pLaw.len | exact pNo.len | exact pT.len | exact pGhE.len) c_law_same0 (by omega) G5 (DL.S.law_same (tab.ct K) 1), (FunD.bindsN G5 (ps := ["_law_found", "_law_due_here"]) fun _ _ _ _ _ _ us hl => match us, hl with | [_, _], _ => rfl), (by first | exact pRel.len | exact pGh.len | exact pLaw.len | exact pNo.len | exact pT.len | exact pGhE.len)⟩
  have c_law_same2 : FnCG P w K mg base (tab.ct K) "_law_same" 3 ["_law_found", "_law_due_here"] (p_same 2) := ⟨He.glo_ok inK G (c.fact 33), G5.kp, wk_law_same T (K0 := 2) (by first | exact pRel.mono | exact pGh.mono | exact pLaw.mono | exact pNo.mono | exact pT.mono | exact pGhE.mono) (by first | exact pRel.len | exact pGh.len | exact pLaw.len | exact pNo.len | exact pT.len | exact pGhE.len) c_law_same1 (by omega) G5 (DL.S.law_same (tab.ct K) 2), (FunD.bindsN G5 (ps := ["_law_found", "_law_due_here"]) fun _ _ _ _ _ _ us hl => match us, hl with | [_, _], _ => rfl), (by first | exact pRel.len | exact pGh.len | exact pLaw.len | exact pNo.len | exact pT.len | exact pGhE.len)⟩
  have c_law_same3 : FnCG P w K mg base (tab.ct K) "_law_same" 4 ["_law_found", "_law_due_here"] (p_same 3) := ⟨He.glo_ok inK G (c.fact 33), G5.kp, wk_law_same T (K0 := 3) (by first | exact pRel.mono | exact pGh.mono | exact pLaw.mono | exact pNo.mono | exact pT.mono | exact pGhE.mono) (by first | exact pRel.len | exact pGh.len | exact pLaw.len | exact pNo.len | exact pT.len | exact pGhE.len) c_law_same2 (by omega) G5 (DL.S.law_same (tab.ct K) 3), (FunD.bindsN G5 (ps := ["_law_found", "_law_due_here"]) fun _ _ _ _ _ _ us hl => match us, hl with | [_, _], _ => rfl), (by first | exact pRel.len | exact pGh.len | exact pLaw.len | exact pNo.len | exact pT.len | exact pGhE.len)⟩
  have c_law_same4 : FnCG P w K mg base (tab.ct K) "_law_same" 5 ["_law_found", "_law_due_here"] (p_same 4) := ⟨He.glo_ok inK G (c.fact 33), G5.kp, wk_law_same T (K0 := 4) (by first | exact pRel.mono | exact pGh.mono | exact pLaw.mono | exact pNo.mono | exact pT.mono | exact pGhE.mono) (by first | exact pRel.len | exact pGh.len | exact pLaw.len | exact pNo.len | exact pT.len | exact pGhE.len) c_law_same3 (by omega) G5 (DL.S.law_same (tab.ct K) 4), (FunD.bindsN G5 (ps := ["_law_found", "_law_due_here"]) fun _ _ _ _ _ _ us hl => match us, hl with | [_, _], _ => rfl), (by first | exact pRel.len | exact pGh.len | exact pLaw.len | exact pNo.len | exact pT.len | exact pGhE.len)⟩
  have c_law_same5 : FnCG P w K mg base (tab.ct K) "_law_same" 6 ["_law_found", "_law_due_here"] (p_same 5) := ⟨He.glo_ok inK G (c.fact 33), G5.kp, wk_law_same T (K0 := 5) (by first | exact pRel.mono | exact pGh.mono | exact pLaw.mono | exact pNo.mono | exact pT.mono | exact pGhE.mono) (by first | exact pRel.len | exact pGh.len | exact pLaw.len | exact pNo.len | exact pT.len | exact pGhE.len) c_law_same4 (by omega) G5 (DL.S.law_same (tab.ct K) 5), (FunD.bindsN G5 (ps := ["_law_found", "_law_due_here"]) fun _ _ _ _ _ _ us hl => match us, hl with | [_, _], _ => rfl), (by first | exact pRel.len | exact pGh.len | exact pLaw.len | exact pNo.len | exact pT.len | exact pGhE.len)⟩
  have c_law_same : FnCG P w K mg base (tab.ct K) "_law_same" 7 ["_law_found", "_law_due_here"] (p_same 6) := ⟨He.glo_ok inK G (c.fact 33), G5.kp, wk_law_same T (K0 := 6) (by first | exact pRel.mono | exact pGh.mono | exact pLaw.mono | exact pNo.mono | exact pT.mono | exact pGhE.mono) (by first | exact pRel.len | exact pGh.len | exact pLaw.len | exact pNo.len | exact pT.len | exact pGhE.len) c_law_same5 (by omega) G5 (DL.S.law_same (tab.ct K) 6), (FunD.bindsN G5 (ps := ["_law_found", "_law_due_here"]) fun _ _ _ _ _ _ us hl => match us, hl with | [_, _], _ => rfl), (by first | exact pRel.len | exact pGh.len | exact pLaw.len | exact pNo.len | exact pT.len | exact pGhE.len)⟩
  have c_law_bent : FnCG P w K mg base (tab.ct K) "_law_bent" 2 ["_law_deck_here", "_law_outage_here", "_law_many"] (K09.p_bent) := ⟨He.glo_ok inK G (c.fact 34), G6.kp, wk_law_bent T (K0 := 1) (by first | exact pRel.mono | exact pGh.mono | exact pLaw.mono | exact pNo.mono | exact pT.mono | exact pGhE.mono) (by first | exact pRel.len | exact pGh.len | exact pLaw.len | exact pNo.len | exact pT.len | exact pGhE.len) c_law_next (by omega) G6 (K09.law_law_bent (tab.ct K)), (FunD.bindsN G6 (ps := ["_law_deck_here", "_law_outage_here", "_law_many"]) fun _ _ _ _ _ _ us hl => match us, hl with | [_, _, _], _ => rfl), (by first | exact pRel.len | exact pGh.len | exact pLaw.len | exact pNo.len | exact pT.len | exact pGhE.len)⟩
  have c_law_whole : FnC P w K mg base (tab.ct K) "_law_whole" 1 ["_law_value"] (p_whole) := ⟨He.glo_ok inK G (c.fact 35), G7.kp, wk_law_whole T (K0 := 0) (by first | exact pRel.mono | exact pGh.mono | exact pLaw.mono | exact pNo.mono | exact pT.mono | exact pGhE.mono) (by first | exact pRel.len | exact pGh.len | exact pLaw.len | exact pNo.len | exact pT.len | exact pGhE.len) G7 (K02.law_law_whole (tab.ct K)), (FunD.bindsN G7 (ps := ["_law_value"]) fun _ _ _ _ _ _ us hl => match us, hl with | [_], _ => rfl), (by first | exact pRel.len | exact pGh.len | exact pLaw.len | exact pNo.len | exact pT.len | exact pGhE.len)⟩
  have c_law_ascends : FnC P w K mg base (tab.ct K) "_law_ascends" 2 ["_law_value", "_law_bound"] (p_lasc) := ⟨He.glo_ok inK G (c.fact 36), G8.kp, wk_law_ascends T (K0 := 1) (by first | exact pRel.mono | exact pGh.mono | exact pLaw.mono | exact pNo.mono | exact pT.mono | exact pGhE.mono) (by first | exact pRel.len | exact pGh.len | exact pLaw.len | exact pNo.len | exact pT.len | exact pGhE.len) c_law_whole (by omega) G8 (DL.S.law_law_ascends (tab.ct K)), (FunD.bindsN G8 (ps := ["_law_value", "_law_bound"]) fun _ _ _ _ _ _ us hl => match us, hl with | [_, _], _ => rfl), (by first | exact pRel.len | exact pGh.len | exact pLaw.len | exact pNo.len | exact pT.len | exact pGhE.len)⟩
  have c_law_due : FnC P w K mg base (tab.ct K) "_law_due" 3 ["_law_many", "_law_members"] (K09.p_ldue) := ⟨He.glo_ok inK G (c.fact 37), G9.kp, wk_law_due T (K0 := 2) (by first | exact pRel.mono | exact pGh.mono | exact pLaw.mono | exact pNo.mono | exact pT.mono | exact pGhE.mono) (by first | exact pRel.len | exact pGh.len | exact pLaw.len | exact pNo.len | exact pT.len | exact pGhE.len) c_law_whole (by omega) c_law_ascends (by omega) G9 (K09.law_law_due (tab.ct K)), (FunD.bindsN G9 (ps := ["_law_many", "_law_members"]) fun _ _ _ _ _ _ us hl => match us, hl with | [_, _], _ => rfl), (by first | exact pRel.len | exact pGh.len | exact pLaw.len | exact pNo.len | exact pT.len | exact pGhE.len)⟩
  have c_is_whole : FnC P w K mg base (tab.ct K) "is_whole" 1 ["value"] (p_whole) := ⟨He.glo_ok inK G (c.fact 38), G10.kp, wk_is_whole T (K0 := 0) (by first | exact pRel.mono | exact pGh.mono | exact pLaw.mono | exact pNo.mono | exact pT.mono | exact pGhE.mono) (by first | exact pRel.len | exact pGh.len | exact pLaw.len | exact pNo.len | exact pT.len | exact pGhE.len) G10 (K02.law_is_whole (tab.ct K)), (FunD.bindsN G10 (ps := ["value"]) fun _ _ _ _ _ _ us hl => match us, hl with | [_], _ => rfl), (by first | exact pRel.len | exact pGh.len | exact pLaw.len | exact pNo.len | exact pT.len | exact pGhE.len)⟩
  have c_is_below : FnC P w K mg base (tab.ct K) "is_below" 2 ["value", "bound"] (p_below) := ⟨He.glo_ok inK G (c.fact 39), G11.kp, wk_is_below T (K0 := 1) (by first | exact pRel.mono | exact pGh.mono | exact pLaw.mono | exact pNo.mono | exact pT.mono | exact pGhE.mono) (by first | exact pRel.len | exact pGh.len | exact pLaw.len | exact pNo.len | exact pT.len | exact pGhE.len) c_is_whole (by omega) G11 (K02.law_is_below (tab.ct K)), (FunD.bindsN G11 (ps := ["value", "bound"]) fun _ _ _ _ _ _ us hl => match us, hl with | [_, _], _ => rfl), (by first | exact pRel.len | exact pGh.len | exact pLaw.len | exact pNo.len | exact pT.len | exact pGhE.len)⟩
  have c_ascends : FnC P w K mg base (tab.ct K) "ascends" 3 ["value", "bound"] (p_asc) := ⟨He.glo_ok inK G (c.fact 40), G12.kp, wk_ascends T (K0 := 2) (by first | exact pRel.mono | exact pGh.mono | exact pLaw.mono | exact pNo.mono | exact pT.mono | exact pGhE.mono) (by first | exact pRel.len | exact pGh.len | exact pLaw.len | exact pNo.len | exact pT.len | exact pGhE.len) c_is_below (by omega) G12 (DL.S.law_ascends (tab.ct K)), (FunD.bindsN G12 (ps := ["value", "bound"]) fun _ _ _ _ _ _ us hl => match us, hl with | [_, _], _ => rfl), (by first | exact pRel.len | exact pGh.len | exact pLaw.len | exact pNo.len | exact pT.len | exact pGhE.len)⟩
  have c_outages_error : FnC P w K mg base (tab.ct K) "outages_error" 4 ["many", "members"] (p_oerrG) := ⟨He.glo_ok inK G (c.fact 41), G13.kp, wk_outages_error T (K0 := 3) (by first | exact pRel.mono | exact pGh.mono | exact pLaw.mono | exact pNo.mono | exact pT.mono | exact pGhE.mono) (by first | exact pRel.len | exact pGh.len | exact pLaw.len | exact pNo.len | exact pT.len | exact pGhE.len) c_is_whole (by omega) c_ascends (by omega) G13 (DL.S.law_outages_errorG (tab.ct K)), (FunD.bindsN G13 (ps := ["many", "members"]) fun _ _ _ _ _ _ us hl => match us, hl with | [_, _], _ => rfl), (by first | exact pRel.len | exact pGh.len | exact pLaw.len | exact pNo.len | exact pT.len | exact pGhE.len)⟩
  have c_number_of : FnC P w K mg base (tab.ct K) "number_of" 1 ["outage"] (p_numof) := ⟨He.glo_ok inK G (c.fact 42), G14.kp, wk_number_of T (K0 := 0) (by first | exact pRel.mono | exact pGh.mono | exact pLaw.mono | exact pNo.mono | exact pT.mono | exact pGhE.mono) (by first | exact pRel.len | exact pGh.len | exact pLaw.len | exact pNo.len | exact pT.len | exact pGhE.len) G14 (DL.S.law_number_of (tab.ct K)), (FunD.bindsN G14 (ps := ["outage"]) fun _ _ _ _ _ _ us hl => match us, hl with | [_], _ => rfl), (by first | exact pRel.len | exact pGh.len | exact pLaw.len | exact pNo.len | exact pT.len | exact pGhE.len)⟩
  have m_Outages : MkC P w K mg base (tab.ct K) "Outages" 21 2 5 ["self", "many", "members"] (p_initOG) := ⟨He.glo_ok inK G (c.fact 45), Tab.mk_ok (c.fact 46) rfl, wk_Outages_init T (K0 := 4) (by first | exact pRel.mono | exact pGh.mono | exact pLaw.mono | exact pNo.mono | exact pT.mono | exact pGhE.mono) (by first | exact pRel.len | exact pGh.len | exact pLaw.len | exact pNo.len | exact pT.len | exact pGhE.len) c_outages_error (by omega) c_number_of (by omega) x_BadOutages (by omega) G15 (DL.S.law_Outages_initG (tab.ct K)), (FunD.bindsN G15 (ps := ["self", "many", "members"]) fun _ _ _ _ _ _ us hl => match us, hl with | [_, _, _], _ => rfl), (by first | exact pRel.len | exact pGh.len | exact pLaw.len | exact pNo.len | exact pT.len | exact pGhE.len), rfl⟩
  have c_law_told : FnC P w K mg base (tab.ct K) "_law_told" 7 ["_law_many", "_law_members"] (K09.p_ltold) := ⟨He.glo_ok inK G (c.fact 43), G16.kp, wk_law_told T (K0 := 6) (by first | exact pRel.mono | exact pGh.mono | exact pLaw.mono | exact pNo.mono | exact pT.mono | exact pGhE.mono) (by first | exact pRel.len | exact pGh.len | exact pLaw.len | exact pNo.len | exact pT.len | exact pGhE.len) m_Outages (by omega) G16 (K09.law_law_told (tab.ct K)), (FunD.bindsN G16 (ps := ["_law_many", "_law_members"]) fun _ _ _ _ _ _ us hl => match us, hl with | [_, _], _ => rfl), (by first | exact pRel.len | exact pGh.len | exact pLaw.len | exact pNo.len | exact pT.len | exact pGhE.len)⟩
  exact (wk_law T (K0 := 7) (by first | exact pRel.mono | exact pGh.mono | exact pLaw.mono | exact pNo.mono | exact pT.mono | exact pGhE.mono) (by first | exact pRel.len | exact pGh.len | exact pLaw.len | exact pNo.len | exact pT.len | exact pGhE.len) c_law_deck (by omega) c_law_next (by omega) c_law_some (by omega) c_law_bent (by omega) c_law_every (by omega) c_law_same (by omega) c_law_due (by omega) c_law_told (by omega) G17 (K09.law_law (tab.ct K))).ok
end
end K09
open PySem PySem.W PySem.Calls PyProof.Rows
theorem PySem.Challenge.cw_sparerows_k09_sets_refused_holds : PySem.Challenge.rw_sparerows_k09_sets_refused.Holds := by
  w_on; o_law
  refine HandSHeadRun.head_any (r := OpenLaw.row PySem.Challenge.rw_sparerows_k09_sets_refused) (q := view (OpenLaw.row PySem.Challenge.rw_sparerows_k09_sets_refused).prog [27]) (H := K09.hk) (ob := K09.ob) (M := 20000) (loose := K09.loose) (d := HandSHeadRun.topDef (OpenLaw.row PySem.Challenge.rw_sparerows_k09_sets_refused).prog 27) (kwd := []) K09.ob_eq
    (by kernel_rfl) (fun s => by kernel_rfl) K09.run (by kernel_rfl) (by kernel_rfl) (by kernel_rfl) (by rfl) (by first | assumption | decide +kernel) (by decide +kernel) ⟨rfl, rfl, rfl, rfl, rfl, by decide +kernel⟩ ?hw ?hc
  case hw => w_witness2
  case hc =>
    refine DL.walk_ofG (l := PySem.Challenge.rw_sparerows_k09_sets_refused) (n := 63) (k := 8) (x := "_law_script") rfl (by decide) (by kernel_rfl) ⟨⟨rfl, by decide, by decide⟩, rfl⟩ ?_
    intro w mg fa h Y G hmg0
    obtain ⟨K, inK, c⟩ := Y
    have hmg : mg ("law" : PySem.Str) = some (.ref fa) := by
      have e : (HandSHeadRun.topDef (OpenLaw.row PySem.Challenge.rw_sparerows_k09_sets_refused).prog 27).name = ("law" : PySem.Str) := by kernel_rfl
      rw [← e]
      exact hmg0
    obtain ⟨fd, hb, hF⟩ := K09.facts (P := (PySem.Challenge.rw_sparerows_k09_sets_refused).prog) (w := w) inK G hmg c
    exact ⟨K, fd, _, inK, DL.noLstB_ok (c.fact 27), hb, fun a o is hl => DL.law_prom hl, fun B _ _ => hF B⟩



