import PyProof.Rows.All
import HandS.TupSets
import KE.KDictKeyed
import HandS.ForMost
import HandS.IsInst
import HandS.Wide
import HandS.Style
import HandS.TupAny
import HandS.TupMul
import HandS.Small
import HandS.Deep
import HandS.Conv
import HandS.Flow
import HandS.ForExc
import HandS.Lambda
import HandS.HeadHook4
import KE.GoesEnum
import KE.LtData
import KE.SortData
import KE.SortKeyHeap
import HandS.SortKw
import KE.DataCmp
import HandS.TryOnly
import HandS.Text
import HandS.DictComp
import KE.GoesSet
import KE.KDictSum
import KE.KMinBuiltin
import PyProof.ReprLen
import HandS.Zip
import PyProof.Rows.TupDisplay
import KE.KDictPairs
import PyProof.Rows.SeqRoads
import HandS.SetTxt0
import KE.KEqNest
import KE.DataEq
import HandS.Exc
import HandS.ExcValue
import HandS.ExcInit
import HandS.ExcIs
import HandS.ExcField
import HandS.ExcBuiltin
import KE.KExcIs
import PyProof.TupleOfSeq
import KE.KDictWalk
import HandS.More
import KE.KDictItemsList
import KE.DataFind
import HandS.Property
import HandS.NamedTupGet
import OpenK.KMeth
import PySem.Challenge.RW_jarvisits_k37_whole_browsers
import HandS.Defaults
import HandS.Head0
import HandS.Head1
import HandS.Head2
import HandS.HeadEnd
import HandS.HeadHook1
import HandS.HeadHook2
import KE.KStateDown
set_option Elab.async false
set_option linter.all false
set_option maxRecDepth 100000
set_option maxHeartbeats 4000000
set_option autoImplicit false
section
/-! sets whose members are tuples of any depth -/
namespace NS
open PySem PySem.Spec PyProof.Rows L2
/-- the key that stands at an address -/
abbrev KAt (h : Heap) (k : NestedKey) (b : Addr) : Prop := NestedIs h k (.ref b) ∧ k.depth ≤ 8
section
variable {P : Program} {w : World} {A : Around} {E : Value → Shared → Prop} {s : Shared}
/-- what is asked of a value, n levels down, answers false -/
def NoClass (P : Program) (w : World) (n : Nat) (s : Shared) (v : Value) : Prop := ∀ (A : Around) (E : Value → Shared → Prop) (Q : Bool → Shared → Prop), Q false s → wpAny (model P w) A (ofAClassStatement n v) Q E s
def SomeHash (P : Program) (w : World) (n : Nat) (s : Shared) (v : Value) : Prop := ∀ (A : Around) (E : Value → Shared → Prop) (Q : Bool → Shared → Prop), (∀ b, Q b s) → wpAny (model P w) A (hashByValue n v) Q E s
theorem NoClass.flat {n : Nat} {v : Value} (h : ofAClassStatement n v = pure false) : NoClass P w n s v := fun A E Q q => by
  rw [h]; exact wpAny_pure q
theorem SomeHash.flat {n : Nat} {v : Value} {b : Bool} (h : hashByValue n v = pure b) : SomeHash P w n s v := fun A E Q q => by
  rw [h]; exact wpAny_pure (q b)
theorem NoClass.tup {n : Nat} {b : Addr} {o : Obj} {vs : Array Value} {m : Nat} (e1 : s.heap.get? b = some o) (e2 : o.cls = .type "tuple") (e3 : o.data = .seq vs m) (each : ∀ v ∈ vs.toList, NoClass P w n s v) : NoClass P w (n + 1) s (.ref b) := fun A E Q q => by
  have ty : s.TypeIs (.ref b) "tuple" := ⟨o, e1, e2⟩
  unfold ofAClassStatement
  refine wpAny_bind (wpAny_typeOf ty ?_)
  dsimp only
  have te : (("tuple" : String) == "tuple") = true := by decide
  simp only [te, if_true, Bool.not_true, Bool.false_eq_true, if_false]
  try refine wpAny_bind (wpAny_pure ?_)
  try simp only [Bool.not_true, Bool.false_eq_true, if_false]
  show wpAny _ _ (seqItems? (.ref b) >>= _) _ _ s
  refine wpAny_bind (wpAny_seqItems e1 e3 ?_)
  dsimp only
  refine wpAny_bind ?_
  show wpAny _ _ (forIn vs _ _) _ _ s
  rw [← Array.forIn_toList]
  refine wpAny_forIn_list _ (fun left r z => (r.1 = none ∧ z = s) ∧ ∀ v ∈ left, NoClass P w n s v) _ ?_ ?_ _ _ ⟨⟨rfl, rfl⟩, each⟩
  · rintro v left r z ⟨⟨hr, rfl⟩, all⟩
    refine wpAny_bind (all v List.mem_cons_self A _ _ ?_)
    simp only [Bool.false_eq_true, if_false]
    exact wpAny_pure ⟨⟨rfl, rfl⟩, fun u hu => all u (List.mem_cons_of_mem _ hu)⟩
  · rintro ⟨r1, r2⟩ z ⟨⟨hr, rfl⟩, _⟩
    simp only at hr
    subst hr
    exact wpAny_pure q
theorem SomeHash.tup {n : Nat} {b : Addr} {o : Obj} {vs : Array Value} {m : Nat} (e1 : s.heap.get? b = some o) (e2 : o.cls = .type "tuple") (e3 : o.data = .seq vs m) (each : ∀ v ∈ vs.toList, SomeHash P w n s v) : SomeHash P w (n + 1) s (.ref b) := fun A E Q q => by
  have ty : s.TypeIs (.ref b) "tuple" := ⟨o, e1, e2⟩
  unfold hashByValue
  refine wpAny_bind (wpAny_specialOf ty F.slot_tuple_hash.lookup ?_)
  show wpAny _ _ (seqItems? (.ref b) >>= _) _ _ s
  refine wpAny_bind (wpAny_seqItems e1 e3 ?_)
  refine wpAny_bind ?_
  show wpAny _ _ (forIn vs _ _) _ _ s
  rw [← Array.forIn_toList]
  refine wpAny_forIn_list _ (fun left r z => (r.1 = none ∧ z = s) ∧ ∀ v ∈ left, SomeHash P w n s v) _ ?_ ?_ _ _ ⟨⟨rfl, rfl⟩, each⟩
  · rintro v left r z ⟨⟨hr, rfl⟩, all⟩
    refine wpAny_bind (all v List.mem_cons_self A _ _ fun b => ?_)
    cases b with
    | true =>
      simp only [Bool.not_true, Bool.false_eq_true, if_false]
      exact wpAny_pure ⟨⟨rfl, rfl⟩, fun u hu => all u (List.mem_cons_of_mem _ hu)⟩
    | false =>
      simp only [Bool.not_false, if_true]
      exact wpAny_pure (wpAny_pure (q false))
  · rintro ⟨r1, r2⟩ z ⟨⟨hr, rfl⟩, _⟩
    simp only at hr
    subst hr
    exact wpAny_pure (q _)
/-! ### the set -/
abbrev Mem := List (Addr × NestedKey)
def rows (w : World) (L : Mem) : List (Int × Value) := L.map fun p => (p.2.hash w, Value.ref p.1)
def hashes (w : World) (L : Mem) : List Int := L.map fun p => p.2.hash w
/-- the set's own object -/
structure SOb (w : World) (h : Heap) (a : Addr) (L : Mem) (es : Array (Int × Value)) (ep : Nat) (t : SetTable) : Prop where
  ob : ∃ o, h.get? a = some o ∧ o.ExactSet ∧ o.data = .set es ep t
  rw : es.toList = rows w L
  tb : TabOk t (hashes w L)
  nd : (L.map (·.2)).Nodup
  ld : w.params.followText "set-order" = true ∨ t.led = true
  rm : L.length * 5 < t.mask * 3
  fw : L.length < 64
variable {a : Addr} {L : Mem} {es : Array (Int × Value)} {ep : Nat} {t : SetTable} {h : Heap}
theorem rows_len {es : Array (Int × Value)} (e : es.toList = rows w L) : es.size = L.length := by
  have := congrArg List.length e
  simpa [rows] using this
theorem SOb.size (R : SOb w h a L es ep t) : es.size = L.length := rows_len R.rw
theorem SOb.psize (R : SOb w h a L es ep t) : t.place.size = L.length := by simpa [hashes] using R.tb.sz
theorem fits_of {t : SetTable} {n : Nat} (h1 : t.place.size = n) (h2 : t.dummies = #[]) (h3 : n ≤ t.mask) : t.fits n = true := by
  unfold SetTable.fits SetTable.fill
  simp [h2, h1, h3]
theorem SOb.fits (R : SOb w h a L es ep t) : t.fits es.size = true := by
  have := R.rm
  exact fits_of (R.psize.trans R.size.symm) R.tb.dm (by rw [R.size]; omega)
end
/-! ### the set grows -/
end NS
end
section
/-! Jv: trees as values, a store for what changes, denotations of Python's expressions and statements over the layer HandS. -/
namespace Jv
open PySem L2
abbrev St := L2.St
/-- the fragment that is known, and the world -/
structure KW where
  K : PySem.W.Frag
  w : World
  mg : Str → Option Value
instance : Coe KW PySem.W.Frag := ⟨KW.K⟩
abbrev KW.lookup (K : KW) (a : Addr) : Option Obj := K.K.lookup a
end Jv
abbrev L2.Cx.kw (X : L2.Cx) : Jv.KW := ⟨X.K, X.w, X.mg⟩
namespace Jv
open PySem L2
/-! ### trees, objects that change, results -/
/-- a tree -/
inductive D where
  | non | bl (b : Bool) | int (i : Int) | str (x : Str)
  | tup (xs : List D) | lst (xs : List D) | dct (kvs : List (D × D))
  | ty (n : String)
  /-- a dict whose keys are tuples, no longer one that changes -/
  | kd (kvs : List (D × D))
  /-- a code object of the name q -/
  | cod (q : Str)
  /-- a dict whose keys are ints, texts, None, no longer one that changes -/
  | ld (kvs : List (D × D))
  /-- some object, by its address -/
  | adr (a : Addr)
  /-- a tuple whose very object is known: it has no dict of its own -/
  | tupx (xs : List D)
  /-- an exception of the class that the module calls n, its fields -/
  | exc (n : Str) (fs : List (Str × D))
  deriving Inhabited
/-- a value: a tree, or the number of an object that changes -/
inductive W where
  | v (d : D) | r (l : Nat)
  deriving Inhabited
inductive Ob where
  | dead
  | lst (xs : List D)
  | dct (kvs : List (Str × W))
  /-- a dict whose keys are tuples -/
  | kd (kvs : List (D × D))
  /-- a set of tuples, in the order in which they came -/
  | set (ds : List D)
  /-- a dict whose keys are ints, texts, None -/
  | ld (kvs : List (D × D))
  /-- a def's table of code objects, each of the name q -/
  | tab (p : Str × Option Str) (q : Str)
  /-- an instance of the class that the module calls n, its fields -/
  | ins (n : Str) (fs : List (Str × W))
  /-- a tuple that holds what changes -/
  | pr (ws : List W)
  deriving Inhabited
/-- where the objects that change stand, by their numbers (none: given up), and addresses that are being filled -/
structure Rho where
  lc : List (Option Addr)
  hid : List Addr
def Rho.mut (ρ : Rho) (a : Addr) : Prop := some a ∈ ρ.lc ∨ a ∈ ρ.hid
abbrev Sto := List Ob
abbrev Env := List (Option W)
/-- an exception: the name of its class, its fields -/
structure Xc where
  cls : Str
  fs : List (Str × D)
inductive R (α : Type) where
  | ok (a : α) (st : Sto) | exc (x : Xc) (st : Sto) | bad
def R.bind {α β : Type} (r : R α) (k : α → Sto → R β) : R β := match r with
  | .ok a st => k a st
  | .exc x st => .exc x st
  | .bad => .bad
@[simp] theorem R.bind_ok {α β : Type} (a : α) (st : Sto) (k : α → Sto → R β) : (R.ok a st).bind k = k a st := rfl
@[simp] theorem R.bind_exc {α β : Type} (x : Xc) (st : Sto) (k : α → Sto → R β) : (R.exc x st : R α).bind k = .exc x st := rfl
@[simp] theorem R.bind_bad {α β : Type} (k : α → Sto → R β) : (R.bad : R α).bind k = .bad := rfl
/-! ### the relation of values and trees -/
/-- the entries of a dict at a whose keys are tuples -/
def KdAt (w : World) (a : Addr) (xs : List (NestedKey × Addr × Value)) : Heap → Prop := fun h => ∃ o es ep, h.get? a = some o ∧ o.ExactDict ∧ o.data = .dict es ep ∧ es.toList = xs.map (fun x => ({ hash := x.1.hash w, key := .ref x.2.1, val := x.2.2 } : DictEntry))
mutual
def D.nk : D → NestedKey
  | .non => .none
  | .bl b => .num (if b = true then 1 else 0)
  | .int i => .num i
  | .str x => .text x
  | .tup xs => .tup (D.nkL xs)
  | .lst _ => .none
  | .dct _ => .none
  | .ty _ => .none
  | .kd _ => .none
  | .cod _ => .none
  | .ld _ => .none
  | .adr _ => .none
  | .tupx _ => .none
  | .exc _ _ => .none
def D.nkL : List D → List NestedKey
  | [] => []
  | x :: xs => x.nk :: D.nkL xs
end
mutual
def D.hb : D → Bool
  | .non => true
  | .bl _ => true
  | .int _ => true
  | .str _ => true
  | .tup xs => D.hbL xs
  | .lst _ => false
  | .dct _ => false
  | .ty _ => false
  | .kd _ => false
  | .cod _ => false
  | .ld _ => false
  | .adr _ => false
  | .tupx _ => false
  | .exc _ _ => false
def D.hbL : List D → Bool
  | [] => true
  | x :: xs => x.hb && D.hbL xs
end
/-- the dict at a, its very object -/
def KoAt (a : Addr) (o : Obj) : Heap → Prop := fun h => h.get? a = some o
def KdO (w : World) (o : Obj) (xs : List (NestedKey × Addr × Value)) : Prop := ∃ es ep, o.ExactDict ∧ o.data = .dict es ep ∧ es.toList = xs.map (fun x => ({ hash := x.1.hash w, key := .ref x.2.1, val := x.2.2 } : DictEntry))
/-- the rows of such a dict, its values, its tree -/
structure KdOk (xs : List (NestedKey × Addr × Value)) (vs : List V) (kvs : List (D × D)) : Prop where
  keys : xs.map (·.1) = kvs.map (·.1.nk)
  vals : Vals vs (xs.map (·.2.2))
  hb : ∀ p ∈ kvs, p.1.hb = true ∧ p.1.nk.depth ≤ 8
  nd : (kvs.map (·.1.nk)).Nodup
/-- ints, texts, None as keys -/
def D.lf : D → Option Leaf
  | .non => some .none
  | .int i => some (.num i)
  | .str x => some (.text x)
  | _ => none
/-- the entries of a dict at a whose keys are ints, texts, None -/
def LdAt (w : World) (a : Addr) (kvs : List (Leaf × Value)) : Heap → Prop := fun h => ∃ prog : Program, h.DictOf (leafKind prog w) a kvs
def LdO (w : World) (o : Obj) (kvs : List (Leaf × Value)) : Prop := ∃ prog : Program, o.IsDictOf (leafKind prog w) kvs
structure LdOk (xs : List (Leaf × Value)) (vs : List V) (kvs : List (D × D)) : Prop where
  keys : kvs.map (·.1.lf) = xs.map fun x => some x.1
  vals : Vals vs (xs.map (·.2))
/-- at a: an exception -/
def ExcO (a : Addr) (cls : Value) (od : Option Addr) : HO := .ext fun h => ∃ (oe : Obj) (vs : Array Value), h.get? a = some oe ∧ oe.cls = cls ∧ oe.dict = od ∧ oe.data = .fields vs
def LsR (K : KW) (ρ : Rho) (H : Hp) (a : Addr) (xs : List V) : Prop :=
  (Rd H a (.lst xs) ∧ ¬ ρ.mut a) ∨
    ∃ (o : Obj) (its : Array Value) (n : Nat), K.lookup a = some o ∧ o.cls = .type "list" ∧ o.dict = none ∧ o.data = .seq its n ∧ its.size ≤ sizeLine ∧ Vals xs its.toList
theorem LsR.sql {K : KW} {ρ : Rho} {H : Hp} {a : Addr} {xs : List V} (h : LsR K ρ H a xs) : SqL K H a xs := h.imp (fun z => z.1) id
mutual
inductive Rl (K : KW) (ρ : Rho) (H : Hp) : V → D → Prop
  | non : Rl K ρ H .non .non
  | bl (b : Bool) : Rl K ρ H (.bl b) (.bl b)
  | int (i : Int) : Rl K ρ H (.int i) (.int i)
  | str (x : Str) : Rl K ρ H (.str x) (.str x)
  | ty (n : String) : Rl K ρ H (.ty n) (.ty n)
  | tup {a : Addr} {xs : List V} {ds : List D} : Rd H a (.tup xs) → ¬ ρ.mut a → RlAll K ρ H xs ds → Rl K ρ H (.ref a) (.tup ds)
  | lst {a : Addr} {xs : List V} {ds : List D} : LsR K ρ H a xs → RlAll K ρ H xs ds → Rl K ρ H (.ref a) (.lst ds)
  | dct0 {a : Addr} : H a = some (.dK []) → ¬ ρ.mut a → Rl K ρ H (.ref a) (.dct [])
  | cod {a : Addr} {q : Str} : H a = some (LamX.CodeO a q) → ¬ ρ.mut a → Rl K ρ H (.ref a) (.cod q)
  | kd {a : Addr} {o : Obj} {xs : List (NestedKey × Addr × Value)} {vs : List V} {kvs : List (D × D)} : H a = some (.ext (KoAt a o)) → ¬ ρ.mut a → KdO K.w o xs ∧ KdOk xs vs kvs → (a == sysModules) = false →
      RlAll K ρ H (xs.map (fun x => V.ref x.2.1) ++ vs) (kvs.map (·.1) ++ kvs.map (·.2)) → Rl K ρ H (.ref a) (.kd kvs)
  | ld {a : Addr} {o : Obj} {xs : List (Leaf × Value)} {vs : List V} {kvs : List (D × D)} : H a = some (.ext (KoAt a o)) → ¬ ρ.mut a → LdO K.w o xs ∧ LdOk xs vs kvs → (a == sysModules) = false → RlAll K ρ H vs (kvs.map (·.2)) → Rl K ρ H (.ref a) (.ld kvs)
  | adr (a : Addr) : Rl K ρ H (.ref a) (.adr a)
  | tupx {a : Addr} {o : Obj} {xs : List V} {ds : List D} : H a = some (.frz o (.tup xs)) → ¬ ρ.mut a → o.dict = none → RlAll K ρ H xs ds → Rl K ρ H (.ref a) (.tupx ds)
  | exc0 {a : Addr} {n : Str} {cls : Value} : H a = some (ExcO a cls none) → ¬ ρ.mut a → K.mg n = some cls → Rl K ρ H (.ref a) (.exc n [])
  | excd {a d : Addr} {n : Str} {cls : Value} {vs : List (Str × V)} {fs : List (Str × D)} : H a = some (ExcO a cls (some d)) → ¬ ρ.mut a → K.mg n = some cls → H d = some (.xd vs) → ¬ ρ.mut d → vs.map (·.1) = fs.map (·.1) → RlAll K ρ H (vs.map (·.2)) (fs.map (·.2)) → Rl K ρ H (.ref a) (.exc n fs)
inductive RlAll (K : KW) (ρ : Rho) (H : Hp) : List V → List D → Prop
  | nil : RlAll K ρ H [] []
  | cons {v : V} {vs : List V} {d : D} {ds : List D} : Rl K ρ H v d → RlAll K ρ H vs ds → RlAll K ρ H (v :: vs) (d :: ds)
end
inductive Rw (K : KW) (ρ : Rho) (H : Hp) : V → W → Prop
  | v {x : V} {d : D} : Rl K ρ H x d → Rw K ρ H x (.v d)
  | r {l : Nat} {x : V} : l < ρ.lc.length → (∀ a, ρ.lc[l]? = some (some a) → x = .ref a) → Rw K ρ H x (.r l)
inductive RwAll (K : KW) (ρ : Rho) (H : Hp) : List V → List W → Prop
  | nil : RwAll K ρ H [] []
  | cons {v : V} {vs : List V} {d : W} {ds : List W} : Rw K ρ H v d → RwAll K ρ H vs ds → RwAll K ρ H (v :: vs) (d :: ds)
structure Grow (ρ : Rho) (H : Hp) (ρ' : Rho) (H' : Hp) : Prop where
  len : ρ.lc.length ≤ ρ'.lc.length
  hid : ρ'.hid = ρ.hid
  ref : ∀ (l : Nat) (a : Addr), l < ρ.lc.length → ρ'.lc[l]? = some (some a) → ρ.lc[l]? = some (some a)
  obj : ∀ a o, H a = some o → some a ∉ ρ.lc → H' a = some o ∧ some a ∉ ρ'.lc
theorem Grow.refl (ρ : Rho) (H : Hp) : Grow ρ H ρ H := ⟨Nat.le_refl _, rfl, fun _ _ _ h => h, fun _ _ h n => ⟨h, n⟩⟩
theorem Grow.trans {ρ ρ1 ρ2 : Rho} {H H1 H2 : Hp} (a : Grow ρ H ρ1 H1) (b : Grow ρ1 H1 ρ2 H2) : Grow ρ H ρ2 H2 :=
  ⟨Nat.le_trans a.len b.len, b.hid.trans a.hid, fun l x h e => a.ref l x h (b.ref l x (Nat.lt_of_lt_of_le h a.len) e), fun x o h n => let ⟨h1, n1⟩ := a.obj x o h n; b.obj x o h1 n1⟩
theorem Grow.same {ρ : Rho} {H H' : Hp} (s : Same H H') : Grow ρ H ρ H' := ⟨Nat.le_refl _, rfl, fun _ _ _ h => h, fun a o h n => ⟨s a o h, n⟩⟩
section
variable {K : KW} {ρ ρ' : Rho} {H H' : Hp}
theorem Grow.keep (g : Grow ρ H ρ' H') {a : Addr} {o : HO} (h : H a = some o) (n : ¬ ρ.mut a) : H' a = some o ∧ ¬ ρ'.mut a := by
  obtain ⟨h1, h2⟩ := g.obj a o h fun z => n (.inl z)
  exact ⟨h1, fun z => z.elim h2 fun z => n (.inr (g.hid ▸ z))⟩
theorem Grow.keepR (g : Grow ρ H ρ' H') {a : Addr} {o : HO} (h : Rd H a o) (n : ¬ ρ.mut a) : Rd H' a o ∧ ¬ ρ'.mut a := by
  rcases h with h | ⟨ob, h⟩
  · obtain ⟨h1, h2⟩ := g.keep h n; exact ⟨.inl h1, h2⟩
  · obtain ⟨h1, h2⟩ := g.keep h n; exact ⟨.inr ⟨ob, h1⟩, h2⟩
theorem _root_.L2.Rd.ne {a b : Addr} {o : HO} (h : Rd H a o) (h' : H b = none) : a ≠ b := by
  rcases h with h | ⟨ob, h⟩
  · exact ne_of_none h h'
  · exact ne_of_none h h'
theorem _root_.L2.Rd.to {a : Addr} {o : HO} (h : Rd H a o) (e : H' a = H a) : Rd H' a o := by
  unfold Rd at h ⊢
  rw [e]
  exact h
theorem _root_.L2.Rd.up {a p : Addr} {o u : HO} (h : Rd H a o) (hp : H p = none) : Rd (upd H p u) a o := h.to (upd_ne (h.ne hp))
theorem Grow.lsr (g : Grow ρ H ρ' H') {a : Addr} {xs : List V} (h : LsR K ρ H a xs) : LsR K ρ' H' a xs := by
  rcases h with ⟨h | ⟨o, h⟩, n⟩ | h
  · obtain ⟨h1, h2⟩ := g.keep h n; exact .inl ⟨.inl h1, h2⟩
  · obtain ⟨h1, h2⟩ := g.keep h n; exact .inl ⟨.inr ⟨o, h1⟩, h2⟩
  · exact .inr h
mutual
theorem Rl.grow (g : Grow ρ H ρ' H') : ∀ {v : V} {d : D}, Rl K ρ H v d → Rl K ρ' H' v d
  | _, _, .non => .non
  | _, _, .bl b => .bl b
  | _, _, .int i => .int i
  | _, _, .str x => .str x
  | _, _, .ty n => .ty n
  | _, _, .tup h n r => let ⟨h', n'⟩ := g.keepR h n; .tup h' n' (RlAll.grow g r)
  | _, _, .lst h r => .lst (g.lsr h) (RlAll.grow g r)
  | _, _, .dct0 h n => let ⟨h', n'⟩ := g.keep h n; .dct0 h' n'
  | _, _, .cod h n => let ⟨h', n'⟩ := g.keep h n; .cod h' n'
  | _, _, .kd h n o m r => let ⟨h', n'⟩ := g.keep h n; .kd h' n' o m (RlAll.grow g r)
  | _, _, .ld h n o m r => let ⟨h', n'⟩ := g.keep h n; .ld h' n' o m (RlAll.grow g r)
  | _, _, .adr a => .adr a
  | _, _, .tupx h n e r => let ⟨h', n'⟩ := g.keep h n; .tupx h' n' e (RlAll.grow g r)
  | _, _, .exc0 h n m => let ⟨h', n'⟩ := g.keep h n; .exc0 h' n' m
  | _, _, .excd h n m k k' e r => let ⟨h', n'⟩ := g.keep h n; let ⟨k1, k1'⟩ := g.keep k k'; .excd h' n' m k1 k1' e (RlAll.grow g r)
theorem RlAll.grow (g : Grow ρ H ρ' H') : ∀ {vs : List V} {ds : List D}, RlAll K ρ H vs ds → RlAll K ρ' H' vs ds
  | _, _, .nil => .nil
  | _, _, .cons r t => .cons (Rl.grow g r) (RlAll.grow g t)
end
theorem Rw.grow (g : Grow ρ H ρ' H') {v : V} {w : W} : Rw K ρ H v w → Rw K ρ' H' v w
  | .v q => .v (q.grow g)
  | .r h e => .r (Nat.lt_of_lt_of_le h g.len) fun a q => e a (g.ref _ a h q)
theorem RwAll.grow (g : Grow ρ H ρ' H') : ∀ {vs : List V} {ds : List W}, RwAll K ρ H vs ds → RwAll K ρ' H' vs ds
  | _, _, .nil => .nil
  | _, _, .cons r t => .cons (r.grow g) (RwAll.grow g t)
theorem RwAll.length : ∀ {vs : List V} {ds : List W}, RwAll K ρ H vs ds → vs.length = ds.length
  | _, _, .nil => rfl
  | _, _, .cons _ t => by simp [RwAll.length t]
theorem RwAll.getD : ∀ {vs : List V} {ds : List W} {i : Nat} {d : W}, RwAll K ρ H vs ds → ds[i]? = some d → ∃ v, vs[i]? = some v ∧ Rw K ρ H v d
  | _, _, _, _, .nil, e => by simp at e
  | _, _, 0, _, .cons r _, e => by simp at e; subst e; exact ⟨_, rfl, r⟩
  | _, _, i + 1, v, .cons _ t, e => by
    obtain ⟨d, h1, h2⟩ := RwAll.getD (i := i) (d := v) t (by simpa using e)
    exact ⟨d, by simpa using h1, h2⟩
/-- trees alone -/
def allV : List W → Option (List D)
  | [] => some []
  | .v d :: r => (allV r).map (d :: ·)
  | .r _ :: _ => none
theorem RwAll.trees : ∀ {vs : List V} {ws : List W} {ds : List D}, RwAll K ρ H vs ws → allV ws = some ds → RlAll K ρ H vs ds
  | _, _, _, .nil, e => by simp [allV] at e; subst e; exact .nil
  | _, .v d :: r, ds, .cons h t, e => by
    simp only [allV] at e
    cases q : allV r with
    | none => rw [q] at e; cases e
    | some es =>
      rw [q] at e
      cases e
      cases h with
      | v h => exact .cons h (RwAll.trees t q)
  | _, .r l :: r, ds, .cons h t, e => by simp [allV] at e
/-- an address more that is being filled -/
def Rho.hide (ρ : Rho) (a : Addr) : Rho := ⟨ρ.lc, a :: ρ.hid⟩
theorem LsR.hide {p : Addr} {o : HO} (hp : H p = none) {a : Addr} {xs : List V} (h : LsR K ρ H a xs) : LsR K (ρ.hide p) (upd H p o) a xs := by
  have ne : ∀ u, H a = some u → ¬ ρ.mut a → ¬ (ρ.hide p).mut a := fun u e n z => by
    rcases z with z | z
    · exact n (.inl z)
    · rcases List.mem_cons.mp z with z | z
      · exact ne_of_none e hp z
      · exact n (.inr z)
  rcases h with ⟨h | ⟨o, h⟩, n⟩ | h
  · exact .inl ⟨.inl (by rw [upd_ne (ne_of_none h hp)]; exact h), ne _ h n⟩
  · exact .inl ⟨.inr ⟨o, by rw [upd_ne (ne_of_none h hp)]; exact h⟩, ne _ h n⟩
  · exact .inr h
mutual
theorem Rl.hide {p : Addr} {o : HO} (hp : H p = none) : ∀ {v : V} {d : D}, Rl K ρ H v d → Rl K (ρ.hide p) (upd H p o) v d
  | _, _, .non => .non
  | _, _, .bl b => .bl b
  | _, _, .int i => .int i
  | _, _, .str x => .str x
  | _, _, .ty n => .ty n
  | _, _, .tup h n r => .tup (h.up hp) (fun z => by
      rcases z with z | z
      · exact n (.inl z)
      · rcases List.mem_cons.mp z with z | z
        · exact h.ne hp z
        · exact n (.inr z)) (RlAll.hide hp r)
  | _, _, .lst h r => .lst (h.hide hp) (RlAll.hide hp r)
  | _, _, .dct0 h n => .dct0 (by rw [upd_ne (ne_of_none h hp)]; exact h) (fun z => by
      rcases z with z | z
      · exact n (.inl z)
      · rcases List.mem_cons.mp z with z | z
        · exact ne_of_none h hp z
        · exact n (.inr z))
  | _, _, .cod h n => .cod (by rw [upd_ne (ne_of_none h hp)]; exact h) (fun z => by
      rcases z with z | z
      · exact n (.inl z)
      · rcases List.mem_cons.mp z with z | z
        · exact ne_of_none h hp z
        · exact n (.inr z))
  | _, _, .kd h n o m r => .kd (by rw [upd_ne (ne_of_none h hp)]; exact h) (fun z => by
      rcases z with z | z
      · exact n (.inl z)
      · rcases List.mem_cons.mp z with z | z
        · exact ne_of_none h hp z
        · exact n (.inr z)) o m (RlAll.hide hp r)
  | _, _, .ld h n o m r => .ld (by rw [upd_ne (ne_of_none h hp)]; exact h) (fun z => by
      rcases z with z | z
      · exact n (.inl z)
      · rcases List.mem_cons.mp z with z | z
        · exact ne_of_none h hp z
        · exact n (.inr z)) o m (RlAll.hide hp r)
  | _, _, .adr a => .adr a
  | _, _, .tupx h n e r => .tupx (by rw [upd_ne (ne_of_none h hp)]; exact h) (fun z => by
      rcases z with z | z
      · exact n (.inl z)
      · rcases List.mem_cons.mp z with z | z
        · exact ne_of_none h hp z
        · exact n (.inr z)) e (RlAll.hide hp r)
  | _, _, .exc0 h n m => .exc0 (by rw [upd_ne (ne_of_none h hp)]; exact h) (fun z => by
      rcases z with z | z
      · exact n (.inl z)
      · rcases List.mem_cons.mp z with z | z
        · exact ne_of_none h hp z
        · exact n (.inr z)) m
  | _, _, .excd h n m k k' e r => .excd (by rw [upd_ne (ne_of_none h hp)]; exact h) (fun z => by
      rcases z with z | z
      · exact n (.inl z)
      · rcases List.mem_cons.mp z with z | z
        · exact ne_of_none h hp z
        · exact n (.inr z)) m (by rw [upd_ne (ne_of_none k hp)]; exact k) (fun z => by
      rcases z with z | z
      · exact k' (.inl z)
      · rcases List.mem_cons.mp z with z | z
        · exact ne_of_none k hp z
        · exact k' (.inr z)) e (RlAll.hide hp r)
theorem RlAll.hide {p : Addr} {o : HO} (hp : H p = none) : ∀ {vs : List V} {ds : List D}, RlAll K ρ H vs ds → RlAll K (ρ.hide p) (upd H p o) vs ds
  | _, _, .nil => .nil
  | _, _, .cons r t => .cons (Rl.hide hp r) (RlAll.hide hp t)
end
theorem Rw.hide {p : Addr} {o : HO} (hp : H p = none) {v : V} {w : W} : Rw K ρ H v w → Rw K (ρ.hide p) (upd H p o) v w
  | .v q => .v (q.hide hp)
  | .r h e => .r h e
/-- .. it is filled on, or let go: what is related doesn't lean on it -/
theorem LsR.unhide {p : Addr} (h' : ∀ b, b ≠ p → H' b = H b) {a : Addr} {xs : List V} (h : LsR K (ρ.hide p) H a xs) : LsR K ρ H' a xs ∧ (¬ a = p ∨ ∃ o, K.lookup a = some o) := by
  rcases h with ⟨h, n⟩ | h
  · have ne : a ≠ p := fun z => n (.inr (z ▸ List.mem_cons_self))
    refine ⟨.inl ⟨?_, fun z => n (z.imp id (List.mem_cons_of_mem _))⟩, .inl ne⟩
    rcases h with h | ⟨o, h⟩
    · exact .inl (by rw [h' a ne]; exact h)
    · exact .inr ⟨o, by rw [h' a ne]; exact h⟩
  · exact ⟨.inr h, .inr (let ⟨o, _, _, e, _⟩ := h; ⟨o, e⟩)⟩
mutual
theorem Rl.unhide {p : Addr} (h' : ∀ b, b ≠ p → H' b = H b) : ∀ {v : V} {d : D}, Rl K (ρ.hide p) H v d → Rl K ρ H' v d
  | _, _, .non => .non
  | _, _, .bl b => .bl b
  | _, _, .int i => .int i
  | _, _, .str x => .str x
  | _, _, .ty n => .ty n
  | _, _, .tup h n r => .tup (h.to (h' _ fun z => n (.inr (z ▸ List.mem_cons_self)))) (fun z => n (z.imp id (List.mem_cons_of_mem _))) (RlAll.unhide h' r)
  | _, _, .lst h r => .lst (h.unhide h').1 (RlAll.unhide h' r)
  | _, _, .dct0 h n => .dct0 (by rw [h' _ fun z => n (.inr (z ▸ List.mem_cons_self))]; exact h) (fun z => n (z.imp id (List.mem_cons_of_mem _)))
  | _, _, .cod h n => .cod (by rw [h' _ fun z => n (.inr (z ▸ List.mem_cons_self))]; exact h) (fun z => n (z.imp id (List.mem_cons_of_mem _)))
  | _, _, .kd h n o m r => .kd (by rw [h' _ fun z => n (.inr (z ▸ List.mem_cons_self))]; exact h) (fun z => n (z.imp id (List.mem_cons_of_mem _))) o m (RlAll.unhide h' r)
  | _, _, .ld h n o m r => .ld (by rw [h' _ fun z => n (.inr (z ▸ List.mem_cons_self))]; exact h) (fun z => n (z.imp id (List.mem_cons_of_mem _))) o m (RlAll.unhide h' r)
  | _, _, .adr a => .adr a
  | _, _, .tupx h n e r => .tupx (by rw [h' _ fun z => n (.inr (z ▸ List.mem_cons_self))]; exact h) (fun z => n (z.imp id (List.mem_cons_of_mem _))) e (RlAll.unhide h' r)
  | _, _, .exc0 h n m => .exc0 (by rw [h' _ fun z => n (.inr (z ▸ List.mem_cons_self))]; exact h) (fun z => n (z.imp id (List.mem_cons_of_mem _))) m
  | _, _, .excd h n m k k' e r => .excd (by rw [h' _ fun z => n (.inr (z ▸ List.mem_cons_self))]; exact h) (fun z => n (z.imp id (List.mem_cons_of_mem _))) m (by rw [h' _ fun z => k' (.inr (z ▸ List.mem_cons_self))]; exact k) (fun z => k' (z.imp id (List.mem_cons_of_mem _))) e (RlAll.unhide h' r)
theorem RlAll.unhide {p : Addr} (h' : ∀ b, b ≠ p → H' b = H b) : ∀ {vs : List V} {ds : List D}, RlAll K (ρ.hide p) H vs ds → RlAll K ρ H' vs ds
  | _, _, .nil => .nil
  | _, _, .cons r t => .cons (Rl.unhide h' r) (RlAll.unhide h' t)
end
theorem Rw.unhide {p : Addr} (h' : ∀ b, b ≠ p → H' b = H b) {v : V} {w : W} : Rw K (ρ.hide p) H v w → Rw K ρ H' v w
  | .v q => .v (q.unhide h')
  | .r h e => .r h e
mutual
theorem Rl.refill {p : Addr} (h' : ∀ b, b ≠ p → H' b = H b) : ∀ {v : V} {d : D}, Rl K (ρ.hide p) H v d → Rl K (ρ.hide p) H' v d
  | _, _, .non => .non
  | _, _, .bl b => .bl b
  | _, _, .int i => .int i
  | _, _, .str x => .str x
  | _, _, .ty n => .ty n
  | _, _, .tup h n r => .tup (h.to (h' _ fun z => n (.inr (z ▸ List.mem_cons_self)))) n (RlAll.refill h' r)
  | _, _, .lst h r => .lst (by
      rcases h with ⟨h, n⟩ | h
      · refine .inl ⟨?_, n⟩
        rcases h with h | ⟨o, h⟩
        · exact .inl (by rw [h' _ fun z => n (.inr (z ▸ List.mem_cons_self))]; exact h)
        · exact .inr ⟨o, by rw [h' _ fun z => n (.inr (z ▸ List.mem_cons_self))]; exact h⟩
      · exact .inr h) (RlAll.refill h' r)
  | _, _, .dct0 h n => .dct0 (by rw [h' _ fun z => n (.inr (z ▸ List.mem_cons_self))]; exact h) n
  | _, _, .cod h n => .cod (by rw [h' _ fun z => n (.inr (z ▸ List.mem_cons_self))]; exact h) n
  | _, _, .kd h n o m r => .kd (by rw [h' _ fun z => n (.inr (z ▸ List.mem_cons_self))]; exact h) n o m (RlAll.refill h' r)
  | _, _, .ld h n o m r => .ld (by rw [h' _ fun z => n (.inr (z ▸ List.mem_cons_self))]; exact h) n o m (RlAll.refill h' r)
  | _, _, .adr a => .adr a
  | _, _, .tupx h n e r => .tupx (by rw [h' _ fun z => n (.inr (z ▸ List.mem_cons_self))]; exact h) n e (RlAll.refill h' r)
  | _, _, .exc0 h n m => .exc0 (by rw [h' _ fun z => n (.inr (z ▸ List.mem_cons_self))]; exact h) n m
  | _, _, .excd h n m k k' e r => .excd (by rw [h' _ fun z => n (.inr (z ▸ List.mem_cons_self))]; exact h) n m (by rw [h' _ fun z => k' (.inr (z ▸ List.mem_cons_self))]; exact k) k' e (RlAll.refill h' r)
theorem RlAll.refill {p : Addr} (h' : ∀ b, b ≠ p → H' b = H b) : ∀ {vs : List V} {ds : List D}, RlAll K (ρ.hide p) H vs ds → RlAll K (ρ.hide p) H' vs ds
  | _, _, .nil => .nil
  | _, _, .cons r t => .cons (Rl.refill h' r) (RlAll.refill h' t)
end
theorem Rw.refill {p : Addr} (h' : ∀ b, b ≠ p → H' b = H b) {v : V} {w : W} : Rw K (ρ.hide p) H v w → Rw K (ρ.hide p) H' v w
  | .v q => .v (q.refill h')
  | .r h e => .r h e
theorem RlAll.length : ∀ {vs : List V} {ds : List D}, RlAll K ρ H vs ds → vs.length = ds.length
  | _, _, .nil => rfl
  | _, _, .cons _ t => by simp [RlAll.length t]
theorem RlAll.append : ∀ {vs vs' : List V} {ds ds' : List D}, RlAll K ρ H vs ds → RlAll K ρ H vs' ds' → RlAll K ρ H (vs ++ vs') (ds ++ ds')
  | _, _, _, _, .nil, s => s
  | _, _, _, _, .cons r t, s => .cons r (RlAll.append t s)
theorem RlAll.get : ∀ {vs : List V} {ds : List D} {i : Nat} {v : V}, RlAll K ρ H vs ds → vs[i]? = some v → ∃ d, ds[i]? = some d ∧ Rl K ρ H v d
  | _, _, _, _, .nil, e => by simp at e
  | _, _, 0, _, .cons r _, e => by simp at e; subst e; exact ⟨_, rfl, r⟩
  | _, _, i + 1, v, .cons _ t, e => by
    obtain ⟨d, h1, h2⟩ := RlAll.get (i := i) (v := v) t (by simpa using e)
    exact ⟨d, by simpa using h1, h2⟩
theorem RlAll.getD : ∀ {vs : List V} {ds : List D} {i : Nat} {d : D}, RlAll K ρ H vs ds → ds[i]? = some d → ∃ v, vs[i]? = some v ∧ Rl K ρ H v d
  | _, _, _, _, .nil, e => by simp at e
  | _, _, 0, _, .cons r _, e => by simp at e; subst e; exact ⟨_, rfl, r⟩
  | _, _, i + 1, v, .cons _ t, e => by
    obtain ⟨d, h1, h2⟩ := RlAll.getD (i := i) (d := v) t (by simpa using e)
    exact ⟨d, by simpa using h1, h2⟩
theorem RlAll.take (n : Nat) : ∀ {vs : List V} {ds : List D}, RlAll K ρ H vs ds → RlAll K ρ H (vs.take n) (ds.take n) := by
  induction n with
  | zero => intro vs ds _; exact .nil
  | succ n ih =>
    intro vs ds h
    cases h with
    | nil => exact .nil
    | cons r t => exact .cons r (ih t)
theorem RlAll.drop (n : Nat) : ∀ {vs : List V} {ds : List D}, RlAll K ρ H vs ds → RlAll K ρ H (vs.drop n) (ds.drop n) := by
  induction n with
  | zero => intro vs ds h; exact h
  | succ n ih =>
    intro vs ds h
    cases h with
    | nil => exact .nil
    | cons r t => exact ih t
theorem RlAll.set {v : V} {d : D} (r : Rl K ρ H v d) : ∀ {vs : List V} {ds : List D} (i : Nat), RlAll K ρ H vs ds → RlAll K ρ H (vs.set i v) (ds.set i d)
  | _, _, _, .nil => .nil
  | _, _, 0, .cons _ t => .cons r t
  | _, _, i + 1, .cons q t => .cons q (RlAll.set r i t)
theorem RlAll.flat (n : Nat) {vs : List V} {ds : List D} (h : RlAll K ρ H vs ds) : RlAll K ρ H (List.replicate n vs).flatten (List.replicate n ds).flatten := by
  induction n with
  | zero => exact .nil
  | succ n ih => simpa [List.replicate_succ] using h.append ih
end
/-! ### the store -/
section
variable (K : KW) (ρ : Rho) (H : Hp)
inductive RlD : List (Key × V) → List (Str × W) → Prop
  | nil : RlD [] []
  | cons {k : Str} {v : V} {d : W} {kvs : List (Key × V)} {ds : List (Str × W)} : Rw K ρ H v d → RlD kvs ds → RlD ((.inr k, v) :: kvs) ((k, d) :: ds)
inductive RlI : List (Str × V) → List (Str × W) → Prop
  | nil : RlI [] []
  | cons {k : Str} {v : V} {d : W} {kvs : List (Str × V)} {ds : List (Str × W)} : Rw K ρ H v d → RlI kvs ds → RlI ((k, v) :: kvs) ((k, d) :: ds)
inductive KdR : List (NestedKey × Addr × Value) → List (D × D) → Prop
  | nil : KdR [] []
  | cons {b : Addr} {u : Value} {v : V} {k d : D} {xs : List (NestedKey × Addr × Value)} {ds : List (D × D)} : Rl K ρ H (.ref b) k → RelV v u → Rl K ρ H v d → KdR xs ds → KdR ((k.nk, b, u) :: xs) ((k, d) :: ds)
inductive LdR : List (Leaf × Value) → List (D × D) → Prop
  | nil : LdR [] []
  | cons {l : Leaf} {u : Value} {v : V} {k d : D} {xs : List (Leaf × Value)} {ds : List (D × D)} : k.lf = some l → RelV v u → Rl K ρ H v d → LdR xs ds → LdR ((l, u) :: xs) ((k, d) :: ds)
/-- the set at a, its members as they came -/
def SetO (w : World) (a : Addr) (L0 : NS.Mem) : HO := .ext fun h => ∃ L es ep t, L.Perm L0 ∧ NS.SOb w h a L es ep t
def ObR (a : Addr) : Ob → Prop
  | .dead => False
  | .tab p q => a = (He.cT K.K p).2 ∧ ∃ (ps : Array Value) (cs : List Addr), H a = some (.tbl ps) ∧ TriplesOk ps.toList ∧ (∀ (pos : Pos) (cv : Value), codeAmong pos ps.toList = some cv → ∃ c ∈ cs, cv = .ref c) ∧ RlAll K ρ H (cs.map V.ref) (cs.map fun _ => D.cod q)
  | .set ds => ∃ L0 : NS.Mem, H a = some (SetO K.w a L0) ∧ RlAll K ρ H (L0.map fun p => V.ref p.1) ds ∧ L0.map (·.2) = ds.map D.nk ∧ ∀ d ∈ ds, d.hb = true ∧ d.nk.depth ≤ 8
  | .kd ds => ∃ xs, H a = some (.ext (KdAt K.w a xs)) ∧ KdR K ρ H xs ds ∧ (∀ p ∈ ds, p.1.hb = true ∧ p.1.nk.depth ≤ 8) ∧ (ds.map (·.1.nk)).Nodup ∧ (a == sysModules) = false
  | .ld ds => ∃ xs, H a = some (.ext (LdAt K.w a xs)) ∧ LdR K ρ H xs ds ∧ (a == sysModules) = false
  | .lst ds => ∃ xs, H a = some (.lst xs) ∧ RlAll K ρ H xs ds
  | .dct ds => ∃ kvs, H a = some (.dK kvs) ∧ RlD K ρ H kvs ds
  | .pr ws => ∃ xs, H a = some (.tup xs) ∧ RwAll K ρ H xs ws
  | .ins n ds => ∃ C dx kvs, H a = some (.ins C dx kvs) ∧ K.mg n = some (.ref C) ∧ RlI K ρ H kvs ds
def W.under (n : Nat) : W → Prop
  | .v _ => True
  | .r l => l < n
def Ob.under (n : Nat) : Ob → Prop
  | .dct ds => ∀ p ∈ ds, W.under n p.2
  | .ins _ ds => ∀ p ∈ ds, W.under n p.2
  | .pr ws => ∀ w ∈ ws, W.under n w
  | _ => True
structure RelSt (st : Sto) : Prop where
  len : ρ.lc.length = st.length
  inj : ∀ (l l' : Nat) (a : Addr), ρ.lc[l]? = some (some a) → ρ.lc[l']? = some (some a) → l = l'
  obj : ∀ (l : Nat) (ob : Ob), st[l]? = some ob → (ob = .dead ∧ ρ.lc[l]? = some none) ∨ ∃ a, ρ.lc[l]? = some (some a) ∧ ObR K ρ H a ob
  hidt : ∀ a, a ∈ ρ.hid → ∃ o, H a = some o
  apart : ∀ a, some a ∈ ρ.lc → a ∉ ρ.hid
  ord : ∀ (l : Nat) (ob : Ob), st[l]? = some ob → ob.under l
structure RelEnv (σ : St) (env : Env) : Prop where
  len : σ.length = env.length
  get : ∀ (i : Nat) (d : W), env[i]? = some (some d) → ∃ v, σ[i]? = some (some v) ∧ Rw K ρ H v d
end
section
variable {K : KW} {ρ ρ' : Rho} {H H' : Hp} {st st' : Sto} {σ : St} {env : Env}
theorem RelSt.there (r : RelSt K ρ H st) {a : Addr} (h : some a ∈ ρ.lc) : ∃ o, H a = some o := by
  obtain ⟨l, hl, e⟩ := List.getElem_of_mem h
  have e' : ρ.lc[l]? = some (some a) := by rw [List.getElem?_eq_getElem hl, e]
  have hl' : l < st.length := by rw [← r.len]; exact hl
  rcases r.obj l st[l] (List.getElem?_eq_getElem hl') with ⟨_, q⟩ | ⟨b, q, o⟩
  · rw [e'] at q; cases q
  · rw [e'] at q; cases q
    cases hob : st[l] with
    | dead => rw [hob] at o; exact o.elim
    | lst ds => rw [hob] at o; obtain ⟨xs, h, _⟩ := o; exact ⟨_, h⟩
    | dct ds => rw [hob] at o; obtain ⟨xs, h, _⟩ := o; exact ⟨_, h⟩
    | kd ds => rw [hob] at o; obtain ⟨xs, h, _⟩ := o; exact ⟨_, h⟩
    | ld ds => rw [hob] at o; obtain ⟨xs, h, _⟩ := o; exact ⟨_, h⟩
    | set ds => rw [hob] at o; obtain ⟨xs, h, _⟩ := o; exact ⟨_, h⟩
    | tab P q => rw [hob] at o; obtain ⟨_, xs, _, h, _⟩ := o; exact ⟨_, h⟩
    | ins n ds => rw [hob] at o; obtain ⟨_, _, xs, h, _⟩ := o; exact ⟨_, h⟩
    | pr ws => rw [hob] at o; obtain ⟨xs, h, _⟩ := o; exact ⟨_, h⟩
theorem RelSt.fresh (r : RelSt K ρ H st) {a : Addr} (h : H a = none) : ¬ ρ.mut a := fun q => by
  rcases q with q | q
  · obtain ⟨o, e⟩ := r.there q
    rw [h] at e; cases e
  · obtain ⟨o, e⟩ := r.hidt a q
    rw [h] at e; cases e
theorem RlD.mono {L : List (Key × V)} {ds : List (Str × W)} (f : ∀ v d, Rw K ρ H v d → Rw K ρ' H' v d) (h : RlD K ρ H L ds) : RlD K ρ' H' L ds := by
  induction h with
  | nil => exact .nil
  | cons r _ ih => exact .cons (f _ _ r) ih
theorem RlI.mono {L : List (Str × V)} {ds : List (Str × W)} (f : ∀ v d, Rw K ρ H v d → Rw K ρ' H' v d) (h : RlI K ρ H L ds) : RlI K ρ' H' L ds := by
  induction h with
  | nil => exact .nil
  | cons r _ ih => exact .cons (f _ _ r) ih
theorem RwAll.mono {L : List V} {ds : List W} (f : ∀ v d, Rw K ρ H v d → Rw K ρ' H' v d) (h : RwAll K ρ H L ds) : RwAll K ρ' H' L ds := by
  induction h with
  | nil => exact .nil
  | cons r _ ih => exact .cons (f _ _ r) ih
theorem same_upd {a : Addr} {o : HO} (h : H a = none) : Same H (upd H a o) := fun b u e => by rw [upd_ne (ne_of_none e h)]; exact e
theorem Rl.same (s : Same H H') {v : V} {d : D} (r : Rl K ρ H v d) : Rl K ρ H' v d := r.grow (.same s)
theorem Rw.same (s : Same H H') {v : V} {d : W} (r : Rw K ρ H v d) : Rw K ρ H' v d := r.grow (.same s)
theorem RwAll.same (s : Same H H') {v : List V} {d : List W} (r : RwAll K ρ H v d) : RwAll K ρ H' v d := r.grow (.same s)
theorem RlAll.same (s : Same H H') {v : List V} {d : List D} (r : RlAll K ρ H v d) : RlAll K ρ H' v d := r.grow (.same s)
theorem KdR.mono {L : List (NestedKey × Addr × Value)} {ds : List (D × D)} (f : ∀ v d, Rl K ρ H v d → Rl K ρ' H' v d) (h : KdR K ρ H L ds) : KdR K ρ' H' L ds := by
  induction h with
  | nil => exact .nil
  | cons r e q _ ih => exact .cons (f _ _ r) e (f _ _ q) ih
theorem LdR.mono {L : List (Leaf × Value)} {ds : List (D × D)} (f : ∀ v d, Rl K ρ H v d → Rl K ρ' H' v d) (h : LdR K ρ H L ds) : LdR K ρ' H' L ds := by
  induction h with
  | nil => exact .nil
  | cons e r q _ ih => exact .cons e r (f _ _ q) ih
theorem ObR.mono {a : Addr} {ob : Ob} (e : ∀ o, H a = some o → H' a = some o) (f : ∀ v d, Rw K ρ H v d → Rw K ρ' H' v d) (fa : ∀ v d, RlAll K ρ H v d → RlAll K ρ' H' v d) (o : ObR K ρ H a ob) : ObR K ρ' H' a ob := by
  cases ob with
  | dead => exact o
  | lst ds => obtain ⟨xs, h1, h2⟩ := o; exact ⟨xs, e _ h1, fa _ _ h2⟩
  | dct ds => obtain ⟨xs, h1, h2⟩ := o; exact ⟨xs, e _ h1, h2.mono f⟩
  | ins n ds => obtain ⟨C, dx, xs, h1, h3, h2⟩ := o; exact ⟨C, dx, xs, e _ h1, h3, h2.mono f⟩
  | pr ws => obtain ⟨xs, h1, h2⟩ := o; exact ⟨xs, e _ h1, h2.mono f⟩
  | set ds => obtain ⟨xs, h1, h2, h3⟩ := o; exact ⟨xs, e _ h1, fa _ _ h2, h3⟩
  | tab P q => obtain ⟨z, xs, cs, h1, h2, h3, h4⟩ := o; exact ⟨z, xs, cs, e _ h1, h2, h3, fa _ _ h4⟩
  | ld ds =>
    obtain ⟨xs, h1, h2, h3⟩ := o
    exact ⟨xs, e _ h1, h2.mono (fun v d r => by cases fa [v] [d] (.cons r .nil) with | cons r _ => exact r), h3⟩
  | kd ds =>
    obtain ⟨xs, h1, h2, h3⟩ := o
    exact ⟨xs, e _ h1, h2.mono (fun v d r => by cases fa [v] [d] (.cons r .nil) with | cons r _ => exact r), h3⟩
theorem RelSt.same (r : RelSt K ρ H st) (s : Same H H') : RelSt K ρ H' st := by
  refine ⟨r.len, r.inj, fun l ob e => ?_, fun a h => let ⟨o, q⟩ := r.hidt a h; ⟨o, s _ _ q⟩, r.apart, r.ord⟩
  rcases r.obj l ob e with h | ⟨a, h, o⟩
  · exact .inl h
  · exact .inr ⟨a, h, o.mono (fun _ q => s _ _ q) (fun _ _ q => q.same s) fun _ _ q => q.same s⟩
theorem RelSt.hide {p : Addr} {o : HO} (hp : H p = none) (r : RelSt K ρ H st) : RelSt K (ρ.hide p) (upd H p o) st := by
  refine ⟨r.len, r.inj, fun l ob e => ?_, fun a h => ?_, fun a h z => (List.mem_cons.mp z).elim (fun e => r.fresh hp (.inl (e ▸ h))) (r.apart a h), r.ord⟩
  · rcases r.obj l ob e with h | ⟨a, h, ob'⟩
    · exact .inl h
    · exact .inr ⟨a, h, ob'.mono (fun _ q => by rw [upd_ne (ne_of_none q hp)]; exact q) (fun _ _ q => q.hide hp) fun _ _ q => q.hide hp⟩
  · rcases List.mem_cons.mp h with rfl | h
    · exact ⟨_, upd_same⟩
    · obtain ⟨u, q⟩ := r.hidt a h
      exact ⟨u, by rw [upd_ne (ne_of_none q hp)]; exact q⟩
theorem RelSt.refill {p : Addr} (h' : ∀ b, b ≠ p → H' b = H b) (hn : some p ∉ ρ.lc) (hq : ∃ o, H' p = some o) (r : RelSt K (ρ.hide p) H st) : RelSt K (ρ.hide p) H' st := by
  refine ⟨r.len, r.inj, fun l ob e => ?_, fun a h => ?_, r.apart, r.ord⟩
  · rcases r.obj l ob e with h | ⟨a, h, ob'⟩
    · exact .inl h
    · have ne : a ≠ p := fun z => hn (z ▸ List.mem_of_getElem? h)
      exact .inr ⟨a, h, ob'.mono (fun _ q => by rw [h' _ ne]; exact q) (fun _ _ q => q.refill h') fun _ _ q => q.refill h'⟩
  · by_cases e : a = p
    · rw [e]; exact hq
    · obtain ⟨u, q⟩ := r.hidt a h
      exact ⟨u, by rw [h' _ e]; exact q⟩
theorem RelSt.unhide {p : Addr} (h' : ∀ b, b ≠ p → H' b = H b) (hn : some p ∉ ρ.lc) (hq : p ∉ ρ.hid ∨ ∃ o, H' p = some o) (r : RelSt K (ρ.hide p) H st) : RelSt K ρ H' st := by
  refine ⟨r.len, r.inj, fun l ob e => ?_, fun a h => ?_, fun a h z => r.apart a h (List.mem_cons_of_mem _ z), r.ord⟩
  · rcases r.obj l ob e with h | ⟨a, h, ob'⟩
    · exact .inl h
    · have ne : a ≠ p := fun z => hn (z ▸ List.mem_of_getElem? h)
      exact .inr ⟨a, h, ob'.mono (fun _ q => by rw [h' _ ne]; exact q) (fun _ _ q => q.unhide h') fun _ _ q => q.unhide h'⟩
  · by_cases e : a = p
    · rcases hq with hq | hq
      · exact absurd (e ▸ h) hq
      · rw [e]; exact hq
    · obtain ⟨u, q⟩ := r.hidt a (List.mem_cons_of_mem _ h)
      exact ⟨u, by rw [h' _ e]; exact q⟩
/-- the objects from n on given up -/
def Rho.cut (ρ : Rho) (n : Nat) : Rho := ⟨ρ.lc.take n, ρ.hid⟩
theorem cut_mut {n : Nat} {a : Addr} (h : (ρ.cut n).mut a) : ρ.mut a := h.imp (fun z => List.mem_of_mem_take z) id
theorem cut_get {n l : Nat} {a : Addr} (h : (ρ.cut n).lc[l]? = some (some a)) : ρ.lc[l]? = some (some a) ∧ l < n := by
  simp only [Rho.cut, List.getElem?_take] at h
  split at h
  · exact ⟨h, by assumption⟩
  · cases h
mutual
theorem Rl.cut (n : Nat) : ∀ {v : V} {d : D}, Rl K ρ H v d → Rl K (ρ.cut n) H v d
  | _, _, .non => .non
  | _, _, .bl b => .bl b
  | _, _, .int i => .int i
  | _, _, .str x => .str x
  | _, _, .ty n => .ty n
  | _, _, .tup h m r => .tup h (fun z => m (cut_mut z)) (RlAll.cut n r)
  | _, _, .lst h r => .lst (h.imp (fun z => ⟨z.1, fun y => z.2 (cut_mut y)⟩) id) (RlAll.cut n r)
  | _, _, .dct0 h m => .dct0 h (fun z => m (cut_mut z))
  | _, _, .cod h m => .cod h (fun z => m (cut_mut z))
  | _, _, .kd h m o b r => .kd h (fun z => m (cut_mut z)) o b (RlAll.cut n r)
  | _, _, .ld h m o b r => .ld h (fun z => m (cut_mut z)) o b (RlAll.cut n r)
  | _, _, .adr a => .adr a
  | _, _, .tupx h m e r => .tupx h (fun z => m (cut_mut z)) e (RlAll.cut n r)
  | _, _, .exc0 h m e => .exc0 h (fun z => m (cut_mut z)) e
  | _, _, .excd h m e k k' f r => .excd h (fun z => m (cut_mut z)) e k (fun z => k' (cut_mut z)) f (RlAll.cut n r)
theorem RlAll.cut (n : Nat) : ∀ {vs : List V} {ds : List D}, RlAll K ρ H vs ds → RlAll K (ρ.cut n) H vs ds
  | _, _, .nil => .nil
  | _, _, .cons r t => .cons (Rl.cut n r) (RlAll.cut n t)
end
theorem Rw.cut {n : Nat} {v : V} {w : W} (u : W.under n w) : Rw K ρ H v w → Rw K (ρ.cut n) H v w
  | .v q => .v (q.cut n)
  | .r h e => .r (by simp only [Rho.cut, List.length_take]; exact Nat.lt_min.mpr ⟨u, h⟩) fun a q => e a (cut_get q).1
theorem RelSt.cut (n : Nat) (s : RelSt K ρ H st) : RelSt K (ρ.cut n) H (st.take n) := by
  refine ⟨by simp [Rho.cut, s.len], fun l l' a e1 e2 => s.inj l l' a (cut_get e1).1 (cut_get e2).1, fun l ob e => ?_, s.hidt, fun a h => s.apart a (List.mem_of_mem_take h), fun l ob e => ?_⟩
  · rw [List.getElem?_take] at e
    split at e
    · rename_i hl
      have up : ∀ x, ρ.lc[l]? = some x → (ρ.cut n).lc[l]? = some x := fun x q => by simp only [Rho.cut, List.getElem?_take]; rw [if_pos hl]; exact q
      rcases s.obj l ob e with ⟨z, q⟩ | ⟨a, q, o⟩
      · exact .inl ⟨z, up _ q⟩
      · refine .inr ⟨a, up _ q, ?_⟩
        cases ob with
        | dead => exact o
        | lst ds => obtain ⟨xs, h1, h2⟩ := o; exact ⟨xs, h1, h2.cut n⟩
        | set ds => obtain ⟨xs, h1, h2, h3⟩ := o; exact ⟨xs, h1, h2.cut n, h3⟩
        | tab P q => obtain ⟨z, xs, cs, h1, h2, h3, h4⟩ := o; exact ⟨z, xs, cs, h1, h2, h3, h4.cut n⟩
        | kd ds => obtain ⟨xs, h1, h2, h3⟩ := o; exact ⟨xs, h1, h2.mono (fun v d r => r.cut n), h3⟩
        | ld ds => obtain ⟨xs, h1, h2, h3⟩ := o; exact ⟨xs, h1, h2.mono (fun v d r => r.cut n), h3⟩
        | pr ws =>
          obtain ⟨xs, h1, h2⟩ := o
          refine ⟨xs, h1, ?_⟩
          have u : ∀ w ∈ ws, W.under n w := fun w hw => by
            have := s.ord l _ e w hw
            cases w with
            | v d => exact trivial
            | r l2 => exact Nat.lt_trans this hl
          clear h1 q e up
          induction h2 with
          | nil => exact .nil
          | cons r _ ih => exact .cons (r.cut (u _ List.mem_cons_self)) (ih fun w hw => u w (List.mem_cons_of_mem _ hw))
        | ins m ds =>
          obtain ⟨C, dx, xs, h1, h3, h2⟩ := o
          refine ⟨C, dx, xs, h1, h3, ?_⟩
          have u : ∀ p ∈ ds, W.under n p.2 := fun p hp => by
            have := s.ord l _ e p hp
            cases q2 : p.2 with
            | v d => exact trivial
            | r l2 => rw [q2] at this; exact Nat.lt_trans this hl
          clear h1 h3 q e up
          induction h2 with
          | nil => exact .nil
          | cons r _ ih => exact .cons (r.cut (u _ List.mem_cons_self)) (ih fun p hp => u p (List.mem_cons_of_mem _ hp))
        | dct ds =>
          obtain ⟨xs, h1, h2⟩ := o
          refine ⟨xs, h1, ?_⟩
          have u : ∀ p ∈ ds, W.under n p.2 := fun p hp => by
            have := s.ord l _ e p hp
            cases q2 : p.2 with
            | v d => exact trivial
            | r l2 => rw [q2] at this; exact Nat.lt_trans this hl
          clear h1 q e up
          induction h2 with
          | nil => exact .nil
          | cons r _ ih => exact .cons (r.cut (u _ List.mem_cons_self)) (ih fun p hp => u p (List.mem_cons_of_mem _ hp))
    · cases e
  · rw [List.getElem?_take] at e
    split at e
    · exact s.ord l ob e
    · cases e
theorem Grow.cut {n : Nat} (g : Grow ρ H ρ' H') (hn : ρ.lc.length ≤ n) : Grow ρ H (ρ'.cut n) H' := by
  refine ⟨by simp only [Rho.cut, List.length_take]; exact Nat.le_min.mpr ⟨hn, g.len⟩, g.hid, fun l a h e => g.ref l a h (cut_get e).1, fun a o e h => ?_⟩
  obtain ⟨h1, h2⟩ := g.obj a o e h
  exact ⟨h1, fun z => h2 (List.mem_of_mem_take z)⟩
theorem RelEnv.grow (g : Grow ρ H ρ' H') (r : RelEnv K ρ H σ env) : RelEnv K ρ' H' σ env :=
  ⟨r.len, fun i d e => let ⟨v, h1, h2⟩ := r.get i d e; ⟨v, h1, h2.grow g⟩⟩
theorem RelEnv.hide {p : Addr} {o : HO} (hp : H p = none) (r : RelEnv K ρ H σ env) : RelEnv K (ρ.hide p) (upd H p o) σ env :=
  ⟨r.len, fun i d e => let ⟨v, h1, h2⟩ := r.get i d e; ⟨v, h1, h2.hide hp⟩⟩
theorem RelEnv.set (r : RelEnv K ρ H σ env) {v : V} {d : W} (h : Rw K ρ H v d) (i : Nat) : RelEnv K ρ H (σ.set i (some v)) (env.set i (some d)) := by
  refine ⟨by simp [r.len], fun j e q => ?_⟩
  by_cases hj : i = j
  · subst hj
    by_cases hl : i < env.length
    · rw [List.getElem?_set_self hl] at q
      cases q
      exact ⟨v, by rw [List.getElem?_set_self (by rw [r.len]; exact hl)], h⟩
    · rw [List.getElem?_eq_none (by simp; omega)] at q; cases q
  · rw [List.getElem?_set_ne hj] at q ⊢
    exact r.get j e q
theorem RelEnv.wipe1 (r : RelEnv K ρ H σ env) (i : Nat) : RelEnv K ρ H (σ.set i none) (env.set i none) := by
  refine ⟨by simp [r.len], fun j e q => ?_⟩
  by_cases hj : i = j
  · subst hj
    by_cases hl : i < env.length
    · rw [List.getElem?_set_self hl] at q; cases q
    · rw [List.getElem?_eq_none (by simp; omega)] at q; cases q
  · rw [List.getElem?_set_ne hj] at q ⊢
    exact r.get j e q
end
/-! ### what is wanted behind a result -/
def XRl (K : KW) (_ : Nat → Value) (ρ : Rho) (H : Hp) (cv : Value) (od : Option Addr) (x : Xc) : Prop :=
  K.mg x.cls = some cv ∧ match od with
    | none => x.fs = []
    | some d => ∃ vs : List (Str × V), H d = some (.xd vs) ∧ ¬ ρ.mut d ∧ vs.map (·.1) = x.fs.map (·.1) ∧ RlAll K ρ H (vs.map (·.2)) (x.fs.map (·.2))
section
variable (K : KW) (ct : Nat → Value)
abbrev Rel (β α : Type) := KW → Rho → Hp → β → α → Prop
def okG {α β : Type} (rel : Rel β α) (ρ : Rho) (H : Hp) (E : XK) (Q : β → Hp → Prop) : R α → Prop
  | .ok a st' => ∀ ρ' H' b, Grow ρ H ρ' H' → RelSt K ρ' H' st' → rel K ρ' H' b a → Q b H'
  | .exc x st' => ∀ ρ' H' cv od, Grow ρ H ρ' H' → RelSt K ρ' H' st' → XRl K ct ρ' H' cv od x → E cv od H'
  | .bad => False
def At (ρ : Rho) (H : Hp) (st : Sto) (σ : St) (env : Env) : Prop := RelSt K ρ H st ∧ RelEnv K ρ H σ env
def tG {α β : Type} (rel : Rel β α) (E : St → XK) (f : Env → Sto → R α) : St → Hp → (β → Hp → Prop) → Prop :=
  fun σ H Q => ∃ ρ st env, At K ρ H st σ env ∧ okG K ct rel ρ H (E σ) Q (f env st)
end
abbrev RlB : Rel Bool Bool := fun _ _ _ b c => b = c
abbrev tE (K : KW) (ct : Nat → Value) (E : St → XK) (f : Env → Sto → R W) : TE := tG K ct Rw E f
abbrev tT (K : KW) (ct : Nat → Value) (E : St → XK) (f : Env → Sto → R Bool) : TT := tG K ct RlB E f
abbrev tA (K : KW) (ct : Nat → Value) (E : St → XK) (f : Env → Sto → R (List W)) : TA := tG K ct RwAll E f
section
variable {K : KW} {ct : Nat → Value} {α β γ δ : Type} {rel : Rel β α} {rel' : Rel δ γ} {E : St → XK} {σ : St} {ρ ρ' : Rho} {H H' : Hp} {st : Sto} {env : Env}
theorem okG.grow {Q : β → Hp → Prop} {E : XK} {r : R α} (g : Grow ρ H ρ' H') (h : okG K ct rel ρ H E Q r) : okG K ct rel ρ' H' E Q r := by
  cases r with
  | ok a st' => exact fun ρ2 H2 b g2 => h ρ2 H2 b (g.trans g2)
  | exc x st' => exact fun ρ2 H2 cv od g2 => h ρ2 H2 cv od (g.trans g2)
  | bad => exact h
theorem okG.mono {Q Q' : β → Hp → Prop} {E : XK} {r : R α} (h : okG K ct rel ρ H E Q r) (f : ∀ b H, Q b H → Q' b H) : okG K ct rel ρ H E Q' r := by
  cases r with
  | ok a st' => exact fun ρ2 H2 b g2 s r => f _ _ (h ρ2 H2 b g2 s r)
  | exc x st' => exact h
  | bad => exact h
/-- where we stand behind a first part -/
theorem okG.bind {Q : δ → Hp → Prop} {f : R α} {k : α → Sto → R γ} {E : XK} (h : okG K ct rel' ρ H E Q (f.bind k)) (he : RelEnv K ρ H σ env) :
    okG K ct rel ρ H E (fun b H1 => ∃ ρ1 st1 a, At K ρ1 H1 st1 σ env ∧ Grow ρ H ρ1 H1 ∧ rel K ρ1 H1 b a ∧ okG K ct rel' ρ1 H1 E Q (k a st1)) f := by
  cases f with
  | ok a st' => exact fun ρ1 H1 b g s r => ⟨ρ1, st', a, ⟨s, he.grow g⟩, g, r, okG.grow g h⟩
  | exc x st' => exact h
  | bad => exact h.elim
theorem tG.bind {Q : δ → Hp → Prop} {f : Env → Sto → R α} {k : α → Env → Sto → R γ} (h : tG K ct rel' E (fun env st => (f env st).bind fun a st => k a env st) σ H Q) :
    tG K ct rel E f σ H (fun b H1 => ∃ ρ1 st1 env a, At K ρ1 H1 st1 σ env ∧ rel K ρ1 H1 b a ∧ okG K ct rel' ρ1 H1 (E σ) Q (k a env st1)) := by
  obtain ⟨ρ, st, env, a, h⟩ := h
  refine ⟨ρ, st, env, a, (okG.bind (rel := rel) h a.2).mono fun b H1 ⟨ρ1, st1, x, a1, _, r, q⟩ => ⟨ρ1, st1, env, x, a1, r, q⟩⟩
end
end Jv
end
section
namespace Jv
open PySem L2 PyProof.Rows
abbrev ED := Env → Sto → R W
abbrev BD := Env → Sto → R Bool
abbrev AD := Env → Sto → R (List W)
abbrev LD := Env → Sto → R (List D)
theorem PE.of {X : Cx} {e : Expr} {t t' : TE} (h : PE X e t) (i : ∀ σ H Q, t' σ H Q → t σ H Q) : PE X e t' := ⟨fun pins s σ H Q I q => h.run pins s σ H Q I (i σ H Q q)⟩
theorem PT.of {X : Cx} {e : Expr} {t t' : TT} (h : PT X e t) (i : ∀ σ H Q, t' σ H Q → t σ H Q) : PT X e t' := ⟨fun pins s σ H Q I q => h.run pins s σ H Q I (i σ H Q q)⟩
theorem PW.of {X : Cx} {e : Expr} {t t' : TT} (h : PW X e t) (i : ∀ σ H Q, t' σ H Q → t σ H Q) : PW X e t' := ⟨fun wh pins s σ H Q I q => h.run wh pins s σ H Q I (i σ H Q q)⟩
theorem PA.of {X : Cx} {e : List Expr} {t t' : TA} (h : PA X e t) (i : ∀ σ H Q, t' σ H Q → t σ H Q) : PA X e t' := ⟨fun pos pins s σ H Q I q => h.run pos pins s σ H Q I (i σ H Q q)⟩
section
variable {K : KW} {ct : Nat → Value} {E : St → XK} {α β : Type} {rel : Rel β α} {σ : St} {H : Hp}
theorem tG.mono {f : Env → Sto → R α} {Q Q' : β → Hp → Prop} (h : tG K ct rel E f σ H Q) (i : ∀ b H, Q b H → Q' b H) : tG K ct rel E f σ H Q' := by
  obtain ⟨ρ, st, env, a, h⟩ := h
  exact ⟨ρ, st, env, a, h.mono i⟩
theorem okG.here {ρ : Rho} {st : Sto} {EE : XK} {Q : β → Hp → Prop} {a : α} {b : β} (h : okG K ct rel ρ H EE Q (.ok a st)) (s : RelSt K ρ H st) (r : rel K ρ H b a) : Q b H := h ρ H b (.refl ρ H) s r
theorem okG.up {ρ : Rho} {st : Sto} {EE : XK} {Q : β → Hp → Prop} {a : α} {b : β} {H' : Hp} (h : okG K ct rel ρ H EE Q (.ok a st)) (s : RelSt K ρ H st) (e : Same H H') (r : rel K ρ H' b a) : Q b H' := h ρ H' b (.same e) (s.same e) r
end
/-! ### names, constants -/
def eVar (i : Nat) : ED := fun env st => match env[i]? with
  | some (some d) => .ok d st
  | _ => .bad
def eCon (d : D) : ED := fun _ st => .ok (.v d) st
section
variable {X : Cx} {ct : Nat → Value} {E : St → XK}
theorem de_var (i : Nat) {x : Str} {pos : Pos} (hN : X.N[i]? = some x := by rfl) (hv : Vis X.env.scope x := by first | exact Or.inl rfl | exact Or.inr (Or.inl rfl) | exact Or.inr (Or.inr rfl)) (hd : (x == ("__debug__" : Str)) = false := by decide)
    (hcd : (x == ("__classdict__" : Str)) = false := by decide) : PE X (.Name x pos) (tE X.kw ct E (eVar i)) := PE.of (pe_var hN hv hd hcd) fun σ H Q ⟨ρ, st, env, a, h⟩ => by
  unfold eVar at h
  split at h
  · rename_i d e
    obtain ⟨v, e1, r⟩ := a.2.get i d e
    exact ⟨v, e1, h.here a.1 r⟩
  · exact h.elim
theorem de_con {e : Expr} {v : V} {d : D} (h : PE X e (tC v)) (r : ∀ ρ H, Rl X.kw ρ H v d) : PE X e (tE X.kw ct E (eCon d)) := PE.of h fun σ H Q ⟨ρ, st, env, a, h⟩ => h.here a.1 (.v (r ρ H))
theorem de_int {i j pos} : PE X (.Constant (.int i) j pos) (tE X.kw ct E (eCon (.int i))) := de_con pe_int fun _ _ => .int i
theorem de_bl {b j pos} : PE X (.Constant (.bool b) j pos) (tE X.kw ct E (eCon (.bl b))) := de_con pe_bl fun _ _ => .bl b
theorem de_non {j pos} : PE X (.Constant .none j pos) (tE X.kw ct E (eCon .non)) := de_con pe_non fun _ _ => .non
theorem de_str {x j pos} : PE X (.Constant (.str x) j pos) (tE X.kw ct E (eCon (.str x))) := de_con pe_str fun _ _ => .str x
theorem de_globS {x : Str} {y : Str} {t : Tok} {pos : Pos} (hg : Gl X x) (hm : X.mg x = some (.str y t)) (hd : (x == ("__debug__" : Str)) = false := by decide) : PE X (.Name x pos) (tE X.kw ct E (eCon (.str y))) :=
  de_con (pe_glob hg hm (v := .str y) ⟨t, rfl⟩ hd) fun _ _ => .str y
theorem de_globI {x : Str} {y : Int} {t : Tok} {pos : Pos} (hg : Gl X x) (hm : X.mg x = some (.int y t)) (hd : (x == ("__debug__" : Str)) = false := by decide) : PE X (.Name x pos) (tE X.kw ct E (eCon (.int y))) :=
  de_con (pe_glob hg hm (v := .int y) ⟨t, rfl⟩ hd) fun _ _ => .int y
theorem de_ty {x : Str} {n : String} {pos : Pos} (hg : Gl X x) (hm : X.mg x = none) (hv : bootBuiltins x = some (.type n)) (hn : x ≠ "__name__" := by decide) (hd : (x == ("__debug__" : Str)) = false := by decide) : PE X (.Name x pos) (tE X.kw ct E (eCon (.ty n))) :=
  de_con (pe_bltn hg hm hv (v := .ty n) rfl hn hd) fun _ _ => .ty n
end
/-! ### operators by values -/
abbrev O2 := Sto → W → W → Option D
def ofOp (st : Sto) : Option D → R W
  | some d => .ok (.v d) st
  | none => .bad
@[simp] theorem ofOp_some (st : Sto) (d : D) : ofOp st (some d) = .ok (.v d) st := rfl
@[simp] theorem ofOp_none (st : Sto) : ofOp st none = .bad := rfl
def eBin (g : O2) (f1 f2 : ED) : ED := fun env st => (f1 env st).bind fun a st => (f2 env st).bind fun b st => ofOp st (g st a b)
/-- what an operator is asked for -/
def rOf (K : KW) (g : O2) : R2 := fun x y H Q => ∃ ρ st w1 w2 d, RelSt K ρ H st ∧ Rw K ρ H x w1 ∧ Rw K ρ H y w2 ∧ g st w1 w2 = some d ∧ ∀ H' v, Same H H' → Rl K ρ H' v d → Q v H'
section
variable {X : Cx} {ct : Nat → Value} {E : St → XK} {a b : Expr} {fa fb : ED}
theorem two_read {K : KW} {g : O2} {σ : St} {H : Hp} {Q : VK} (h : tE K ct E (eBin g fa fb) σ H Q) : tOp (rOf K g) (tE K ct E fa) (tE K ct E fb) σ H Q := by
  refine (tG.bind (rel := Rw) (k := fun a env st => (fb env st).bind fun b st => ofOp st (g st a b)) h).mono fun v H1 ⟨ρ1, st1, env, d1, a1, r1, q1⟩ => ?_
  refine ⟨ρ1, st1, env, a1, (okG.bind (rel := Rw) q1 a1.2).mono fun u H2 ⟨ρ2, st2, d2, a2, g2, r2, q2⟩ => ?_⟩
  cases e : g st2 d1 d2 with
  | none => rw [e] at q2; exact q2.elim
  | some d =>
    rw [e] at q2
    exact ⟨ρ2, st2, d1, d2, d, a2.1, r1.grow g2, r2, e, fun H' w s r => okG.up q2 a2.1 s (.v r)⟩
theorem de_bin {op : Operator} {pos : Pos} {g : O2} (ho : OpR X (binaryOp op) (rOf X.kw g)) (ha : PE X a (tE X.kw ct E fa)) (hb : PE X b (tE X.kw ct E fb)) : PE X (.BinOp a op b pos) (tE X.kw ct E (eBin g fa fb)) :=
  PE.of (pe_op ho ha hb) fun σ H Q h => two_read h
theorem de_cmp {op : CmpOp} {pos : Pos} {g : O2} (ho : OpR X (compareOp op) (rOf X.kw g)) (ha : PE X a (tE X.kw ct E fa)) (hb : PE X b (tE X.kw ct E fb)) (hm : behindInMarks op b = false := by first | exact nomark _ | rfl) : PE X (.Compare a [op] [b] pos) (tE X.kw ct E (eBin g fa fb)) :=
  PE.of (pe_cmpR ho ha hb hm) fun σ H Q h => two_read h
end
/-! ### reading lists and tuples -/
def asLst (st : Sto) : W → Option (List D)
  | .v (.lst ds) => some ds
  | .r l => match st[l]? with
    | some (.lst ds) => some ds
    | _ => none
  | _ => none
theorem lst_of {K : KW} {ρ : Rho} {H : Hp} {st : Sto} {v : V} {d : W} {ds : List D} (s : RelSt K ρ H st) (r : Rw K ρ H v d) (e : asLst st d = some ds) : ∃ a xs, v = .ref a ∧ SqL K H a xs ∧ RlAll K ρ H xs ds := by
  cases r with
  | v r =>
    cases r with
    | lst h q => cases e; exact ⟨_, _, rfl, h.sql, q⟩
    | _ => cases e
  | @r l _ hl hq =>
    simp only [asLst] at e
    split at e
    · rename_i xs he
      cases e
      rcases s.obj l _ he with ⟨z, _⟩ | ⟨a, e1, xs', h1, h2⟩
      · cases z
      · exact ⟨a, xs', hq a e1, .of h1, h2⟩
    · cases e
/-- an operator of trees -/
abbrev T2 := D → D → Option D
def onV (g : T2) : O2
  | _, .v a, .v b => g a b
  | _, _, _ => none
def rOfV (K : KW) (g : T2) : R2 := fun x y H Q => ∃ ρ st d1 d2 d, RelSt K ρ H st ∧ Rl K ρ H x d1 ∧ Rl K ρ H y d2 ∧ g d1 d2 = some d ∧ ∀ H' v, Same H H' → Rl K ρ H' v d → Q v H'
theorem OpR.v {X : Cx} {f : Value → Value → Sem Value} {g : T2} (h : OpR X f (rOfV X.kw g)) : OpR X f (rOf X.kw (onV g)) := by
  intro pins s σ H x y v u Q I rx ry hh
  obtain ⟨ρ, st, w1, w2, d, rs, r1, r2, e, q⟩ := hh
  unfold onV at e
  split at e
  · cases r1; cases r2
    exact h pins s σ H x y v u Q I rx ry ⟨ρ, st, _, _, d, rs, by assumption, by assumption, e, q⟩
  · cases e
/-! ### operators -/
def addT : T2
  | .int i, .int j => some (.int (i + j))
  | .str x, .str y => if x.length + y.length ≤ 100000 then some (.str (x ++ y)) else none
  | .tup xs, .tup ys => if xs.length + ys.length ≤ 100000 then some (.tup (xs ++ ys)) else none
  | _, _ => none
abbrev addD : O2 := onV addT
theorem sl5 {n : Nat} (h : n ≤ 100000) : n ≤ sizeLine := Nat.le_trans h (by decide)
section
variable {X : Cx}
theorem op_addD : OpR X (binaryOp .Add) (rOf X.kw addD) := OpR.v <| by
  intro pins s σ H x y v u Q I rx ry h
  obtain ⟨ρ, st, d1, d2, d, rs, r1, r2, e, q⟩ := h
  unfold addT at e
  split at e
  · cases e; cases r1; cases r2
    exact op_add pins s σ H _ _ v u Q I rx ry ⟨_, _, rfl, rfl, q _ _ (.refl _) (.int _)⟩
  · split at e
    · rename_i hl
      cases e; cases r1; cases r2
      exact op_add_str pins s σ H _ _ v u Q I rx ry ⟨_, _, rfl, rfl, sl5 hl, q _ _ (.refl _) (.str _)⟩
    · cases e
  · split at e
    · rename_i hl
      cases e
      cases r1 with
      | tup h1 n1 q1 =>
        cases r2 with
        | tup h2 n2 q2 =>
          refine op_catA pins s σ H _ _ v u Q I rx ry ⟨_, _, _, _, rfl, rfl, .inl h1, .inl h2, sl5 (by rw [q1.length, q2.length]; exact hl), fun z => ?_, fun z1 z2 => ?_, fun _ _ p hp => ?_⟩
          · subst z; cases q1; exact q _ _ (.refl _) (.tup h2 n2 q2)
          · subst z2; cases q2; exact q _ _ (.refl _) (.tup h1 n1 (by simpa using q1))
          · exact q _ _ (same_upd hp) (.tup (.inl upd_same) (rs.fresh hp) ((q1.append q2).same (same_upd hp)))
    · cases e
  · cases e
/-- ints alone: the operation, where it is served -/
def int2 (c : Int → Int → Bool) (f : Int → Int → D) : T2
  | .int i, .int j => if c i j then some (f i j) else none
  | _, _ => none
theorem op_int2 {f : Value → Value → Sem Value} {c : Int → Int → Bool} {C : Int → Int → Prop} {g : Int → Int → D} {gv : Int → Int → V} (h : OpR X f (rI C gv)) (hc : ∀ i j, c i j = true → C i j) (hg : ∀ i j ρ H, Rl X.kw ρ H (gv i j) (g i j)) : OpR X f (rOf X.kw (onV (int2 c g))) := OpR.v <| by
  intro pins s σ H x y v u Q I rx ry hh
  obtain ⟨ρ, st, d1, d2, d, rs, r1, r2, e, q⟩ := hh
  unfold int2 at e
  split at e
  · split at e
    · rename_i hcc
      cases e; cases r1; cases r2
      exact h pins s σ H _ _ v u Q I rx ry ⟨_, _, rfl, rfl, hc _ _ hcc, q _ _ (.refl _) (hg _ _ _ _)⟩
    · cases e
  · cases e
theorem op_int0 {f : Value → Value → Sem Value} {g : Int → Int → D} {gv : Int → Int → V} (h : OpR X f (rI0 gv)) (hg : ∀ i j ρ H, Rl X.kw ρ H (gv i j) (g i j)) : OpR X f (rOf X.kw (onV (int2 (fun _ _ => true) g))) := OpR.v <| by
  intro pins s σ H x y v u Q I rx ry hh
  obtain ⟨ρ, st, d1, d2, d, rs, r1, r2, e, q⟩ := hh
  unfold int2 at e
  split at e
  · simp only [if_true] at e
    cases e; cases r1; cases r2
    exact h pins s σ H _ _ v u Q I rx ry ⟨_, _, rfl, rfl, q _ _ (.refl _) (hg _ _ _ _)⟩
  · cases e
abbrev subD : O2 := onV (int2 (fun _ _ => true) fun i j => .int (i - j))
theorem op_subD : OpR X (binaryOp .Sub) (rOf X.kw subD) := op_int0 op_sub fun _ _ _ _ => .int _
abbrev modD : O2 := onV (int2 (fun _ j => decide (0 < j)) fun i j => .int (i % j))
theorem op_modD : OpR X (binaryOp .Mod) (rOf X.kw modD) := op_int2 op_mod (fun _ _ h => of_decide_eq_true h) fun _ _ _ _ => .int _
abbrev fdivD : O2 := onV (int2 (fun _ j => decide (0 < j ∧ j < 1073741824)) fun i j => .int (i / j))
theorem op_fdivD : OpR X (binaryOp .FloorDiv) (rOf X.kw fdivD) := op_int2 op_fdiv (fun i j h => show 0 < j ∧ j < 1073741824 from of_decide_eq_true h) fun _ _ _ _ => .int _
theorem op_powD0 : OpR X (binaryOp .Pow) (rI (fun i j => 0 ≤ j ∧ (Builtin.Int.intBits i : Int) * j ≤ 2 ^ 27) fun i j => .int (i ^ j.toNat)) := opI fun _ _ _ _ _ _ _ hc q => pow_int hc.1 hc.2 q
abbrev powD : O2 := onV (int2 (fun i j => decide (0 ≤ j ∧ (Builtin.Int.intBits i : Int) * j ≤ 2 ^ 27)) fun i j => .int (i ^ j.toNat))
theorem op_powD : OpR X (binaryOp .Pow) (rOf X.kw powD) := op_int2 op_powD0 (fun _ _ h => of_decide_eq_true h) fun _ _ _ _ => .int _
/-- ints below a million bits together; a tuple told so often -/
def mulT : T2
  | .int i, .int j => if i.natAbs.log2 + j.natAbs.log2 < 1000000 then some (.int (i * j)) else none
  | .tup xs, .int k => if 2 ≤ k ∧ k ≤ 1000 ∧ 0 < xs.length ∧ xs.length ≤ 1000 then some (.tup (List.replicate k.toNat xs).flatten) else none
  | _, _ => none
abbrev mulD : O2 := onV mulT
theorem op_mulD : OpR X (binaryOp .Mult) (rOf X.kw mulD) := OpR.v <| by
  intro pins s σ H x y v u Q I rx ry h
  obtain ⟨ρ, st, d1, d2, d, rs, r1, r2, e, q⟩ := h
  unfold mulT at e
  split at e
  · split at e
    · rename_i hl
      cases e; cases r1; cases r2
      exact op_mulW pins s σ H _ _ v u Q I rx ry ⟨_, _, rfl, rfl, hl, q _ _ (.refl _) (.int _)⟩
    · cases e
  · split at e
    · rename_i hl
      cases e
      cases r2
      cases r1 with
      | tup h1 n1 q1 =>
        refine op_repT pins s σ H _ _ v u Q I rx ry ⟨_, _, _, rfl, rfl, .inl h1, fun z => ?_, hl.1, hl.2.1, by rw [q1.length]; exact hl.2.2.2, fun p hp => ?_⟩
        · have := q1.length
          rw [z] at this
          simp only [List.length_nil] at this
          omega
        · exact q _ _ (same_upd hp) (.tup (.inl upd_same) (rs.fresh hp) ((q1.flat _).same (same_upd hp)))
    · cases e
  · cases e
abbrev ltD : O2 := onV (int2 (fun _ _ => true) fun i j => .bl (decide (i < j)))
abbrev leD : O2 := onV (int2 (fun _ _ => true) fun i j => .bl (decide (i ≤ j)))
abbrev gtD : O2 := onV (int2 (fun _ _ => true) fun i j => .bl (decide (j < i)))
abbrev geD : O2 := onV (int2 (fun _ _ => true) fun i j => .bl (decide (j ≤ i)))
theorem op_ltD : OpR X (compareOp .Lt) (rOf X.kw ltD) := op_int0 op_lt fun _ _ _ _ => .bl _
theorem op_leD : OpR X (compareOp .LtE) (rOf X.kw leD) := op_int0 op_le fun _ _ _ _ => .bl _
theorem op_gtD : OpR X (compareOp .Gt) (rOf X.kw gtD) := op_int0 op_gt fun _ _ _ _ => .bl _
theorem op_geD : OpR X (compareOp .GtE) (rOf X.kw geD) := op_int0 op_ge fun _ _ _ _ => .bl _
end
/-! ### == -/
mutual
def D.py : D → PyData
  | .non => .none
  | .bl b => .bool b
  | .int i => .int i
  | .str x => .str x
  | .tup xs => .tuple (D.pyL xs)
  | .lst xs => .list (D.pyL xs)
  | .dct _ => .dict []
  | .ty _ => .dict []
  | .kd _ => .dict []
  | .cod _ => .dict []
  | .ld _ => .dict []
  | .adr _ => .dict []
  | .tupx _ => .dict []
  | .exc _ _ => .dict []
def D.pyL : List D → List PyData
  | [] => []
  | x :: xs => x.py :: D.pyL xs
end
/-- the tree that a value is now -/
def deref (st : Sto) : W → D
  | .v d => d
  | .r l => match st[l]? with
    | some (.lst ds) => .lst ds
    | _ => .dct []
section
variable {K : KW} {ρ : Rho} {H : Hp}
mutual
theorem Rl.dp : ∀ {v : V} {d : D}, Rl K ρ H v d → d.py.canLay0 = true → Dp K H v d.py
  | _, _, .non, _ => .non
  | _, _, .bl b, _ => .bl b
  | _, _, .int i, _ => .int i
  | _, _, .str x, _ => .str x
  | _, _, .ty n, h => by simp [D.py, PyData.canLay0] at h
  | _, _, .kd _ _ _ _ _, h => by simp [D.py, PyData.canLay0] at h
  | _, _, .ld _ _ _ _ _, h => by simp [D.py, PyData.canLay0] at h
  | _, _, .adr _, h => by simp [D.py, PyData.canLay0] at h
  | _, _, .tupx _ _ _ _, h => by simp [D.py, PyData.canLay0] at h
  | _, _, .exc0 _ _ _, h => by simp [D.py, PyData.canLay0] at h
  | _, _, .excd _ _ _ _ _ _ _, h => by simp [D.py, PyData.canLay0] at h
  | _, _, .tup h n r, c => by
    simp only [D.py]
    exact .tup (.inl h) (RlAll.dp r (by simpa [D.py, PyData.canLay0] using c))
  | _, _, .lst h r, c => by
    simp only [D.py]
    exact .lst h.sql (RlAll.dp r (by simpa [D.py, PyData.canLay0] using c))
  | _, _, .dct0 h n, c => by simp [D.py, PyData.canLay0] at c
  | _, _, .cod h n, c => by simp [D.py, PyData.canLay0] at c
theorem RlAll.dp : ∀ {vs : List V} {ds : List D}, RlAll K ρ H vs ds → PyData.canLayAll0 (D.pyL ds) = true → DpAll K H vs (D.pyL ds)
  | _, _, .nil, _ => .nil
  | _, _, .cons r t, c => by
    simp only [D.pyL, PyData.canLayAll0, Bool.and_eq_true] at c
    exact .cons (Rl.dp r c.1) (RlAll.dp t c.2)
end
theorem deref_dp {st : Sto} {v : V} {d : W} (s : RelSt K ρ H st) (r : Rw K ρ H v d) (c : SeqAt.shaped (deref st d).py = true) : Dp K H v (deref st d).py := by
  have c := SeqAt.canLay_of_shaped c
  cases d with
  | v d => cases r with | v r => exact r.dp c
  | r l =>
    simp only [deref] at c ⊢
    cases e : st[l]? with
    | none => simp [e, D.py, PyData.canLay0] at c
    | some ob =>
      cases ob with
      | lst ds =>
        simp only [e] at c ⊢
        obtain ⟨a, xs, rfl, h1, h2⟩ := lst_of s r (d := .r l) (ds := ds) (by simp only [asLst, e])
        simp only [D.py] at c ⊢
        exact .lst h1 (h2.dp (by simpa [PyData.canLay0] using c))
      | dead => simp [e, D.py, PyData.canLay0] at c
      | dct kvs => simp [e, D.py, PyData.canLay0] at c
      | kd kvs => simp [e, D.py, PyData.canLay0] at c
      | ld kvs => simp [e, D.py, PyData.canLay0] at c
      | set kvs => simp [e, D.py, PyData.canLay0] at c
      | tab P q => simp [e, D.py, PyData.canLay0] at c
      | ins P q => simp [e, D.py, PyData.canLay0] at c
      | pr P => simp [e, D.py, PyData.canLay0] at c
end
def eqD : O2 := fun st a b => if SeqAt.shaped (deref st a).py && SeqAt.shaped (deref st b).py then some (.bl (PyData.eqv (deref st a).py (deref st b).py)) else none
def neD : O2 := fun st a b => if SeqAt.shaped (deref st a).py && SeqAt.shaped (deref st b).py then some (.bl (!PyData.eqv (deref st a).py (deref st b).py)) else none
section
variable {X : Cx}
theorem op_eqDD (hu : X.A.units + 64 < cLine) : OpR X (compareOp .Eq) (rOf X.kw eqD) := by
  intro pins s σ H x y v u Q I rx ry h
  obtain ⟨ρ, st, d1, d2, d, rs, r1, r2, e, q⟩ := h
  unfold eqD at e
  split at e
  · rename_i c
    rw [Bool.and_eq_true] at c
    cases e
    exact op_eqD hu pins s σ H _ _ v u Q I rx ry ⟨_, _, deref_dp rs r1 c.1, deref_dp rs r2 c.2, c.1, c.2, q _ _ (.refl _) (.bl _)⟩
  · cases e
theorem op_neDD (hu : X.A.units + 64 < cLine) : OpR X (compareOp .NotEq) (rOf X.kw neD) := by
  intro pins s σ H x y v u Q I rx ry h
  obtain ⟨ρ, st, d1, d2, d, rs, r1, r2, e, q⟩ := h
  unfold neD at e
  split at e
  · rename_i c
    rw [Bool.and_eq_true] at c
    cases e
    exact op_neD hu pins s σ H _ _ v u Q I rx ry ⟨_, _, deref_dp rs r1 c.1, deref_dp rs r2 c.2, c.1, c.2, q _ _ (.refl _) (.bl _)⟩
  · cases e
end
/-! ### is -/
def D.isNon : D → Bool
  | .non => true
  | _ => false
def D.isBl (b : Bool) : D → Bool
  | .bl c => c == b
  | _ => false
def isT : T2 := fun a b => match b with
  | .non => some (.bl a.isNon)
  | .bl c => some (.bl (a.isBl c))
  | _ => none
def isNotT : T2 := fun a b => match b with
  | .non => some (.bl (!a.isNon))
  | .bl c => some (.bl (!a.isBl c))
  | _ => none
abbrev isD : O2 := onV isT
abbrev isNotD : O2 := onV isNotT
theorem isNon_of {K : KW} {ρ : Rho} {H : Hp} {v : V} {d : D} (r : Rl K ρ H v d) : decide (v = .non) = d.isNon := by
  cases r <;> first | rfl | simp [D.isNon]
theorem isBl_of {K : KW} {ρ : Rho} {H : Hp} {v : V} {d : D} {b : Bool} (r : Rl K ρ H v d) : decide (v = .bl b) = d.isBl b := by
  cases r <;> first | (simp [D.isBl]; done) | (rename_i c; cases b <;> cases c <;> rfl)
section
variable {X : Cx}
theorem plainBool (v : Value) (b : Bool) (x : V) (r : RelV x v) : plainIs v (.bool b) = true := by
  cases x with
  | non => cases r; rfl
  | bl _ => cases r; rfl
  | int _ => obtain ⟨t, rfl⟩ := r; rfl
  | str _ => obtain ⟨t, rfl⟩ := r; rfl
  | byt _ => obtain ⟨t, rfl⟩ := r; rfl
  | flt _ => obtain ⟨t, rfl⟩ := r; rfl
  | ref _ => cases r; rfl
  | ty _ => cases r; rfl
theorem op_isDD : OpR X (compareOp .Is) (rOf X.kw isD) := OpR.v <| by
  intro pins s σ H x y v u Q I rx ry h
  obtain ⟨ρ, st, d1, d2, d, rs, r1, r2, e, q⟩ := h
  unfold isT at e
  split at e
  · cases e
    cases r2
    exact op_isN pins s σ H _ _ v u Q I rx ry ⟨rfl, by rw [isNon_of r1]; exact q _ _ (.refl _) (.bl _)⟩
  · rename_i c
    cases e
    cases r2
    cases ry
    by_cases hx : x = .bl c
    · subst hx
      cases rx
      have q' : d1.isBl c = true := by rw [← isBl_of r1]; simp
      exact wpAny_is_self rfl ⟨.bl true, H, I, rfl, by have := q H (.bl (d1.isBl c)) (.refl _) (.bl _); rw [q'] at this; exact this⟩
    · have q' : d1.isBl c = false := by rw [← isBl_of r1]; simp [hx]
      refine wpAny_is_other (plainBool v c x rx) (fun z => hx ?_) ⟨.bl false, H, I, rfl, by have := q H (.bl (d1.isBl c)) (.refl _) (.bl _); rw [q'] at this; exact this⟩
      subst z
      exact rx.inj rfl
  · cases e
theorem op_isNotDD : OpR X (compareOp .IsNot) (rOf X.kw isNotD) := OpR.v <| by
  intro pins s σ H x y v u Q I rx ry h
  obtain ⟨ρ, st, d1, d2, d, rs, r1, r2, e, q⟩ := h
  unfold isNotT at e
  split at e
  · cases e
    cases r2
    exact op_notN pins s σ H _ _ v u Q I rx ry ⟨rfl, by rw [isNon_of r1]; exact q _ _ (.refl _) (.bl _)⟩
  · rename_i c
    cases e
    cases r2
    cases ry
    by_cases hx : x = .bl c
    · subst hx
      cases rx
      have q' : d1.isBl c = true := by rw [← isBl_of r1]; simp
      exact wpAny_isNot_self rfl ⟨.bl false, H, I, rfl, by have := q H (.bl (!d1.isBl c)) (.refl _) (.bl _); rw [q'] at this; exact this⟩
    · have q' : d1.isBl c = false := by rw [← isBl_of r1]; simp [hx]
      refine wpAny_isNot_other (plainBool v c x rx) (fun z => hx ?_) ⟨.bl true, H, I, rfl, by have := q H (.bl (!d1.isBl c)) (.refl _) (.bl _); rw [q'] at this; exact this⟩
      subst z
      exact rx.inj rfl
  · cases e
/-! ### in -/
/-- one sign in a text; a value in a list -/
def inD : O2
  | _, .v (.str x), .v (.str z) => match x.cps.toList with
    | [c] => some (.bl (decide (c ∈ z.cps.toList)))
    | _ => none
  | st, .v a, b => match asLst st b with
    | some ds => if SeqAt.shaped a.py && SeqAt.shaped (.list (D.pyL ds)) then some (.bl ((D.pyL ds).any fun z => PyData.eqv z a.py)) else none
    | none => none
  | _, _, _ => none
def notInD : O2 := fun st a b => match inD st a b with
  | some (.bl c) => some (.bl (!c))
  | _ => none
theorem toList_one {x : Str} {c : Nat} (h : x.cps.toList = [c]) : x = ⟨#[c]⟩ := by
  obtain ⟨⟨l⟩⟩ := x
  simp only at h
  subst h
  rfl
theorem op_inDD (hu : X.A.units + 65 < cLine) : OpR X (compareOp .In) (rOf X.kw inD) := by
  intro pins s σ H x y v u Q I rx ry h
  obtain ⟨ρ, st, d1, d2, d, rs, r1, r2, e, q⟩ := h
  unfold inD at e
  split at e
  · split at e
    · rename_i c hc
      cases e
      cases r1 with | v r1 => cases r2 with | v r2 => cases r1; cases r2; exact op_in_sign pins s σ H _ _ v u Q I rx ry ⟨c, _, by rw [toList_one hc], rfl, q _ _ (.refl _) (.bl _)⟩
    · cases e
  · split at e
    · rename_i ds hds
      split at e
      · rename_i c
        rw [Bool.and_eq_true] at c
        cases e
        obtain ⟨a, xs, rfl, h1, h2⟩ := lst_of rs r2 hds
        cases r1 with | v r1 => exact op_inD hu pins s σ H _ _ v u Q I rx ry ⟨_, _, r1.dp (SeqAt.canLay_of_shaped c.1), .lst h1 (h2.dp (by simpa [PyData.canLay0] using SeqAt.canLay_of_shaped c.2)), c.1, c.2, q _ _ (.refl _) (.bl _)⟩
      · cases e
    · cases e
  · cases e
theorem op_notInDD (hu : X.A.units + 65 < cLine) : OpR X (compareOp .NotIn) (rOf X.kw notInD) := by
  intro pins s σ H x y v u Q I rx ry h
  obtain ⟨ρ, st, d1, d2, d, rs, r1, r2, e, q⟩ := h
  unfold notInD at e
  split at e
  rotate_left
  · cases e
  rename_i c0 e0
  cases e
  unfold inD at e0
  split at e0
  · split at e0
    · rename_i c hc
      cases e0
      cases r1 with | v r1 => cases r2 with | v r2 => cases r1; cases r2; exact op_notIn_sign pins s σ H _ _ v u Q I rx ry ⟨c, _, by rw [toList_one hc], rfl, q _ _ (.refl _) (.bl _)⟩
    · cases e0
  · split at e0
    · rename_i ds hds
      split at e0
      · rename_i c
        rw [Bool.and_eq_true] at c
        cases e0
        obtain ⟨a, xs, rfl, h1, h2⟩ := lst_of rs r2 hds
        cases r1 with | v r1 => exact op_notInD hu pins s σ H _ _ v u Q I rx ry ⟨_, _, r1.dp (SeqAt.canLay_of_shaped c.1), .lst h1 (h2.dp (by simpa [PyData.canLay0] using SeqAt.canLay_of_shaped c.2)), c.1, c.2, q _ _ (.refl _) (.bl _)⟩
      · cases e0
    · cases e0
  · cases e0
end
end Jv
end
section
namespace Jv
open PySem L2 PyProof.Rows
/-! ### tests -/
def tVal (f : ED) : BD := fun env st => (f env st).bind fun d st => match d with
  | .v (.bl b) => .ok b st
  | _ => .bad
def bNot (f : BD) : BD := fun env st => (f env st).bind fun b st => .ok (!b) st
def bAnd (f g : BD) : BD := fun env st => (f env st).bind fun b st => if b then g env st else .ok false st
def bOr (f g : BD) : BD := fun env st => (f env st).bind fun b st => if b then .ok true st else g env st
def eIf (c : BD) (f g : ED) : ED := fun env st => (c env st).bind fun b st => if b then f env st else g env st
def eNot (f : ED) : ED := fun env st => (f env st).bind fun d st => match d with
  | .v (.bl b) => .ok (.v (.bl (!b))) st
  | _ => .bad
def eAnd (f g : ED) : ED := fun env st => (f env st).bind fun d st => match d with
  | .v (.bl true) => g env st
  | .v (.bl false) => .ok (.v (.bl false)) st
  | _ => .bad
def eOr (f g : ED) : ED := fun env st => (f env st).bind fun d st => match d with
  | .v (.bl true) => .ok (.v (.bl true)) st
  | .v (.bl false) => g env st
  | _ => .bad
def eChain (g g' : O2) (f1 f2 f3 : ED) : ED := fun env st => (f1 env st).bind fun a st => (f2 env st).bind fun b st => match g st a b with
  | some (.bl true) => (f3 env st).bind fun c st => ofOp st (g' st b c)
  | some (.bl false) => .ok (.v (.bl false)) st
  | _ => .bad
section
variable {X : Cx} {ct : Nat → Value} {E : St → XK} {a b c : Expr} {fa fb fc : ED} {ta tb : BD} {pos : Pos} {rest : List Expr}
theorem rl_bl {K : KW} {ρ : Rho} {H : Hp} {v : V} {b : Bool} (r : Rw K ρ H v (.v (.bl b))) : v = .bl b := by cases r with | v r => cases r; rfl
theorem rl_bl' {K : KW} {ρ : Rho} {H : Hp} {v : V} {b : Bool} (r : Rl K ρ H v (.bl b)) : v = .bl b := by cases r; rfl
theorem val_read {K : KW} {σ : St} {H : Hp} {Q : Bool → Hp → Prop} (h : tT K ct E (tVal fa) σ H Q) : tB (tE K ct E fa) σ H Q := by
  refine (tG.bind (rel := Rw) (k := fun d _ st => match d with | .v (.bl b) => R.ok b st | _ => R.bad) h).mono fun v H1 ⟨ρ1, st1, env, d, a1, r1, q1⟩ => ?_
  cases d with
  | r l => exact q1.elim
  | v d =>
  cases d with
  | bl k => cases rl_bl r1; exact ⟨k, rfl, q1.here a1.1 rfl⟩
  | _ => exact q1.elim
theorem dt_val (h : PE X a (tE X.kw ct E fa)) (he : ∀ whole, isTrue a X.env whole = (do let v ← whole; standAt a.pos; holding [v] (truthy v)) := by intro _; rfl) : PT X a (tT X.kw ct E (tVal fa)) :=
  PT.of (pt_val h he) fun σ H Q q => val_read q
theorem dt_not (h : PT X a (tT X.kw ct E ta)) : PT X (.UnaryOp .Not a pos) (tT X.kw ct E (bNot ta)) := PT.of (pt_not h) fun σ H Q q => by
  refine (tG.bind (rel := RlB) (k := fun b _ st => R.ok (!b) st) q).mono fun v H1 ⟨ρ1, st1, env, d, a1, r1, q1⟩ => ?_
  cases r1
  exact q1.here a1.1 rfl
theorem dw_and1 (h : PT X a (tT X.kw ct E ta)) : PW X (.BoolOp .And [a] pos) (tT X.kw ct E ta) := pw_and1 h
theorem dw_or1 (h : PT X a (tT X.kw ct E ta)) : PW X (.BoolOp .Or [a] pos) (tT X.kw ct E ta) := pw_or1 h
theorem dw_and (ha : PT X a (tT X.kw ct E ta)) (hb : PW X (.BoolOp .And (b :: rest) pos) (tT X.kw ct E tb)) : PW X (.BoolOp .And (a :: b :: rest) pos) (tT X.kw ct E (bAnd ta tb)) := PW.of (pw_and ha hb) fun σ H Q q => by
  refine (tG.bind (rel := RlB) (k := fun b env st => if b then tb env st else R.ok false st) q).mono fun v H1 ⟨ρ1, st1, env, d, a1, r1, q1⟩ => ?_
  cases r1
  cases v with
  | true => simp only [if_true] at q1 ⊢; exact ⟨ρ1, st1, env, a1, q1⟩
  | false => simp only [Bool.false_eq_true, if_false] at q1 ⊢; exact q1.here a1.1 rfl
theorem dw_or (ha : PT X a (tT X.kw ct E ta)) (hb : PW X (.BoolOp .Or (b :: rest) pos) (tT X.kw ct E tb)) : PW X (.BoolOp .Or (a :: b :: rest) pos) (tT X.kw ct E (bOr ta tb)) := PW.of (pw_or ha hb) fun σ H Q q => by
  refine (tG.bind (rel := RlB) (k := fun b env st => if b then R.ok true st else tb env st) q).mono fun v H1 ⟨ρ1, st1, env, d, a1, r1, q1⟩ => ?_
  cases r1
  cases v with
  | true => simp only [if_true] at q1 ⊢; exact q1.here a1.1 rfl
  | false => simp only [Bool.false_eq_true, if_false] at q1 ⊢; exact ⟨ρ1, st1, env, a1, q1⟩
theorem de_if (hc : PT X c (tT X.kw ct E ta)) (ha : PE X a (tE X.kw ct E fa)) (hb : PE X b (tE X.kw ct E fb)) : PE X (.IfExp c a b pos) (tE X.kw ct E (eIf ta fa fb)) := PE.of (pe_ifExp hc ha hb) fun σ H Q q => by
  refine (tG.bind (rel := RlB) (k := fun b env st => if b then fa env st else fb env st) q).mono fun v H1 ⟨ρ1, st1, env, d, a1, r1, q1⟩ => ?_
  cases r1
  cases v with
  | true => simp only [if_true] at q1 ⊢; exact ⟨ρ1, st1, env, a1, q1⟩
  | false => simp only [Bool.false_eq_true, if_false] at q1 ⊢; exact ⟨ρ1, st1, env, a1, q1⟩
theorem de_not (h : PE X a (tE X.kw ct E fa)) : PE X (.UnaryOp .Not a pos) (tE X.kw ct E (eNot fa)) := PE.of (pe_not h) fun σ H Q q => by
  refine (tG.bind (rel := Rw) (k := fun d _ st => match d with | .v (.bl b) => R.ok (W.v (D.bl (!b))) st | _ => R.bad) q).mono fun v H1 ⟨ρ1, st1, env, d, a1, r1, q1⟩ => ?_
  cases d with
  | r l => exact q1.elim
  | v d =>
  cases d with
  | bl k => cases rl_bl r1; exact ⟨k, rfl, q1.here a1.1 (.v (.bl _))⟩
  | _ => exact q1.elim
theorem de_one {op : BoolOp} (h : PE X a (tE X.kw ct E fa)) : PE X (.BoolOp op [a] pos) (tE X.kw ct E fa) := pe_one h
theorem de_and (ha : PE X a (tE X.kw ct E fa)) (hb : PE X (.BoolOp .And (b :: rest) pos) (tE X.kw ct E fb)) : PE X (.BoolOp .And (a :: b :: rest) pos) (tE X.kw ct E (eAnd fa fb)) := PE.of (pe_and ha hb) fun σ H Q q => by
  refine (tG.bind (rel := Rw) (k := fun d env st => match d with | .v (.bl true) => fb env st | .v (.bl false) => R.ok (W.v (D.bl false)) st | _ => R.bad) q).mono fun v H1 ⟨ρ1, st1, env, d, a1, r1, q1⟩ => ?_
  cases d with
  | r l => exact q1.elim
  | v d =>
  cases d with
  | bl k =>
    cases rl_bl r1
    refine ⟨k, rfl, ?_⟩
    cases k with
    | true => simp only [if_true] at q1 ⊢; exact ⟨ρ1, st1, env, a1, q1⟩
    | false => simp only [Bool.false_eq_true, if_false] at q1 ⊢; exact q1.here a1.1 (.v (.bl _))
  | _ => exact q1.elim
theorem de_or (ha : PE X a (tE X.kw ct E fa)) (hb : PE X (.BoolOp .Or (b :: rest) pos) (tE X.kw ct E fb)) : PE X (.BoolOp .Or (a :: b :: rest) pos) (tE X.kw ct E (eOr fa fb)) := PE.of (pe_or ha hb) fun σ H Q q => by
  refine (tG.bind (rel := Rw) (k := fun d env st => match d with | .v (.bl true) => R.ok (W.v (D.bl true)) st | .v (.bl false) => fb env st | _ => R.bad) q).mono fun v H1 ⟨ρ1, st1, env, d, a1, r1, q1⟩ => ?_
  cases d with
  | r l => exact q1.elim
  | v d =>
  cases d with
  | bl k =>
    cases rl_bl r1
    refine ⟨k, rfl, ?_⟩
    cases k with
    | true => simp only [if_true] at q1 ⊢; exact q1.here a1.1 (.v (.bl _))
    | false => simp only [Bool.false_eq_true, if_false] at q1 ⊢; exact ⟨ρ1, st1, env, a1, q1⟩
  | _ => exact q1.elim
theorem chain_read {K : KW} {g g' : O2} {σ : St} {H : Hp} {Q : VK} (h : tE K ct E (eChain g g' fa fb fc) σ H Q) : tChain (rOf K g) (rOf K g') (tE K ct E fa) (tE K ct E fb) (tE K ct E fc) σ H Q := by
  refine (tG.bind (rel := Rw) (k := fun a env st => (fb env st).bind fun b st => match g st a b with
    | some (.bl true) => (fc env st).bind fun c st => ofOp st (g' st b c)
    | some (.bl false) => R.ok (W.v (D.bl false)) st
    | _ => R.bad) h).mono fun v H1 ⟨ρ1, st1, env, d1, a1, r1, q1⟩ => ?_
  refine ⟨ρ1, st1, env, a1, (okG.bind (rel := Rw) q1 a1.2).mono fun u H2 ⟨ρ2, st2, d2, a2, g2, r2, q2⟩ => ?_⟩
  cases e : g st2 d1 d2 with
  | none => rw [e] at q2; exact q2.elim
  | some d =>
    rw [e] at q2
    refine ⟨ρ2, st2, d1, d2, d, a2.1, r1.grow g2, r2, e, fun H3 w s r => ?_⟩
    cases d with
    | bl k =>
      cases rl_bl' r
      refine ⟨k, rfl, ?_⟩
      cases k with
      | false =>
        simp only [Bool.false_eq_true, if_false] at q2 ⊢
        exact okG.up q2 a2.1 s (.v (.bl _))
      | true =>
        simp only [if_true] at q2 ⊢
        have a3 : At K ρ2 H3 st2 σ env := ⟨a2.1.same s, a2.2.grow (.same s)⟩
        have q3 := okG.grow (.same s) q2
        refine ⟨ρ2, st2, env, a3, (okG.bind (rel := Rw) q3 a3.2).mono fun u3 H4 ⟨ρ4, st4, d4, a4, g4, r4, q4⟩ => ?_⟩
        cases e4 : g' st4 d2 d4 with
        | none => rw [e4] at q4; exact q4.elim
        | some d5 =>
          rw [e4] at q4
          exact ⟨ρ4, st4, d2, d4, d5, a4.1, (r2.same s).grow g4, r4, e4, fun H' w' s' r' => okG.up q4 a4.1 s' (.v r')⟩
    | _ => exact q2.elim
theorem de_chain {op op' : CmpOp} {g g' : O2} (ho : OpR X (compareOp op) (rOf X.kw g)) (ho' : OpR X (compareOp op') (rOf X.kw g')) (ha : PE X a (tE X.kw ct E fa)) (hb : PE X b (tE X.kw ct E fb)) (hc : PE X c (tE X.kw ct E fc))
    (hm : lastMarks [op, op'] [b, c] = false := by with_unfolding_all rfl) : PE X (.Compare a [op, op'] [b, c] pos) (tE X.kw ct E (eChain g g' fa fb fc)) :=
  PE.of (pe_chain ho ho' ha hb hc hm) fun σ H Q q => chain_read q
theorem dt_cmp {op : CmpOp} {g : O2} (ho : OpR X (compareOp op) (rOf X.kw g)) (ha : PE X a (tE X.kw ct E fa)) (hb : PE X b (tE X.kw ct E fb)) (hm : behindInMarks op b = false := by first | exact nomark _ | rfl) : PT X (.Compare a [op] [b] pos) (tT X.kw ct E (tVal (eBin g fa fb))) :=
  PT.of (pt_cmpR ho ha hb hm) fun σ H Q q => by
    have h := val_read q
    exact two_read (h.mono fun v H ⟨c, e, q⟩ => ⟨c, e, q⟩)
theorem dt_chain {op op' : CmpOp} {g g' : O2} (ho : OpR X (compareOp op) (rOf X.kw g)) (ho' : OpR X (compareOp op') (rOf X.kw g')) (ha : PE X a (tE X.kw ct E fa)) (hb : PE X b (tE X.kw ct E fb)) (hc : PE X c (tE X.kw ct E fc))
    (hm : lastMarks [op, op'] [b, c] = false := by with_unfolding_all rfl) : PT X (.Compare a [op, op'] [b, c] pos) (tT X.kw ct E (tVal (eChain g g' fa fb fc))) :=
  PT.of (pt_chain ho ho' ha hb hc hm) fun σ H Q q => by
    have h := val_read q
    exact chain_read (h.mono fun v H ⟨c, e, q⟩ => ⟨c, e, q⟩)
end
/-! ### arguments -/
def aNil : AD := fun _ st => .ok [] st
def aCons (f : ED) (g : AD) : AD := fun env st => (f env st).bind fun d st => (g env st).bind fun ds st => .ok (d :: ds) st
section
variable {X : Cx} {ct : Nat → Value} {E : St → XK} {e : Expr} {es : List Expr} {f : ED} {g : AD}
theorem da_nil : PA X [] (tA X.kw ct E aNil) := PA.of pa_nil fun σ H Q ⟨ρ, st, env, a, h⟩ => h.here a.1 .nil
theorem da_cons (ha : PE X e (tE X.kw ct E f)) (hr : PA X es (tA X.kw ct E g)) (hs : starEach (e :: es) X.env = (false, eval e X.env) :: starEach es X.env := by rfl) : PA X (e :: es) (tA X.kw ct E (aCons f g)) :=
  PA.of (pa_cons ha hr hs) fun σ H Q q => by
    refine (tG.bind (rel := Rw) (k := fun d env st => (g env st).bind fun ds st => R.ok (d :: ds) st) q).mono fun v H1 ⟨ρ1, st1, env, d, a1, r1, q1⟩ => ?_
    exact ⟨ρ1, st1, env, a1, (okG.bind (rel := RwAll) q1 a1.2).mono fun u H2 ⟨ρ2, st2, d2, a2, g2, r2, q2⟩ => q2.here a2.1 (.cons (r1.grow g2) r2)⟩
end
/-! ### tuples, lists that come anew -/
def eTup (f : AD) : ED := fun env st => (f env st).bind fun ws st => match allV ws with
  | some ds => if ds.length ≤ 100000 then .ok (.v (.tup ds)) st else .bad
  | none => .bad
/-- a new list -/
def okF (K : KW) (ct : Nat → Value) (ρ : Rho) (H : Hp) (E : XK) (Q : VK) : R (List D) → Prop
  | .ok ds st' => ∀ ρ' H' p xs, Grow ρ H ρ' H' → RelSt K ρ' H' st' → H' p = none → RlAll K ρ' H' xs ds → Q (.ref p) (upd H' p (.lst xs))
  | .exc x st' => ∀ ρ' H' cv od, Grow ρ H ρ' H' → RelSt K ρ' H' st' → XRl K ct ρ' H' cv od x → E cv od H'
  | .bad => False
def tF (K : KW) (ct : Nat → Value) (E : St → XK) (f : LD) : TE := fun σ H Q => ∃ ρ st env, At K ρ H st σ env ∧ okF K ct ρ H (E σ) Q (f env st)
def eLst (f : LD) : ED := fun env st => (f env st).bind fun ds st => .ok (.v (.lst ds)) st
/-- .. as an object that changes -/
def eNew (f : LD) : ED := fun env st => (f env st).bind fun ds st => .ok (.r st.length) (st ++ [.lst ds])
/-- an object that changed is given up: a list as it stands -/
def frz (d : W) (st : Sto) : R W := match d with
  | .r l => match st[l]? with
    | some (.lst ds) => .ok (.v (.lst ds)) (st.set l .dead)
    | _ => .bad
  | d => .ok d st
def eFrz (f : ED) : ED := fun env st => (f env st).bind frz
section
variable {K : KW} {ρ : Rho} {H : Hp} {st : Sto}
def Rho.push (ρ : Rho) (p : Addr) : Rho := ⟨ρ.lc ++ [some p], ρ.hid⟩
theorem Grow.push {p : Addr} {o : HO} (hp : H p = none) : Grow ρ H (ρ.push p) (upd H p o) := by
  refine ⟨by simp [Rho.push], rfl, fun l a hl e => ?_, fun a u e n => ⟨by rw [upd_ne (ne_of_none e hp)]; exact e, fun z => ?_⟩⟩
  · simpa [Rho.push, List.getElem?_append_left hl] using e
  · rcases List.mem_append.mp z with z | z
    · exact n z
    · have := List.mem_singleton.mp z
      cases this
      exact ne_of_none e hp rfl
theorem RelSt.push {p : Addr} {xs : List V} {ds : List D} (s : RelSt K ρ H st) (hp : H p = none) (r : RlAll K ρ H xs ds) : RelSt K (ρ.push p) (upd H p (.lst xs)) (st ++ [.lst ds]) := by
  have hf := s.fresh hp
  have g : Grow ρ H (ρ.push p) (upd H p (.lst xs)) := .push hp
  refine ⟨by simp [Rho.push, s.len], fun l l' a e1 e2 => ?_, fun l ob e => ?_, fun a h => ?_, fun a h z => ?_, fun l ob e => ?_⟩
  · simp only [Rho.push] at e1 e2
    by_cases h1 : l < ρ.lc.length
    · rw [List.getElem?_append_left h1] at e1
      by_cases h2 : l' < ρ.lc.length
      · rw [List.getElem?_append_left h2] at e2
        exact s.inj l l' a e1 e2
      · rw [List.getElem?_append_right (by omega)] at e2
        have : a = p := by
          cases q : l' - ρ.lc.length with
          | zero => rw [q] at e2; simp at e2; exact e2.symm
          | succ n => rw [q] at e2; simp at e2
        subst this
        exact absurd (.inl (List.mem_of_getElem? e1)) hf
    · rw [List.getElem?_append_right (by omega)] at e1
      have : a = p := by
        cases q : l - ρ.lc.length with
        | zero => rw [q] at e1; simp at e1; exact e1.symm
        | succ n => rw [q] at e1; simp at e1
      subst this
      by_cases h2 : l' < ρ.lc.length
      · rw [List.getElem?_append_left h2] at e2
        exact absurd (.inl (List.mem_of_getElem? e2)) hf
      · rw [List.getElem?_append_right (by omega)] at e2
        have q1 : l - ρ.lc.length = 0 := by
          cases q : l - ρ.lc.length with
          | zero => rfl
          | succ n => rw [q] at e1; simp at e1
        have q2 : l' - ρ.lc.length = 0 := by
          cases q : l' - ρ.lc.length with
          | zero => rfl
          | succ n => rw [q] at e2; simp at e2
        omega
  · by_cases h1 : l < st.length
    · rw [List.getElem?_append_left h1] at e
      rcases s.obj l ob e with ⟨z, q⟩ | ⟨a, q, o⟩
      · exact .inl ⟨z, by simp only [Rho.push]; rw [List.getElem?_append_left (by rw [s.len]; exact h1)]; exact q⟩
      · refine .inr ⟨a, by simp only [Rho.push]; rw [List.getElem?_append_left (by rw [s.len]; exact h1)]; exact q, ?_⟩
        obtain ⟨u, hu⟩ := s.there (List.mem_of_getElem? q)
        exact o.mono (fun _ z => by rw [upd_ne (ne_of_none z hp)]; exact z) (fun _ _ z => z.grow g) fun _ _ z => z.grow g
    · rw [List.getElem?_append_right (by omega)] at e
      have q1 : l - st.length = 0 := by
        cases q : l - st.length with
        | zero => rfl
        | succ n => rw [q] at e; simp at e
      have : l = st.length := by omega
      subst this
      simp at e
      subst e
      exact .inr ⟨p, by simp only [Rho.push]; rw [← s.len]; simp, xs, upd_same, r.grow g⟩
  · obtain ⟨o, q⟩ := s.hidt a h
    exact ⟨o, by rw [upd_ne (ne_of_none q hp)]; exact q⟩
  · rcases List.mem_append.mp h with h | h
    · exact s.apart a h z
    · have := List.mem_singleton.mp h
      cases this
      exact hf (.inr z)
  · by_cases h1 : l < st.length
    · rw [List.getElem?_append_left h1] at e
      exact s.ord l ob e
    · rw [List.getElem?_append_right (by omega)] at e
      have e := List.mem_of_getElem? e
      rw [List.mem_singleton] at e
      subst e
      exact trivial
def Rho.drop (ρ : Rho) (l : Nat) : Rho := ⟨ρ.lc.set l none, ρ.hid⟩
theorem Grow.drop {l : Nat} : Grow ρ H (ρ.drop l) H := by
  refine ⟨by simp [Rho.drop], rfl, fun i a hi e => ?_, fun a o e n => ⟨e, fun z => n ?_⟩⟩
  · simp only [Rho.drop] at e
    by_cases h : l = i
    · subst h
      rw [List.getElem?_set_self hi] at e; cases e
    · rw [List.getElem?_set_ne h] at e; exact e
  · simp only [Rho.drop] at z
    obtain ⟨i, hi, e⟩ := List.getElem_of_mem z
    have e' : (ρ.lc.set l none)[i]? = some (some a) := by rw [List.getElem?_eq_getElem hi, e]
    by_cases h : l = i
    · subst h
      rw [List.getElem?_set_self (by simpa using hi)] at e'; cases e'
    · rw [List.getElem?_set_ne h] at e'; exact List.mem_of_getElem? e'
theorem RelSt.drop {l : Nat} (s : RelSt K ρ H st) : RelSt K (ρ.drop l) H (st.set l .dead) := by
  refine ⟨by simp [Rho.drop, s.len], fun i j a e1 e2 => ?_, fun i ob e => ?_, s.hidt, fun a h => s.apart a ?_, fun i ob e => ?_⟩
  · have f : ∀ i, (ρ.lc.set l none)[i]? = some (some a) → ρ.lc[i]? = some (some a) := fun i e => by
      by_cases h : l = i
      · subst h
        by_cases hi : l < ρ.lc.length
        · rw [List.getElem?_set_self hi] at e; cases e
        · rw [List.getElem?_eq_none (by simpa using hi)] at e; cases e
      · rw [List.getElem?_set_ne h] at e; exact e
    exact s.inj i j a (f i e1) (f j e2)
  · by_cases h : l = i
    · subst h
      by_cases hi : l < st.length
      · rw [List.getElem?_set_self hi] at e
        cases e
        exact .inl ⟨rfl, by simp only [Rho.drop]; rw [List.getElem?_set_self (by rw [s.len]; exact hi)]⟩
      · rw [List.getElem?_eq_none (by simpa using hi)] at e; cases e
    · rw [List.getElem?_set_ne h] at e
      rcases s.obj i ob e with ⟨z, q⟩ | ⟨a, q, o⟩
      · exact .inl ⟨z, by simp only [Rho.drop]; rw [List.getElem?_set_ne h]; exact q⟩
      · exact .inr ⟨a, by simp only [Rho.drop]; rw [List.getElem?_set_ne h]; exact q, o.mono (fun _ z => z) (fun _ _ z => z.grow .drop) fun _ _ z => z.grow .drop⟩
  · obtain ⟨i, hi, e⟩ := List.getElem_of_mem (show some a ∈ ρ.lc.set l none from h)
    have e' : (ρ.lc.set l none)[i]? = some (some a) := by rw [List.getElem?_eq_getElem hi, e]
    by_cases h : l = i
    · subst h
      rw [List.getElem?_set_self (by simpa using hi)] at e'; cases e'
    · rw [List.getElem?_set_ne h] at e'; exact List.mem_of_getElem? e'
  · by_cases h : l = i
    · subst h
      by_cases hi : l < st.length
      · rw [List.getElem?_set_self hi] at e
        cases e
        exact trivial
      · rw [List.getElem?_eq_none (by simpa using hi)] at e; cases e
    · rw [List.getElem?_set_ne h] at e
      exact s.ord i ob e
theorem KdR.rows {xs : List (NestedKey × Addr × Value)} {kvs : List (D × D)} (r : KdR K ρ H xs kvs) : ∃ vs, xs.map (·.1) = kvs.map (·.1.nk) ∧ Vals vs (xs.map (·.2.2)) ∧ RlAll K ρ H (xs.map fun x => V.ref x.2.1) (kvs.map (·.1)) ∧ RlAll K ρ H vs (kvs.map (·.2)) := by
  induction r with
  | nil => exact ⟨[], rfl, .nil, .nil, .nil⟩
  | @cons b u v k d xs ds r q1 q2 _ ih =>
    obtain ⟨vs, h1, h2, h3, h4⟩ := ih
    exact ⟨v :: vs, by simp [h1], .cons q1 h2, .cons r h3, .cons q2 h4⟩
end
section
variable {X : Cx} {ct : Nat → Value} {E : St → XK} {e : Expr} {es : List Expr} {f : ED} {g : AD} {gl : LD}
theorem de_tup {x1 pos} (h : PA X es (tA X.kw ct E g)) : PE X (.Tuple es x1 pos) (tE X.kw ct E (eTup g)) := PE.of (pe_tup h) fun σ H Q q => by
  refine (tG.bind (rel := RwAll) (k := fun ws env st => match allV ws with | some ds => if ds.length ≤ 100000 then R.ok (W.v (D.tup ds)) st else R.bad | none => R.bad) q).mono fun v H1 ⟨ρ1, st1, env, ws, a1, r1, q1⟩ => ?_
  cases ew : allV ws with
  | none => simp only [ew] at q1; exact q1.elim
  | some ds =>
    simp only [ew] at q1
    have r2 := r1.trees ew
    split at q1
    · rename_i hl
      refine ⟨sl5 (by rw [r2.length]; exact hl), fun p hp => ?_⟩
      exact okG.up q1 a1.1 (same_upd hp) (.v (.tup (.inl upd_same) (a1.1.fresh hp) (r2.same (same_upd hp))))
    · exact q1.elim
def aLim (g : AD) : LD := fun env st => (g env st).bind fun ws st => match allV ws with
  | some ds => if ds.length ≤ 100000 then .ok ds st else .bad
  | none => .bad
theorem df_lst {pos} (h : PA X es (tA X.kw ct E g)) : PE X (.List es pos) (tF X.kw ct E (aLim g)) := PE.of (pe_lst h) fun σ H Q ⟨ρ, st, env, a, q⟩ => by
  refine ⟨ρ, st, env, a, ?_⟩
  unfold aLim at q
  cases e : g env st with
  | ok ws st' =>
    rw [e] at q
    simp only [R.bind_ok] at q
    cases ew : allV ws with
    | none => simp only [ew] at q; exact q.elim
    | some ds =>
      simp only [ew] at q
      split at q
      · rename_i hl
        intro ρ' H' b gr s r
        have r2 := r.trees ew
        exact ⟨sl5 (by rw [r2.length]; exact hl), fun p hp => q ρ' H' p b gr s hp r2⟩
      · exact q.elim
  | exc x st' => rw [e] at q; exact q
  | bad => rw [e] at q; exact q.elim
theorem de_val (h : PE X e (tF X.kw ct E gl)) : PE X e (tE X.kw ct E (eLst gl)) := PE.of h fun σ H Q ⟨ρ, st, env, a, q⟩ => by
  refine ⟨ρ, st, env, a, ?_⟩
  unfold eLst at q
  cases e : gl env st with
  | ok ds st' =>
    rw [e] at q
    intro ρ' H' p xs gr s hp r
    exact q ρ' _ _ (gr.trans (.same (same_upd hp))) (s.same (same_upd hp)) (.v (.lst (.inl ⟨.inl upd_same, s.fresh hp⟩) (r.same (same_upd hp))))
  | exc x st' => rw [e] at q; exact q
  | bad => rw [e] at q; exact q.elim
theorem de_new (h : PE X e (tF X.kw ct E gl)) : PE X e (tE X.kw ct E (eNew gl)) := PE.of h fun σ H Q ⟨ρ, st, env, a, q⟩ => by
  refine ⟨ρ, st, env, a, ?_⟩
  unfold eNew at q
  cases e : gl env st with
  | ok ds st' =>
    rw [e] at q
    intro ρ' H' p xs gr s hp r
    refine q (ρ'.push p) _ _ (gr.trans (.push hp)) (s.push hp r) (.r (by rw [← s.len]; simp [Rho.push]) fun a ea => ?_)
    rw [← s.len] at ea
    simp [Rho.push] at ea
    rw [ea]
  | exc x st' => rw [e] at q; exact q
  | bad => rw [e] at q; exact q.elim
theorem frz_read {K : KW} {f : ED} {σ : St} {H : Hp} {Q : VK} (q : tE K ct E (eFrz f) σ H Q) : tE K ct E f σ H Q := by
  refine (tG.bind (rel := Rw) (k := fun d _ st => frz d st) q).mono fun v H1 ⟨ρ1, st1, env, d, a1, r1, q1⟩ => ?_
  cases d with
  | v d => exact q1.here a1.1 r1
  | r l =>
    simp only [frz] at q1
    cases e : st1[l]? with
    | none => rw [e] at q1; exact q1.elim
    | some ob =>
      rw [e] at q1
      cases ob with
      | lst ds =>
        rcases a1.1.obj l _ e with ⟨z, _⟩ | ⟨p, hp, xs, h1, h2⟩
        · cases z
        · cases r1 with
          | r hl hv =>
            cases hv p hp
            have n : ¬ (ρ1.drop l).mut p := fun z => by
              rcases z with z | z
              · obtain ⟨i, hi, ei⟩ := List.getElem_of_mem z
                have ei' : (ρ1.lc.set l none)[i]? = some (some p) := by
                  have q := List.getElem?_eq_getElem hi
                  rw [ei] at q
                  exact q
                by_cases hli : l = i
                · subst hli
                  rw [List.getElem?_set_self hl] at ei'; cases ei'
                · rw [List.getElem?_set_ne hli] at ei'
                  exact hli (a1.1.inj l i p hp ei')
              · exact a1.1.apart p (List.mem_of_getElem? hp) z
            exact q1 (ρ1.drop l) H1 _ .drop a1.1.drop (.v (.lst (.inl ⟨.inl h1, n⟩) (h2.grow .drop)))
      | dead => exact q1.elim
      | dct _ => exact q1.elim
      | kd kvs => exact q1.elim
      | ld kvs => exact q1.elim
      | set kvs => exact q1.elim
      | tab P q => exact q1.elim
      | ins P q => exact q1.elim
      | pr P => exact q1.elim
theorem de_frz (h : PE X e (tE X.kw ct E f)) : PE X e (tE X.kw ct E (eFrz f)) := PE.of h fun σ H Q q => frz_read q
end
end Jv
end
section
namespace Jv
open PySem PySem.Spec L2 PyProof.Rows
/-! ### a def that is called where no repr is under way -/
structure FnG (P : Program) (w : World) (K : PySem.W.Frag) (mg : Str → Option Value) (base : Heap) (CX : CXT) (k : Nat) (f : Addr) (fd : FuncData) (ps : List Str) (sp : Sp) : Prop where
  len : ∀ vs H Q E, sp vs H Q E → vs.length = ps.length
  run : ∀ (A : Around) (outer : List PySem.Env) (s : Shared) (H : Hp) (args : Args) (us : List Value) (vs : List V) (Q : VK) (E : XK),
    A.guards = some [] → Room k A → Env0 P w K mg base A outer s H → BindsTo s fd args (ps.zip us) → Vals vs us → sp vs H Q E →
    codeAny (model P w) A (.call (.ref f) args) (CR CX outer P w H s Q E) s
theorem FnG.mono {P : Program} {w : World} {K : PySem.W.Frag} {mg : Str → Option Value} {base : Heap} {CX : CXT} {j k : Nat} {f : Addr} {fd : FuncData} {ps : List Str} {sp : Sp} (F : FnG P w K mg base CX j f fd ps sp) (h : j ≤ k) :
    FnG P w K mg base CX k f fd ps sp := ⟨F.len, fun A outer s H args us vs Q E hg hr => F.run A outer s H args us vs Q E hg (Room.mono hr h)⟩
section
variable {X : Cx} {CX : CXT} {k : Nat} {f : Addr} {fd : FuncData} {ps : List Str} {sp : Sp} {E : XK} {x : Str} {p pos : Pos} {e : Expr} {es : List Expr} {t : TA}
theorem run_g {pins : List (Addr × Obj)} {σ : St} {H : Hp} {s : Shared} {Q : VK} {us : List Value} {vs : List V} (F : FnG X.prog X.w X.K X.mg X.base CX k f fd ps sp)
    (gd : X.A.guards = some []) (hr : Room k X.A) (hb : Binds X.K fd ps []) (hx : PassesAt CX X σ E) (I : Inv X pins σ H s) (r : Vals vs us) (h : sp vs H Q E) :
    wpAny (model X.prog X.w) X.A (call (.ref f) us) (EP X pins σ Q) X.xe s := by
  have n : us.length = ps.length := r.length.symm.trans (F.len _ _ _ _ h)
  have b := hb s us I.kIn (by rw [List.append_nil]; exact n)
  rw [List.append_nil] at b
  apply wpAny_call
  refine codeAny_mono (F.run X.A X.stack s H ⟨us, []⟩ us vs Q E gd hr I.env0 b r h) ?_
  rintro (e | (_ | _ | _ | u)) s' q
  · exact hx pins H s e s' I q
  · exact q.elim
  · exact q.elim
  · exact q.elim
  · exact I.after q
/-- f(..) -/
def tCallG (sp : Sp) (E : St → XK) (t : TA) : TE := fun σ H Q => t σ H fun vs H1 => sp vs H1 Q (E σ)
theorem pe_callG {E : St → XK} (F : FnG X.prog X.w X.K X.mg X.base CX k f fd ps sp) (gd : X.A.guards = some []) (hr : Room k X.A) (hg : Gl X x) (hm : X.mg x = some (.ref f)) (hk : PySem.W.keepIn X.K (.ref f) = true)
    (hb : Binds X.K fd ps []) (hx : ∀ σ, PassesAt CX X σ (E σ)) (ha : PA X (e :: es) t) (hdb : (x == ("__debug__" : Str)) = false := by decide)
    (he : starEach (e :: es) X.env = (false, eval e X.env) :: starEach es X.env := by rfl) (hpl : (backTo pos (starEach es X.env)).any (·.1) = false := by rfl) :
    PE X (.Call (.Name x p) (e :: es) [] pos) (tCallG sp E t) := ⟨fun pins s σ H Q I h => by
  apply wpAny_Call_Name_kw
  refine ld_glob I hg hm ?_ hdb
  refine PySem.W.callWith_K (h₀ := X.base) I.ok.mod.kin hk ?_ he hpl
  refine thn (ha.run pos pins s σ H _ I h) ?_
  rintro us s1 ⟨vs, H1, I1, r, q⟩
  exact ⟨I1.kIn, run_g F gd hr hb (hx σ) I1 r q⟩⟩
end
/-- a def by its body -/
theorem fnG_of {CX : CXT} {P : Program} {w : World} {K : PySem.W.Frag} {mg : Str → Option Value} {base : Heap} {k : Nat} {f : Addr} {x qual : Str} {st : Stmt} {fd : FuncData} {N ps : List Str} {sp : Sp}
    (F : Fun K x qual st f fd) (S : FnScope N ps (defScope st)) (len : ∀ vs H Q E, sp vs H Q E → vs.length = ps.length)
    (hbody : ∀ (cdv : Value) (A : Around) (outer : List PySem.Env) (s : Shared) (H : Hp) (vs : List V) (Q : VK) (E : XK), A.guards = some [] → Room k (A.deeper (envOfC qual (defScope st) s.heap.objs.size f cdv)) → sp vs H Q E →
      ∃ t, PSs (cxOf CX P w K mg base N qual (defScope st) f cdv A outer s H E) (defBody st) t ∧ t { nx := fun _ H' => Q .non H', rt := Q } (start N vs) H) :
    FnG P w K mg base CX (k + 1) f fd ps sp := by
  obtain ⟨oc, od, kV, doc, pm, an, cdv, ct, osl, rfl, lk, hcd⟩ := F.ex
  refine ⟨len, fun A outer s H args us vs Q E gd hr e0 hb r hsp => ?_⟩
  have hl := len _ _ _ _ hsp
  have KX : K.In s.heap := e0.mod.kin.keeps (fun b o e => (e0.bs b o e).1)
  have lim : s.heap.NoLimit := e0.mod.nolimit.keeps (fun b o e => (e0.bs b o e).1)
  refine codeAny_call_function hr.depth (KX _ _ lk) rfl S.co S.gen rfl (PySem.W.codeRec_of KX hcd) (hb _ _ _ _ ?_)
  refine wpAny_newFunctionEnv_cells S.kind ?_ (fun env he s1 y => ?_)
  · rintro ⟨n, v⟩ hy
    rcases S.par n (List.of_mem_zip hy).1 with q | q
    · exact .inl q
    · exact .inr ⟨q, PySem.W.cellsFrom_some _ _ _ (.inl q)⟩
  · subst he
    refine ⟨lim.keeps y.toInCall.keep, codeAny_func ?_⟩
    obtain ⟨t, ht, hq⟩ := hbody cdv A outer s H vs Q E gd (hr.deeper _) hsp
    have I : Inv (cxOf CX P w K mg base N qual (defScope st) f cdv A outer s H E) [] (start N vs) H s1 := inv_start S hr.hd e0 hl r y
    refine wpAny_mono (ht.run [] s1 (start N vs) H _ I hq) ?_ (fun e s' hs => hs)
    rintro (_ | _ | _ | u) s' hs
    · obtain ⟨σ', H', J, q⟩ := hs
      exact ⟨.non, H', J.os, J.bare, J.base, J.hok, rfl, q⟩
    · obtain ⟨_, _, _, q⟩ := hs
      exact q.elim
    · obtain ⟨_, _, _, q⟩ := hs
      exact q.elim
    · obtain ⟨v, σ', H', J, rv, q⟩ := hs
      exact ⟨v, H', J.os, J.bare, J.base, J.hok, rv, q⟩
end Jv
end
section
namespace Jv
open PySem PySem.Spec L2 PyProof.Rows
/-! ### statements: what they come to -/
inductive Fl where
  | nx (env : Env) (st : Sto) | rt (w : W) (st : Sto) | bk (env : Env) (st : Sto) | ct (env : Env) (st : Sto) | exc (env : Env) (x : Xc) (st : Sto) | bad
abbrev SD := Env → Sto → Fl
def okS (K : KW) (ct : Nat → Value) (ρ : Rho) (H : Hp) (E : St → XK) (Dn : Ends) : Fl → Prop
  | .nx env' st' => ∀ ρ' H' σ', Grow ρ H ρ' H' → At K ρ' H' st' σ' env' → Dn.nx σ' H'
  | .rt w st' => ∀ ρ' H' v, Grow ρ H ρ' H' → RelSt K ρ' H' st' → Rw K ρ' H' v w → Dn.rt v H'
  | .bk env' st' => ∀ ρ' H' σ', Grow ρ H ρ' H' → At K ρ' H' st' σ' env' → Dn.bk σ' H'
  | .ct env' st' => ∀ ρ' H' σ', Grow ρ H ρ' H' → At K ρ' H' st' σ' env' → Dn.ct σ' H'
  | .exc env' x st' => ∀ ρ' H' σ' cv od, Grow ρ H ρ' H' → At K ρ' H' st' σ' env' → XRl K ct ρ' H' cv od x → E σ' cv od H'
  | .bad => False
def tS (K : KW) (ct : Nat → Value) (E : St → XK) (f : SD) : TS := fun Dn σ H => ∃ ρ st env, At K ρ H st σ env ∧ okS K ct ρ H E Dn (f env st)
theorem okS.grow {K : KW} {ct : Nat → Value} {ρ ρ1 : Rho} {H H1 : Hp} {E : St → XK} {Dn : Ends} {r : Fl} (g : Grow ρ H ρ1 H1) (h : okS K ct ρ H E Dn r) : okS K ct ρ1 H1 E Dn r := by
  cases r with
  | nx e s => exact fun ρ' H' σ' g' => h ρ' H' σ' (g.trans g')
  | rt e s => exact fun ρ' H' σ' g' => h ρ' H' σ' (g.trans g')
  | bk e s => exact fun ρ' H' σ' g' => h ρ' H' σ' (g.trans g')
  | ct e s => exact fun ρ' H' σ' g' => h ρ' H' σ' (g.trans g')
  | exc e x s => exact fun ρ' H' σ' cv od g' => h ρ' H' σ' cv od (g.trans g')
  | bad => exact h
/-- an expression first -/
def R.thenS {α : Type} (r : R α) (env : Env) (k : α → Sto → Fl) : Fl := match r with
  | .ok a st => k a st
  | .exc x st => .exc env x st
  | .bad => .bad
@[simp] theorem R.thenS_ok {α : Type} (a : α) (st : Sto) (env : Env) (k : α → Sto → Fl) : (R.ok a st).thenS env k = k a st := rfl
@[simp] theorem R.thenS_exc {α : Type} (x : Xc) (st : Sto) (env : Env) (k : α → Sto → Fl) : (R.exc x st : R α).thenS env k = .exc env x st := rfl
@[simp] theorem R.thenS_bad {α : Type} (env : Env) (k : α → Sto → Fl) : (R.bad : R α).thenS env k = .bad := rfl
theorem okS.first {K : KW} {ct : Nat → Value} {α β : Type} {rel : Rel β α} {ρ : Rho} {H : Hp} {E : St → XK} {Dn : Ends} {r : R α} {env : Env} {σ : St} {k : α → Sto → Fl} (h : okS K ct ρ H E Dn (r.thenS env k)) (he : RelEnv K ρ H σ env) :
    okG K ct rel ρ H (E σ) (fun b H1 => ∃ ρ1 st1 a, At K ρ1 H1 st1 σ env ∧ Grow ρ H ρ1 H1 ∧ rel K ρ1 H1 b a ∧ okS K ct ρ1 H1 E Dn (k a st1)) r := by
  cases r with
  | ok a st' => exact fun ρ1 H1 b g s r => ⟨ρ1, st', a, ⟨s, he.grow g⟩, g, r, okS.grow g h⟩
  | exc x st' => exact fun ρ1 H1 cv od g s r => h ρ1 H1 σ cv od g ⟨s, he.grow g⟩ r
  | bad => exact h.elim
/-! ### defs -/
def noX {α : Type} : R α → R α
  | .exc _ _ => .bad
  | r => r
@[simp] theorem noX_ok {α : Type} (a : α) (st : Sto) : noX (.ok a st) = .ok a st := rfl
@[simp] theorem noX_bad {α : Type} : noX (.bad : R α) = .bad := rfl
def fin (n : Nat) : Fl → R W
  | .nx _ st' => .ok (.v .non) (st'.take n)
  | .rt (.v d) st' => .ok (.v d) (st'.take n)
  | .rt (.r l) st' => if l < n then .ok (.r l) (st'.take n) else .ok (.r l) st'
  | .exc _ x st' => .exc x (st'.take n)
  | _ => .bad
def envOf (n : Nat) (ws : List W) : Env := ws.map some ++ List.replicate (n - ws.length) none
def runS (n : Nat) (f : SD) : List W → Sto → R W := fun ws st => fin st.length (f (envOf n ws) st)
def spG (K : KW) (ct : Nat → Value) (n : Nat) (run : List W → Sto → R W) : Sp := fun vs H Q E => ∃ ρ st ws, RelSt K ρ H st ∧ RwAll K ρ H vs ws ∧ vs.length = n ∧ okG K ct Rw ρ H E Q (run ws st)
theorem relEnv_start {K : KW} {ρ : Rho} {H : Hp} {N : List Str} {vs : List V} {ws : List W} (r : RwAll K ρ H vs ws) : RelEnv K ρ H (start N vs) (envOf N.length ws) := by
  have hl := r.length
  refine ⟨by simp [L2.start, envOf, hl], fun i d e => ?_⟩
  unfold envOf at e
  by_cases hi : i < ws.length
  · rw [List.getElem?_append_left (by simpa using hi), List.getElem?_map] at e
    cases q : ws[i]? with
    | none => rw [q] at e; cases e
    | some w =>
      rw [q] at e
      cases e
      obtain ⟨v, hv, rv⟩ := r.getD q
      refine ⟨v, ?_, rv⟩
      unfold L2.start
      rw [List.getElem?_append_left (by simpa [hl] using hi), List.getElem?_map, hv]
      rfl
  · rw [List.getElem?_append_right (by simpa using hi), List.getElem?_replicate] at e
    split at e <;> cases e
theorem fin_ok {K : KW} {ct : Nat → Value} {ρ : Rho} {H : Hp} {st : Sto} {E : XK} {Q : VK} {r : Fl} (s : RelSt K ρ H st) (h : okG K ct Rw ρ H E Q (fin st.length r)) :
    okS K ct ρ H (fun _ => E) { nx := fun _ H' => Q .non H', rt := Q } r := by
  have hn : ρ.lc.length ≤ st.length := Nat.le_of_eq s.len
  cases r with
  | nx env' st' => exact fun ρ' H' σ' g a => h (ρ'.cut st.length) H' .non (g.cut hn) (a.1.cut _) (.v .non)
  | rt w st' =>
    intro ρ' H' v g s' r
    cases w with
    | v d => exact h (ρ'.cut st.length) H' v (g.cut hn) (s'.cut _) (r.cut trivial)
    | r l =>
      simp only [fin] at h
      split at h
      · rename_i hl
        exact h (ρ'.cut st.length) H' v (g.cut hn) (s'.cut _) (r.cut hl)
      · exact h ρ' H' v g s' r
  | exc env' x st' =>
    intro ρ' H' σ' cv od g a r
    refine h (ρ'.cut st.length) H' cv od (g.cut hn) (a.1.cut _) ⟨r.1, ?_⟩
    have r2 := r.2
    cases od with
    | none => exact r2
    | some d => obtain ⟨vs, h1, hm, h2, h3⟩ := r2; exact ⟨vs, h1, fun z => hm (cut_mut z), h2, h3.cut _⟩
  | bk _ _ => exact h.elim
  | ct _ _ => exact h.elim
  | bad => exact h.elim
/-- a def that lets no error out -/
theorem fn_den0 {P : Program} {w : World} {K : PySem.W.Frag} {mg : Str → Option Value} {base : Heap} {ct : Nat → Value} {k : Nat} {f : Addr} {x qual : Str} {st : Stmt} {fd : FuncData} {N ps : List Str} {den : SD}
    (F : Fun K x qual st f fd) (S : FnScope N ps (defScope st))
    (body : ∀ (cdv : Value) (A : Around) (outer : List PySem.Env) (s : Shared) (H : Hp) (E : XK), A.guards = some [] → Room k (A.deeper (envOfC qual (defScope st) s.heap.objs.size f cdv)) →
      PSs (cxOf CX0 P w K mg base N qual (defScope st) f cdv A outer s H E).nox (defBody st) (tS ⟨K, w, mg⟩ ct (fun _ => E0) den)) :
    FnG P w K mg base CX0 (k + 1) f fd ps (spG ⟨K, w, mg⟩ ct ps.length fun ws st => noX (runS N.length den ws st)) := by
  refine fnG_of F S (fun vs H Q E ⟨_, _, _, _, _, h, _⟩ => h) fun cdv A outer s H vs Q E gd hr ⟨ρ, st', ws, rs, rw', hl, h⟩ => ⟨_, (body cdv A outer s H E gd hr).nox, ?_⟩
  refine ⟨ρ, st', _, ⟨rs, relEnv_start rw'⟩, fin_ok rs ?_⟩
  show okG ⟨K, w, mg⟩ ct Rw ρ H E0 Q (runS N.length den ws st')
  replace h : okG ⟨K, w, mg⟩ ct Rw ρ H E Q (noX (runS N.length den ws st')) := h
  cases e : runS N.length den ws st' with
  | ok a b => rw [e] at h; exact h
  | exc a b => rw [e] at h; exact h.elim
  | bad => rw [e] at h; exact h.elim
/-! ### calls -/
def eCall (run : List W → Sto → R W) (g : AD) : ED := fun env st => (g env st).bind run
section
variable {X : Cx} {ct : Nat → Value} {E : St → XK} {CX : CXT} {k : Nat} {f : Addr} {fd : FuncData} {ps : List Str} {n : Nat} {run : List W → Sto → R W} {x : Str} {p pos : Pos} {e : Expr} {es : List Expr} {g : AD}
theorem len_of {K : KW} {σ : St} {H : Hp} {Q : VK} (hn : ∀ env st ws st', g env st = .ok ws st' → ws.length = n) (h : tE K ct E (eCall run g) σ H Q) : tCallG (spG K ct n run) E (tA K ct E g) σ H Q := by
  obtain ⟨ρ, st, env, a, h⟩ := h
  refine ⟨ρ, st, env, a, ?_⟩
  unfold eCall at h
  cases eg : g env st with
  | ok ws st1 =>
    rw [eg] at h
    exact fun ρ1 H1 vs gr s r => ⟨ρ1, st1, ws, s, r, r.length.trans (hn _ _ _ _ eg), okG.grow gr h⟩
  | exc x st' => rw [eg] at h; exact h
  | bad => rw [eg] at h; exact h.elim
theorem de_call (F : FnG X.prog X.w X.K X.mg X.base CX k f fd ps (spG X.kw ct n run)) (gd : X.A.guards = some []) (hr : Room k X.A) (hg : Gl X x) (hm : X.mg x = some (.ref f)) (hk : PySem.W.keepIn X.K (.ref f) = true)
    (hb : Binds X.K fd ps []) (hx : ∀ σ, PassesAt CX X σ (E σ)) (hn : ∀ env st ws st', g env st = .ok ws st' → ws.length = n) (ha : PA X (e :: es) (tA X.kw ct E g)) (hdb : (x == ("__debug__" : Str)) = false := by decide)
    (he : starEach (e :: es) X.env = (false, eval e X.env) :: starEach es X.env := by rfl) (hpl : (backTo pos (starEach es X.env)).any (·.1) = false := by rfl) :
    PE X (.Call (.Name x p) (e :: es) [] pos) (tE X.kw ct E (eCall run g)) := PE.of (pe_callG F gd hr hg hm hk hb hx ha hdb he hpl) fun σ H Q h => len_of hn h
theorem pass00 {X : Cx} {E : St → XK} : ∀ σ, PassesAt CX0 X σ (E σ) := fun _ _ _ _ _ _ _ h => h.elim
end
theorem aNil_len : ∀ env st ws st', aNil env st = .ok ws st' → ws.length = 0 := fun env st ws st' e => by unfold aNil at e; cases e; rfl
theorem aCons_len {f : ED} {g : AD} {n : Nat} (h : ∀ env st ws st', g env st = .ok ws st' → ws.length = n) : ∀ env st ws st', aCons f g env st = .ok ws st' → ws.length = n + 1 := fun env st ws st' e => by
  unfold aCons at e
  cases e1 : f env st with
  | ok w st1 =>
    rw [e1] at e
    simp only [R.bind_ok] at e
    cases e2 : g env st1 with
    | ok ws2 st2 => rw [e2] at e; cases e; simp [h _ _ _ _ e2]
    | exc x s => rw [e2] at e; cases e
    | bad => rw [e2] at e; cases e
  | exc x s => rw [e1] at e; cases e
  | bad => rw [e1] at e; cases e
/-! ### built-ins by values -/
abbrev B1 := Sto → List W → Option D
def eBlt (g : B1) (f : AD) : ED := fun env st => (f env st).bind fun ws st => ofOp st (g st ws)
def rA (K : KW) (g : B1) : List V → Hp → VK → Prop := fun xs H Q => ∃ ρ st ws d, RelSt K ρ H st ∧ RwAll K ρ H xs ws ∧ g st ws = some d ∧ ∀ H' v, Same H H' → Rl K ρ H' v d → Q v H'
abbrev BF := Sto → List W → Option (List D)
def lBlt (g : BF) (f : AD) : LD := fun env st => (f env st).bind fun ws st => match g st ws with
  | some ds => .ok ds st
  | none => .bad
def rF (K : KW) (g : BF) : List V → Hp → VK → Prop := fun xs H Q => ∃ ρ st ws ds, RelSt K ρ H st ∧ RwAll K ρ H xs ws ∧ g st ws = some ds ∧ ∀ p ys, H p = none → RlAll K ρ H ys ds → Q (.ref p) (upd H p (.lst ys))
section
variable {X : Cx} {ct : Nat → Value} {E : St → XK} {x : Str} {p pos : Pos} {e : Expr} {es : List Expr} {g : AD} {id T : String} {b : B1} {bf : BF}
theorem blt_read {K : KW} {σ : St} {H : Hp} {Q : VK} (h : tE K ct E (eBlt b g) σ H Q) : tCB (rA K b) (tA K ct E g) σ H Q := by
  refine (tG.bind (rel := RwAll) (k := fun ws _ st => ofOp st (b st ws)) h).mono fun vs H1 ⟨ρ1, st1, env, ws, a1, r1, q1⟩ => ?_
  cases e : b st1 ws with
  | none => rw [e] at q1; exact q1.elim
  | some d => rw [e] at q1; exact ⟨ρ1, st1, ws, d, a1.1, r1, e, fun H' v s r => okG.up q1 a1.1 s (.v r)⟩
theorem bltF_read {K : KW} {σ : St} {H : Hp} {Q : VK} (h : tF K ct E (lBlt bf g) σ H Q) : tCB (rF K bf) (tA K ct E g) σ H Q := by
  obtain ⟨ρ, st, env, a, h⟩ := h
  refine ⟨ρ, st, env, a, ?_⟩
  unfold lBlt at h
  cases eg : g env st with
  | ok ws st1 =>
    rw [eg] at h
    intro ρ1 H1 vs gr s r
    simp only [R.bind_ok] at h
    cases e : bf st1 ws with
    | none => simp only [e] at h; exact h.elim
    | some ds => simp only [e] at h; exact ⟨ρ1, st1, ws, ds, s, r, e, fun p ys hp ry => h ρ1 H1 p ys gr s hp ry⟩
  | exc x st' => rw [eg] at h; exact h
  | bad => rw [eg] at h; exact h.elim
theorem de_callB (hc : CallR X (.builtin id) (rA X.kw b)) (hg : Gl X x) (hm : X.mg x = none) (hv : bootBuiltins x = some (.builtin id)) (ha : PA X (e :: es) (tA X.kw ct E g)) (hn : x ≠ "__name__" := by decide) (hdb : (x == ("__debug__" : Str)) = false := by decide)
    (he : starEach (e :: es) X.env = (false, eval e X.env) :: starEach es X.env := by rfl) (hpl : (backTo pos (starEach es X.env)).any (·.1) = false := by rfl) : PE X (.Call (.Name x p) (e :: es) [] pos) (tE X.kw ct E (eBlt b g)) :=
  PE.of (pe_callB hc hg hm hv ha hn hdb he hpl) fun σ H Q h => blt_read h
theorem de_callT (hc : CallR X (.type T) (rA X.kw b)) (hg : Gl X x) (hm : X.mg x = none) (hv : bootBuiltins x = some (.type T)) (ha : PA X (e :: es) (tA X.kw ct E g)) (hn : x ≠ "__name__" := by decide) (hdb : (x == ("__debug__" : Str)) = false := by decide)
    (he : starEach (e :: es) X.env = (false, eval e X.env) :: starEach es X.env := by rfl) (hpl : (backTo pos (starEach es X.env)).any (·.1) = false := by rfl) : PE X (.Call (.Name x p) (e :: es) [] pos) (tE X.kw ct E (eBlt b g)) :=
  PE.of (pe_callTy hc hg hm hv ha hn hdb he hpl) fun σ H Q h => blt_read h
theorem df_callT (hc : CallR X (.type T) (rF X.kw bf)) (hg : Gl X x) (hm : X.mg x = none) (hv : bootBuiltins x = some (.type T)) (ha : PA X (e :: es) (tA X.kw ct E g)) (hn : x ≠ "__name__" := by decide) (hdb : (x == ("__debug__" : Str)) = false := by decide)
    (he : starEach (e :: es) X.env = (false, eval e X.env) :: starEach es X.env := by rfl) (hpl : (backTo pos (starEach es X.env)).any (·.1) = false := by rfl) : PE X (.Call (.Name x p) (e :: es) [] pos) (tF X.kw ct E (lBlt bf g)) :=
  PE.of (pe_callTy hc hg hm hv ha hn hdb he hpl) fun σ H Q h => bltF_read h
theorem df_callB (hc : CallR X (.builtin id) (rF X.kw bf)) (hg : Gl X x) (hm : X.mg x = none) (hv : bootBuiltins x = some (.builtin id)) (ha : PA X (e :: es) (tA X.kw ct E g)) (hn : x ≠ "__name__" := by decide) (hdb : (x == ("__debug__" : Str)) = false := by decide)
    (he : starEach (e :: es) X.env = (false, eval e X.env) :: starEach es X.env := by rfl) (hpl : (backTo pos (starEach es X.env)).any (·.1) = false := by rfl) : PE X (.Call (.Name x p) (e :: es) [] pos) (tF X.kw ct E (lBlt bf g)) :=
  PE.of (pe_callB hc hg hm hv ha hn hdb he hpl) fun σ H Q h => bltF_read h
end
/-- len -/
def lenB : B1
  | st, [w] => match w with
    | .v (.str x) => if x.length ≤ 100000 then some (.int x.length) else none
    | .v (.tup ds) => some (.int ds.length)
    | w => (asLst st w).map fun ds => .int ds.length
  | _, _ => none
def tyN (st : Sto) : W → Option String
  | .v .non => some "NoneType"
  | .v (.bl _) => some "bool"
  | .v (.int _) => some "int"
  | .v (.str _) => some "str"
  | .v (.tup _) => some "tuple"
  | .v (.lst _) => some "list"
  | .v (.dct []) => some "dict"
  | .r l => match st[l]? with
    | some (.lst _) => some "list"
    | some (.dct _) => some "dict"
    | _ => none
  | _ => none
def isSub (t n : String) : Option Bool :=
  if n ∈ ["str", "tuple", "bool", "int", "list", "dict"] then some (t == n || (t == "bool" && n == "int")) else none
/-- isinstance(x, T) -/
def isiB : B1
  | st, [w, .v (.ty n)] => (tyN st w).bind fun t => (isSub t n).map .bl
  | _, _ => none
def allBl : List D → Option (List Bool)
  | [] => some []
  | .bl b :: r => (allBl r).map (b :: ·)
  | _ :: _ => none
def allB : B1
  | st, [w] => (asLst st w).bind fun ds => (allBl ds).map fun bs => .bl (bs.all id)
  | _, _ => none
def intB : B1
  | _, [.v (.int i)] => some (.int i)
  | _, [.v (.bl b)] => some (.int (if b then 1 else 0))
  | _, _ => none
def minB : B1
  | _, [.v (.int i), .v (.int j)] => some (.int (if j < i then j else i))
  | _, _ => none
def tupleB : B1
  | st, [w] => match w with
    | .v (.tup ds) => some (.tup ds)
    | w => (asLst st w).map .tup
  | _, _ => none
/-- list(x) -/
def listF : BF
  | st, [w] => match w with
    | .v (.tup ds) => some ds
    | w => asLst st w
  | _, _ => none
section
variable {X : Cx} {K : KW} {ρ : Rho} {H : Hp}
theorem RwAll.one {xs : List V} {w : W} (h : RwAll K ρ H xs [w]) : ∃ v, xs = [v] ∧ Rw K ρ H v w := by
  cases h with | cons r t => cases t; exact ⟨_, rfl, r⟩
theorem RwAll.two {xs : List V} {w w' : W} (h : RwAll K ρ H xs [w, w']) : ∃ v v', xs = [v, v'] ∧ Rw K ρ H v w ∧ Rw K ρ H v' w' := by
  cases h with | cons r t => cases t with | cons r' t' => cases t'; exact ⟨_, _, rfl, r, r'⟩
theorem cb_len : CallR X (.builtin "len") (rA X.kw lenB) := by
  intro pins s σ H xs us Q I rr h
  obtain ⟨ρ, st, ws, d, rs, r, e, q⟩ := h
  unfold lenB at e
  split at e
  · rename_i w0
    obtain ⟨v, rfl, rv⟩ := r.one
    split at e
    · split at e
      · rename_i hl
        cases e
        cases rv with | v rv => cases rv; exact call_len_str pins s σ H _ us Q I rr ⟨_, rfl, sl5 hl, q _ _ (.refl _) (.int _)⟩
      · cases e
    · cases e
      cases rv with
      | v rv =>
        cases rv with
        | tup h1 n1 q1 => exact call_len_seq pins s σ H _ us Q I rr ⟨_, _, rfl, .inr (.inl h1), by rw [q1.length]; exact q _ _ (.refl _) (.int _)⟩
    · cases ea : asLst st w0 with
      | none => rw [ea] at e; cases e
      | some ds =>
        rw [ea] at e
        cases e
        obtain ⟨a, ys, rfl, h1, h2⟩ := lst_of rs rv ea
        exact call_len_seq pins s σ H _ us Q I rr ⟨_, _, rfl, .inl h1, by rw [h2.length]; exact q _ _ (.refl _) (.int _)⟩
  · cases e
theorem tyX_of {st : Sto} {v : V} {w : W} {t : String} (s : RelSt K ρ H st) (r : Rw K ρ H v w) (e : tyN st w = some t) : TyX K H v (.type t) := by
  cases r with
  | v r =>
    cases r with
    | non => cases e; exact .base .non
    | bl b => cases e; exact .base (.bl b)
    | int i => cases e; exact .base (.int i)
    | str x => cases e; exact .base (.str x)
    | ty n => cases e
    | tup h n q =>
      cases e
      rcases h with h | ⟨o, h⟩
      · exact .base (.tup h)
      · exact .fTuple h
    | lst h q =>
      cases e
      rcases h with ⟨h | ⟨o, h⟩, n⟩ | ⟨o, its, n, h1, h2, _⟩
      · exact .base (.lst h)
      · exact .base (.frz h)
      · exact .kList h1 h2
    | dct0 h n => cases e; exact .base (.dK h)
    | kd h n o m r => cases e
    | ld h n o m r => cases e
    | adr a => cases e
    | tupx _ _ _ _ => cases e
    | exc0 h n m => cases e
    | excd h n m k k' f r => cases e
    | cod h n => cases e
  | @r l _ hl hq =>
    simp only [tyN] at e
    split at e
    · rename_i xs he
      cases e
      rcases s.obj l _ he with ⟨z, _⟩ | ⟨a, e1, xs', h1, h2⟩
      · cases z
      · cases hq a e1; exact .base (.lst h1)
    · rename_i xs he
      cases e
      rcases s.obj l _ he with ⟨z, _⟩ | ⟨a, e1, xs', h1, h2⟩
      · cases z
      · cases hq a e1; exact .base (.dK h1)
    · cases e
theorem kit_sub {t n : String} {b : Bool} (ht : t ∈ ["NoneType", "bool", "int", "str", "tuple", "list", "dict"]) (h : isSub t n = some b) : kitB t n = some b := by
  unfold isSub at h
  split at h
  · rename_i hn
    have all : ∀ t ∈ ["NoneType", "bool", "int", "str", "tuple", "list", "dict"], ∀ n ∈ ["str", "tuple", "bool", "int", "list", "dict"], kitB t n = some (t == n || (t == "bool" && n == "int")) := by decide +kernel
    rw [all t ht n hn]
    exact h
  · cases h
theorem tyN_mem {st : Sto} {w : W} {t : String} (e : tyN st w = some t) : t ∈ ["NoneType", "bool", "int", "str", "tuple", "list", "dict"] := by
  unfold tyN at e
  split at e
  any_goals (cases e; simp)
  all_goals try (split at e)
  any_goals (cases e; simp)
  all_goals cases e
theorem cb_isi : CallR X (.builtin "isinstance") (rA X.kw isiB) := by
  intro pins s σ H xs us Q I rr h
  obtain ⟨ρ, st, ws, d, rs, r, e, q⟩ := h
  unfold isiB at e
  split at e
  · rename_i w n
    obtain ⟨v, v', rfl, rv, rv'⟩ := r.two
    cases rv' with | v rv' =>
    cases rv'
    cases et : tyN st w with
    | none => rw [et] at e; cases e
    | some t =>
      rw [et] at e
      simp only [Option.bind_some] at e
      cases eb : isSub t n with
      | none => rw [eb] at e; cases e
      | some b =>
        rw [eb] at e
        cases e
        exact call_isi pins s σ H _ us Q I rr ⟨v, .ty n, .type t, .type n, b, rfl, .ty n, tyX_of rs rv et, kit_ty (kit_sub (tyN_mem et) eb), q _ _ (.refl _) (.bl _)⟩
  · cases e
theorem allBl_rl : ∀ {vs : List V} {ds : List D} {bs : List Bool}, RlAll K ρ H vs ds → allBl ds = some bs → vs = bs.map V.bl
  | _, _, _, .nil, e => by cases e; rfl
  | _, .bl b :: r, bs, .cons h t, e => by
    simp only [allBl] at e
    cases q : allBl r with
    | none => rw [q] at e; cases e
    | some bs' => rw [q] at e; cases e; cases h; rw [allBl_rl t q]; rfl
  | _, .non :: r, bs, .cons h t, e => by cases e
  | _, .int _ :: r, bs, .cons h t, e => by cases e
  | _, .str _ :: r, bs, .cons h t, e => by cases e
  | _, .tup _ :: r, bs, .cons h t, e => by cases e
  | _, .lst _ :: r, bs, .cons h t, e => by cases e
  | _, .dct _ :: r, bs, .cons h t, e => by cases e
  | _, .ty _ :: r, bs, .cons h t, e => by cases e
theorem cb_all (hc : X.calm = true) : CallR X (.builtin "all") (rA X.kw allB) := by
  intro pins s σ H xs us Q I rr h
  obtain ⟨ρ, st, ws, d, rs, r, e, q⟩ := h
  unfold allB at e
  split at e
  · rename_i w
    obtain ⟨v, rfl, rv⟩ := r.one
    cases ea : asLst st w with
    | none => rw [ea] at e; cases e
    | some ds =>
      rw [ea] at e
      simp only [Option.bind_some] at e
      cases eb : allBl ds with
      | none => rw [eb] at e; cases e
      | some bs =>
        rw [eb] at e
        cases e
        obtain ⟨a, ys, rfl, h1, h2⟩ := lst_of rs rv ea
        cases allBl_rl h2 eb
        exact cr_all hc pins s σ H _ us Q I rr ⟨a, bs, rfl, h1, q _ _ (.refl _) (.bl _)⟩
  · cases e
theorem cb_int : CallR X (.type "int") (rA X.kw intB) := by
  intro pins s σ H xs us Q I rr h
  obtain ⟨ρ, st, ws, d, rs, r, e, q⟩ := h
  unfold intB at e
  split at e
  · obtain ⟨v, rfl, rv⟩ := r.one
    cases e
    cases rv with | v rv => cases rv; exact call_int1 pins s σ H _ us Q I rr (.inl ⟨_, rfl, q _ _ (.refl _) (.int _)⟩)
  · obtain ⟨v, rfl, rv⟩ := r.one
    cases e
    cases rv with | v rv => cases rv; exact call_int1 pins s σ H _ us Q I rr (.inr ⟨_, rfl, q _ _ (.refl _) (.int _)⟩)
  · cases e
theorem cb_min (hc : X.calm = true) : CallR X (.builtin "min") (rA X.kw minB) := by
  intro pins s σ H xs us Q I rr h
  obtain ⟨ρ, st, ws, d, rs, r, e, q⟩ := h
  unfold minB at e
  split at e
  · obtain ⟨v, v', rfl, rv, rv'⟩ := r.two
    cases e
    cases rv with | v rv => cases rv' with | v rv' => cases rv; cases rv'; exact call_min2 hc pins s σ H _ us Q I rr ⟨_, _, rfl, q _ _ (.refl _) (.int _)⟩
  · cases e
theorem cb_tuple : CallR X (.type "tuple") (rA X.kw tupleB) := by
  intro pins s σ H xs us Q I rr h
  obtain ⟨ρ, st, ws, d, rs, r, e, q⟩ := h
  unfold tupleB at e
  split at e
  · rename_i w0
    obtain ⟨v, rfl, rv⟩ := r.one
    split at e
    · cases e
      cases rv with
      | v rv =>
        cases rv with
        | tup h1 n1 q1 => exact call_tuple_of pins s σ H _ us Q I rr ⟨_, _, rfl, .inr ⟨.inl h1, q _ _ (.refl _) (.tup h1 n1 q1)⟩⟩
    · cases ea : asLst st w0 with
      | none => rw [ea] at e; cases e
      | some ds =>
        rw [ea] at e
        cases e
        obtain ⟨a, ys, rfl, h1, h2⟩ := lst_of rs rv ea
        exact call_tuple_of pins s σ H _ us Q I rr ⟨_, _, rfl, .inl ⟨h1, fun p hp => q _ _ (same_upd hp) (.tup (.inl upd_same) (rs.fresh hp) (h2.same (same_upd hp)))⟩⟩
  · cases e
theorem cf_list : CallR X (.type "list") (rF X.kw listF) := by
  intro pins s σ H xs us Q I rr h
  obtain ⟨ρ, st, ws, d, rs, r, e, q⟩ := h
  unfold listF at e
  split at e
  · obtain ⟨v, rfl, rv⟩ := r.one
    split at e
    · cases e
      cases rv with
      | v rv =>
        cases rv with
        | tup h1 n1 q1 => exact call_list_of pins s σ H _ us Q I rr ⟨_, _, rfl, .inr (.inl h1), fun p hp => q p _ hp q1⟩
    · obtain ⟨a, ys, rfl, h1, h2⟩ := lst_of rs rv e
      exact call_list_of pins s σ H _ us Q I rr ⟨_, _, rfl, .inl h1, fun p hp => q p _ hp h2⟩
  · cases e
theorem hasDict_of {d : PyData} (h : SeqAt.shaped d = true) : d.hasDict = false := PyData.hasDict_of_canLay d (SeqAt.canLay_of_shaped h)
end
end Jv
end
section
namespace Jv
open PySem PySem.Spec L2 PyProof.Rows
/-! ### a[i] -/
def ixD : O2
  | _, .v (.str x), .v (.int i) => if x.length ≤ 100000 then (atI x.cps.toList i).map fun c => .str ⟨#[c]⟩ else none
  | _, .v (.tup ds), .v (.int i) => atI ds i
  | st, w, .v (.int i) => (asLst st w).bind fun ds => atI ds i
  | _, _, _ => none
theorem RlAll.atI {K : KW} {ρ : Rho} {H : Hp} {xs : List V} {ds : List D} {i : Int} {d : D} (r : RlAll K ρ H xs ds) (e : L2.atI ds i = some d) : ∃ v, L2.atI xs i = some v ∧ Rl K ρ H v d := by
  unfold L2.atI at e ⊢
  rw [r.length]
  cases q : ixN ds.length i with
  | none => rw [q] at e; cases e
  | some j =>
    rw [q] at e
    exact r.getD e
section
variable {X : Cx} {ct : Nat → Value} {E : St → XK} {a b : Expr} {fa fb : ED} {pos : Pos}
theorem ix_D : IxR X (rOf X.kw ixD) := by
  intro value slice pins s σ H x y v u Q I rx ry h hs
  obtain ⟨ρ, st, w1, w2, d, rs, r1, r2, e, q⟩ := h
  unfold ixD at e
  split at e
  · split at e
    · rename_i hl
      cases r1 with | v r1 => cases r2 with | v r2 =>
      cases r1; cases r2
      rename_i i x
      cases ec : L2.atI i.cps.toList x with
      | none => rw [ec] at e; cases e
      | some c => rw [ec] at e; cases e; exact ix_str value slice pins s σ H _ _ v u Q I rx ry ⟨_, _, c, rfl, rfl, sl5 hl, ec, q _ _ (.refl _) (.str _)⟩ hs
    · cases e
  · cases r1 with | v r1 => cases r2 with | v r2 =>
    cases r2
    cases r1 with
    | tup h1 n1 q1 =>
      obtain ⟨v', e1, r'⟩ := q1.atI e
      exact ix_tup value slice pins s σ H _ _ v u Q I rx ry ⟨_, _, _, _, rfl, rfl, .inl h1, e1, q _ _ (.refl _) r'⟩ hs
  · cases r2 with | v r2 =>
    cases r2
    cases ea : asLst st w1 with
    | none => rw [ea] at e; cases e
    | some ds =>
      rw [ea] at e
      obtain ⟨p, ys, rfl, h1, h2⟩ := lst_of rs r1 ea
      obtain ⟨v', e1, r'⟩ := h2.atI e
      exact ix_list value slice pins s σ H _ _ v u Q I rx ry ⟨_, _, _, _, rfl, rfl, h1, e1, q _ _ (.refl _) r'⟩ hs
  · cases e
theorem de_ix (ha : PE X a (tE X.kw ct E fa)) (hb : PE X b (tE X.kw ct E fb)) (hs : PlainIx b := by exact fun _ _ => rfl) : PE X (.Subscript a b pos) (tE X.kw ct E (eBin ixD fa fb)) :=
  PE.of (pe_ix ix_D ha hb hs) fun σ H Q h => two_read h
/-! ### d["x"] of an object -/
def lookS (kvs : List (Str × W)) (k : Str) : Option W := (kvs.find? fun p => decide (p.1 = k)).map (·.2)
def dGet (st : Sto) (w k : W) : R W := match w, k with
  | .r l, .v (.str k) => match st[l]? with
    | some (.dct kvs) => match lookS kvs k with
      | some w => .ok w st
      | none => .bad
    | _ => .bad
  | _, _ => .bad
def eDGet (f g : ED) : ED := fun env st => (f env st).bind fun w st => (g env st).bind fun k st => dGet st w k
theorem RlD.look {K : KW} {ρ : Rho} {H : Hp} {L : List (Key × V)} {kvs : List (Str × W)} {k : Str} {w : W} (r : RlD K ρ H L kvs) (e : lookS kvs k = some w) : ∃ v, valV L (.inr k) = some v ∧ Rw K ρ H v w := by
  induction r with
  | nil => cases e
  | @cons k' v' d kvs ds rv _ ih =>
    unfold lookS at e
    unfold valV
    by_cases hk : k' = k
    · subst hk
      simp at e ⊢
      subst e
      exact rv
    · have h2 : ¬ ((Sum.inr k' : Key) = Sum.inr k) := fun z => hk (Sum.inr.inj z)
      rw [List.find?_cons_of_neg (by simpa using hk)] at e
      rw [List.find?_cons_of_neg (by simpa using h2)]
      exact ih e
theorem de_dget (hu : X.A.units + 1 < cLine) (ha : PE X a (tE X.kw ct E fa)) (hb : PE X b (tE X.kw ct E fb)) (hs : NoSl b := by exact fun _ _ => rfl) : PE X (.Subscript a b pos) (tE X.kw ct E (eDGet fa fb)) :=
  PE.of (pe_dget hu ha hb hs) fun σ H Q h => by
    refine (tG.bind (rel := Rw) (k := fun w env st => (fb env st).bind fun k st => dGet st w k) h).mono fun v H1 ⟨ρ1, st1, env, w1, a1, r1, q1⟩ => ?_
    refine ⟨ρ1, st1, env, a1, (okG.bind (rel := Rw) q1 a1.2).mono fun u H2 ⟨ρ2, st2, w2, a2, g2, r2, q2⟩ => ?_⟩
    replace r1 := r1.grow g2
    unfold dGet at q2
    split at q2
    · rename_i l k r1
      split at q2
      · rename_i kvs ek
        split at q2
        · rename_i w el
          rcases a2.1.obj l _ ek with ⟨z, _⟩ | ⟨p, hp, L, h1, h2⟩
          · cases z
          · cases r1 with | r hl hv =>
            cases r2 with | v r2 =>
            cases r2
            cases hv p hp
            obtain ⟨v', e1, rv'⟩ := h2.look el
            exact ⟨p, v', rfl, by have := DGet.k (k := Sum.inr k) h1; rw [e1] at this; exact this, q2.here a2.1 rv'⟩
        · exact q2.elim
      · exact q2.elim
    · exact q2.elim
end
/-! ### slices -/
def cutD {α : Type} (xs : List α) (lo hi : Option Int) : List α := (xs.drop (HT.sIx xs.length 0 lo)).take (HT.sIx xs.length xs.length hi - HT.sIx xs.length 0 lo)
def slcD (st : Sto) (w : W) (lo hi : Option Int) : Option D := match w with
  | .v (.str x) => if x.length ≤ 100000 then some (.str (cutS x lo hi)) else none
  | .v (.tup ds) => some (.tup (cutD ds lo hi))
  | w => (asLst st w).map fun ds => .lst (cutD ds lo hi)
abbrev PD := Env → Sto → R (Option Int)
def pNo : PD := fun _ st => .ok none st
def pSo (f : ED) : PD := fun env st => (f env st).bind fun w st => match w with
  | .v (.int i) => .ok (some i) st
  | _ => .bad
def eSlc (f : ED) (lo hi : PD) : ED := fun env st => (f env st).bind fun w st => (lo env st).bind fun l st => (hi env st).bind fun h st => ofOp st (slcD st w l h)
abbrev RlP : Rel (Option Int) (Option Int) := fun _ _ _ b c => b = c
abbrev tP (K : KW) (ct : Nat → Value) (E : St → XK) (f : PD) : TO := tG K ct RlP E f
theorem PO.of {X : Cx} {e : Option Expr} {t t' : TO} (h : PO X e t) (i : ∀ σ H Q, t' σ H Q → t σ H Q) : PO X e t' := ⟨fun pins s σ H Q I q => h.run pins s σ H Q I (i σ H Q q)⟩
def rSl (K : KW) : V → Option Int → Option Int → Hp → VK → Prop := fun x lo hi H Q => ∃ ρ st w d, RelSt K ρ H st ∧ Rw K ρ H x w ∧ slcD st w lo hi = some d ∧ ∀ H' v, Same H H' → Rl K ρ H' v d → Q v H'
section
variable {X : Cx} {ct : Nat → Value} {E : St → XK} {a b : Expr} {fa fb : ED} {pos p2 : Pos}
theorem dp_no : PO X none (tP X.kw ct E pNo) := PO.of po_none fun σ H Q ⟨ρ, st, env, a, h⟩ => h.here a.1 rfl
theorem dp_so (h : PE X a (tE X.kw ct E fa)) : PO X (some a) (tP X.kw ct E (pSo fa)) := PO.of (po_some h) fun σ H Q q => by
  refine (tG.bind (rel := Rw) (k := fun w _ st => match w with | .v (.int i) => R.ok (some i) st | _ => R.bad) q).mono fun v H1 ⟨ρ1, st1, env, w, a1, r1, q1⟩ => ?_
  split at q1
  · cases r1 with | v r1 => cases r1; exact ⟨_, rfl, q1.here a1.1 rfl⟩
  · exact q1.elim
theorem RlAll.cutV {K : KW} {ρ : Rho} {H : Hp} {xs : List V} {ds : List D} {lo hi : Option Int} (r : RlAll K ρ H xs ds) : RlAll K ρ H (L2.cutV xs lo hi) (cutD ds lo hi) := by
  unfold L2.cutV cutD
  rw [r.length]
  exact (r.drop _).take _
theorem cutD_all {α : Type} {xs : List α} {lo hi : Option Int} (h : HT.sIx xs.length 0 lo = 0 ∧ HT.sIx xs.length xs.length hi = xs.length) : cutD xs lo hi = xs := by
  unfold cutD
  rw [h.1, h.2]
  simp
theorem sl_D : SlR X (rSl X.kw) := by
  intro pins s σ H x v vl vu lo hi sl Q I rx hs pl pu h
  obtain ⟨ρ, st, w, d, rs, r1, e, q⟩ := h
  unfold slcD at e
  split at e
  · split at e
    · rename_i hl
      cases e
      cases r1 with | v r1 =>
      cases r1
      exact sl_str pins s σ H _ v vl vu lo hi sl Q I rx hs pl pu ⟨_, rfl, sl5 hl, q _ _ (.refl _) (.str _)⟩
    · cases e
  · cases e
    cases r1 with | v r1 =>
    cases r1 with
    | tup h1 n1 q1 =>
      refine sl_tupA pins s σ H _ v vl vu lo hi sl Q I rx hs pl pu ⟨_, _, rfl, .inl h1, fun z => ?_, fun _ p hp => ?_⟩
      · rw [q1.length] at z
        rw [cutD_all z] at q
        exact q _ _ (.refl _) (.tup h1 n1 q1)
      · exact q _ _ (same_upd hp) (.tup (.inl upd_same) (rs.fresh hp) (q1.cutV.same (same_upd hp)))
  · cases ea : asLst st w with
    | none => rw [ea] at e; cases e
    | some ds =>
      rw [ea] at e
      cases e
      obtain ⟨p, ys, rfl, h1, h2⟩ := lst_of rs r1 ea
      exact sl_list pins s σ H _ v vl vu lo hi sl Q I rx hs pl pu ⟨_, _, rfl, h1, fun p hp => q _ _ (same_upd hp) (.lst (.inl ⟨.inl upd_same, rs.fresh hp⟩) (h2.cutV.same (same_upd hp)))⟩
theorem de_slc {lo hi : Option Expr} {fl fh : PD} (ha : PE X a (tE X.kw ct E fa)) (hl : PO X lo (tP X.kw ct E fl)) (hh : PO X hi (tP X.kw ct E fh)) : PE X (.Subscript a (.Slice lo hi none p2) pos) (tE X.kw ct E (eSlc fa fl fh)) :=
  PE.of (pe_slice sl_D ha hl hh) fun σ H Q q => by
    refine (tG.bind (rel := Rw) (k := fun w env st => (fl env st).bind fun l st => (fh env st).bind fun h st => ofOp st (slcD st w l h)) q).mono fun v H1 ⟨ρ1, st1, env, w, a1, r1, q1⟩ => ?_
    refine ⟨ρ1, st1, env, a1, (okG.bind (rel := RlP) q1 a1.2).mono fun l H2 ⟨ρ2, st2, l', a2, g2, r2, q2⟩ => ?_⟩
    cases r2
    refine ⟨ρ2, st2, env, a2, (okG.bind (rel := RlP) q2 a2.2).mono fun h H3 ⟨ρ3, st3, h', a3, g3, r3, q3⟩ => ?_⟩
    cases r3
    cases e : slcD st3 w l h with
    | none => rw [e] at q3; exact q3.elim
    | some d => rw [e] at q3; exact ⟨ρ3, st3, w, d, a3.1, (r1.grow g2).grow g3, e, fun H' v s r => okG.up q3 a3.1 s (.v r)⟩
end
/-! ### what holds of trees where nothing of theirs is touched -/
def Ext (ρ : Rho) (H : Hp) (ρ' : Rho) (H' : Hp) : Prop := ∀ a o, H a = some o → ¬ ρ.mut a → H' a = some o ∧ ¬ ρ'.mut a
theorem Grow.ext {ρ ρ' : Rho} {H H' : Hp} (g : Grow ρ H ρ' H') : Ext ρ H ρ' H' := fun _ _ h n => g.keep h n
theorem Ext.keepR {ρ ρ' : Rho} {H H' : Hp} (g : Ext ρ H ρ' H') {a : Addr} {o : HO} (h : Rd H a o) (n : ¬ ρ.mut a) : Rd H' a o ∧ ¬ ρ'.mut a := by
  rcases h with h | ⟨ob, h⟩
  · obtain ⟨h1, h2⟩ := g _ _ h n; exact ⟨.inl h1, h2⟩
  · obtain ⟨h1, h2⟩ := g _ _ h n; exact ⟨.inr ⟨ob, h1⟩, h2⟩
theorem Ext.trans {ρ ρ1 ρ2 : Rho} {H H1 H2 : Hp} (a : Ext ρ H ρ1 H1) (b : Ext ρ1 H1 ρ2 H2) : Ext ρ H ρ2 H2 := fun x o h n => let ⟨h1, n1⟩ := a x o h n; b x o h1 n1
theorem Ext.hide {ρ : Rho} {H : Hp} {p : Addr} {o : HO} (hp : H p = none) : Ext ρ H (ρ.hide p) (upd H p o) := fun a u h n => by
  have ne := ne_of_none h hp
  refine ⟨by rw [upd_ne ne]; exact h, fun z => ?_⟩
  rcases z with z | z
  · exact n (.inl z)
  · rcases List.mem_cons.mp z with z | z
    · exact ne z
    · exact n (.inr z)
section
variable {K : KW} {ρ ρ' : Rho} {H H' : Hp}
mutual
theorem Rl.ext (g : Ext ρ H ρ' H') : ∀ {v : V} {d : D}, Rl K ρ H v d → Rl K ρ' H' v d
  | _, _, .non => .non
  | _, _, .bl b => .bl b
  | _, _, .int i => .int i
  | _, _, .str x => .str x
  | _, _, .ty n => .ty n
  | _, _, .tup h n r => let ⟨h', n'⟩ := Ext.keepR g h n; .tup h' n' (RlAll.ext g r)
  | _, _, .lst h r => .lst (by
      rcases h with ⟨h | ⟨o, h⟩, n⟩ | h
      · obtain ⟨h1, h2⟩ := g _ _ h n; exact .inl ⟨.inl h1, h2⟩
      · obtain ⟨h1, h2⟩ := g _ _ h n; exact .inl ⟨.inr ⟨o, h1⟩, h2⟩
      · exact .inr h) (RlAll.ext g r)
  | _, _, .dct0 h n => let ⟨h', n'⟩ := g _ _ h n; .dct0 h' n'
  | _, _, .cod h n => let ⟨h', n'⟩ := g _ _ h n; .cod h' n'
  | _, _, .kd h n o m r => let ⟨h', n'⟩ := g _ _ h n; .kd h' n' o m (RlAll.ext g r)
  | _, _, .ld h n o m r => let ⟨h', n'⟩ := g _ _ h n; .ld h' n' o m (RlAll.ext g r)
  | _, _, .adr a => .adr a
  | _, _, .tupx h n e r => let ⟨h', n'⟩ := g _ _ h n; .tupx h' n' e (RlAll.ext g r)
  | _, _, .exc0 h n m => let ⟨h', n'⟩ := g _ _ h n; .exc0 h' n' m
  | _, _, .excd h n m k k' e r => let ⟨h', n'⟩ := g _ _ h n; let ⟨k1, k2⟩ := g _ _ k k'; .excd h' n' m k1 k2 e (RlAll.ext g r)
theorem RlAll.ext (g : Ext ρ H ρ' H') : ∀ {vs : List V} {ds : List D}, RlAll K ρ H vs ds → RlAll K ρ' H' vs ds
  | _, _, .nil => .nil
  | _, _, .cons r t => .cons (Rl.ext g r) (RlAll.ext g t)
end
end
/-! ### what is walked -/
def ItOk (K : KW) (J : It) (ρ0 : Rho) (H0 : Hp) (ds : List D) : Prop := ∀ ρ H st, Ext ρ0 H0 ρ H → RelSt K ρ H st →
  (∀ (i : Nat) (d : D), ds[i]? = some d → J.go i H ∧ ∀ x H', J.yld i H x H' → Same H H' ∧ Rl K ρ H' x d) ∧ J.stop ds.length H
def okI (K : KW) (ct : Nat → Value) (ρ : Rho) (H : Hp) (E : XK) (R' : It → Hp → Prop) : R (List D) → Prop
  | .ok ds st' => ∀ ρ' H' J, Grow ρ H ρ' H' → RelSt K ρ' H' st' → ItOk K J ρ' H' ds → R' J H'
  | .exc x st' => ∀ ρ' H' cv od, Grow ρ H ρ' H' → RelSt K ρ' H' st' → XRl K ct ρ' H' cv od x → E cv od H'
  | .bad => False
def iR (K : KW) (ct : Nat → Value) (E : St → XK) (f : LD) : TI := fun σ H R' => ∃ ρ st env, At K ρ H st σ env ∧ okI K ct ρ H (E σ) R' (f env st)
theorem PI.of {X : Cx} {tg e : Expr} {w w' : TI} (h : PI X tg e w) (i : ∀ σ H R, w' σ H R → w σ H R) : PI X tg e w' := ⟨fun pins s σ H R I q => h.run pins s σ H R I (i σ H R q)⟩
theorem PI.or {X : Cx} {tg e : Expr} {w w' : TI} (h : PI X tg e w) (h' : PI X tg e w') : PI X tg e (fun σ H R => w σ H R ∨ w' σ H R) := ⟨fun pins s σ H R I q => q.elim (h.run pins s σ H R I) (h'.run pins s σ H R I)⟩
def signs (x : Str) : List D := x.cps.toList.map fun c => .str ⟨#[c]⟩
def items (w : W) (st : Sto) : R (List D) := match w with
  | .v (.lst ds) => .ok ds st
  | .v (.tup ds) => .ok ds st
  | .v (.str x) => .ok (signs x) st
  | _ => .bad
def itE (f : ED) : LD := fun env st => (f env st).bind items
def rangeL (lo n : Nat) : List D := (List.range n).map fun i => .int ((lo + i : Nat) : Int)
def ranges (ws : List W) (st : Sto) : R (List D) := match ws with
  | [.v (.int n)] => if -100000 ≤ n ∧ n ≤ 100000 then .ok (rangeL 0 n.toNat) st else .bad
  | [.v (.int a), .v (.int b)] => if 0 ≤ a ∧ a ≤ 100000 ∧ -100000 ≤ b ∧ b ≤ 100000 then .ok (rangeL a.toNat (b - a).toNat) st else .bad
  | _ => .bad
def itRange (g : AD) : LD := fun env st => (g env st).bind ranges
section
variable {K : KW} {ρ : Rho} {H : Hp}
theorem itOk_list {a : Addr} {xs : List V} {ds : List D} (h : LsR K ρ H a xs) (r : RlAll K ρ H xs ds) : ItOk K (Itl K a) ρ H ds := by
  intro ρ' H' st g s
  have h' : SqL K H' a xs := by
    rcases h with ⟨h | ⟨o, h⟩, n⟩ | h
    · exact .inl (.inl (g _ _ h n).1)
    · exact .inl (.inr ⟨o, (g _ _ h n).1⟩)
    · exact .inr h
  refine ⟨fun i d e => ?_, xs, h', Nat.le_of_eq r.length⟩
  obtain ⟨v, e1, rv⟩ := r.getD e
  refine ⟨⟨xs, v, h', e1⟩, ?_⟩
  rintro x H2 ⟨rfl, y⟩
  have := y xs h'
  rw [e1] at this
  cases this
  exact ⟨.refl _, rv.ext g⟩
theorem itOk_tup {a : Addr} {xs : List V} {ds : List D} (h : Rd H a (.tup xs)) (n : ¬ ρ.mut a) (r : RlAll K ρ H xs ds) : ItOk K (Itt K a) ρ H ds := by
  intro ρ' H' st g s
  have h' : SqT K H' a xs := .inl (Ext.keepR g h n).1
  refine ⟨fun i d e => ?_, xs, h', Nat.le_of_eq r.length⟩
  obtain ⟨v, e1, rv⟩ := r.getD e
  refine ⟨⟨xs, v, h', e1⟩, ?_⟩
  rintro x H2 ⟨rfl, y⟩
  have := y xs h'
  rw [e1] at this
  cases this
  exact ⟨.refl _, rv.ext g⟩
theorem itOk_str (x : Str) : ItOk K (Its x) ρ H (signs x) := by
  intro ρ' H' st g s
  refine ⟨fun i d e => ?_, ?_⟩
  · unfold signs at e
    rw [List.getElem?_map] at e
    cases q : x.cps.toList[i]? with
    | none => rw [q] at e; cases e
    | some c =>
      rw [q] at e
      cases e
      have q' : x.cps[i]? = some c := by simpa using q
      refine ⟨?_, ?_⟩
      · show i < x.cps.size
        exact (Array.getElem?_eq_some_iff.mp q').1
      · rintro y H2 ⟨rfl, c', e1, rfl⟩
        rw [q'] at e1
        cases e1
        exact ⟨.refl _, .str _⟩
  · show x.cps.size ≤ _
    simp [signs]
theorem itOk_range (lo : Nat) (n : Nat) : ItOk K (Itr (lo : Int) n) ρ H (rangeL lo n) := by
  intro ρ' H' st g s
  refine ⟨fun i d e => ?_, ?_⟩
  · unfold rangeL at e
    by_cases hi : i < n
    · rw [List.getElem?_map, List.getElem?_range hi] at e
      cases e
      refine ⟨hi, ?_⟩
      rintro y H2 ⟨rfl, rfl⟩
      refine ⟨.refl _, ?_⟩
      have : ((lo : Int) + (i : Nat)) = ((lo + i : Nat) : Int) := by omega
      rw [this]
      exact .int _
    · rw [List.getElem?_eq_none (by simpa using hi)] at e
      cases e
  · show n ≤ _
    simp [rangeL]
end
section
variable {X : Cx} {ct : Nat → Value} {E : St → XK} {tg e : Expr} {f : ED} {es : List Expr} {g : AD} {p pos : Pos}
theorem di_e (h : PE X e (tE X.kw ct E f)) : PI X tg e (iR X.kw ct E (itE f)) := PI.of (PI.or (pi_list h) (PI.or (pi_tup h) (pi_str h))) fun σ H R' ⟨ρ, st, env, a, q⟩ => by
  unfold itE at q
  cases ef : f env st with
  | ok w st1 =>
    rw [ef] at q
    simp only [R.bind_ok, items] at q
    split at q
    · refine .inl ⟨ρ, st, env, a, ?_⟩
      rw [ef]
      intro ρ1 H1 v g s r
      cases r with | v r =>
      cases r with
      | lst h1 r1 => exact ⟨_, rfl, ⟨_, h1.sql⟩, q ρ1 H1 _ g s (itOk_list h1 r1)⟩
    · refine .inr (.inl ⟨ρ, st, env, a, ?_⟩)
      rw [ef]
      intro ρ1 H1 v g s r
      cases r with | v r =>
      cases r with
      | tup h1 n1 r1 => exact ⟨_, rfl, ⟨_, .inl h1⟩, q ρ1 H1 _ g s (itOk_tup h1 n1 r1)⟩
    · refine .inr (.inr ⟨ρ, st, env, a, ?_⟩)
      rw [ef]
      intro ρ1 H1 v g s r
      cases r with | v r =>
      cases r
      exact ⟨_, rfl, q ρ1 H1 _ g s (itOk_str _)⟩
    · exact q.elim
  | exc x st1 =>
    rw [ef] at q
    refine .inl ⟨ρ, st, env, a, ?_⟩
    rw [ef]
    exact q
  | bad => rw [ef] at q; exact q.elim
theorem di_range1 (hg : Gl X "range") (hm : X.mg "range" = none) (h : PE X e (tE X.kw ct E f)) (hs : starEach [e] X.env = [(false, eval e X.env)] := by rfl) :
    PI X tg (.Call (.Name "range" p) [e] [] pos) (iR X.kw ct E (itRange (aCons f aNil))) := by
  have ha : PA X [e] (tA X.kw ct E (aCons f aNil)) := da_cons h da_nil hs
  refine PI.of (pi_range1 hg hm ha hs) fun σ H R' ⟨ρ, st, env, a, q⟩ => ⟨ρ, st, env, a, ?_⟩
  unfold itRange at q
  cases ef : aCons f aNil env st with
  | ok ws st1 =>
    rw [ef] at q
    simp only [R.bind_ok, ranges] at q
    intro ρ1 H1 vs g s r
    split at q
    · rename_i n
      split at q
      · rename_i hn
        obtain ⟨v, rfl, rv⟩ := r.one
        cases rv with | v rv =>
        cases rv
        exact ⟨n, rfl, Int.le_trans (by decide) hn.1, Int.lt_of_le_of_lt hn.2 (by decide), q ρ1 H1 _ g s (by have := itOk_range (K := X.kw) (ρ := ρ1) (H := H1) 0 n.toNat; simpa using this)⟩
      · exact q.elim
    · have l2 := aCons_len (f := f) aNil_len _ _ _ _ ef
      simp at l2
    · exact q.elim
  | exc x st1 => rw [ef] at q; exact q
  | bad => rw [ef] at q; exact q.elim
end
end Jv
end
section
namespace Jv
open PySem PySem.Spec L2 PyProof.Rows
/-! ### targets -/
abbrev GD := W → Env → Option Env
abbrev GsD := List W → Env → Option Env
def gNm (i : Nat) : GD := fun w env => some (env.set i (some w))
def gsNil : GsD := fun ws env => match ws with
  | [] => some env
  | _ => none
def gsCons (g : GD) (gs : GsD) : GsD := fun ws env => match ws with
  | w :: r => (g w env).bind (gs r)
  | [] => none
def gTp (n : Nat) (gs : GsD) : GD := fun w env => match w with
  | .v (.tup ds) => if ds.length = n then gs (ds.map .v) env else none
  | _ => none
/-- the slots vs at most have changed -/
def Agree (vs : List Nat) (σ σ' : St) : Prop := σ'.length = σ.length ∧ ∀ i, i ∉ vs → σ'[i]? = σ[i]?
theorem Agree.refl (vs : List Nat) (σ : St) : Agree vs σ σ := ⟨rfl, fun _ _ => rfl⟩
theorem Agree.trans {vs : List Nat} {σ σ1 σ2 : St} (a : Agree vs σ σ1) (b : Agree vs σ1 σ2) : Agree vs σ σ2 := ⟨b.1.trans a.1, fun i h => (b.2 i h).trans (a.2 i h)⟩
theorem Agree.mono {vs vs' : List Nat} {σ σ' : St} (h : ∀ i ∈ vs, i ∈ vs') (a : Agree vs σ σ') : Agree vs' σ σ' := ⟨a.1, fun i n => a.2 i fun z => n (h i z)⟩
theorem wipe_get (σ : St) : ∀ (vs : List Nat) (i : Nat), (wipe σ vs)[i]? = if i ∈ vs ∧ i < σ.length then some none else σ[i]?
  | [], i => by simp [wipe]
  | v :: vs, i => by
    unfold wipe
    by_cases h : v = i
    · subst h
      by_cases hl : v < σ.length
      · rw [List.getElem?_set_self (by rw [wipe_length]; exact hl), if_pos ⟨List.mem_cons_self, hl⟩]
      · rw [List.getElem?_eq_none (by rw [List.length_set, wipe_length]; omega), if_neg (fun z => hl z.2), List.getElem?_eq_none (by omega)]
    · rw [List.getElem?_set_ne h, wipe_get σ vs i]
      have : (i ∈ v :: vs ∧ i < σ.length) ↔ (i ∈ vs ∧ i < σ.length) := by
        constructor
        · rintro ⟨z, y⟩
          rcases List.mem_cons.mp z with z | z
          · exact absurd z.symm h
          · exact ⟨z, y⟩
        · rintro ⟨z, y⟩
          exact ⟨List.mem_cons_of_mem _ z, y⟩
      by_cases q : i ∈ vs ∧ i < σ.length
      · rw [if_pos q, if_pos (this.mpr q)]
      · rw [if_neg q, if_neg fun z => q (this.mp z)]
theorem Agree.wipe {vs : List Nat} {σ σ' : St} (a : Agree vs (L2.wipe σ vs) σ') : L2.wipe σ' vs = L2.wipe σ vs := by
  refine List.ext_getElem? fun i => ?_
  have hl : σ'.length = σ.length := by rw [a.1, wipe_length]
  rw [wipe_get, wipe_get, hl]
  by_cases h : i ∈ vs ∧ i < σ.length
  · rw [if_pos h, if_pos h]
  · rw [if_neg h, if_neg h]
    by_cases hi : i ∈ vs
    · have : ¬ i < σ.length := fun z => h ⟨hi, z⟩
      rw [List.getElem?_eq_none (by omega), List.getElem?_eq_none (by omega)]
    · rw [a.2 i hi, wipe_get, if_neg h]
def gR (K : KW) (vs : List Nat) (g : GD) : TG := fun v σ H Q => ∃ ρ st env w env', At K ρ H st σ env ∧ Rw K ρ H v w ∧ g w env = some env' ∧ ∀ σ', At K ρ H st σ' env' → Agree vs σ σ' → Q σ' H
def gsR (K : KW) (vs : List Nat) (g : GsD) : TGs := fun v σ H Q => ∃ ρ st env ws env', At K ρ H st σ env ∧ RwAll K ρ H v ws ∧ g ws env = some env' ∧ ∀ σ', At K ρ H st σ' env' → Agree vs σ σ' → Q σ' H
theorem PG.of {X : Cx} {e : Expr} {t t' : TG} (h : PG X e t) (i : ∀ v σ H Q, t' v σ H Q → t v σ H Q) : PG X e t' := ⟨fun pins s σ H v u Q I r q => h.run pins s σ H v u Q I r (i v σ H Q q)⟩
theorem PGs.of {X : Cx} {e : List Expr} {t t' : TGs} (h : PGs X e t) (i : ∀ v σ H Q, t' v σ H Q → t v σ H Q) : PGs X e t' := ⟨fun pins s σ H v u Q I r q => h.run pins s σ H v u Q I r (i v σ H Q q)⟩
theorem RlAll.toW {K : KW} {ρ : Rho} {H : Hp} : ∀ {vs : List V} {ds : List D}, RlAll K ρ H vs ds → RwAll K ρ H vs (ds.map .v)
  | _, _, .nil => .nil
  | _, _, .cons r t => .cons (.v r) (RlAll.toW t)
theorem agree_set (σ : St) (i : Nat) (o : Option V) : Agree [i] σ (σ.set i o) := ⟨by simp, fun j h => by rw [List.getElem?_set_ne]; intro z; exact h (by simp [z])⟩
section
variable {X : Cx}
theorem dg_name {i : Nat} {x : Str} {pos : Pos} (hN : X.N.Nodup) (hi : X.N[i]? = some x := by rfl) (hx : Loc X.env.scope x := by first | exact Or.inl rfl | exact Or.inr rfl)
    (hf : X.fn x = true ∨ X.env.scope.names.lookup x = some .local := by first | exact .inl rfl | exact .inr rfl | assumption) : PG X (.Name x pos) (gR X.kw [i] (gNm i)) :=
  PG.of (pg_name hN hi hx hf) fun v σ H Q ⟨ρ, st, env, w, env', a, r, e, q⟩ => by
    cases e
    exact q _ ⟨a.1, a.2.set r i⟩ (agree_set σ i _)
theorem dgs_nil : PGs X [] (gsR X.kw [] gsNil) := PGs.of pgs_nil fun v σ H Q ⟨ρ, st, env, ws, env', a, r, e, q⟩ => by
  cases r with
  | nil => cases e; exact ⟨rfl, q _ a (.refl _ _)⟩
  | cons _ _ => cases e
theorem dgs_cons {e : Expr} {es : List Expr} {g : GD} {gs : GsD} {vs vs' : List Nat} (h1 : PG X e (gR X.kw vs g)) (h2 : PGs X es (gsR X.kw vs' gs))
    (hs : (assignEach (e :: es) X.env).map (·.2) = assign e X.env :: (assignEach es X.env).map (·.2) := by rfl) : PGs X (e :: es) (gsR X.kw (vs ++ vs') (gsCons g gs)) := PGs.of (pgs_cons h1 h2 hs) fun v σ H Q ⟨ρ, st, env, ws, env', a, r, e, q⟩ => by
  cases r with
  | nil => cases e
  | @cons v vs w ws rv rt =>
    simp only [gsCons] at e
    cases e1 : g w env with
    | none => rw [e1] at e; cases e
    | some env1 =>
      rw [e1] at e
      exact ⟨v, vs, rfl, ρ, st, env, w, env1, a, rv, e1, fun σ' a' g1 => ⟨ρ, st, env1, ws, env', a', rt, e, fun σ2 a2 g2 => q σ2 a2 ((g1.mono fun i => List.mem_append_left _).trans (g2.mono fun i => List.mem_append_right _))⟩⟩
theorem dg_tup {es : List Expr} {k n : Nat} {pos : Pos} {gs : GsD} {vs : List Nat} (hc : X.calm = true) (h : PGs X es (gsR X.kw vs gs)) (hn : (assignEach es X.env).length = n := by rfl) (hst : (assignEach es X.env).findIdx? (·.1) = none := by rfl) :
    PG X (.Tuple es k pos) (gR X.kw vs (gTp n gs)) := PG.of (pg_tup hc h hn hst) fun v σ H Q ⟨ρ, st, env, w, env', a, r, e, q⟩ => by
  unfold gTp at e
  split at e
  · split at e
    · rename_i hl
      cases r with | v r =>
      cases r with
      | tup h1 n1 r1 => exact ⟨_, _, rfl, .inl h1, by rw [r1.length]; exact hl, ρ, st, env, _, env', a, r1.toW, e, q⟩
    · cases e
  · cases e
end
/-! ### list comprehensions -/
def wipeE (env : Env) : List Nat → Env
  | [] => env
  | v :: vs => (wipeE env vs).set v none
def lcGo (g : GD) (t : BD) (e : ED) (env : Env) : List D → Sto → List D → R (List D)
  | [], st, acc => .ok acc st
  | d :: r, st, acc => match g (.v d) env with
    | none => .bad
    | some env1 => (noX (t env1 st)).bind fun b st => if b then (noX (e env1 st)).bind fun y st => (match y with
        | .v d => lcGo g t e env r st (acc ++ [d])
        | .r _ => .bad) else lcGo g t e env r st acc
def lLc (vs : List Nat) (it : LD) (g : GD) (t : BD) (e : ED) : LD := fun env st => (it env st).bind fun ds st => if ds.length ≤ 100000 then lcGo g t e (wipeE env vs) ds st [] else .bad
def bYes : BD := fun _ st => .ok true st
theorem PTs.of {X : Cx} {e : List Expr} {t t' : TT} (h : PTs X e t) (i : ∀ σ H Q, t' σ H Q → t σ H Q) : PTs X e t' := ⟨fun pins s σ H Q I q => h.run pins s σ H Q I (i σ H Q q)⟩
section
variable {X : Cx} {ct : Nat → Value} {E : St → XK}
theorem dts_nil : PTs X [] (tT X.kw ct E bYes) := PTs.of pts_nil fun σ H Q ⟨ρ, st, env, a, h⟩ => h.here a.1 rfl
theorem dts_one {c : Expr} {t : BD} (h : PT X c (tT X.kw ct E t)) : PTs X [c] (tT X.kw ct E t) := pts_one h
end
section
variable {K : KW} {ct : Nat → Value} {E : St → XK} {ρ : Rho} {H : Hp} {σ : St} {env : Env}
theorem RelEnv.wipes (r : RelEnv K ρ H σ env) : ∀ vs : List Nat, RelEnv K ρ H (wipe σ vs) (wipeE env vs)
  | [] => r
  | v :: vs => (RelEnv.wipes r vs).wipe1 v
def unD (H : Hp) (p : Addr) : Hp := fun b => if b = p then none else H b
theorem unD_ne {p b : Addr} (h : b ≠ p) : unD H p b = H b := if_neg h
theorem unD_upd {p : Addr} {o : HO} (h : H p = some o) : upd (unD H p) p o = H := by
  funext b
  by_cases hb : b = p
  · subst hb; rw [upd_same, h]
  · rw [upd_ne hb, unD_ne hb]
/-- behind something that keeps what is hidden -/
theorem Grow.shown {ρ1 : Rho} {H1 : Hp} {p : Addr} (g : Grow (ρ.hide p) H ρ1 H1) : ρ1 = (Rho.mk ρ1.lc ρ.hid).hide p := by
  obtain ⟨lc, hid⟩ := ρ1
  have := g.hid
  simp only [Rho.hide] at this ⊢
  rw [this]
theorem Grow.under {ρ0 ρ1 : Rho} {H0 H1 : Hp} {p : Addr} (hp : H0 p = none) (a : Grow ρ0 H0 ρ (unD H p)) (g : Grow (ρ.hide p) H ρ1 H1) : Grow ρ0 H0 ⟨ρ1.lc, ρ.hid⟩ (unD H1 p) := by
  refine ⟨Nat.le_trans a.len g.len, a.hid, fun l x h e => a.ref l x h (g.ref l x (Nat.lt_of_lt_of_le h a.len) e), fun x o h n => ?_⟩
  have ne := ne_of_none h hp
  obtain ⟨h1, n1⟩ := a.obj x o h n
  rw [unD_ne ne] at h1 ⊢
  exact g.obj x o h1 n1
theorem lc_read {vs : List Nat} {it : LD} {g : GD} {t : BD} {e : ED} {Q : VK} (h : tF K ct E (lLc vs it g t e) σ H Q) :
    tLc (iR K ct E it) (gR K vs g) (tT K ct (fun _ => E0) t) (tE K ct (fun _ => E0) e) vs σ H Q := by
  obtain ⟨ρ, st, env, a, h⟩ := h
  refine ⟨ρ, st, env, a, ?_⟩
  unfold lLc at h
  cases ei : it env st with
  | exc x st' => rw [ei] at h; exact h
  | bad => rw [ei] at h; exact h.elim
  | ok ds st1 =>
  rw [ei] at h
  simp only [R.bind_ok] at h
  split at h
  rotate_left
  · exact h.elim
  rename_i hlen
  intro ρ1 H1 J gr1 s1 itk p hp
  have he1 : RelEnv K ρ1 H1 (wipe σ vs) (wipeE env vs) := (a.2.grow gr1).wipes vs
  have hph : p ∉ ρ1.hid := fun z => by obtain ⟨o, q⟩ := s1.hidt p z; rw [hp] at q; cases q
  have h' : okF K ct ρ1 H1 (E σ) Q (lcGo g t e (wipeE env vs) ds st1 []) := by
    revert h
    cases lcGo g t e (wipeE env vs) ds st1 [] with
    | ok x y => exact fun h ρ' H' p' xs g' => h ρ' H' p' xs (gr1.trans g')
    | exc x y => exact fun h ρ' H' cv od g' => h ρ' H' cv od (gr1.trans g')
    | bad => exact id
  refine ⟨fun i m Hc => m = ds.length - i ∧ i ≤ ds.length ∧ ∃ ρ2 st2 acc accD, RelSt K (ρ2.hide p) Hc st2 ∧ Hc p = some (.lst acc) ∧ RlAll K (ρ2.hide p) Hc acc accD ∧ RelEnv K (ρ2.hide p) Hc (wipe σ vs) (wipeE env vs) ∧
      Grow ρ1 H1 ρ2 (unD Hc p) ∧ accD.length ≤ i ∧ okF K ct ρ1 H1 (E σ) Q (lcGo g t e (wipeE env vs) (ds.drop i) st2 accD), ?_, ?_⟩
  · refine ⟨_, rfl, Nat.zero_le _, ρ1, st1, [], [], s1.hide hp, upd_same, .nil, he1.hide hp, ?_, Nat.le_refl _, h'⟩
    refine ⟨Nat.le_refl _, rfl, fun _ _ _ z => z, fun x o hx n => ⟨?_, n⟩⟩
    rw [unD_ne (ne_of_none hx hp), upd_ne (ne_of_none hx hp)]
    exact hx
  · rintro i m Hc ⟨rfl, hi, ρ2, st2, acc, accD, s2, hacc, racc, he2, gr2, hal, hq⟩
    have hpl : some p ∉ ρ2.lc := fun z => s2.apart p z List.mem_cons_self
    have ext : Ext ρ1 H1 (ρ2.hide p) Hc := fun x o hx n => by
      have ne := ne_of_none hx hp
      obtain ⟨h1, n1⟩ := gr2.keep hx n
      rw [unD_ne ne] at h1
      refine ⟨h1, fun z => ?_⟩
      rcases z with z | z
      · exact n1 (.inl z)
      · rcases List.mem_cons.mp z with z | z
        · exact ne z
        · exact n1 (.inr z)
    obtain ⟨turn, stop⟩ := itk (ρ2.hide p) Hc st2 ext s2
    by_cases hlt : i < ds.length
    rotate_left
    · have ei : i = ds.length := by omega
      subst ei
      refine .inl ⟨stop, ?_⟩
      rw [List.drop_length] at hq
      simp only [lcGo] at hq
      have q := hq ρ2 (unD Hc p) p acc gr2 (s2.unhide (H' := unD Hc p) (fun b hb => unD_ne hb) hpl (.inl (by rw [gr2.hid]; exact hph))) (if_pos rfl) (racc.unhide fun b hb => unD_ne hb)
      rw [unD_upd hacc] at q
      exact q
    · obtain ⟨go, yl⟩ := turn i ds[i] (List.getElem?_eq_getElem hlt)
      refine .inr ⟨go, fun Hn => ∃ ρ3 st3 acc' accD', RelSt K (ρ3.hide p) Hn st3 ∧ Hn p = some (.lst acc') ∧ RlAll K (ρ3.hide p) Hn acc' accD' ∧ RelEnv K (ρ3.hide p) Hn (wipe σ vs) (wipeE env vs) ∧
        Grow ρ1 H1 ρ3 (unD Hn p) ∧ accD'.length ≤ i + 1 ∧ okF K ct ρ1 H1 (E σ) Q (lcGo g t e (wipeE env vs) (ds.drop (i + 1)) st3 accD'), ?_, ?_⟩
      · rintro Hn ⟨ρ3, st3, acc', accD', q⟩
        exact ⟨ds.length - (i + 1), by omega, rfl, hlt, ρ3, st3, acc', accD', q⟩
      · intro x H' hy
        obtain ⟨sm, rx⟩ := yl x H' hy
        rw [List.drop_eq_getElem_cons hlt] at hq
        simp only [lcGo] at hq
        cases eg : g (.v ds[i]) (wipeE env vs) with
        | none => rw [eg] at hq; exact hq.elim
        | some env1 =>
          rw [eg] at hq
          simp only at hq
          refine ⟨ρ2.hide p, st2, wipeE env vs, .v ds[i], env1, ⟨s2.same sm, he2.grow (.same sm)⟩, .v rx, eg, fun σ2 a2 ag => ⟨ag.wipe, ?_⟩⟩
          have gr2' : Grow ρ1 H1 ρ2 (unD H' p) := by
            refine ⟨gr2.len, gr2.hid, gr2.ref, fun y o hy n => ?_⟩
            have ne := ne_of_none hy hp
            obtain ⟨h1, n1⟩ := gr2.obj y o hy n
            rw [unD_ne ne] at h1 ⊢
            exact ⟨sm _ _ h1, n1⟩
          have racc2 := racc.same sm
          have he2' := he2.grow (.same sm)
          have hacc2 := sm _ _ hacc
          refine ⟨ρ2.hide p, st2, env1, a2, ?_⟩
          cases et : t env1 st2 with
          | exc x y => rw [et] at hq; exact hq.elim
          | bad => rw [et] at hq; exact hq.elim
          | ok b st3 =>
            rw [et] at hq
            simp only [noX_ok, R.bind_ok] at hq
            intro ρ3 H3 b' g3 s3 eb
            cases eb
            have e3 := g3.shown
            have gr3 := Grow.under hp gr2' g3
            have hacc3 := (g3.obj _ _ hacc2 hpl).1
            have racc3 := racc2.grow g3
            have he3 := he2'.grow g3
            have env3 := a2.2.grow g3
            cases b with
            | false =>
              simp only [Bool.false_eq_true, if_false] at hq ⊢
              rw [e3] at s3 racc3 he3
              exact ⟨⟨ρ3.lc, ρ2.hid⟩, st3, acc, accD, s3, hacc3, racc3, he3, gr3, by omega, hq⟩
            | true =>
              simp only [if_true] at hq ⊢
              refine ⟨ρ3, st3, env1, ⟨s3, env3⟩, ?_⟩
              cases ee : e env1 st3 with
              | exc x y => rw [ee] at hq; exact hq.elim
              | bad => rw [ee] at hq; exact hq.elim
              | ok w st4 =>
                rw [ee] at hq
                simp only [noX_ok, R.bind_ok] at hq
                intro ρ4 H4 y g4 s4 ry
                cases w with
                | r l => exact hq.elim
                | v d =>
                  simp only at hq
                  cases ry with | v ry =>
                  have hpl3 : some p ∉ ρ3.lc := (g3.obj _ _ hacc2 hpl).2
                  have hacc4 := (g4.obj _ _ hacc3 hpl3).1
                  have g34 := g3.trans g4
                  have e4 := g34.shown
                  have gr4 := Grow.under hp gr2' g34
                  have racc4 := racc3.grow g4
                  have he4 := he3.grow g4
                  have hpl4 : some p ∉ ρ4.lc := (g4.obj _ _ hacc3 hpl3).2
                  have hup : ∀ b, b ≠ p → upd H4 p (.lst (acc ++ [y])) b = H4 b := fun b hb => upd_ne hb
                  rw [e4] at s4 racc4 he4 ry
                  refine ⟨acc, hacc4, Nat.lt_of_lt_of_le (show acc.length < 100001 by rw [racc.length]; omega) (by decide), ⟨ρ4.lc, ρ2.hid⟩, st4, acc ++ [y], accD ++ [d], s4.refill hup hpl4 ⟨_, upd_same⟩, upd_same, (racc4.append (.cons ry .nil)).refill hup, ?_, ?_, ?_, hq⟩
                  · exact ⟨he4.len, fun j w' ej => let ⟨v, h1, h2⟩ := he4.get j w' ej; ⟨v, h1, h2.refill hup⟩⟩
                  · refine ⟨gr4.len, gr4.hid, gr4.ref, fun z o hz n => ?_⟩
                    have ne := ne_of_none hz hp
                    obtain ⟨h1, n1⟩ := gr4.obj z o hz n
                    rw [unD_ne ne] at h1 ⊢
                    exact ⟨by rw [upd_ne ne]; exact h1, n1⟩
                  · rw [List.length_append, List.length_singleton]
                    omega
end
section
variable {X : Cx} {ct : Nat → Value} {E : St → XK} {elt tg iter : Expr} {ifs : List Expr} {scope : Scope} {own : List (Str × Nat)} {pos : Pos} {it : LD} {g : GD} {t : BD} {f : ED}
theorem df_lc (hc : X.calm = true) (hN : X.N.Nodup) (hi : PI X tg iter (iR X.kw ct E it)) (ok : BlkOk X.N X.env.scope scope own)
    (hg : ∀ (s : Shared) (H : Hp) (C : Addr) (cl : List (Str × Addr)) (fp : List Addr), PG (X.blk s H scope (compEnvC scope cl C X.env) fp) tg (gR X.kw (own.map (·.2)) g))
    (ht : ∀ (s : Shared) (H : Hp) (C : Addr) (cl : List (Str × Addr)) (fp : List Addr), PTs (X.blk s H scope (compEnvC scope cl C X.env) fp) ifs (tT X.kw ct (fun _ => E0) t))
    (he : ∀ (s : Shared) (H : Hp) (C : Addr) (cl : List (Str × Addr)) (fp : List Addr), PE (X.blk s H scope (compEnvC scope cl C X.env) fp) elt (tE X.kw ct (fun _ => E0) f)) (hs : ∀ x, foldedSetIterable iter X.env x = pure x := by intro _; rfl) :
    PE X (.ListComp elt [⟨tg, iter, ifs, 0⟩] scope pos) (tF X.kw ct E (lLc (own.map (·.2)) it g t f)) := PE.of (pe_lc hc hN hi ok hg ht he hs) fun σ H Q h => lc_read h
end
end Jv
end
section
namespace Jv
open PySem PySem.Spec L2 PyProof.Rows
theorem PS.of {X : Cx} {e : Stmt} {t t' : TS} (h : PS X e t) (i : ∀ D σ H, t' D σ H → t D σ H) : PS X e t' := ⟨fun pins s σ H D I q => h.run pins s σ H D I (i D σ H q)⟩
theorem PSs.of {X : Cx} {e : List Stmt} {t t' : TS} (h : PSs X e t) (i : ∀ D σ H, t' D σ H → t D σ H) : PSs X e t' := ⟨fun pins s σ H D I q => h.run pins s σ H D I (i D σ H q)⟩
/-! ### blocks -/
def sNil : SD := fun env st => .nx env st
def sSeq (f g : SD) : SD := fun env st => match f env st with
  | .nx env st => g env st
  | r => r
def sCnt : SD := fun env st => .ct env st
def sExpr (f : ED) : SD := fun env st => (f env st).thenS env fun _ st => .nx env st
def sRet (f : ED) : SD := fun env st => (f env st).thenS env fun w st => .rt w st
def sIf (c : BD) (f g : SD) : SD := fun env st => (c env st).thenS env fun b st => if b then f env st else g env st
def sAsg (f : ED) (g : GD) : SD := fun env st => (f env st).thenS env fun w st => match g w env with
  | some env' => .nx env' st
  | none => .bad
abbrev sSet (i : Nat) (f : ED) : SD := sAsg f (gNm i)
/-- what can't be reached -/
def sNo : SD := fun _ _ => .bad
section
variable {X : Cx} {ct : Nat → Value} {E : St → XK} {s1 : Stmt} {ss a b : List Stmt} {f g : SD} {e tg : Expr} {fe : ED} {c : Expr} {fc : BD} {pos : Pos}
theorem dss_nil : PSs X [] (tS X.kw ct E sNil) := PSs.of pss_nil fun D σ H ⟨ρ, st, env, a, h⟩ => h ρ H σ (.refl _ _) a
theorem dss_cons (h1 : PS X s1 (tS X.kw ct E f)) (h2 : PSs X ss (tS X.kw ct E g)) : PSs X (s1 :: ss) (tS X.kw ct E (sSeq f g)) := PSs.of (pss_cons h1 h2) fun D σ H ⟨ρ, st, env, a, h⟩ => by
  refine ⟨ρ, st, env, a, ?_⟩
  unfold sSeq at h
  cases ef : f env st with
  | nx env' st' =>
    rw [ef] at h
    exact fun ρ' H' σ' g' a' => ⟨ρ', st', env', a', okS.grow g' h⟩
  | rt w st' => rw [ef] at h; exact h
  | bk _ _ => rw [ef] at h; exact h
  | ct _ _ => rw [ef] at h; exact h
  | exc _ _ _ => rw [ef] at h; exact h
  | bad => rw [ef] at h; exact h
theorem dss_one (h1 : PS X s1 (tS X.kw ct E f)) : PSs X [s1] (tS X.kw ct E f) := pss_one h1
theorem ds_cnt : PS X (.Continue pos) (tS X.kw ct E sCnt) := PS.of ps_continue fun D σ H ⟨ρ, st, env, a, h⟩ => h ρ H σ (.refl _ _) a
theorem ds_no : PS X s1 (tS X.kw ct E sNo) := PS.of ps_never fun D σ H ⟨ρ, st, env, a, h⟩ => h
theorem ds_expr (h : PE X e (tE X.kw ct E fe)) (hs : swapsWith e none pos.line X.env = pure false := by rfl) : PS X (.Expr e pos) (tS X.kw ct E (sExpr fe)) := PS.of (ps_expr h hs) fun D σ H ⟨ρ, st, env, a, h⟩ =>
  ⟨ρ, st, env, a, (okS.first (rel := Rw) h a.2).mono fun v H1 ⟨ρ1, st1, w, a1, g1, r1, q1⟩ => q1 ρ1 H1 σ (.refl _ _) a1⟩
theorem ds_ret (h : PE X e (tE X.kw ct E fe)) : PS X (.Return (some e) pos) (tS X.kw ct E (sRet fe)) := PS.of (ps_ret h) fun D σ H ⟨ρ, st, env, a, h⟩ =>
  ⟨ρ, st, env, a, (okS.first (rel := Rw) h a.2).mono fun v H1 ⟨ρ1, st1, w, a1, g1, r1, q1⟩ => q1 ρ1 H1 v (.refl _ _) a1.1 r1⟩
theorem ds_if (hc : PT X c (tT X.kw ct E fc)) (ha : PSs X a (tS X.kw ct E f)) (hb : PSs X b (tS X.kw ct E g)) : PS X (.If c a b pos) (tS X.kw ct E (sIf fc f g)) := PS.of (ps_if hc ha hb) fun D σ H ⟨ρ, st, env, a, h⟩ =>
  ⟨ρ, st, env, a, (okS.first (rel := RlB) h a.2).mono fun v H1 ⟨ρ1, st1, w, a1, g1, r1, q1⟩ => by
    cases r1
    cases v with
    | true => simp only [if_true] at q1 ⊢; exact ⟨ρ1, st1, env, a1, q1⟩
    | false => simp only [Bool.false_eq_true, if_false] at q1 ⊢; exact ⟨ρ1, st1, env, a1, q1⟩⟩
theorem asg_read {K : KW} {gd : GD} {vs : List Nat} {D : Ends} {σ : St} {H : Hp} (h : tS K ct E (sAsg fe gd) D σ H) : tAsg (tE K ct E fe) (gR K vs gd) D σ H := by
  obtain ⟨ρ, st, env, a, h⟩ := h
  refine ⟨ρ, st, env, a, (okS.first (rel := Rw) h a.2).mono fun v H1 ⟨ρ1, st1, w, a1, g1, r1, q1⟩ => ?_⟩
  cases eg : gd w env with
  | none => rw [eg] at q1; exact q1.elim
  | some env' =>
    rw [eg] at q1
    exact ⟨ρ1, st1, env, w, env', a1, r1, eg, fun σ' a' _ => q1 ρ1 H1 σ' (.refl _ _) a'⟩
theorem ds_asg {gd : GD} {vs : List Nat} (he : PE X e (tE X.kw ct E fe)) (hg : PG X tg (gR X.kw vs gd)) (hs : swapsWithSole [tg] e pos.line X.env = pure false := by rfl) (hw : swappedStores [tg] e X.env = pure none := by rfl)
    (h1 : (assignEach [tg] X.env).map (·.2) = [assign tg X.env] := by rfl) : PS X (.Assign [tg] e pos) (tS X.kw ct E (sAsg fe gd)) := PS.of (ps_asg he hg hs hw h1) fun D σ H h => asg_read h
theorem ds_set {i : Nat} {x : Str} {pos' : Pos} (hN : X.N.Nodup) (he : PE X e (tE X.kw ct E fe)) (hi : X.N[i]? = some x := by rfl) (hx : Loc X.env.scope x := by first | exact Or.inl rfl | exact Or.inr rfl) (hs : swapsWith e (some (.Name x pos')) pos.line X.env = pure false := by rfl)
    (hf : X.fn x = true ∨ X.env.scope.names.lookup x = some .local := by first | exact .inl rfl | exact .inr rfl | assumption) : PS X (.Assign [.Name x pos'] e pos) (tS X.kw ct E (sSet i fe)) :=
  PS.of (ps_set hN hi hx he hs hf) fun D σ H ⟨ρ, st, env, a, h⟩ => by
    refine ⟨ρ, st, env, a, (okS.first (rel := Rw) h a.2).mono fun v H1 ⟨ρ1, st1, w, a1, g1, r1, q1⟩ => ?_⟩
    exact q1 ρ1 H1 _ (.refl _ _) ⟨a1.1, a1.2.set r1 i⟩
end
/-! ### y = [..] on one line -/
section
variable {X : Cx} {ct : Nat → Value} {E : St → XK} {elt tg iter : Expr} {ifs : List Expr} {scope : Scope} {own : List (Str × Nat)} {pos spos py : Pos} {it : LD} {g : GD} {t : BD} {f : ED} {i : Nat} {y : Str}
theorem setF_read {K : KW} {l : LD} {D : Ends} {σ : St} {H : Hp} (h : tS K ct E (sSet i (eLst l)) D σ H) : tF K ct E l σ H (fun x H1 => gName i x σ H1 D.nx) := by
  obtain ⟨ρ, st, env, a, h⟩ := h
  refine ⟨ρ, st, env, a, ?_⟩
  simp only [sAsg, eLst] at h
  cases el : l env st with
  | ok ds st' =>
    rw [el] at h
    intro ρ' H' p xs gr s hp r
    have ag : At K ρ' (upd H' p (.lst xs)) st' σ env := ⟨s.same (same_upd hp), (a.2.grow gr).grow (.same (same_upd hp))⟩
    exact h ρ' _ _ (gr.trans (.same (same_upd hp))) ⟨ag.1, ag.2.set (.v (.lst (.inl ⟨.inl upd_same, s.fresh hp⟩) (r.same (same_upd hp)))) i⟩
  | exc x st' => rw [el] at h; exact fun ρ' H' cv od gr s x => h ρ' H' σ cv od gr ⟨s, a.2.grow gr⟩ x
  | bad => rw [el] at h; exact h.elim
theorem setN_read {K : KW} {l : LD} {D : Ends} {σ : St} {H : Hp} (h : tS K ct E (sSet i (eNew l)) D σ H) : tF K ct E l σ H (fun x H1 => gName i x σ H1 D.nx) := by
  obtain ⟨ρ, st, env, a, h⟩ := h
  refine ⟨ρ, st, env, a, ?_⟩
  simp only [sAsg, eNew] at h
  cases el : l env st with
  | ok ds st' =>
    rw [el] at h
    intro ρ' H' p xs gr s hp r
    have gp : Grow ρ' H' (ρ'.push p) (upd H' p (.lst xs)) := .push hp
    refine h (ρ'.push p) _ _ (gr.trans gp) ⟨s.push hp r, ((a.2.grow gr).grow gp).set (.r (by rw [← s.len]; simp [Rho.push]) fun a ea => ?_) i⟩
    rw [← s.len] at ea
    simp [Rho.push] at ea
    rw [ea]
  | exc x st' => rw [el] at h; exact fun ρ' H' cv od gr s x => h ρ' H' σ cv od gr ⟨s, a.2.grow gr⟩ x
  | bad => rw [el] at h; exact h.elim
theorem ds_setLc (hc : X.calm = true) (hN : X.N.Nodup) (hy : X.N[i]? = some y) (hyl : X.env.scope.names.lookup y = some .local) (hsw : swapsWith (.ListComp elt [⟨tg, iter, ifs, 0⟩] scope pos) (some (.Name y py)) spos.line X.env = pure true)
    (hi : PI X tg iter (iR X.kw ct E it)) (ok : BlkOk X.N X.env.scope scope own)
    (hg : ∀ (s : Shared) (H : Hp) (C : Addr) (cl : List (Str × Addr)) (fp : List Addr), PG (X.blk s H scope (compEnvC scope cl C X.env) fp) tg (gR X.kw (own.map (·.2)) g))
    (ht : ∀ (s : Shared) (H : Hp) (C : Addr) (cl : List (Str × Addr)) (fp : List Addr), PTs (X.blk s H scope (compEnvC scope cl C X.env) fp) ifs (tT X.kw ct (fun _ => E0) t))
    (he : ∀ (s : Shared) (H : Hp) (C : Addr) (cl : List (Str × Addr)) (fp : List Addr), PE (X.blk s H scope (compEnvC scope cl C X.env) fp) elt (tE X.kw ct (fun _ => E0) f)) (hs : ∀ x, foldedSetIterable iter X.env x = pure x := by intro _; rfl) :
    PS X (.Assign [.Name y py] (.ListComp elt [⟨tg, iter, ifs, 0⟩] scope pos) spos) (tS X.kw ct E (sSet i (eLst (lLc (own.map (·.2)) it g t f)))) :=
  PS.of (ps_setLc hc hN hy hyl hsw hi ok hg ht he hs) fun D σ H h => lc_read (setF_read h)
theorem ds_setLcN (hc : X.calm = true) (hN : X.N.Nodup) (hy : X.N[i]? = some y) (hyl : X.env.scope.names.lookup y = some .local) (hsw : swapsWith (.ListComp elt [⟨tg, iter, ifs, 0⟩] scope pos) (some (.Name y py)) spos.line X.env = pure true)
    (hi : PI X tg iter (iR X.kw ct E it)) (ok : BlkOk X.N X.env.scope scope own)
    (hg : ∀ (s : Shared) (H : Hp) (C : Addr) (cl : List (Str × Addr)) (fp : List Addr), PG (X.blk s H scope (compEnvC scope cl C X.env) fp) tg (gR X.kw (own.map (·.2)) g))
    (ht : ∀ (s : Shared) (H : Hp) (C : Addr) (cl : List (Str × Addr)) (fp : List Addr), PTs (X.blk s H scope (compEnvC scope cl C X.env) fp) ifs (tT X.kw ct (fun _ => E0) t))
    (he : ∀ (s : Shared) (H : Hp) (C : Addr) (cl : List (Str × Addr)) (fp : List Addr), PE (X.blk s H scope (compEnvC scope cl C X.env) fp) elt (tE X.kw ct (fun _ => E0) f)) (hs : ∀ x, foldedSetIterable iter X.env x = pure x := by intro _; rfl) :
    PS X (.Assign [.Name y py] (.ListComp elt [⟨tg, iter, ifs, 0⟩] scope pos) spos) (tS X.kw ct E (sSet i (eNew (lLc (own.map (·.2)) it g t f)))) :=
  PS.of (ps_setLc hc hN hy hyl hsw hi ok hg ht he hs) fun D σ H h => lc_read (setN_read h)
end
/-! ### a, b = x, y -/
def sPar (i j : Nat) (g : AD) : SD := fun env st => (g env st).thenS env fun ws st => match ws with
  | [a, b] => .nx ((env.set i (some a)).set j (some b)) st
  | _ => .bad
/-! ### for -/
def forGo (g : GD) (body : SD) : List D → Env → Sto → Fl
  | [], env, st => .nx env st
  | d :: r, env, st => match g (.v d) env with
    | none => .bad
    | some env1 => match body env1 st with
      | .nx env st => forGo g body r env st
      | .ct env st => forGo g body r env st
      | .bk env st => .nx env st
      | r => r
def sFor (it : LD) (g : GD) (body : SD) : SD := fun env st => (it env st).thenS env fun ds st => forGo g body ds env st
theorem ds_for {X : Cx} {ct : Nat → Value} {E : St → XK} {tg iter : Expr} {bd : List Stmt} {it : LD} {g : GD} {vs : List Nat} {body : SD} {pos : Pos} (hp : PassesOwn (model X.prog X.w) X.A X.env X.xe) (hc : X.calm = true) (hi : PI X tg iter (iR X.kw ct E it)) (hg : PG X tg (gR X.kw vs g)) (hb : PSs X bd (tS X.kw ct E body))
    (hs : ∀ x, foldedSetIterable iter X.env x = pure x := by intro _; rfl) : PS X (.For tg iter bd [] pos) (tS X.kw ct E (sFor it g body)) := PS.of (ps_for hp hc hi hg hb hs) fun D σ H ⟨ρ, st, env, a, h⟩ => by
  refine ⟨ρ, st, env, a, ?_⟩
  unfold sFor at h
  cases ei : it env st with
  | exc x st' => rw [ei] at h; exact fun ρ' H' cv od gr s x => h ρ' H' σ cv od gr ⟨s, a.2.grow gr⟩ x
  | bad => rw [ei] at h; exact h.elim
  | ok ds st1 =>
  rw [ei] at h
  simp only [R.thenS_ok] at h
  intro ρ1 H1 J gr1 s1 itk
  refine ⟨fun i m σ' H' => m = ds.length - i ∧ i ≤ ds.length ∧ ∃ ρ2 st2 env2, At X.kw ρ2 H' st2 σ' env2 ∧ Grow ρ1 H1 ρ2 H' ∧ okS X.kw ct ρ2 H' E D (forGo g body (ds.drop i) env2 st2), ?_, ?_⟩
  · exact ⟨_, rfl, Nat.zero_le _, ρ1, st1, env, ⟨s1, a.2.grow gr1⟩, .refl _ _, okS.grow gr1 h⟩
  · rintro i m σ' H' ⟨rfl, hi', ρ2, st2, env2, a2, gr2, hq⟩
    obtain ⟨turn, stop⟩ := itk ρ2 H' st2 gr2.ext a2.1
    by_cases hlt : i < ds.length
    rotate_left
    · have ei : i = ds.length := by omega
      subst ei
      refine .inl ⟨stop, ?_⟩
      rw [List.drop_length] at hq
      simp only [forGo] at hq
      exact hq ρ2 H' σ' (.refl _ _) a2
    · obtain ⟨go, yl⟩ := turn i ds[i] (List.getElem?_eq_getElem hlt)
      refine .inr ⟨go, fun σn Hn => ∃ ρ3 st3 env3, At X.kw ρ3 Hn st3 σn env3 ∧ Grow ρ1 H1 ρ3 Hn ∧ okS X.kw ct ρ3 Hn E D (forGo g body (ds.drop (i + 1)) env3 st3), ?_, ?_⟩
      · rintro σn Hn ⟨ρ3, st3, env3, q⟩
        exact ⟨ds.length - (i + 1), by omega, rfl, hlt, ρ3, st3, env3, q⟩
      · intro x H'' hy
        obtain ⟨sm, rx⟩ := yl x H'' hy
        rw [List.drop_eq_getElem_cons hlt] at hq
        simp only [forGo] at hq
        cases eg : g (.v ds[i]) env2 with
        | none => rw [eg] at hq; exact hq.elim
        | some env3 =>
          rw [eg] at hq
          simp only at hq
          have gs : Grow ρ2 H' ρ2 H'' := .same sm
          refine ⟨ρ2, st2, env2, .v ds[i], env3, ⟨a2.1.same sm, a2.2.grow gs⟩, .v rx, eg, fun σ3 a3 _ => ⟨ρ2, st2, env3, a3, ?_⟩⟩
          have hq := okS.grow gs hq
          have gr3 := gr2.trans gs
          cases eb : body env3 st2 with
          | nx env4 st4 =>
            rw [eb] at hq
            exact fun ρ4 H4 σ4 g4 a4 => ⟨ρ4, st4, env4, a4, gr3.trans g4, okS.grow g4 hq⟩
          | ct env4 st4 =>
            rw [eb] at hq
            exact fun ρ4 H4 σ4 g4 a4 => ⟨ρ4, st4, env4, a4, gr3.trans g4, okS.grow g4 hq⟩
          | bk env4 st4 => rw [eb] at hq; exact hq
          | rt w st4 => rw [eb] at hq; exact hq
          | exc e x st4 => rw [eb] at hq; exact hq
          | bad => rw [eb] at hq; exact hq
/-! ### while -/
end Jv
end
section
namespace Jv
open PySem PySem.Spec L2 PyProof.Rows
/-! ### objects that change -/
section
variable {K : KW} {ρ : Rho} {H : Hp} {st : Sto}
theorem Grow.write {l : Nat} {a : Addr} {o : HO} (e : ρ.lc[l]? = some (some a)) : Grow ρ H ρ (upd H a o) :=
  ⟨Nat.le_refl _, rfl, fun _ _ _ z => z, fun b u h n => ⟨by rw [upd_ne (show b ≠ a from fun z => n (by rw [z]; exact List.mem_of_getElem? e))]; exact h, n⟩⟩
theorem RelSt.write {l : Nat} {a : Addr} {o : HO} {ob : Ob} (s : RelSt K ρ H st) (e : ρ.lc[l]? = some (some a)) (r : ObR K ρ (upd H a o) a ob) (u : ob.under l) : RelSt K ρ (upd H a o) (st.set l ob) := by
  have g : Grow ρ H ρ (upd H a o) := .write e
  refine ⟨by rw [List.length_set]; exact s.len, s.inj, fun j ob' ej => ?_, fun b hb => ?_, s.apart, fun j ob' ej => ?_⟩
  · by_cases h : l = j
    · subst h
      have hl : l < st.length := by rw [← s.len]; exact (List.getElem?_eq_some_iff.mp e).1
      rw [List.getElem?_set_self hl] at ej
      cases ej
      exact .inr ⟨a, e, r⟩
    · rw [List.getElem?_set_ne h] at ej
      rcases s.obj j ob' ej with z | ⟨b, hb, ob2⟩
      · exact .inl z
      · have ne : b ≠ a := fun z => h (s.inj l j a e (z ▸ hb))
        exact .inr ⟨b, hb, ob2.mono (fun _ z => by rw [upd_ne ne]; exact z) (fun _ _ z => z.grow g) fun _ _ z => z.grow g⟩
  · obtain ⟨u, q⟩ := s.hidt b hb
    have ne : b ≠ a := fun z => s.apart a (List.mem_of_getElem? e) (z ▸ hb)
    exact ⟨u, by rw [upd_ne ne]; exact q⟩
  · by_cases h : l = j
    · subst h
      have hl : l < st.length := by rw [← s.len]; exact (List.getElem?_eq_some_iff.mp e).1
      rw [List.getElem?_set_self hl] at ej
      cases ej
      exact u
    · rw [List.getElem?_set_ne h] at ej
      exact s.ord j ob' ej
end
/-- x.append(y) -/
def appG (w : W) (ws : List W) (st : Sto) : R W := match w, ws with
  | .r l, [.v d] => match st[l]? with
    | some (.lst ds) => if ds.length < 16000000 then .ok (.v .non) (st.set l (.lst (ds ++ [d]))) else .bad
    | _ => .bad
  | _, _ => .bad
def isLst (st : Sto) : W → Bool
  | .r l => match st[l]? with
    | some (.lst _) => true
    | _ => false
  | _ => false
def eApp (f : ED) (g : AD) : ED := fun env st => (f env st).bind fun w st => if isLst st w then (g env st).bind fun ws st => appG w ws st else .bad
/-- o["x"] = y -/
def putS (kvs : List (Str × W)) (k : Str) (w : W) : Option (List (Str × W)) := if kvs.any fun p => decide (p.1 = k) then some (kvs.map fun p => if p.1 = k then (p.1, w) else p) else none
def dPut (w k v : W) (env : Env) (st : Sto) : Fl := match w, k, v with
  | .r l, .v (.str k), .v d => match st[l]? with
    | some (.dct kvs) => match putS kvs k (.v d) with
      | some kvs' => if kvs.length ≤ 1000 then .nx env (st.set l (.dct kvs')) else .bad
      | none => .bad
    | _ => .bad
  | _, _, _ => .bad
def sDPut (fo fi fv : ED) : SD := fun env st => (fv env st).thenS env fun v st => (fo env st).thenS env fun w st => (fi env st).thenS env fun k st => dPut w k v env st
/-- x[i] = y -/
def lPut (w k v : W) (env : Env) (st : Sto) : Fl := match w, k, v with
  | .r l, .v (.int i), .v d => match st[l]? with
    | some (.lst ds) => match ixN ds.length i with
      | some j => .nx env (st.set l (.lst (ds.set j d)))
      | none => .bad
    | _ => .bad
  | _, _, _ => .bad
def sLPut (fo fi fv : ED) : SD := fun env st => (fv env st).thenS env fun v st => (fo env st).thenS env fun w st => (fi env st).thenS env fun k st => lPut w k v env st
section
variable {X : Cx} {ct : Nat → Value} {E : St → XK} {o e i v : Expr} {es : List Expr} {f fi fv fo : ED} {g : AD} {apos cpos pos pos' : Pos}
theorem app_read {K : KW} {σ : St} {H : Hp} {Q : VK} (h : tE K ct E (eApp f g) σ H Q) : tBM K "list" rAppend (tE K ct E f) (tA K ct E g) σ H Q := by
  refine (tG.bind (rel := Rw) (k := fun w env st => if isLst st w then (g env st).bind fun ws st => appG w ws st else R.bad) h).mono fun x H1 ⟨ρ1, st1, env, w, a1, r1, q1⟩ => ?_
  split at q1
  rotate_left
  · exact q1.elim
  rename_i hw
  cases r1 with
  | v r1 => cases hw
  | @r l _ hl hv =>
    simp only [isLst] at hw
    split at hw
    rotate_left
    · cases hw
    rename_i ds0 e0
    rcases a1.1.obj l _ e0 with ⟨z, _⟩ | ⟨p, hp, xs, h1, h2⟩
    · cases z
    cases hv p hp
    refine ⟨.inl ⟨rfl, xs, .of h1⟩, ρ1, st1, env, a1, (okG.bind (rel := RwAll) q1 a1.2).mono fun vs H2 ⟨ρ2, st2, ws, a2, g2, r2, q2⟩ => ?_⟩
    unfold appG at q2
    split at q2
    · rename_i l' d heq
      cases heq
      split at q2
      · rename_i ds e2
        split at q2
        · rename_i hlen
          rcases a2.1.obj l _ e2 with ⟨z, _⟩ | ⟨p', hp', xs', h1', h2'⟩
          · cases z
          have ep : p' = p := by
            have := g2.ref l p' hl hp'
            rw [hp] at this
            cases this
            rfl
          subst ep
          obtain ⟨y, rfl, ry⟩ := r2.one
          cases ry with | v ry =>
          refine ⟨p', xs', y, rfl, rfl, h1', Nat.lt_of_lt_of_le (show xs'.length < 16000001 by rw [h2'.length]; omega) (by decide), ?_⟩
          have gw : Grow ρ2 H2 ρ2 (upd H2 p' (.lst (xs' ++ [y]))) := .write hp'
          exact q2 ρ2 _ .non gw (a2.1.write hp' ⟨_, upd_same, (h2'.append (.cons ry .nil)).grow gw⟩ trivial) (.v .non)
        · exact q2.elim
      · exact q2.elim
    · exact q2.elim
theorem de_app (ho : PE X o (tE X.kw ct E f)) (ha : PA X (e :: es) (tA X.kw ct E g)) (hbase : attributeBase o "append" X.env (eval o X.env) = eval o X.env := by rfl)
    (hfew : ((backTo cpos (starEach (e :: es) X.env)).all (fun x => !x.1) && (backToKw cpos (keywordEach [] X.env)).all (fun x => x.1.isSome)
      && decide ((e :: es).length + ([] : List Keyword).length + (if ([] : List Keyword).isEmpty then 0 else 1) < 30)) = true := by rfl)
    (hline : (apos.endLine == cpos.line) = true := by rfl) (hs : starEach (e :: es) X.env = (false, eval e X.env) :: starEach es X.env := by rfl) (hplain : (backTo cpos (starEach es X.env)).any (·.1) = false := by rfl) :
    PE X (.Call (.Attribute o "append" apos) (e :: es) [] cpos) (tE X.kw ct E (eApp f g)) :=
  PE.of (pe_bm PySem.F.plainAttrs_list PySem.F.slot_list_append PySem.F.type_list_append mt_append ho ha hbase hfew hline hs hplain) fun σ H Q h => app_read h
theorem RlD.length {K : KW} {ρ : Rho} {H : Hp} {L : List (Key × V)} {kvs : List (Str × W)} (r : RlD K ρ H L kvs) : L.length = kvs.length := by
  induction r with
  | nil => rfl
  | cons _ _ ih => simp [ih]
theorem RlD.map {K : KW} {ρ : Rho} {H : Hp} {L : List (Key × V)} {kvs : List (Str × W)} {k : Str} {v : V} {w : W} (r : RlD K ρ H L kvs) (rv : Rw K ρ H v w) :
    RlD K ρ H (L.map fun kv => if kv.1 = (Sum.inr k : Key) then (kv.1, v) else kv) (kvs.map fun p => if p.1 = k then (p.1, w) else p) := by
  induction r with
  | nil => exact .nil
  | @cons k' v' d L ds rv' _ ih =>
    simp only [List.map_cons]
    by_cases hk : k' = k
    · subst hk
      simp only [if_true]
      exact .cons rv ih
    · have h2 : ¬ ((Sum.inr k' : Key) = Sum.inr k) := fun z => hk (Sum.inr.inj z)
      rw [if_neg h2, if_neg hk]
      exact .cons rv' ih
theorem RlD.any {K : KW} {ρ : Rho} {H : Hp} {L : List (Key × V)} {kvs : List (Str × W)} {k : Str} (r : RlD K ρ H L kvs) : (L.any fun kv => decide (kv.1 = (Sum.inr k : Key))) = kvs.any fun p => decide (p.1 = k) := by
  induction r with
  | nil => rfl
  | @cons k' v' d L ds rv' _ ih =>
    simp only [List.any_cons, ih]
    congr 1
    by_cases hk : k' = k
    · subst hk; simp
    · have h2 : ¬ ((Sum.inr k' : Key) = Sum.inr k) := fun z => hk (Sum.inr.inj z)
      rw [decide_eq_false hk, decide_eq_false h2]
theorem RlD.put {K : KW} {ρ : Rho} {H : Hp} {L : List (Key × V)} {kvs kvs' : List (Str × W)} {k : Str} {v : V} {w : W} (r : RlD K ρ H L kvs) (rv : Rw K ρ H v w) (e : Jv.putS kvs k w = some kvs') : RlD K ρ H (putK L (.inr k) v) kvs' := by
  unfold Jv.putS at e
  split at e
  · rename_i h
    cases e
    unfold putK
    rw [if_pos (by rw [r.any]; exact h)]
    exact r.map rv
  · cases e
theorem ds_dput (hu : X.A.units + 1 < cLine) (ho : PE X o (tE X.kw ct E fo)) (hi : PE X i (tE X.kw ct E fi)) (hv : PE X v (tE X.kw ct E fv)) (hs : swapsWith v (some (.Subscript o i pos')) pos.line X.env = pure false := by rfl) :
    PS X (.Assign [.Subscript o i pos'] v pos) (tS X.kw ct E (sDPut fo fi fv)) := PS.of (ps_dput hu ho hi hv hs) fun D σ H ⟨ρ, st, env, a, h⟩ => by
  refine ⟨ρ, st, env, a, (okS.first (rel := Rw) h a.2).mono fun v1 H1 ⟨ρ1, st1, w1, a1, g1, r1, q1⟩ => ?_⟩
  refine ⟨ρ1, st1, env, a1, (okS.first (rel := Rw) q1 a1.2).mono fun v2 H2 ⟨ρ2, st2, w2, a2, g2, r2, q2⟩ => ?_⟩
  refine ⟨ρ2, st2, env, a2, (okS.first (rel := Rw) q2 a2.2).mono fun v3 H3 ⟨ρ3, st3, w3, a3, g3, r3, q3⟩ => ?_⟩
  cases w2 with
  | v _ => exact q3.elim
  | r l =>
  cases w3 with
  | r _ => exact q3.elim
  | v d3 =>
  cases d3 with
  | str k =>
    cases w1 with
    | r _ => exact q3.elim
    | v d =>
    simp only [dPut] at q3
    split at q3
    · rename_i kvs ek
      split at q3
      · rename_i kvs' ep
        split at q3
        · rename_i hlen
          cases r2 with | r hl hv2 =>
          cases r3 with | v r3 =>
          cases r3
          rcases a3.1.obj l _ ek with ⟨z, _⟩ | ⟨p, hp, L, h1, h2⟩
          · cases z
          have e2 := hv2 p (g3.ref l p hl hp)
          subst e2
          have rv := (r1.grow g2).grow g3
          refine ⟨p, _, rfl, DPut.k (k := Sum.inr k) h1 (Nat.lt_of_le_of_lt (show L.length ≤ 1000 by rw [h2.length]; exact hlen) (by decide)), ?_⟩
          have gw : Grow ρ3 H3 ρ3 (upd H3 p (.dK (putK L (.inr k) v1))) := .write hp
          refine q3 ρ3 _ σ gw ⟨a3.1.write hp ⟨_, upd_same, (h2.put rv ep).mono fun _ _ z => z.grow gw⟩ ?_, a3.2.grow gw⟩
          have ord := a3.1.ord l _ ek
          unfold Jv.putS at ep
          split at ep
          · cases ep
            intro q hq
            obtain ⟨q0, hq0, rfl⟩ := List.mem_map.mp hq
            split
            · exact trivial
            · exact ord q0 hq0
          · cases ep
        · exact q3.elim
      · exact q3.elim
    · exact q3.elim
  | _ => exact q3.elim
theorem ds_lput (ho : PE X o (tE X.kw ct E fo)) (hi : PE X i (tE X.kw ct E fi)) (hv : PE X v (tE X.kw ct E fv)) (hs : swapsWithSole [.Subscript o i pos'] v pos.line X.env = pure false := by rfl) (hw : swappedStores [.Subscript o i pos'] v X.env = pure none := by rfl)
    (h1 : (assignEach [.Subscript o i pos'] X.env).map (·.2) = [assign (.Subscript o i pos') X.env] := by rfl)
    (ha : ∀ v, assign (.Subscript o i pos') X.env v = (do
      let ov ← holding [v] (eval o X.env)
      let iv ← holding [v, ov] (eval i X.env)
      standAt pos'
      holding [v, ov, iv] (setItem ov iv v)
      release [v, ov, iv] []) := by intro _; rfl) :
    PS X (.Assign [.Subscript o i pos'] v pos) (tS X.kw ct E (sLPut fo fi fv)) := PS.of (ps_asg hv (pg_sub ho hi set_list ha) hs hw h1) fun D σ H ⟨ρ, st, env, a, h⟩ => by
  refine ⟨ρ, st, env, a, (okS.first (rel := Rw) h a.2).mono fun v1 H1 ⟨ρ1, st1, w1, a1, g1, r1, q1⟩ => ?_⟩
  refine ⟨ρ1, st1, env, a1, (okS.first (rel := Rw) q1 a1.2).mono fun v2 H2 ⟨ρ2, st2, w2, a2, g2, r2, q2⟩ => ?_⟩
  refine ⟨ρ2, st2, env, a2, (okS.first (rel := Rw) q2 a2.2).mono fun v3 H3 ⟨ρ3, st3, w3, a3, g3, r3, q3⟩ => ?_⟩
  cases w2 with
  | v _ => exact q3.elim
  | r l =>
  cases w3 with
  | r _ => exact q3.elim
  | v d3 =>
  cases d3 with
  | int k =>
    cases w1 with
    | r _ => exact q3.elim
    | v d =>
    simp only [lPut] at q3
    split at q3
    · rename_i ds ek
      split at q3
      · rename_i j ej
        cases r2 with | r hl hv2 =>
        cases r3 with | v r3 =>
        cases r3
        rcases a3.1.obj l _ ek with ⟨z, _⟩ | ⟨p, hp, xs, h1, h2⟩
        · cases z
        have e2 := hv2 p (g3.ref l p hl hp)
        subst e2
        have rv := (r1.grow g2).grow g3
        cases rv with | v rv =>
        refine ⟨p, xs, k, j, rfl, rfl, h1, by rw [h2.length]; exact ej, ?_⟩
        have gw : Grow ρ3 H3 ρ3 (upd H3 p (.lst (xs.set j v1))) := .write hp
        exact q3 ρ3 _ σ gw ⟨a3.1.write hp ⟨_, upd_same, (RlAll.set rv j h2).grow gw⟩ trivial, a3.2.grow gw⟩
      · exact q3.elim
    · exact q3.elim
  | _ => exact q3.elim
end
/-! ### {"a": x, ..} as an object that changes -/
abbrev KD := Env → Sto → R (List (Str × W))
def kNil : KD := fun _ st => .ok [] st
def kCons (k : Str) (f : ED) (g : KD) : KD := fun env st => (f env st).bind fun w st => (g env st).bind fun kvs st => .ok ((k, w) :: kvs) st
def nodupK : List (Str × W) → Bool
  | [] => true
  | p :: r => !(r.any fun q => decide (q.1 = p.1)) && nodupK r
def eDct (g : KD) : ED := fun env st => (noX (g env st)).bind fun kvs st => if nodupK kvs && decide (kvs.length ≤ 15) then .ok (.r st.length) (st ++ [.dct kvs]) else .bad
/-- the readings of a display's pairs, as the layer has them -/
def trsOf (K : KW) (ct : Nat → Value) (E : St → XK) : List (Str × ED) → List (TE × TE)
  | [] => []
  | p :: r => (tC (.str p.1), tE K ct E p.2) :: trsOf K ct E r
def kOf : List (Str × ED) → KD
  | [] => kNil
  | p :: r => kCons p.1 p.2 (kOf r)
section
variable {K : KW} {ct : Nat → Value} {E : St → XK} {ρ : Rho} {H : Hp} {σ : St} {env : Env} {st : Sto}
inductive RlP' (K : KW) (ρ : Rho) (H : Hp) : List (V × V) → List (Str × W) → Prop
  | nil : RlP' K ρ H [] []
  | cons {k : Str} {v : V} {w : W} {ps : List (V × V)} {kvs : List (Str × W)} : Rw K ρ H v w → RlP' K ρ H ps kvs → RlP' K ρ H ((.str k, v) :: ps) ((k, w) :: kvs)
theorem RlP'.grow {ρ' : Rho} {H' : Hp} (g : Grow ρ H ρ' H') {ps : List (V × V)} {kvs : List (Str × W)} (r : RlP' K ρ H ps kvs) : RlP' K ρ' H' ps kvs := by
  induction r with
  | nil => exact .nil
  | cons r _ ih => exact .cons (r.grow g) ih
theorem pairs_read : ∀ (fs : List (Str × ED)) {ρ : Rho} {H : Hp} {st : Sto} {EE : XK} {Q : List (V × V) → Hp → Prop}, EE = E σ → At K ρ H st σ env → okG K ct RlP' ρ H EE Q (kOf fs env st) → tPairs (trsOf K ct E fs) σ H Q
  | [], ρ, H, st, EE, Q, _, a, h => h.here a.1 .nil
  | p :: r, ρ, H, st, EE, Q, ee, a, h => by
    subst ee
    refine ⟨ρ, st, env, a, (okG.bind (rel := Rw) h a.2).mono fun v H1 ⟨ρ1, st1, w, a1, g1, r1, q1⟩ => ?_⟩
    refine pairs_read r rfl a1 ((okG.bind (rel := RlP') q1 a1.2).mono fun ps H2 ⟨ρ2, st2, kvs, a2, g2, r2, q2⟩ => ?_)
    exact q2.here a2.1 (.cons (r1.grow g2) r2)
theorem RlP'.keys {ps : List (V × V)} {kvs : List (Str × W)} (r : RlP' K ρ H ps kvs) : ∃ L : List (Key × V), ps = L.map (fun kv => (kV kv.1, kv.2)) ∧ RlD K ρ H L kvs := by
  induction r with
  | nil => exact ⟨[], rfl, .nil⟩
  | @cons k v w ps kvs rv _ ih =>
    obtain ⟨L, e, rd⟩ := ih
    exact ⟨(.inr k, v) :: L, by rw [e]; rfl, .cons rv rd⟩
theorem putK_new {L : List (Key × V)} {k : Key} {v : V} (h : (L.any fun kv => decide (kv.1 = k)) = false) : putK L k v = L ++ [(k, v)] := by
  unfold putK
  rw [h]
  rfl
theorem merge_nodup : ∀ (more L : List (Key × V)), (L ++ more).map (·.1) |>.Nodup → mergeK L more = L ++ more
  | [], L, _ => by simp [mergeK]
  | p :: r, L, h => by
    have hn : (L.any fun kv => decide (kv.1 = p.1)) = false := by
      rw [Bool.eq_false_iff]
      intro z
      obtain ⟨q, hq, e⟩ := List.any_eq_true.mp z
      have e := of_decide_eq_true e
      rw [List.map_append, List.map_cons] at h
      have := (List.nodup_append.mp h).2.2 q.1 (List.mem_map_of_mem hq) p.1 List.mem_cons_self
      exact this e
    have := merge_nodup r (L ++ [p]) (by simpa using h)
    show mergeK (putK L p.1 p.2) r = L ++ p :: r
    rw [putK_new hn, this]
    simp
theorem nodupK_of {L : List (Key × V)} {kvs : List (Str × W)} (r : RlD K ρ H L kvs) (h : nodupK kvs = true) : (L.map (·.1)).Nodup := by
  induction r with
  | nil => exact List.nodup_nil
  | @cons k v w L kvs rv rd ih =>
    simp only [nodupK, Bool.and_eq_true, Bool.not_eq_true'] at h
    rw [List.map_cons, List.nodup_cons]
    refine ⟨fun z => ?_, ih h.2⟩
    obtain ⟨q, hq, e⟩ := List.mem_map.mp z
    have := rd.any (k := k)
    rw [h.1] at this
    have h3 : (L.any fun kv => decide (kv.1 = (Sum.inr k : Key))) = true := List.any_eq_true.mpr ⟨q, hq, decide_eq_true e⟩
    rw [this] at h3
    cases h3
end
theorem pps_ind {X : Cx} {ct : Nat → Value} {E : St → XK} {pos : Pos} {k : Str} {j} {kp : Pos} {v : Expr} {f : ED} {ks : List (Option Expr)} {vs : List Expr} {fs : List (Str × ED)} (hv : PE X v (tE X.kw ct E f)) (hr : PPs X pos ks vs (trsOf X.kw ct E fs)) :
    PPs X pos (some (.Constant (.str k) j kp) :: ks) (v :: vs) (trsOf X.kw ct E ((k, f) :: fs)) := pps_cons pe_str hv hr
theorem pushD {K : KW} {ρ : Rho} {H : Hp} {st : Sto} {p : Addr} {L : List (Key × V)} {kvs : List (Str × W)} (s : RelSt K ρ H st) (hp : H p = none) (r : RlD K ρ H L kvs) : RelSt K (ρ.push p) (upd H p (.dK L)) (st ++ [.dct kvs]) := by
  have s1 := s.push (xs := []) (ds := []) hp .nil
  have hl : (ρ.push p).lc[st.length]? = some (some p) := by rw [← s.len]; simp [Rho.push]
  have g1 : Grow ρ H (ρ.push p) (upd H p (.dK L)) := .push hp
  have g2 : Grow ρ H (ρ.push p) (upd H p (.lst [])) := .push hp
  have u : Ob.under st.length (.dct kvs) := by
    clear s1 hl g1 g2
    induction r with
    | nil => intro q hq; cases hq
    | @cons k v w L kvs rv _ ih =>
      intro q hq
      rcases List.mem_cons.mp hq with rfl | hq
      · cases rv with
        | v _ => exact trivial
        | r h _ => rw [s.len] at h; exact h
      · exact ih q hq
  have := s1.write (o := .dK L) (ob := .dct kvs) hl ⟨L, upd_same, ?_⟩ u
  · rw [upd_upd] at this
    rwa [List.set_append_right _ _ (Nat.le_refl _), Nat.sub_self] at this
  · rw [upd_upd]
    exact r.mono fun _ _ z => z.grow g1
theorem de_dct {X : Cx} {ct : Nat → Value} {E : St → XK} {pos : Pos} {keys : List (Option Expr)} {values : List Expr} {fs : List (Str × ED)} (h : PPs X pos keys values (trsOf X.kw ct E fs)) (hall : keys.all (·.isSome) = true := by rfl) (hl : keys.length = values.length := by rfl) (h0 : keys ≠ [] := by exact fun z => by cases z)
    (h15 : keys.length ≤ 15 := by decide) : PE X (.Dict keys values pos) (tE X.kw ct E (eDct (kOf fs))) := PE.of (pe_disp h hall hl h0 h15) fun σ H Q ⟨ρ, st, env, a, q⟩ => by
  intro p hp
  have ap : At X.kw (ρ.hide p) (upd H p (.dK [])) st σ env := ⟨a.1.hide hp, a.2.hide hp⟩
  unfold eDct at q
  refine pairs_read fs (EE := E σ) rfl ap ?_
  cases ek : kOf fs env st with
  | exc x st' => rw [ek] at q; exact q.elim
  | bad => rw [ek] at q; exact q.elim
  | ok kvs st' =>
    rw [ek] at q
    simp only [noX_ok, R.bind_ok] at q
    split at q
    rotate_left
    · exact q.elim
    rename_i c
    rw [Bool.and_eq_true] at c
    intro ρ1 H1 ps g1 s1 r1
    have hpl : some p ∉ ρ.lc := fun z => a.1.fresh hp (.inl z)
    obtain ⟨h1, n1⟩ := g1.obj _ _ upd_same hpl
    obtain ⟨L, rfl, rd⟩ := r1.keys
    have e1 := g1.shown
    have gr : Grow ρ H ⟨ρ1.lc, ρ.hid⟩ (unD H1 p) := Grow.under hp (by
      refine ⟨Nat.le_refl _, rfl, fun _ _ _ z => z, fun x o hx n => ⟨?_, n⟩⟩
      rw [unD_ne (ne_of_none hx hp), upd_ne (ne_of_none hx hp)]
      exact hx) g1
    have hph : p ∉ ρ.hid := fun z => by obtain ⟨o, w⟩ := a.1.hidt p z; rw [hp] at w; cases w
    rw [e1] at s1 rd
    have un : ∀ b, b ≠ p → unD H1 p b = H1 b := fun b hb => unD_ne hb
    have s2 : RelSt X.kw ⟨ρ1.lc, ρ.hid⟩ (unD H1 p) st' := s1.unhide un n1 (.inl hph)
    have rd2 : RlD X.kw ⟨ρ1.lc, ρ.hid⟩ (unD H1 p) L kvs := rd.mono fun _ _ z => z.unhide un
    refine ⟨h1, L, rfl, by rw [rd2.length]; exact of_decide_eq_true c.2, ?_⟩
    rw [merge_nodup L [] (by simpa using nodupK_of rd2 c.1), List.nil_append]
    have e2 : upd H1 p (.dK L) = upd (unD H1 p) p (.dK L) := by
      funext b
      by_cases hb : b = p
      · subst hb; rw [upd_same, upd_same]
      · rw [upd_ne hb, upd_ne hb, unD_ne hb]
    rw [e2]
    refine q _ _ _ (gr.trans (.push (if_pos rfl))) (pushD s2 (if_pos rfl) rd2) (.r ?_ fun x hx => ?_)
    · rw [← s2.len]; simp [Rho.push]
    · rw [← s2.len] at hx
      simp [Rho.push] at hx
      rw [hx]
/-! ### {} -/
/-! ### t[::-1] of a tuple -/
end Jv
end
section
namespace Jv
open PySem PySem.Spec L2 PyProof.Rows
/-! ### list + list: a new list -/
def lCat (f1 f2 : ED) : LD := fun env st => (f1 env st).bind fun a st => (f2 env st).bind fun b st => match asLst st a, asLst st b with
  | some xs, some ys => if xs.length + ys.length ≤ 100000 then .ok (xs ++ ys) st else .bad
  | _, _ => .bad
section
variable {X : Cx} {ct : Nat → Value} {E : St → XK} {a b : Expr} {fa fb : ED} {pos : Pos}
theorem op_catL : OpR X (binaryOp .Add) (fun x y H Q => ∃ l b xs zs, x = .ref l ∧ y = .ref b ∧ SqL X.kw H l xs ∧ SqL X.kw H b zs ∧ xs.length + zs.length ≤ sizeLine ∧ ∀ p, H p = none → Q (.ref p) (upd H p (.lst (xs ++ zs)))) := by
  intro pins s σ H x y v u Q I rx ry h
  obtain ⟨l, b, xs, zs, rfl, rfl, h1, h2, hz, q⟩ := h
  cases rx
  cases ry
  obtain ⟨its, r1, ⟨⟨cls, dd, data, sl⟩, n, ho, hc, _, hd⟩, _⟩ := I.list h1
  obtain ⟨its2, r2, ⟨⟨cls2, dd2, data2, sl2⟩, n2, ho2, hc2, _, hd2⟩, _⟩ := I.list h2
  simp only at hc hd hc2 hd2
  subst hc hd hc2 hd2
  have l1 := r1.length
  have l2 := r2.length
  have e : its.toArray ++ its2.toArray = (its ++ its2).toArray := by simp
  have sz : its.toArray.size + its2.toArray.size ≤ sizeLine := by rw [List.size_toArray, List.size_toArray]; omega
  have meets := list_addW l b its.toArray its2.toArray n n2 dd dd2 sl sl2 sz
  refine concat_meets ⟨_, ho, rfl⟩ ⟨_, ho2, rfl⟩ noFill_list_add seq_list_add PySem.F.slot_list_add PySem.F.entry_list_add (PySem.F.args_list_add_2 _ _) meets ⟨ho, ho2, ?_⟩
  rw [e]
  exact ⟨.ref _, _, I.lnew (t' := s.toks) (r1.append r2) (by rw [List.length_append]; exact hz), rfl, q _ I.fresh⟩
theorem df_cat (ha : PE X a (tE X.kw ct E fa)) (hb : PE X b (tE X.kw ct E fb)) : PE X (.BinOp a .Add b pos) (tF X.kw ct E (lCat fa fb)) := PE.of (pe_op op_catL ha hb) fun σ H Q ⟨ρ, st, env, at', h⟩ => by
  refine ⟨ρ, st, env, at', ?_⟩
  unfold lCat at h
  cases e1 : fa env st with
  | exc x st' => rw [e1] at h; exact h
  | bad => rw [e1] at h; exact h.elim
  | ok w1 st1 =>
    rw [e1] at h
    simp only [R.bind_ok] at h
    intro ρ1 H1 v g1 s1 r1
    refine ⟨ρ1, st1, env, ⟨s1, at'.2.grow g1⟩, ?_⟩
    cases e2 : fb env st1 with
    | exc x st' => rw [e2] at h; exact fun ρ' H' cv od g => h ρ' H' cv od (g1.trans g)
    | bad => rw [e2] at h; exact h.elim
    | ok w2 st2 =>
      rw [e2] at h
      simp only [R.bind_ok] at h
      intro ρ2 H2 u g2 s2 r2
      split at h
      · rename_i xs ys ex ey
        split at h
        · rename_i hl
          obtain ⟨p, vs, rfl, h1, h2⟩ := lst_of s2 (r1.grow g2) ex
          obtain ⟨p', vs', rfl, h1', h2'⟩ := lst_of s2 r2 ey
          exact ⟨_, _, _, _, rfl, rfl, h1, h1', sl5 (by rw [h2.length, h2'.length]; exact hl), fun q hq => h ρ2 H2 q _ (g1.trans g2) s2 hq (h2.append h2')⟩
        · exact h.elim
      · exact h.elim
end
end Jv
end
section
namespace Jv
open PySem PySem.Spec L2 PyProof.Rows
theorem hu64 {A : Around} {k : Nat} (hr : Room k A) : A.units + 64 < cLine := by have := hr.un; omega
theorem hu65 {A : Around} {k : Nat} (hr : Room k A) : A.units + 65 < cLine := by have := hr.un; omega
theorem bt_len : bootBuiltins "len" = some (.builtin "len") := by decide +kernel
theorem bt_isinstance : bootBuiltins "isinstance" = some (.builtin "isinstance") := by decide +kernel
theorem bt_all : bootBuiltins "all" = some (.builtin "all") := by decide +kernel
theorem bt_min : bootBuiltins "min" = some (.builtin "min") := by decide +kernel
theorem bt_repr : bootBuiltins "repr" = some (.builtin "repr") := by decide +kernel
theorem bt_sorted : bootBuiltins "sorted" = some (.builtin "sorted") := by decide +kernel
theorem bt_str : bootBuiltins "str" = some (.type "str") := by decide +kernel
theorem bt_int : bootBuiltins "int" = some (.type "int") := by decide +kernel
theorem bt_bool : bootBuiltins "bool" = some (.type "bool") := by decide +kernel
theorem bt_list : bootBuiltins "list" = some (.type "list") := by decide +kernel
theorem bt_tuple : bootBuiltins "tuple" = some (.type "tuple") := by decide +kernel
/-- a def of the text, by its name -/
structure Cal (P : Program) (w : World) (K : PySem.W.Frag) (mg : Str → Option Value) (base : Heap) (ct : Nat → Value) (x : Str) (n k : Nat) (run : List W → Sto → R W) : Prop where
  ex : ∃ (f : Addr) (fd : FuncData) (ps : List Str), FnG P w K mg base CX0 k f fd ps (spG ⟨K, w, mg⟩ ct n run) ∧ mg x = some (.ref f) ∧ PySem.W.keepIn K (.ref f) = true ∧ Binds K fd ps []
theorem cal_mk {P : Program} {w : World} {K : PySem.W.Frag} {mg : Str → Option Value} {base : Heap} {ct : Nat → Value} {x y qual : Str} {st : Stmt} {n k : Nat} {run : List W → Sto → R W} {f : Addr} {fd : FuncData} {ps : List Str}
    (F : Fun K y qual st f fd) (g : mg x = some (.ref f)) (b : Binds K fd ps []) (G : FnG P w K mg base CX0 k f fd ps (spG ⟨K, w, mg⟩ ct n run)) : Cal P w K mg base ct x n k run := ⟨f, fd, ps, G, g, F.kp, b⟩
section
variable {X : Cx} {ct : Nat → Value} {E : St → XK} {k : Nat} {n : Nat} {run : List W → Sto → R W} {x : Str} {p pos : Pos} {e : Expr} {es : List Expr} {g : AD}
theorem de_calC (C : Cal X.prog X.w X.K X.mg X.base ct x n k run) (gd : X.A.guards = some []) (hr : Room k X.A) (hg : Gl X x) (hn : ∀ env st ws st', g env st = .ok ws st' → ws.length = n) (ha : PA X (e :: es) (tA X.kw ct E g)) (hdb : (x == ("__debug__" : Str)) = false := by decide)
    (he : starEach (e :: es) X.env = (false, eval e X.env) :: starEach es X.env := by rfl) (hpl : (backTo pos (starEach es X.env)).any (·.1) = false := by rfl) : PE X (.Call (.Name x p) (e :: es) [] pos) (tE X.kw ct E (eCall run g)) := by
  obtain ⟨f, fd, ps, G, m, kp, b⟩ := C.ex
  exact de_call G gd hr hg m kp b pass00 hn ha hdb he hpl
end
end Jv
end
section
namespace Jv
open PySem PySem.Spec L2 PyProof.Rows
/-! ### -x -/
def eNeg (f : ED) : ED := fun env st => (f env st).bind fun w st => match w with
  | .v (.int i) => .ok (.v (.int (-i))) st
  | _ => .bad
theorem de_neg {X : Cx} {ct : Nat → Value} {E : St → XK} {a : Expr} {fa : ED} {pos : Pos} (h : PE X a (tE X.kw ct E fa)) : PE X (.UnaryOp .USub a pos) (tE X.kw ct E (eNeg fa)) := PE.of (pe_un un_neg h) fun σ H Q q => by
  refine (tG.bind (rel := Rw) (k := fun w _ st => match w with | .v (.int i) => R.ok (W.v (D.int (-i))) st | _ => R.bad) q).mono fun v H1 ⟨ρ1, st1, env, w, a1, r1, q1⟩ => ?_
  split at q1
  · cases r1 with | v r1 => cases r1; exact ⟨_, rfl, q1.here a1.1 (.v (.int _))⟩
  · exact q1.elim
/-! ### enumerate of a tuple -/
theorem meets_enumT {v : Value} {o : Obj} {Hh : Heap → Prop} (B : Begins v o Hh) : Meets (Builtin.«enumerate.__new__» ⟨[.type "enumerate", v], []⟩) (fun _ R s => Hh s.heap ∧
      R (.ok (.ret (.ref (s.heap.push o).objs.size))) { s with heap := (s.heap.push o).push { cls := .type "enumerate", data := .fields #[.none, .bool false, .ref s.heap.objs.size, rawInt 0, .none, .none] } }) :=
  .of_wp fun prog w A R s hyp => by
    obtain ⟨hp, g, d, tk, os⟩ := s
    obtain ⟨h1, h⟩ := hyp
    have hsub := sub_enumerate
    have q1 : ∀ {A' : Around} {E : Value → Shared → Prop} {Q : Value → Shared → Prop}, Q (.ref hp.objs.size) ⟨hp.push o, g, d, tk, os⟩ → wpAny (model prog w) A' (pyIter v) Q E ⟨hp, g, d, tk, os⟩ := fun q => B.iter prog w _ _ ⟨hp, g, d, tk, os⟩ _ h1 q
    wp_walk using q1
    refine wpAny_stack_any fun st => wpAny_pure ?_
    split
    · rename_i c _ _ _ _ _
      cases (c == Value.type "enumerate") <;> (wp_walk using q1; exact ⟨_, rfl, h⟩)
    · wp_walk using q1
      exact ⟨_, rfl, h⟩
theorem call_enumT {prog : Program} {w : World} {A : Around} {E : Value → Shared → Prop} {s : Shared} {v : Value} {o : Obj} {Hh : Heap → Prop} {Q : Value → Shared → Prop} (B : Begins v o Hh) (h1 : Hh s.heap)
    (h : ∀ h', IsEnum h' (s.heap.objs.size + 1) s.heap.objs.size 0 .none → h'.get? s.heap.objs.size = some o → h'.objs.size = s.heap.objs.size + 2 → (∀ b o, s.heap.get? b = some o → h'.get? b = some o) → Q (.ref (s.heap.objs.size + 1)) { s with heap := h' }) :
    wpAny (model prog w) A (call (.type "enumerate") [v]) Q E s := by
  have hz : (s.heap.push o).objs.size = s.heap.objs.size + 1 := Heap.size_push ..
  refine callType_new F.called_enumerate (by decide) (F.typeCall_enumerate_1 _) (F.newCall_enumerate_1 _) (fun obj => F.args_object_init_2 obj _) F.entry_enumerate_new (meets_enumT B) ⟨h1, ?_⟩
  show _ ∧ _
  rw [hz]
  have he := Heap.get?_push_size (s.heap.push o) (o := { cls := .type "enumerate", data := .fields #[.none, .bool false, .ref s.heap.objs.size, rawInt 0, .none, .none] }) rfl
  rw [hz] at he
  exact ⟨⟨_, he, rfl⟩, h _ he (Heap.get?_push_of_some _ (Heap.get?_push_size _ B.free)) (by rw [Heap.size_push, hz]) fun b o x => Heap.get?_push_of_some _ (Heap.get?_push_of_some _ x)⟩
def IteT (K : PySem.W.Frag) (a : Addr) : It where
  go := fun i H => ∃ (xs : List V) (x : V), SqT K H a xs ∧ xs[i]? = some x
  yld := fun i H v H' => ∃ T x, v = .ref T ∧ H T = none ∧ H' = upd H T (.tup [.int (i : Nat), x]) ∧ ∀ xs, SqT K H a xs → xs[i]? = some x
  stop := fun i H => ∃ xs : List V, SqT K H a xs ∧ xs.length = i
theorem turn_enumT {P : Program} {w : World} {K : PySem.W.Frag} {elts : List Expr} {kk : Nat} {tpos : Pos} (a e it : Addr) : Turn P w K (.Tuple elts kk tpos) (IteT K a) [e, it] e (fun i h => (∃ old, IsEnum h e it ((i : Nat) : Int) old) ∧ h.IsTupleIter it a i ∧ e ≠ it ∧ a ≠ it ∧ e ≠ a) where
  mem := by simp
  obj := by
    rintro i h ⟨⟨old, he⟩, ⟨o, ho, hc, hd⟩, _⟩ b hb
    rcases (show b = e ∨ b = it by simpa using hb) with rfl | rfl
    · exact ⟨_, he, fun v q => nomatch q⟩
    · exact ⟨o, ho, fun v q => by rw [hd] at q; cases q⟩
  keep := by
    rintro i h h' ⟨⟨old, he⟩, hi, hne⟩ k
    exact ⟨⟨old, k e (by simp) _ he⟩, hi.at fun o q => k it (by simp) o q, hne⟩
  item := by
    intro X hP hw hK hc i pins s σ H E I hf st hg
    subst hP hw hK
    obtain ⟨⟨old, he⟩, hit, hne, hai, hea⟩ := st
    obtain ⟨xs, x, hq, hx⟩ := hg
    obtain ⟨its, rv, p, hz⟩ := I.tuple hq
    obtain ⟨u, hu, ru⟩ := rv.get hx
    have hel : e < s.heap.objs.size := Heap.lt_size he
    have hil : it < s.heap.objs.size := by obtain ⟨_, q, _⟩ := hit; exact Heap.lt_size q
    have hlt : i < its.toArray.size := by rw [List.size_toArray]; exact (List.getElem?_eq_some_iff.mp hu).1
    refine wpAny_pyNext_enum_itemD (Draws.tuple (A := X.A.in1) (I.ok.hd hc) it a hai its.toArray) he ⟨hit, p⟩ hlt hne (by simp [hne, hea]) fun x' h' tk hP ho hit' hT hsz hk => ?_
    have ex : x' = u := by
      have h1 : its.toArray[i]? = some x' := hP
      have h2 : its.toArray[i]? = some u := by simpa using hu
      rw [h1] at h2
      exact Option.some.inj h2
    subst ex
    refine ⟨_, rfl, wpAny_letOwnedTupleGo_enum (s := { s with heap := h', toks := tk + 1 }) ho fun h'' he' sb => ?_⟩
    have hT2 : h''.get? s.heap.objs.size = some { cls := .type "tuple", data := .seq #[.int i tk, x'] } := (sb.2 _ (Nat.ne_of_gt hel)).trans hT
    have new : ObjOk X.prog X.w (upd H s.heap.objs.size (.tup [.int (i : Nat), x])) h'' s.heap.objs.size (.tup [.int (i : Nat), x]) := ⟨by show 2 ≤ sizeLine; decide, [.int i tk, x'], .cons ⟨_, rfl⟩ (.cons ru .nil), ⟨_, hT2, rfl, _, rfl⟩⟩
    have I1 : Inv X pins σ (upd H s.heap.objs.size (.tup [.int (i : Nat), x])) { s with heap := h'', toks := tk + 1 } :=
      I.turnedNew (ch := [e, it]) (fun b ob hb q => (sb.2 b (fun z => hb (by simp [z]))).trans (hk b ob (fun z => hb (by simp [z])) (fun z => hb (by simp [z])) q)) hf (Nat.le_refl _) new
    refine ⟨.ref s.heap.objs.size, _, I1, rfl, ⟨_, x, rfl, I.hok.fresh (Nat.le_refl _), rfl, fun ys hy => by rw [I.tuple_inj hy hq]; exact hx⟩, ⟨⟨x', ?_⟩, hit'.1.at fun o q => (sb.2 it (Ne.symm hne)).trans q, hne, hai, hea⟩, fun b hb => ?_⟩
    · have e1 : ((i + 1 : Nat) : Int) = (i : Int) + 1 := by omega
      rw [e1]
      exact he'
    · have hb' : b < s.heap.objs.size := by
        rcases (show b = e ∨ b = it by simpa using hb) with rfl | rfl
        · exact hel
        · exact hil
      rw [upd_ne (Nat.ne_of_lt hb')]
      exact (hf b hb).1
  done := by
    intro X hP hw hK hc i pins s σ H E I hf st hg
    subst hP hw hK
    obtain ⟨⟨old, he⟩, hit, hne, hai, hea⟩ := st
    obtain ⟨xs, hq, hx⟩ := hg
    obtain ⟨its, rv, p, hz⟩ := I.tuple hq
    obtain ⟨f0, f1, f2, f3, f4, f5⟩ := hf it (by simp)
    have hl : xs.length = its.length := rv.length
    have hi : i = its.toArray.size := by simp; omega
    subst hi
    exact wpAny_pyNext_enum_endD (Draws.tuple (A := X.A.in1) (I.ok.hd hc) it a hai its.toArray) he ⟨hit, p⟩ fun h' eb => ⟨rfl, I.turned (t' := s.toks) (fun b o hb q => eb b o hb q) f0 f1 f3 f4 f5⟩
  self := fun A i s Q E st h => let ⟨⟨_, he⟩, _⟩ := st; wpAny_pyIter_enum he h
def iEnumT (K : KW) (ta : TA) : TI := fun σ H R => ta σ H fun vs H1 => ∃ a xs, vs = [.ref a] ∧ SqT K H1 a xs ∧ R (IteT K a) H1
theorem pi_enumT {X : Cx} {e : Expr} {ta : TA} {p pos tpos : Pos} {elts : List Expr} {kk : Nat} (hg : Gl X "enumerate") (hm : X.mg "enumerate" = none) (ha : PA X [e] ta) (hs : starEach [e] X.env = [(false, eval e X.env)] := by rfl) :
    PI X (.Tuple elts kk tpos) (.Call (.Name "enumerate" p) [e] [] pos) (iEnumT X.kw ta) := by
  constructor
  intro pins s σ H R I h
  refine Call_ (ld_blt I hg hm boot_enumerate (PyProof.Rows.callWith_type1 (thn (ha.run pos pins s σ H _ I h) ?_) hs rfl))
  rintro us s1 ⟨vs, H1, I1, r1, a, xs, rfl, hq, q⟩
  cases r1 with
  | cons r rr =>
    cases rr
    cases r
    obtain ⟨its, rv, p', hz⟩ := I1.tuple hq
    have hal : a < s1.heap.objs.size := by obtain ⟨_, z, _⟩ := p'; exact Heap.lt_size z
    refine call_enumT (begins_tuple a its.toArray) p' fun h' he hit hsz hk => wpAny_pyIter_enum he ?_
    have I2 : Inv X pins σ H1 { s1 with heap := h' } := I1.kept (t' := s1.toks) hk
    refine ⟨s1.heap.objs.size + 1, [s1.heap.objs.size + 1, s1.heap.objs.size], _, _, H1, rfl, I2, turn_enumT a (s1.heap.objs.size + 1) s1.heap.objs.size, ⟨⟨.none, he⟩, ⟨_, hit, rfl, rfl⟩, Nat.succ_ne_self _, Nat.ne_of_lt hal, Nat.ne_of_gt (Nat.lt_succ_of_lt hal)⟩, fun b hb => ?_, q⟩
    have hle : s1.heap.objs.size ≤ b := by
      rcases (show b = s1.heap.objs.size + 1 ∨ b = s1.heap.objs.size by simpa using hb) with rfl | rfl
      · exact Nat.le_add_right _ _
      · exact Nat.le_refl _
    exact I1.fpOk hle (I1.hok.fresh hle)
/-! ### enumerate -/
def enumF (k : Nat) : List D → List D
  | [] => []
  | d :: r => .tup [.int (k : Nat), d] :: enumF (k + 1) r
theorem enumF_get : ∀ (ds : List D) (k i : Nat), (enumF k ds)[i]? = (ds[i]?).map fun d => D.tup [.int ((k + i : Nat) : Int), d]
  | [], k, i => by simp [enumF]
  | d :: r, k, 0 => by simp [enumF]
  | d :: r, k, i + 1 => by
    simp only [enumF, List.getElem?_cons_succ, enumF_get r (k + 1) i]
    rw [show k + 1 + i = k + (i + 1) by omega]
theorem enumF_len : ∀ (ds : List D) (k : Nat), (enumF k ds).length = ds.length
  | [], _ => rfl
  | _ :: r, k => by simp [enumF, enumF_len r]
def enums (ws : List W) (st : Sto) : R (List D) := match ws with
  | [.v (.lst ds)] => .ok (enumF 0 ds) st
  | [.v (.tup ds)] => .ok (enumF 0 ds) st
  | _ => .bad
def itEnum (g : AD) : LD := fun env st => (g env st).bind enums
section
variable {K : KW} {ρ : Rho} {H : Hp}
theorem pair_rel {st : Sto} (s : RelSt K ρ H st) {T : Addr} {i : Nat} {x : V} {d : D} (hT : H T = none) (r : Rl K ρ H x d) :
    Same H (upd H T (.tup [.int (i : Nat), x])) ∧ Rl K ρ (upd H T (.tup [.int (i : Nat), x])) (.ref T) (.tup [.int (i : Nat), d]) := by
  have sm : Same H (upd H T (.tup [.int (i : Nat), x])) := fun b o hb => by rw [upd_ne (ne_of_none hb hT)]; exact hb
  exact ⟨sm, .tup (.inl upd_same) (s.fresh hT) (.cons (.int _) (.cons (r.same sm) .nil))⟩
theorem itOk_enumL {a : Addr} {xs : List V} {ds : List D} (h : LsR K ρ H a xs) (r : RlAll K ρ H xs ds) : ItOk K (Ite K a) ρ H (enumF 0 ds) := by
  intro ρ' H' st g s
  have h' : SqL K H' a xs := by
    rcases h with ⟨h | ⟨o, h⟩, n⟩ | h
    · exact .inl (.inl (g _ _ h n).1)
    · exact .inl (.inr ⟨o, (g _ _ h n).1⟩)
    · exact .inr h
  refine ⟨fun i d e => ?_, xs, h', by rw [enumF_len]; exact Nat.le_of_eq r.length⟩
  rw [enumF_get] at e
  cases q : ds[i]? with
  | none => rw [q] at e; cases e
  | some d0 =>
  rw [q] at e
  cases e
  obtain ⟨v, e1, rv⟩ := r.getD q
  refine ⟨⟨xs, v, h', e1⟩, ?_⟩
  rintro x H2 ⟨T, y, rfl, hT, rfl, hy⟩
  have := hy xs h'
  rw [e1] at this
  cases this
  rw [Nat.zero_add]
  exact pair_rel s hT (rv.ext g)
theorem itOk_enumT {a : Addr} {xs : List V} {ds : List D} (h : Rd H a (.tup xs)) (n : ¬ ρ.mut a) (r : RlAll K ρ H xs ds) : ItOk K (IteT K a) ρ H (enumF 0 ds) := by
  intro ρ' H' st g s
  have h' : SqT K H' a xs := .inl (Ext.keepR g h n).1
  refine ⟨fun i d e => ?_, xs, h', by rw [enumF_len]; exact r.length⟩
  rw [enumF_get] at e
  cases q : ds[i]? with
  | none => rw [q] at e; cases e
  | some d0 =>
  rw [q] at e
  cases e
  obtain ⟨v, e1, rv⟩ := r.getD q
  refine ⟨⟨xs, v, h', e1⟩, ?_⟩
  rintro x H2 ⟨T, y, rfl, hT, rfl, hy⟩
  have := hy xs h'
  rw [e1] at this
  cases this
  rw [Nat.zero_add]
  exact pair_rel s hT (rv.ext g)
end
section
variable {X : Cx} {ct : Nat → Value} {E : St → XK} {e : Expr} {f : ED} {p pos tpos : Pos} {elts : List Expr} {kk : Nat}
theorem di_enum (hg : Gl X "enumerate") (hm : X.mg "enumerate" = none) (h : PE X e (tE X.kw ct E f)) (hs : starEach [e] X.env = [(false, eval e X.env)] := by rfl) :
    PI X (.Tuple elts kk tpos) (.Call (.Name "enumerate" p) [e] [] pos) (iR X.kw ct E (itEnum (aCons f aNil))) := by
  have ha : PA X [e] (tA X.kw ct E (aCons f aNil)) := da_cons h da_nil hs
  refine PI.of (PI.or (pi_enum hg hm ha hs) (pi_enumT hg hm ha hs)) ?_
  rintro σ H R' ⟨ρ, st, env, a, q⟩
  unfold itEnum at q
  cases ef : aCons f aNil env st with
  | exc x st1 => rw [ef] at q; exact .inl ⟨ρ, st, env, a, by rw [ef]; exact q⟩
  | bad => rw [ef] at q; exact q.elim
  | ok ws st1 =>
    rw [ef] at q
    simp only [R.bind_ok, enums] at q
    split at q
    · refine .inl ⟨ρ, st, env, a, ?_⟩
      rw [ef]
      intro ρ1 H1 vs g s r
      obtain ⟨v, rfl, rv⟩ := r.one
      cases rv with | v rv =>
      cases rv with
      | lst h1 r1 => exact ⟨_, _, rfl, h1.sql, q ρ1 H1 _ g s (itOk_enumL h1 r1)⟩
    · refine .inr ⟨ρ, st, env, a, ?_⟩
      rw [ef]
      intro ρ1 H1 vs g s r
      obtain ⟨v, rfl, rv⟩ := r.one
      cases rv with | v rv =>
      cases rv with
      | tup h1 n1 r1 => exact ⟨_, _, rfl, .inl h1, q ρ1 H1 _ g s (itOk_enumT h1 n1 r1)⟩
    · exact q.elim
end
end Jv
end
section
/-! comprehensions over a list that may change: the items are read turn by turn -/
namespace Jv
open PySem PySem.Spec L2 PyProof.Rows
abbrev Nth := Nat → Sto → Option (Option D)
def ExtR (ρ : Rho) (H : Hp) (ρ' : Rho) (H' : Hp) : Prop := Ext ρ H ρ' H' ∧ ∀ (l : Nat) (a : Addr), l < ρ.lc.length → ρ'.lc[l]? = some (some a) → ρ.lc[l]? = some (some a)
def ItN (K : KW) (J : It) (ρ0 : Rho) (H0 : Hp) (nth : Nth) : Prop := ∀ ρ H st, ExtR ρ0 H0 ρ H → RelSt K ρ H st → ∀ i : Nat,
  (∀ d, nth i st = some (some d) → J.go i H ∧ ∀ x H', J.yld i H x H' → Same H H' ∧ Rl K ρ H' x d) ∧ (nth i st = some none → J.stop i H)
abbrev ND := Env → Sto → R Nth
def okN (K : KW) (ct : Nat → Value) (ρ : Rho) (H : Hp) (E : XK) (R' : It → Hp → Prop) : R Nth → Prop
  | .ok nth st' => ∀ ρ' H' J, Grow ρ H ρ' H' → RelSt K ρ' H' st' → ItN K J ρ' H' nth → R' J H'
  | .exc x st' => ∀ ρ' H' cv od, Grow ρ H ρ' H' → RelSt K ρ' H' st' → XRl K ct ρ' H' cv od x → E cv od H'
  | .bad => False
def nR (K : KW) (ct : Nat → Value) (E : St → XK) (f : ND) : TI := fun σ H R' => ∃ ρ st env, At K ρ H st σ env ∧ okN K ct ρ H (E σ) R' (f env st)
def lcN (nth : Nth) (g : GD) (t : BD) (e : ED) (env : Env) : Nat → Nat → Sto → List D → R (List D)
  | 0, _, _, _ => .bad
  | n + 1, i, st, acc => match nth i st with
    | none => .bad
    | some none => .ok acc st
    | some (some d) => match g (.v d) env with
      | none => .bad
      | some env1 => (noX (t env1 st)).bind fun b st => if b then (noX (e env1 st)).bind fun y st => (match y with
        | .v d => lcN nth g t e env n (i + 1) st (acc ++ [d])
        | .r _ => .bad) else lcN nth g t e env n (i + 1) st acc
def lLcR (vs : List Nat) (it : ND) (g : GD) (t : BD) (e : ED) : LD := fun env st => (it env st).bind fun nth st => lcN nth g t e (wipeE env vs) 100001 0 st []
section
variable {K : KW} {ct : Nat → Value} {E : St → XK} {ρ : Rho} {H : Hp} {σ : St} {env : Env}
theorem lcR_read {vs : List Nat} {it : ND} {g : GD} {t : BD} {e : ED} {Q : VK} (h : tF K ct E (lLcR vs it g t e) σ H Q) :
    tLc (nR K ct E it) (gR K vs g) (tT K ct (fun _ => E0) t) (tE K ct (fun _ => E0) e) vs σ H Q := by
  obtain ⟨ρ, st, env, a, h⟩ := h
  refine ⟨ρ, st, env, a, ?_⟩
  unfold lLcR at h
  cases ei : it env st with
  | exc x st' => rw [ei] at h; exact h
  | bad => rw [ei] at h; exact h.elim
  | ok nth st1 =>
  rw [ei] at h
  simp only [R.bind_ok] at h
  intro ρ1 H1 J gr1 s1 itk p hp
  have he1 : RelEnv K ρ1 H1 (wipe σ vs) (wipeE env vs) := (a.2.grow gr1).wipes vs
  have hph : p ∉ ρ1.hid := fun z => by obtain ⟨o, q⟩ := s1.hidt p z; rw [hp] at q; cases q
  have h' : okF K ct ρ1 H1 (E σ) Q (lcN nth g t e (wipeE env vs) 100001 0 st1 []) := by
    revert h
    cases lcN nth g t e (wipeE env vs) 100001 0 st1 [] with
    | ok x y => exact fun h ρ' H' p' xs g' => h ρ' H' p' xs (gr1.trans g')
    | exc x y => exact fun h ρ' H' cv od g' => h ρ' H' cv od (gr1.trans g')
    | bad => exact id
  refine ⟨fun i m Hc => m + i = 100001 ∧ ∃ ρ2 st2 acc accD, RelSt K (ρ2.hide p) Hc st2 ∧ Hc p = some (.lst acc) ∧ RlAll K (ρ2.hide p) Hc acc accD ∧ RelEnv K (ρ2.hide p) Hc (wipe σ vs) (wipeE env vs) ∧
      Grow ρ1 H1 ρ2 (unD Hc p) ∧ accD.length ≤ i ∧ okF K ct ρ1 H1 (E σ) Q (lcN nth g t e (wipeE env vs) m i st2 accD), ?_, ?_⟩
  · refine ⟨100001, rfl, ρ1, st1, [], [], s1.hide hp, upd_same, .nil, he1.hide hp, ?_, Nat.le_refl _, h'⟩
    refine ⟨Nat.le_refl _, rfl, fun _ _ _ z => z, fun x o hx n => ⟨?_, n⟩⟩
    rw [unD_ne (ne_of_none hx hp), upd_ne (ne_of_none hx hp)]
    exact hx
  · rintro i m Hc ⟨hmi, ρ2, st2, acc, accD, s2, hacc, racc, he2, gr2, hal, hq⟩
    have hpl : some p ∉ ρ2.lc := fun z => s2.apart p z List.mem_cons_self
    have ext : Ext ρ1 H1 (ρ2.hide p) Hc := fun x o hx n => by
      have ne := ne_of_none hx hp
      obtain ⟨h1, n1⟩ := gr2.keep hx n
      rw [unD_ne ne] at h1
      refine ⟨h1, fun z => ?_⟩
      rcases z with z | z
      · exact n1 (.inl z)
      · rcases List.mem_cons.mp z with z | z
        · exact ne z
        · exact n1 (.inr z)
    obtain ⟨turn, stop⟩ := itk (ρ2.hide p) Hc st2 ⟨ext, fun l b hl q => gr2.ref l b hl q⟩ s2 i
    cases m with
    | zero => exact hq.elim
    | succ m =>
    simp only [lcN] at hq
    cases en : nth i st2 with
    | none => rw [en] at hq; exact hq.elim
    | some on =>
    rw [en] at hq
    cases on with
    | none =>
      refine .inl ⟨stop en, ?_⟩
      simp only at hq
      have q := hq ρ2 (unD Hc p) p acc gr2 (s2.unhide (H' := unD Hc p) (fun b hb => unD_ne hb) hpl (.inl (by rw [gr2.hid]; exact hph))) (if_pos rfl) (racc.unhide fun b hb => unD_ne hb)
      rw [unD_upd hacc] at q
      exact q
    | some d0 =>
      obtain ⟨go, yl⟩ := turn d0 en
      refine .inr ⟨go, fun Hn => ∃ ρ3 st3 acc' accD', RelSt K (ρ3.hide p) Hn st3 ∧ Hn p = some (.lst acc') ∧ RlAll K (ρ3.hide p) Hn acc' accD' ∧ RelEnv K (ρ3.hide p) Hn (wipe σ vs) (wipeE env vs) ∧
        Grow ρ1 H1 ρ3 (unD Hn p) ∧ accD'.length ≤ i + 1 ∧ okF K ct ρ1 H1 (E σ) Q (lcN nth g t e (wipeE env vs) m (i + 1) st3 accD'), ?_, ?_⟩
      · rintro Hn ⟨ρ3, st3, acc', accD', q⟩
        exact ⟨m, by omega, by omega, ρ3, st3, acc', accD', q⟩
      · intro x H' hy
        obtain ⟨sm, rx⟩ := yl x H' hy
        simp only at hq
        cases eg : g (.v d0) (wipeE env vs) with
        | none => rw [eg] at hq; exact hq.elim
        | some env1 =>
          rw [eg] at hq
          simp only at hq
          refine ⟨ρ2.hide p, st2, wipeE env vs, .v d0, env1, ⟨s2.same sm, he2.grow (.same sm)⟩, .v rx, eg, fun σ2 a2 ag => ⟨ag.wipe, ?_⟩⟩
          have gr2' : Grow ρ1 H1 ρ2 (unD H' p) := by
            refine ⟨gr2.len, gr2.hid, gr2.ref, fun y o hy n => ?_⟩
            have ne := ne_of_none hy hp
            obtain ⟨h1, n1⟩ := gr2.obj y o hy n
            rw [unD_ne ne] at h1 ⊢
            exact ⟨sm _ _ h1, n1⟩
          have racc2 := racc.same sm
          have he2' := he2.grow (.same sm)
          have hacc2 := sm _ _ hacc
          refine ⟨ρ2.hide p, st2, env1, a2, ?_⟩
          cases et : t env1 st2 with
          | exc x y => rw [et] at hq; exact hq.elim
          | bad => rw [et] at hq; exact hq.elim
          | ok b st3 =>
            rw [et] at hq
            simp only [noX_ok, R.bind_ok] at hq
            intro ρ3 H3 b' g3 s3 eb
            cases eb
            have e3 := g3.shown
            have gr3 := Grow.under hp gr2' g3
            have hacc3 := (g3.obj _ _ hacc2 hpl).1
            have racc3 := racc2.grow g3
            have he3 := he2'.grow g3
            have env3 := a2.2.grow g3
            cases b with
            | false =>
              simp only [Bool.false_eq_true, if_false] at hq ⊢
              rw [e3] at s3 racc3 he3
              exact ⟨⟨ρ3.lc, ρ2.hid⟩, st3, acc, accD, s3, hacc3, racc3, he3, gr3, by omega, hq⟩
            | true =>
              simp only [if_true] at hq ⊢
              refine ⟨ρ3, st3, env1, ⟨s3, env3⟩, ?_⟩
              cases ee : e env1 st3 with
              | exc x y => rw [ee] at hq; exact hq.elim
              | bad => rw [ee] at hq; exact hq.elim
              | ok w st4 =>
                rw [ee] at hq
                simp only [noX_ok, R.bind_ok] at hq
                intro ρ4 H4 y g4 s4 ry
                cases w with
                | r l => exact hq.elim
                | v d =>
                  simp only at hq
                  cases ry with | v ry =>
                  have hpl3 : some p ∉ ρ3.lc := (g3.obj _ _ hacc2 hpl).2
                  have hacc4 := (g4.obj _ _ hacc3 hpl3).1
                  have g34 := g3.trans g4
                  have e4 := g34.shown
                  have gr4 := Grow.under hp gr2' g34
                  have racc4 := racc3.grow g4
                  have he4 := he3.grow g4
                  have hpl4 : some p ∉ ρ4.lc := (g4.obj _ _ hacc3 hpl3).2
                  have hup : ∀ b, b ≠ p → upd H4 p (.lst (acc ++ [y])) b = H4 b := fun b hb => upd_ne hb
                  rw [e4] at s4 racc4 he4 ry
                  refine ⟨acc, hacc4, Nat.lt_of_lt_of_le (show acc.length < 100001 by rw [racc.length]; omega) (by decide), ⟨ρ4.lc, ρ2.hid⟩, st4, acc ++ [y], accD ++ [d], s4.refill hup hpl4 ⟨_, upd_same⟩, upd_same, (racc4.append (.cons ry .nil)).refill hup, ?_, ?_, ?_, hq⟩
                  · exact ⟨he4.len, fun j w' ej => let ⟨v, h1, h2⟩ := he4.get j w' ej; ⟨v, h1, h2.refill hup⟩⟩
                  · refine ⟨gr4.len, gr4.hid, gr4.ref, fun z o hz n => ?_⟩
                    have ne := ne_of_none hz hp
                    obtain ⟨h1, n1⟩ := gr4.obj z o hz n
                    rw [unD_ne ne] at h1 ⊢
                    exact ⟨by rw [upd_ne ne]; exact h1, n1⟩
                  · rw [List.length_append, List.length_singleton]
                    omega
end
/-! enumerate of a list that may change -/
def nthEnum (l : Nat) : Nth := fun i st => match st[l]? with
  | some (.lst es) => some ((es[i]?).map fun d => .tup [.int (i : Nat), d])
  | _ => none
def enumsN (ws : List W) (st : Sto) : R Nth := match ws with
  | [.r l] => match st[l]? with
    | some (.lst _) => .ok (nthEnum l) st
    | _ => .bad
  | _ => .bad
def nEnum (g : AD) : ND := fun env st => (g env st).bind enumsN
theorem itN_enum {K : KW} {ρ : Rho} {H : Hp} {l : Nat} {a : Addr} (hl : ρ.lc[l]? = some (some a)) : ItN K (Ite K a) ρ H (nthEnum l) := by
  intro ρ' H' st ⟨g, gl⟩ s i
  have key : ∀ es, st[l]? = some (.lst es) → ∃ xs, H' a = some (.lst xs) ∧ RlAll K ρ' H' xs es := fun es q => by
    rcases s.obj l _ q with ⟨z, _⟩ | ⟨b, hb, ob⟩
    · cases z
    · have := gl l b (List.getElem?_eq_some_iff.mp hl).1 hb
      rw [hl] at this
      cases this
      exact ob
  unfold nthEnum
  cases q : st[l]? with
  | none => exact ⟨fun d e => by simp at e, fun e => by simp at e⟩
  | some ob =>
    cases ob with
    | dead => exact ⟨fun d e => by simp at e, fun e => by simp at e⟩
    | dct _ => exact ⟨fun d e => by simp at e, fun e => by simp at e⟩
    | kd _ => exact ⟨fun d e => by simp at e, fun e => by simp at e⟩
    | ld _ => exact ⟨fun d e => by simp at e, fun e => by simp at e⟩
    | set _ => exact ⟨fun d e => by simp at e, fun e => by simp at e⟩
    | tab _ _ => exact ⟨fun d e => by simp at e, fun e => by simp at e⟩
    | ins _ _ => exact ⟨fun d e => by simp at e, fun e => by simp at e⟩
    | pr _ => exact ⟨fun d e => by simp at e, fun e => by simp at e⟩
    | lst es =>
      obtain ⟨xs, h1, r1⟩ := key es q
      have h' : SqL K H' a xs := .inl (.inl h1)
      refine ⟨fun d e => ?_, fun e => ⟨xs, h', ?_⟩⟩
      · simp only [Option.some.injEq] at e
        cases q2 : es[i]? with
        | none => rw [q2] at e; cases e
        | some d0 =>
          rw [q2] at e
          cases e
          obtain ⟨v, e1, rv⟩ := r1.getD q2
          refine ⟨⟨xs, v, h', e1⟩, ?_⟩
          rintro x H2 ⟨T, y, rfl, hT, rfl, hy⟩
          have := hy xs h'
          rw [e1] at this
          cases this
          exact pair_rel s hT rv
      · simp only [Option.some.injEq, Option.map_eq_none_iff, List.getElem?_eq_none_iff] at e
        rw [r1.length]
        exact e
section
variable {X : Cx} {ct : Nat → Value} {E : St → XK}
theorem dn_enum {e : Expr} {f : ED} {p pos tpos : Pos} {elts : List Expr} {kk : Nat} (hg : Gl X "enumerate") (hm : X.mg "enumerate" = none) (h : PE X e (tE X.kw ct E f)) (hs : starEach [e] X.env = [(false, eval e X.env)] := by rfl) :
    PI X (.Tuple elts kk tpos) (.Call (.Name "enumerate" p) [e] [] pos) (nR X.kw ct E (nEnum (aCons f aNil))) := by
  have ha : PA X [e] (tA X.kw ct E (aCons f aNil)) := da_cons h da_nil hs
  refine PI.of (pi_enum hg hm ha hs) ?_
  rintro σ H R' ⟨ρ, st, env, a, q⟩
  unfold nEnum at q
  refine ⟨ρ, st, env, a, ?_⟩
  cases ef : aCons f aNil env st with
  | exc x st1 => rw [ef] at q; exact q
  | bad => rw [ef] at q; exact q.elim
  | ok ws st1 =>
    rw [ef] at q
    simp only [R.bind_ok, enumsN] at q
    split at q
    · rename_i l
      split at q
      · rename_i es hes
        intro ρ1 H1 vs g s r
        obtain ⟨v, rfl, rv⟩ := r.one
        rcases s.obj l _ hes with ⟨z, _⟩ | ⟨b, hb, xs, ob, _⟩
        · cases z
        · cases rv with
          | r hl hx =>
            have := hx b hb
            subst this
            exact ⟨_, xs, rfl, .inl (.inl ob), q ρ1 H1 _ g s (itN_enum hb)⟩
      · exact q.elim
    · exact q.elim
variable {elt tg iter : Expr} {ifs : List Expr} {scope : Scope} {own : List (Str × Nat)} {pos : Pos} {it : ND} {g : GD} {t : BD} {f : ED}
theorem ds_setLcR {spos py : Pos} {i : Nat} {y : Str} (hc : X.calm = true) (hN : X.N.Nodup) (hy : X.N[i]? = some y) (hyl : X.env.scope.names.lookup y = some .local) (hsw : swapsWith (.ListComp elt [⟨tg, iter, ifs, 0⟩] scope pos) (some (.Name y py)) spos.line X.env = pure true)
    (hi : PI X tg iter (nR X.kw ct E it)) (ok : BlkOk X.N X.env.scope scope own)
    (hg : ∀ (s : Shared) (H : Hp) (C : Addr) (cl : List (Str × Addr)) (fp : List Addr), PG (X.blk s H scope (compEnvC scope cl C X.env) fp) tg (gR X.kw (own.map (·.2)) g))
    (ht : ∀ (s : Shared) (H : Hp) (C : Addr) (cl : List (Str × Addr)) (fp : List Addr), PTs (X.blk s H scope (compEnvC scope cl C X.env) fp) ifs (tT X.kw ct (fun _ => E0) t))
    (he : ∀ (s : Shared) (H : Hp) (C : Addr) (cl : List (Str × Addr)) (fp : List Addr), PE (X.blk s H scope (compEnvC scope cl C X.env) fp) elt (tE X.kw ct (fun _ => E0) f)) (hs : ∀ x, foldedSetIterable iter X.env x = pure x := by intro _; rfl) :
    PS X (.Assign [.Name y py] (.ListComp elt [⟨tg, iter, ifs, 0⟩] scope pos) spos) (tS X.kw ct E (sSet i (eLst (lLcR (own.map (·.2)) it g t f)))) :=
  PS.of (ps_setLc hc hN hy hyl hsw hi ok hg ht he hs) fun D σ H h => lcR_read (setF_read h)
end
end Jv
end
section
/-! sorted(xs, key=f), f a def of the text -/
namespace Jv
open PySem PySem.Spec L2 PyProof.Rows PySem.W
section
variable {prog : Program} {w : World} {A : Around} {E : Value → Shared → Prop} {s : Shared} {a kS : Addr} {b : Bool} {vs : List Value} {e1 : Nat} {P : PySem.Fin → Shared → Prop}
theorem keyJ_rest {f : Value} (J : Nat → Array Value → Shared → Prop) (hZ : vs.length ≤ sizeLine) (J0 : J 0 #[] s)
    (turn : ∀ i v kA s', vs[i]? = some v → J i kA s' → wpAny (model prog w) A (call f [v])
      (fun u s'' => (∃ e, s''.heap.get? kS = some (seqObj "list" kA e)) ∧ kA.size ≤ vs.length ∧ J (i + 1) (kA.push u) { s'' with heap := s''.heap.update kS (Obj.mapSeq (·.push u)) }) (fun _ _ => False) s')
    (fin : ∀ kA s', J vs.length kA s' → (∃ e, s'.heap.get? kS = some (seqObj "list" kA e)) ∧ wpAny (model prog w) A (ksk_end a b vs.toArray e1 (.ref kS) kA) P E s') :
    wpAny (model prog w) A (ksk_rest a f b vs.toArray e1 (.ref kS)) P E s := by
  unfold ksk_rest
  refine wpAny_bind (wpAny_rule ?_)
  first
    | rw [List.forIn_toArray]
    | (rw [← Array.forIn_toList]; simp only [List.toList_toArray])
    | rw [← Array.forIn_toList]
  refine wpAny_bind (ksk_fold (fun i s' => ∃ kA, J i kA s') vs 0 s ⟨#[], J0⟩ ?_ ?_)
  · rintro j x s' hx ⟨kA, hJ⟩
    simp only [Nat.zero_add] at hJ ⊢
    refine wpAny_bind (wpAny_attempt (wpAny_mono (turn j x kA s' hx hJ) ?_ fun _ _ hF => hF.elim))
    rintro u s'' ⟨⟨e, hk⟩, hz, hJ'⟩
    try dsimp only
    exact wpAny_bind (listUpdate_at hk rfl (wpAny_pure ⟨rfl, _, hJ'⟩) (Nat.le_trans hz hZ) (Nat.le_trans (Nat.le_of_eq (Array.size_push ..)) (Nat.succ_le_succ (Nat.le_trans hz hZ))))
  · rintro s' ⟨kA, hJ⟩
    rw [Nat.zero_add] at hJ
    obtain ⟨⟨e, hk⟩, q⟩ := fin kA s' hJ
    try dsimp only
    exact wpAny_bind (listItems_at hk rfl q)
theorem keyJ_tree {f : Value} {n : Nat} (ho : s.heap.get? a = some (seqObj "list" vs.toArray n)) (hZ : vs.length ≤ sizeLine)
    (rest : ∀ e1, (sortingHeap s.heap a vs).get? a = some (seqObj "list" #[] e1) → (sortingHeap s.heap a vs).get? (s.heap.objs.size + 1) = some (seqObj "list" #[] 0) →
      wpAny (model prog w) A (ksk_rest a f b vs.toArray e1 (.ref (s.heap.objs.size + 1))) P E { s with heap := sortingHeap s.heap a vs }) :
    wpAny (model prog w) A (ksk_tree a f b) P E s := by
  obtain ⟨e1, ho1⟩ : ∃ e1, (s.heap.update a (Obj.mapSeq fun _ => (#[] : Array Value))).get? a = some (seqObj "list" #[] e1) := ⟨_, get?_update_seq ho fun _ => #[]⟩
  have hkS : ((s.heap.update a (Obj.mapSeq fun _ => (#[] : Array Value))).push (seqObj "tuple" vs.toArray 0)).objs.size = s.heap.objs.size + 1 := by rw [size_push', Heap.size_update]
  unfold ksk_tree
  refine wpAny_bind (listItems_at ho rfl ?_)
  refine wpAny_bind (listUpdate_at ho rfl ?_ (by rw [List.size_toArray]; exact hZ) (Nat.zero_le _))
  refine wpAny_bind (seqEpoch_at ho1 rfl ?_)
  refine wpAny_bind (wpAny_newTuple ?_ (by show vs.length ≤ _; exact hZ))
  refine wpAny_bind (wpAny_newList ?_ (Nat.zero_le _))
  refine wpAny_holding ?_
  have r := rest e1 (Heap.get?_push_of_some _ (Heap.get?_push_of_some _ ho1)) (by rw [← hkS]; exact Heap.get?_push_size _ rfl)
  rw [← hkS] at r
  exact r
end
/-- the object at a is gone -/
def without (h : Heap) (a : Addr) : Heap := h.update a fun o => { o with data := .freed }
theorem without_self (h : Heap) (a : Addr) : (without h a).get? a = none := by
  obtain ⟨objs, l⟩ := h
  simp only [without, Heap.update, Heap.get?, Array.getElem?_modify]
  cases objs[a]? <;> rfl
theorem without_ne {h : Heap} {a b : Addr} (n : b ≠ a) : (without h a).get? b = h.get? b := Heap.get?_update_other h _ (Ne.symm n)
/-- an object of our own is tracked from here on -/
theorem adopt {X : Cx} {pins : List (Addr × Obj)} {σ : St} {H : Hp} {s : Shared} {h' : Heap} {t' : Nat} {ch : List Addr} {T : Addr} {ob : HO} (I : Inv X pins σ H s) (k : ∀ b o, b ∉ ch → s.heap.get? b = some o → h'.get? b = some o)
    (hf : ∀ b ∈ ch, FpOk X pins H b) (hT : T ∈ ch) (new : ObjOk X.prog X.w (upd H T ob) h' T ob) : Inv X pins σ (upd H T ob) { s with heap := h', toks := t' } := by
  have hn : H T = none := (hf T hT).1
  have nit : ∀ b u, H b = some u → b ∉ ch := fun b u e z => by
    have q := (hf b z).1
    rw [q] at e
    cases e
  refine I.step (g' := s.gens) (d' := s.drawn) (ch := ch) (fun b hb => ?_) (fun b o _ _ hc e _ => k b o hc e) (fun b o _ _ hc e _ => ⟨o.slots, k b o hc e⟩) (fun b o hc e n => ?_) (fun b o hc e => ⟨o, k b o hc e⟩) (fun b xs e => ?_) (fun b o u e => ?_)
    (fun b ps e => ⟨#[], ?_⟩) (fun m hm => ?_) (fun b u e => ?_) I.bare
  · obtain ⟨_, f1, _, f3, f4, f5⟩ := hf b hb
    exact ⟨f3, f1, f4, f5⟩
  · rw [upd_ne (show b ≠ T from fun z => hc (by rw [z]; exact hT))]
    exact n
  · rw [upd_ne (ne_of_none e hn)]
    exact e
  · rw [upd_ne (ne_of_none e hn)]
    exact e
  · rw [upd_ne (ne_of_none e hn), e]
    simp
  · obtain ⟨o, es, ep, ho, r⟩ := hm
    exact ⟨o, es, ep, k _ o (fun z => (hf _ z).2.1 rfl) ho, r⟩
  · by_cases hb : b = T
    · subst hb
      rw [upd_same] at e
      cases e
      exact new
    · rw [upd_ne hb] at e
      refine (I.hok b u e).stay (fun c v hc q => k c v ?_ q) (fun c q => ?_) fun c xs q => ?_
      · rcases hc with z | z
        · rw [z]
          exact nit b u e
        · exact nit c _ z
      · rw [upd_ne (ne_of_none q hn)]
        exact q
      · rw [upd_ne (ne_of_none q hn)]
        exact q
/-! what it gives -/
def keysOf (run : List W → Sto → R W) : List D → Sto → R (List D)
  | [], st => .ok [] st
  | d :: r, st => (noX (run [.v d] st)).bind fun y st => match y with
    | .v k => (keysOf run r st).bind fun ks st => .ok (k :: ks) st
    | .r _ => .bad
def isRow : PyData → Bool
  | .tuple (_ :: _) => true
  | _ => false
def alikes (ks : List PyData) : Bool := ks.all fun x => ks.all fun y => alike x y
def keysOk (ks : List D) : Bool := alikes (ks.map D.py) && (ks.map D.py).all isRow && ks.all (fun k => decide (k.py.depth ≤ 60) && k.py.canLay0)
/-- a stable sort that computes -/
def ins {α : Type} (le : α → α → Bool) (x : α) : List α → List α
  | [] => [x]
  | y :: r => if le x y then x :: y :: r else y :: ins le x r
def isort {α : Type} (le : α → α → Bool) : List α → List α
  | [] => []
  | x :: r => ins le x (isort le r)
theorem ins_mem {α : Type} {le : α → α → Bool} {x : α} : ∀ {l : List α} {z : α}, z ∈ ins le x l → z = x ∨ z ∈ l
  | [], z, h => .inl (List.mem_singleton.mp h)
  | y :: r, z, h => by
    unfold ins at h
    split at h
    · exact List.mem_cons.mp h
    · rcases List.mem_cons.mp h with h | h
      · exact .inr (h ▸ List.mem_cons_self)
      · exact (ins_mem h).imp id (List.mem_cons_of_mem _)
theorem ins_sorted {α : Type} {le : α → α → Bool} (h : TotalLe le) {x : α} : ∀ {l : List α}, l.Pairwise (fun a b => le a b = true) → (ins le x l).Pairwise fun a b => le a b = true
  | [], _ => List.pairwise_singleton _ _
  | y :: r, p => by
    rw [List.pairwise_cons] at p
    unfold ins
    split
    · rename_i c
      rw [List.pairwise_cons]
      refine ⟨fun z hz => ?_, List.pairwise_cons.mpr p⟩
      rcases List.mem_cons.mp hz with rfl | hz
      · exact c
      · exact h.trans _ _ _ c (p.1 z hz)
    · rename_i c
      rw [List.pairwise_cons]
      refine ⟨fun z hz => ?_, ins_sorted h p.2⟩
      rcases ins_mem hz with rfl | hz
      · exact (h.total y z).resolve_right c
      · exact p.1 z hz
theorem ins_stable {α : Type} {le : α → α → Bool} (h : TotalLe le) {x c : α} : ∀ {l : List α}, (ins le x l).filter (sameRank le c) = (x :: l).filter (sameRank le c)
  | [] => rfl
  | y :: r => by
    unfold ins
    split
    · rfl
    · rename_i n
      rw [List.filter_cons, ins_stable h (l := r)]
      simp only [List.filter_cons]
      cases hx : sameRank le c x with
      | false => simp
      | true =>
        cases hy : sameRank le c y with
        | false => simp
        | true =>
          simp only [sameRank, Bool.and_eq_true] at hx hy
          exact absurd (h.trans _ _ _ hx.2 hy.1) n
theorem isort_eq {α : Type} {le : α → α → Bool} (h : TotalLe le) (l : List α) : isort le l = l.mergeSort le := by
  refine sort_unique h ?_ fun c => ?_
  · induction l with
    | nil => exact .nil
    | cons x r ih => exact ins_sorted h ih
  · induction l with
    | nil => rfl
    | cons x r ih =>
      show (ins le x (isort le r)).filter _ = _
      rw [ins_stable h, List.filter_cons, List.filter_cons, ih]
def sortD (ds ks : List D) : List D := (isort (dataLe false fun p => p.2.py) (ds.zip ks)).map (·.1)
def sortFin (ds ks : List D) (st : Sto) : R (List D) := if keysOk ks && decide (ds.length ≤ 100000) then .ok (sortD ds ks) st else .bad
def sortK (run : List W → Sto → R W) (ds : List D) (st : Sto) : R (List D) := (keysOf run ds st).bind fun ks st => sortFin ds ks st
def lSortK (run : List W → Sto → R W) (g : AD) : LD := fun env st => (g env st).bind fun ws st => match ws with
  | [w] => match asLst st w with
    | some ds => sortK run ds st
    | none => .bad
  | _ => .bad
/-! the call -/
theorem alikes_of {ks : List PyData} (h : alikes ks = true) : AllAlike ks := fun d hd d' hd' => by
  have h1 := List.all_eq_true.mp h d hd
  exact List.all_eq_true.mp h1 d' hd'
theorem sortable_of {ks : List PyData} (h : ks.all isRow = true) : PySem.W.Sortable ks := .inl fun d hd => by
  have h1 := List.all_eq_true.mp h d hd
  unfold isRow at h1
  split at h1
  · exact ⟨_, _, rfl⟩
  · cases h1
theorem each_of : ∀ {xs : List V} {us : List Value} {bs : List (V × D × D)}, Vals xs us → bs.map (·.1) = xs → EachIs (fun u b => RelV b.1 u) us bs
  | _, _, [], .nil, e => .nil
  | _, _, [], .cons _ _, e => by cases e
  | _, _, b :: bs, .nil, e => by cases e
  | _, _, b :: bs, .cons r t, e => by
    simp only [List.map_cons, List.cons.injEq] at e
    obtain ⟨e1, e2⟩ := e
    subst e1
    exact .cons r (each_of t e2)
theorem of_each : ∀ {us : List Value} {bs : List (V × D × D)}, EachIs (fun u b => RelV b.1 u) us bs → Vals (bs.map (·.1)) us
  | _, _, .nil => .nil
  | _, _, .cons r t => .cons r (of_each t)
section
variable {K : KW} {ρ : Rho} {H : Hp}
theorem RlAll.zips : ∀ {xs : List V} {ds : List D} (ks : List D), RlAll K ρ H xs ds → ∀ b ∈ xs.zip (ds.zip ks), Rl K ρ H b.1 b.2.1
  | _, _, [], .cons _ _, b, hb => by simp at hb
  | _, _, _, .nil, b, hb => by simp at hb
  | _, _, k :: ks, .cons r t, b, hb => by
    simp only [List.zip_cons_cons, List.mem_cons] at hb
    rcases hb with rfl | hb
    · exact r
    · exact RlAll.zips ks t b hb
theorem RlAll.ofMem : ∀ {bs : List (V × D × D)}, (∀ b ∈ bs, Rl K ρ H b.1 b.2.1) → RlAll K ρ H (bs.map (·.1)) (bs.map (·.2.1))
  | [], _ => .nil
  | b :: bs, h => .cons (h b List.mem_cons_self) (RlAll.ofMem fun c hc => h c (List.mem_cons_of_mem _ hc))
end
theorem sortD_eq (xs : List V) (ds ks : List D) (h1 : xs.length = ds.length) (h2 : ks.length = ds.length) : ((xs.zip (ds.zip ks)).mergeSort (dataLe false fun b => b.2.2.py)).map (·.2.1) = sortD ds ks := by
  unfold sortD
  rw [isort_eq (show TotalLe (dataLe false fun p : D × D => p.2.py) from sortLe_total _ _ _)]
  have e : (xs.zip (ds.zip ks)).map (·.2) = ds.zip ks := by
    rw [List.map_snd_zip]
    simp [h1, h2]
  have m := List.map_mergeSort (l := xs.zip (ds.zip ks)) (r := dataLe false fun b : V × D × D => b.2.2.py) (s := dataLe false fun p : D × D => p.2.py) (f := fun b : V × D × D => b.2) (fun a _ b _ => rfl)
  rw [e] at m
  rw [← m, List.map_map]
  rfl
def rSortK (K : KW) (f : Addr) (run : List W → Sto → R W) : List V → List V → Hp → VK → Prop := fun vs zs H Q => ∃ (ρ : Rho) (st : Sto) (a : Addr) (xs : List V) (ds : List D),
  vs = [.ref a] ∧ zs = [.ref f] ∧ SqL K H a xs ∧ RlAll K ρ H xs ds ∧ RelSt K ρ H st ∧ okF K (fun _ => .none) ρ H E0 Q (sortK run ds st)
theorem okF.grow {K : KW} {ct : Nat → Value} {ρ ρ1 : Rho} {H H1 : Hp} {E : XK} {Q : VK} {r : R (List D)} (g : Grow ρ H ρ1 H1) (h : okF K ct ρ H E Q r) : okF K ct ρ1 H1 E Q r := by
  cases r with
  | ok ds st' => exact fun ρ' H' p xs g' => h ρ' H' p xs (g.trans g')
  | exc x st' => exact fun ρ' H' cv od g' => h ρ' H' cv od (g.trans g')
  | bad => exact h
/-- what a key's function does at every state from here on -/
def CallsTo (X : Cx) (ρ0 : Rho) (H0 : Hp) (pins0 : List (Addr × Obj)) (f : Addr) (run : List W → Sto → R W) : Prop :=
  ∀ (pins : List (Addr × Obj)) (σ : St) (s' : Shared) (H' : Hp) (ρ' : Rho) (st' st2 : Sto) (v : Value) (x : V) (d kd : D), (∀ p ∈ pins0, p ∈ pins) → Inv X pins σ H' s' → Grow ρ0 H0 ρ' H' → RelSt X.kw ρ' H' st' → RelV x v → Rl X.kw ρ' H' x d → run [.v d] st' = .ok (.v kd) st2 →
    codeAny (model X.prog X.w) X.A.in1.in1 (.call (.ref f) ⟨[v], []⟩) (CR CX0 X.stack X.prog X.w H' s' (fun y2 H2 => ∃ ρ2, Grow ρ' H' ρ2 H2 ∧ RelSt X.kw ρ2 H2 st2 ∧ Rw X.kw ρ2 H2 y2 (.v kd)) E0) s'
theorem calls_fn {X : Cx} {ct : Nat → Value} {k : Nat} {f : Addr} {fd : FuncData} {ps : List Str} {run : List W → Sto → R W} (F : FnG X.prog X.w X.K X.mg X.base CX0 k f fd ps (spG X.kw ct 1 run)) (gd : X.A.guards = some []) (hr : Room (k + 1) X.A) (hb : Binds X.K fd ps []) (ρ0 : Rho) (H0 : Hp) (pins0 : List (Addr × Obj)) :
    CallsTo X ρ0 H0 pins0 f run := fun pins σ s' H' ρ' st' st2 v x d kd _ I' _ rs' ru rd er => by
  have hb1 := hb s' [v] I'.kIn (by
    have := F.len [x] H' (fun _ _ => True) E0 ⟨ρ', st', [.v d], rs', .cons (.v rd) .nil, rfl, by rw [er]; exact fun _ _ _ _ _ _ => trivial⟩
    simpa using this)
  rw [List.append_nil] at hb1
  refine F.run X.A.in1.in1 X.stack s' H' ⟨[v], []⟩ [v] [x] (fun y2 H2 => ∃ ρ2, Grow ρ' H' ρ2 H2 ∧ RelSt X.kw ρ2 H2 st2 ∧ Rw X.kw ρ2 H2 y2 (.v kd)) E0 gd ?_ ?_ hb1 (.cons ru .nil) ⟨ρ', st', [.v d], rs', .cons (.v rd) .nil, rfl, ?_⟩
  · have h1 := hr.hd
    have h2 := hr.dp
    have h3 := hr.un
    exact ⟨h1, by show X.A.depth + 3 * k + 5 < _; omega, by show X.A.units + 1 + 1 + 16 * k + 200 < _; omega⟩
  · obtain ⟨q1, q2, q3, q4, q5, q6, q7, q8⟩ := I'.env0
    exact ⟨q1, q2, q3, q4, q5, q6, q7, q8⟩
  · rw [er]
    exact fun ρ2 H2 y2 g2 s2 r2 => ⟨ρ2, g2, s2, r2⟩
theorem sort_by {X : Cx} {f : Addr} {run : List W → Sto → R W} {pins : List (Addr × Obj)} {s : Shared} {σ : St} {H : Hp} {l : Addr} {xs : List V} {ds : List D} {ρ1 : Rho} {st1 : Sto} {Q : VK} (hu : X.A.units + 65 < cLine) (I : Inv X pins σ H s) (hq : SqL X.K H l xs) (rds : RlAll X.kw ρ1 H xs ds) (rs : RelSt X.kw ρ1 H st1) (C : CallsTo X ρ1 H pins f run)
    (hok : okF X.kw (fun _ => .none) ρ1 H E0 Q (sortK run ds st1)) : wpAny (model X.prog X.w) X.A (call (.builtin "sorted") [.ref l] [(Str.ofString "key", .ref f)]) (EP X pins σ Q) X.xe s := by
  obtain ⟨its, rv, hl, hz⟩ := I.list hq
  have hlx : xs.length = ds.length := rds.length
  have hli : xs.length = its.length := rv.length
  have hZ : its.length ≤ sizeLine := by rw [← hli]; exact hz
  refine sorted_of_sort hl.isList hZ (ksk_s1 _ _) (fun x => ksk_l1 _ _) fun E' => ?_
  show wpAny _ _ (Builtin.«list.sort» ⟨[.ref (s.heap.objs.size + 1)], [(Str.ofString "key", .ref f)]⟩) _ _ _
  rw [ksk_t1]
  have hcs : (copyHeap s.heap its).objs.size = s.heap.objs.size + 2 := by
    unfold copyHeap
    rw [size_push', Heap.size_update, size_push']
  refine keyJ_tree (copyHeap_at s.heap its) hZ fun e1 ha hk => ?_
  show wpAny _ _ (ksk_rest _ _ _ _ _ (.ref ((copyHeap s.heap its).objs.size + 1))) _ _ _
  have keep0 : ∀ b o, s.heap.get? b = some o → (sortingHeap (copyHeap s.heap its) (s.heap.objs.size + 1) its).get? b = some o := fun b o e =>
    sortingHeap_old (Nat.ne_of_lt (Nat.lt_succ_of_lt (Heap.lt_size e))) (copyHeap_old e)
  generalize hkk : (copyHeap s.heap its).objs.size + 1 = kS at *
  generalize haa : s.heap.objs.size + 1 = a at *
  have hsk : s.heap.objs.size ≤ kS := by omega
  have hsa : s.heap.objs.size ≤ a := by omega
  have hka : kS ≠ a := by omega
  have fk : ∀ {H' : Hp}, H' kS = none → FpOk X pins H' kS := fun hn => I.fpOk hsk hn
  have fa : ∀ {H' : Hp}, H' a = none → FpOk X pins H' a := fun hn => I.fpOk hsa hn
  have repin : ∀ {H' : Hp} {s' : Shared} {kA : Array Value} {e : Nat}, Inv X pins σ H' s' → s'.heap.get? kS = some (seqObj "list" kA e) → s'.heap.get? a = some (seqObj "list" #[] e1) → H' kS = none → H' a = none →
      Inv X ((kS, seqObj "list" kA e) :: (a, seqObj "list" #[] e1) :: pins) σ H' s' := fun I' h1 h2 n1 n2 => I'.pins_of fun p hp => by
    rcases List.mem_cons.mp hp with z | hp
    · subst z
      exact ⟨h1, n1, (fk n1).2.1, (fk n1).2.2.1, fun v q => nomatch q⟩
    · rcases List.mem_cons.mp hp with z | hp
      · subst z
        exact ⟨h2, n2, (fa n2).2.1, (fa n2).2.2.1, fun v q => nomatch q⟩
      · exact I'.pin p (List.mem_append_right _ hp)
  have I0 : Inv X pins σ H { s with heap := sortingHeap (copyHeap s.heap its) a its } := I.kept (t' := s.toks) keep0
  refine keyJ_rest (fun i kA s' => ∃ (ρ' : Rho) (H' : Hp) (st' : Sto) (ks : List D) (kvs : List V) (e : Nat), Inv X ((kS, seqObj "list" kA e) :: (a, seqObj "list" #[] e1) :: pins) σ H' s' ∧ Grow ρ1 H ρ' H' ∧ RelSt X.kw ρ' H' st' ∧
    Vals kvs kA.toList ∧ RlAll X.kw ρ' H' kvs ks ∧ ks.length = i ∧ i ≤ ds.length ∧ okF X.kw (fun _ => .none) ρ1 H E0 Q ((keysOf run (ds.drop i) st').bind fun ks' st => sortFin ds (ks ++ ks') st)) hZ ?_ ?_ ?_
  · exact ⟨ρ1, H, st1, [], [], 0, repin I0 hk ha (I.hok.fresh hsk) (I.hok.fresh hsa), .refl _ _, rs, .nil, .nil, rfl, Nat.zero_le _, hok⟩
  · rintro i v kA s' hv ⟨ρ', H', st', ks, kvs, e, I', gr, rs', rk, rks, hlen, hi, hq'⟩
    have hil : i < ds.length := by
      rw [← hlx, hli]
      exact (List.getElem?_eq_some_iff.mp hv).1
    obtain ⟨x, hx⟩ : ∃ x, xs[i]? = some x := ⟨_, List.getElem?_eq_getElem (by omega)⟩
    obtain ⟨u0, hu0, ru0⟩ := rv.get hx
    rw [hv] at hu0
    cases hu0
    obtain ⟨d, hd, rd⟩ := rds.get hx
    have hd' : ds[i] = d := by
      rw [List.getElem?_eq_getElem hil] at hd
      exact Option.some.inj hd
    have dr : ds.drop i = d :: ds.drop (i + 1) := by rw [List.drop_eq_getElem_cons hil, hd']
    rw [dr] at hq'
    simp only [keysOf] at hq'
    cases er : run [.v d] st' with
    | exc x y => rw [er] at hq'; exact hq'.elim
    | bad => rw [er] at hq'; exact hq'.elim
    | ok y st2 =>
    rw [er] at hq'
    simp only [noX_ok, R.bind_ok] at hq'
    cases y with
    | r l' => exact hq'.elim
    | v kd =>
    simp only at hq'
    apply wpAny_call
    refine codeAny_mono (C _ σ s' H' ρ' st' st2 v x d kd (fun p hp => List.mem_cons_of_mem _ (List.mem_cons_of_mem _ hp)) I' gr rs' ru0 (rd.grow gr) er) ?_
    · rintro (er' | (_ | _ | _ | u)) s'' q
      · exact q.elim
      · exact q.elim
      · exact q.elim
      · exact q.elim
      · obtain ⟨y2, H2, I2, ry, ρ2, g2, rs2, rw2⟩ := I'.after q
        have pk := (I2.pin _ (List.mem_append_right _ List.mem_cons_self))
        have pa := (I2.pin _ (List.mem_append_right _ (List.mem_cons_of_mem _ List.mem_cons_self)))
        have I3 : Inv X pins σ H2 s'' := I2.pins_of fun p hp => I2.pin p (List.mem_append_right _ (List.mem_cons_of_mem _ (List.mem_cons_of_mem _ hp)))
        cases rw2 with | v rw2 =>
        have hz' : kA.size = ks.length := by
          rw [← Array.length_toList, ← rk.length, rks.length]
        have sb := Heap.SameBut.update s''.heap kS (Obj.mapSeq (·.push u))
        have I4 : Inv X pins σ H2 { s'' with heap := s''.heap.update kS (Obj.mapSeq (·.push u)) } := I3.turnedL (t' := s''.toks) (ch := [kS]) (fun b o hc e => (sb.2 b (fun z => hc (by simp [z]))).trans e) fun b hb => by
          obtain rfl : b = kS := by simpa using hb
          exact fk pk.2.1
        refine ⟨⟨e, pk.1⟩, by omega, ρ2, H2, st2, ks ++ [kd], kvs ++ [y2], _, repin I4 (get?_update_seq pk.1 (·.push u)) ((sb.2 a (Ne.symm hka)).trans pa.1) pk.2.1 pa.2.1, gr.trans g2, rs2, ?_, (rks.grow g2).append (.cons rw2 .nil), by simp [hlen], hil, ?_⟩
        · rw [show (kA.push u).toList = kA.toList ++ [u] by simp]
          exact Paired.snoc rk ry
        · revert hq'
          cases keysOf run (ds.drop (i + 1)) st2 with
          | ok ks' st3 =>
            simp only [R.bind_ok, List.append_assoc, List.singleton_append]
            exact id
          | exc x y => exact id
          | bad => exact id
  · rintro kA s' ⟨ρ', H', st', ks, kvs, e, I', gr, rs', rk, rks, hlen, hi, hq'⟩
    have pk := (I'.pin _ (List.mem_append_right _ List.mem_cons_self))
    have pa := (I'.pin _ (List.mem_append_right _ (List.mem_cons_of_mem _ List.mem_cons_self)))
    refine ⟨⟨e, pk.1⟩, ?_⟩
    have I3 : Inv X pins σ H' s' := I'.pins_of fun p hp => I'.pin p (List.mem_append_right _ (List.mem_cons_of_mem _ (List.mem_cons_of_mem _ hp)))
    rw [List.drop_of_length_le (by omega)] at hq'
    simp only [keysOf, R.bind_ok, List.append_nil, sortFin] at hq'
    split at hq'
    rotate_left
    · exact hq'.elim
    rename_i hc
    simp only [Bool.and_eq_true, decide_eq_true_eq, keysOk] at hc
    obtain ⟨⟨⟨hal, hrow⟩, hdp⟩, hlim⟩ := hc
    have hal' := alikes_of hal
    have hsr := sortable_of hrow
    have hlk : ks.length = ds.length := by omega
    have hks : EachIs (fun v d => ∃ as, Reads s'.heap v d as) kA.toList (ks.map D.py) := by
      have gen : ∀ {kvs : List V} {us : List Value} {ks : List D}, Vals kvs us → RlAll X.kw ρ' H' kvs ks → (ks.all fun k => decide (k.py.depth ≤ 60) && k.py.canLay0) = true → EachIs (fun v d => ∃ as, Reads s'.heap v d as) us (ks.map D.py) := by
        intro kvs us ks r1 r2
        induction r1 generalizing ks with
        | nil => intro _; cases r2; exact .nil
        | cons r _ ih =>
          intro hc
          cases r2 with
          | cons q t =>
            simp only [List.all_cons, Bool.and_eq_true] at hc
            exact .cons (Dp.reads I3 _ _ _ (q.dp hc.1.2) r) (ih t hc.2)
      exact gen rk rks hdp
    have hksz : kA.size = its.length := by
      have := hks.length
      rw [Array.length_toList, List.length_map] at this
      omega
    have hun : ∀ d, d ∈ ks.map D.py → X.A.in1.in1.units + d.depth < cLine := fun d hd => by
      obtain ⟨k0, hk0, rfl⟩ := List.mem_map.mp hd
      have := List.all_eq_true.mp hdp k0 hk0
      simp only [Bool.and_eq_true, decide_eq_true_eq] at this
      show X.A.units + 1 + 1 + _ < _
      omega
    refine keyH_end (κ := dataKind s'.heap (ks.map D.py)) (h₁ := without s'.heap kS) (a := a) (e := e) (fun b o hb eb => ?_) (without_self _ _) pk.1 pa.1 hka (SortsAt.data hks hal' hsr hun) hksz hZ fun h3 tk3 c k3 n3 => ⟨rfl, ?_⟩
    · by_cases hbk : b = kS
      · subst hbk
        rw [without_self] at eb
        cases eb
      · rw [without_ne hbk] at eb
        exact eb
    let bs := xs.zip (ds.zip ks)
    have hzl : (ds.zip ks).length = ds.length := by simp [hlk]
    have eb1 : bs.map (·.1) = xs := by
      show (xs.zip (ds.zip ks)).map Prod.fst = xs
      rw [List.map_fst_zip]
      omega
    have eb2 : bs.map (fun b => b.2.2.py) = ks.map D.py := by
      show (xs.zip (ds.zip ks)).map (fun b => b.2.2.py) = _
      have h1 : (xs.zip (ds.zip ks)).map (·.2) = ds.zip ks := by rw [List.map_snd_zip]; omega
      have h2 : (ds.zip ks).map (·.2) = ks := by rw [List.map_snd_zip]; omega
      calc (xs.zip (ds.zip ks)).map (fun b => b.2.2.py) = (((xs.zip (ds.zip ks)).map (·.2)).map (·.2)).map D.py := by simp [List.map_map, Function.comp_def]
        _ = _ := by rw [h1, h2]
    have ko : KeyedOut false (bs.map fun b => b.2.2.py) its (sortVals (dataKind s'.heap (ks.map D.py)) false kA.toList its) := by
      rw [eb2]
      exact ⟨s'.heap, kA.toList, hal', rfl, hks⟩
    have each := keyedOut_each (R := fun u (b : V × D × D) => RelV b.1 u) (fun b => b.2.2.py) ko (each_of rv eb1)
    have vout := of_each each
    have hmem : ∀ b ∈ bs.mergeSort (dataLe false fun b => b.2.2.py), Rl X.kw ρ' H' b.1 b.2.1 := fun b hb => (RlAll.zips ks rds b ((List.mergeSort_perm bs _).mem_iff.mp hb)).grow gr
    have rout := RlAll.ofMem hmem
    rw [sortD_eq xs ds ks hlx hlk] at rout
    have hk3 : ∀ b o, b ∉ [kS, a] → s'.heap.get? b = some o → h3.get? b = some o := fun b o hb q => by
      simp only [List.mem_cons, List.not_mem_nil, or_false, not_or] at hb
      exact k3 b o hb.2 (by rw [without_ne hb.1]; exact q)
    have hl3 : (List.map (fun b => b.1) (bs.mergeSort (dataLe false fun b => b.2.2.py))).length ≤ sizeLine := by
      rw [List.length_map, List.length_mergeSort]
      show (xs.zip (ds.zip ks)).length ≤ _
      rw [List.length_zip]
      omega
    have new : ObjOk X.prog X.w (upd H' a (.lst (List.map (fun b => b.1) (bs.mergeSort (dataLe false fun b => b.2.2.py))))) h3 a (.lst (List.map (fun b => b.1) (bs.mergeSort (dataLe false fun b => b.2.2.py)))) := ⟨hl3, _, c, vout, n3⟩
    refine ⟨.ref a, _, adopt (t' := tk3) I3 hk3 (fun b hb => ?_) (by simp) new, rfl, hq' ρ' H' a _ gr rs' pa.2.1 rout⟩
    rcases (show b = kS ∨ b = a by simpa using hb) with rfl | rfl
    · exact fk pk.2.1
    · exact fa pa.2.1
theorem cr_sortK {X : Cx} {ct : Nat → Value} {k : Nat} {f : Addr} {fd : FuncData} {ps : List Str} {run : List W → Sto → R W} (F : FnG X.prog X.w X.K X.mg X.base CX0 k f fd ps (spG X.kw ct 1 run)) (gd : X.A.guards = some []) (hr : Room (k + 1) X.A) (hb : Binds X.K fd ps []) :
    CallRK X (.builtin "sorted") [Str.ofString "key"] (rSortK X.kw f run) := by
  intro pins s σ H vs zs us ws Q I r rz h
  obtain ⟨ρ1, st1, l, xs, ds, rfl, rfl, hq, rds, rs, hok⟩ := h
  obtain rfl := Vals.ref1 r
  obtain rfl := Vals.ref1 rz
  exact sort_by (by have := hr.un; omega) I hq rds rs (calls_fn F gd hr hb ρ1 H pins) hok
section
variable {X : Cx} {ct : Nat → Value} {E : St → XK} {k : Nat} {run : List W → Sto → R W} {x : Str} {p pos xpos kpos : Pos} {e : Expr} {f : ED}
theorem okF_ct {K : KW} {ct : Nat → Value} {ρ : Rho} {H : Hp} {E : XK} {Q : VK} {run : List W → Sto → R W} {ds : List D} {st : Sto} (h : okF K ct ρ H E Q (sortK run ds st)) : okF K (fun _ => .none) ρ H E0 Q (sortK run ds st) := by
  have nx : ∀ (ds : List D) (st : Sto) (x : Xc) (y : Sto), keysOf run ds st ≠ .exc x y := by
    intro ds
    induction ds with
    | nil => intro st x y h; cases h
    | cons d r ih =>
      intro st x y h
      simp only [keysOf] at h
      cases e1 : run [.v d] st with
      | exc x y => rw [e1] at h; cases h
      | bad => rw [e1] at h; cases h
      | ok w st1 =>
        rw [e1] at h
        simp only [noX_ok, R.bind_ok] at h
        cases w with
        | r l => cases h
        | v k0 =>
          simp only at h
          cases e2 : keysOf run r st1 with
          | exc x' y' => exact ih _ _ _ e2
          | bad => rw [e2] at h; cases h
          | ok ks st2 => rw [e2] at h; cases h
  cases q : sortK run ds st with
  | ok es st' => rw [q] at h; exact h
  | bad => rw [q] at h; exact h.elim
  | exc x y =>
    exfalso
    unfold sortK at q
    cases e2 : keysOf run ds st with
    | exc x' y' => exact nx _ _ _ _ e2
    | bad => rw [e2] at q; cases q
    | ok ks st2 =>
      rw [e2] at q
      simp only [R.bind_ok, sortFin] at q
      split at q <;> cases q
theorem df_sortK (C : Cal X.prog X.w X.K X.mg X.base ct x 1 k run) (gd : X.A.guards = some []) (hr : Room (k + 1) X.A) (hgs : Gl X "sorted") (hm : X.mg "sorted" = none) (hg : Gl X x) (h : PE X e (tE X.kw ct E f)) (hdb : (x == ("__debug__" : Str)) = false := by decide)
    (hs : starEach [e] X.env = [(false, eval e X.env)] := by rfl)
    (he : backTo pos (starEach [e] X.env) = (false, eval e X.env) :: backTo pos (starEach [] X.env) := by rfl) (hpl : (backTo pos (starEach [e] X.env)).any (·.1) = false := by rfl)
    (hall : (backToKw pos (keywordEach [⟨some (Str.ofString "key"), .Name x xpos, kpos⟩] X.env)).all (·.1.isSome) = true := by rfl) (hnone : (backToKw pos (keywordEach [⟨some (Str.ofString "key"), .Name x xpos, kpos⟩] X.env)).any (·.1.isNone) = false := by rfl) (hks : (backToKw pos (keywordEach [⟨some (Str.ofString "key"), .Name x xpos, kpos⟩] X.env)).filterMap (·.1) = [Str.ofString "key"] := by rfl) :
    PE X (.Call (.Name "sorted" p) [e] [⟨some (Str.ofString "key"), .Name x xpos, kpos⟩] pos) (tF X.kw ct E (lSortK run (aCons f aNil))) := by
  obtain ⟨fa, fd, ps, G, m, kp, b⟩ := C.ex
  have ha : PA X [e] (tA X.kw ct E (aCons f aNil)) := da_cons h da_nil hs
  refine PE.of (pe_callBK (cr_sortK G gd hr b) hgs hm bt_sorted ha (pk_cons (pe_glob hg m (v := .ref fa) rfl hdb) pk_nil) (by decide) (by decide) he hpl hall hnone hks) ?_
  rintro σ H Q ⟨ρ, st, env, a, q⟩
  refine ⟨ρ, st, env, a, ?_⟩
  unfold lSortK at q
  cases ef : aCons f aNil env st with
  | exc x st1 => rw [ef] at q; exact q
  | bad => rw [ef] at q; exact q.elim
  | ok ws st1 =>
    rw [ef] at q
    simp only [R.bind_ok] at q
    split at q
    · rename_i w
      intro ρ1 H1 vs g s r
      cases ea : asLst st1 w with
      | none => rw [ea] at q; exact q.elim
      | some ds =>
        rw [ea] at q
        simp only at q
        obtain ⟨v, rfl, rv⟩ := r.one
        obtain ⟨l, xs, rfl, h1, h2⟩ := lst_of s rv ea
        exact ⟨ρ1, st1, l, xs, ds, rfl, rfl, h1, h2, s, okF_ct (q.grow g)⟩
    · exact q.elim
end
end Jv
end
section
/-! dicts whose keys are tuples; tuples by <; join; a list unpacked -/
namespace Jv
open PySem PySem.Spec L2 PyProof.Rows PySem.W
section
variable {X : Cx} {pins : List (Addr × Obj)} {σ : St} {H : Hp} {s : Shared} {ρ : Rho}
mutual
theorem nested_of (I : Inv X pins σ H s) : ∀ (d : D) (v : V) (u : Value), Rl X.kw ρ H v d → RelV v u → d.hb = true → NestedIs s.heap d.nk u
  | .non, _, _, r, q, _ => by cases r; cases q; exact .none
  | .bl b, _, _, r, q, _ => by cases r; cases q; exact .bool rfl
  | .int i, _, _, r, q, _ => by cases r; obtain ⟨t, rfl⟩ := q; exact .int i t
  | .str x, _, _, r, q, _ => by cases r; obtain ⟨t, rfl⟩ := q; exact .text x t
  | .tup ds, v, u, r, q, c => by
    cases r with
    | tup h n r1 =>
      cases q
      obtain ⟨its, rv, ⟨o, e1, e2, m, e3⟩, _⟩ := I.tuple (.inl h)
      simp only [D.nk]
      exact .tup e1 e2 e3 (nesteds_of I ds _ _ r1 rv (by simpa [D.hb] using c))
  | .lst _, _, _, _, _, c => by simp [D.hb] at c
  | .dct _, _, _, _, _, c => by simp [D.hb] at c
  | .ty _, _, _, _, _, c => by simp [D.hb] at c
  | .kd _, _, _, _, _, c => by simp [D.hb] at c
  | .cod _, _, _, _, _, c => by simp [D.hb] at c
  | .ld _, _, _, _, _, c => by simp [D.hb] at c
  | .adr _, _, _, _, _, c => by simp [D.hb] at c
  | .tupx _, _, _, _, _, c => by simp [D.hb] at c
  | .exc _ _, _, _, _, _, c => by simp [D.hb] at c
theorem nesteds_of (I : Inv X pins σ H s) : ∀ (ds : List D) (vs : List V) (us : List Value), RlAll X.kw ρ H vs ds → Vals vs us → D.hbL ds = true → NestedAll s.heap (D.nkL ds) us
  | [], _, _, r, q, _ => by cases r; cases q; exact .nil
  | d :: ds, _, _, r, q, c => by
    cases r with
    | cons r rs =>
      cases q with
      | cons q qs =>
        simp only [D.hbL, Bool.and_eq_true] at c
        exact .cons (nested_of I d _ _ r q c.1) (nesteds_of I ds _ _ rs qs c.2)
end
theorem KdR.keys {K : KW} {xs : List (NestedKey × Addr × Value)} {ds : List (D × D)} (h : KdR K ρ H xs ds) : xs.map (·.1) = ds.map (·.1.nk) := by
  induction h with
  | nil => rfl
  | cons _ _ _ _ ih => simp [ih]
theorem kd_dict (I : Inv X pins σ H s) {a : Addr} {kvs : List (D × D)} (o : ObR X.kw ρ H a (.kd kvs)) :
    ∃ xs, H a = some (.ext (KdAt X.w a xs)) ∧ KdR X.kw ρ H xs kvs ∧ s.heap.DictOfH (nestedKind X.prog X.w) a xs ∧ (a == sysModules) = false := by
  obtain ⟨xs, h1, h2, h3, h4, h5⟩ := o
  obtain ⟨⟨o, es, ep, e1, e2, e3, e4⟩, hx⟩ := I.hok a _ h1
  clear hx
  refine ⟨xs, h1, h2, ⟨o, es, ep, e1, e2, e3, e4, ?_, by rw [h2.keys]; exact h4⟩, h5⟩
  clear h1 e4 h4
  induction h2 with
  | nil => intro x hx; cases hx
  | cons r q1 q2 _ ih =>
    intro x hx
    rcases List.mem_cons.mp hx with rfl | hx
    · have := h3 _ List.mem_cons_self
      exact ⟨nested_of I _ _ _ r rfl this.1, this.2⟩
    · exact ih (fun p hp => h3 p (List.mem_cons_of_mem _ hp)) x hx
end
/-! k in d -/
def hasK (kvs : List (D × D)) (k : D) : Bool := kvs.any fun p => decide (p.1.nk = k.nk)
def okK (k : D) : Bool := k.hb && decide (k.nk.depth ≤ 8)
theorem has_value {K : KW} {ρ : Rho} {H : Hp} {xs : List (NestedKey × Addr × Value)} {ds : List (D × D)} (k : D) (h : KdR K ρ H xs ds) : (valueAt (pairsH xs) k.nk).isSome = hasK ds k := by
  induction h with
  | nil => rfl
  | @cons b u v k0 d xs ds r q1 q2 t ih =>
    simp only [pairsH, List.map_cons, hasK, List.any_cons] at ih ⊢
    by_cases e : k0.nk = k.nk
    · simp [valueAt, e]
    · simp only [valueAt, e, if_false, decide_false, Bool.false_or] at ih ⊢
      rw [← ih]
      simp [valueAt, e]
/-! {} -/
def eKNew : ED := fun env st => .ok (.r st.length) (st ++ [.kd []])
theorem pushK {K : KW} {ρ : Rho} {H : Hp} {st : Sto} {p : Addr} {o : HO} {ob : Ob} (s : RelSt K ρ H st) (hp : H p = none) (r : ObR K (ρ.push p) (upd H p o) p ob) (u : ob.under st.length) : RelSt K (ρ.push p) (upd H p o) (st ++ [ob]) := by
  have s1 := s.push (xs := []) (ds := []) hp .nil
  have hl : (ρ.push p).lc[st.length]? = some (some p) := by rw [← s.len]; simp [Rho.push]
  have := s1.write (o := o) (ob := ob) hl (by rw [upd_upd]; exact r) u
  rw [upd_upd] at this
  rwa [List.set_append_right _ _ (Nat.le_refl _), Nat.sub_self] at this
theorem de_knew {X : Cx} {ct : Nat → Value} {E : St → XK} {pos : Pos} : PE X (.Dict [] [] pos) (tE X.kw ct E eKNew) := ⟨fun pins s σ H Q I ⟨ρ, st, env, a, h⟩ => by
  have hp : H s.heap.objs.size = none := I.hok.fresh (Nat.le_refl _)
  have hk : KdAt X.w s.heap.objs.size [] (s.heap.push { cls := .type "dict", data := .dict #[] }) := ⟨_, _, _, Heap.get?_push_size _ rfl, ⟨rfl, rfl, rfl⟩, rfl, rfl⟩
  have new : ObjOk X.prog X.w (upd H s.heap.objs.size (.ext (KdAt X.w s.heap.objs.size []))) (s.heap.push { cls := .type "dict", data := .dict #[] }) s.heap.objs.size (.ext (KdAt X.w s.heap.objs.size [])) := by
    refine ⟨hk, ⟨_, Heap.get?_push_size _ rfl⟩, ?_⟩
    rintro h1 h2 ⟨o, es, ep, e1, e2⟩ st
    exact ⟨o, es, ep, st o e1, e2⟩
  refine wpAny_Dict_empty ⟨.ref s.heap.objs.size, _, I.laid (t' := s.toks) (fun _ _ q => Heap.get?_push_of_some _ q) (Nat.le_refl _) new, rfl, ?_⟩
  have hb : (s.heap.objs.size == sysModules) = false := beq_eq_false_iff_ne.mpr (Ne.symm (Nat.ne_of_lt I.big))
  refine h (ρ.push s.heap.objs.size) _ _ (.push hp) (pushK a.1 hp ⟨[], upd_same, .nil, (fun p hp => nomatch hp), List.nodup_nil, hb⟩ trivial) (.r (by rw [← a.1.len]; simp [Rho.push]) fun x hx => ?_)
  rw [← a.1.len] at hx
  simp [Rho.push] at hx
  rw [hx]⟩
/-! d[k] = v -/
def storeK (kvs : List (D × D)) (k d : D) : List (D × D) := if hasK kvs k then kvs.map fun p => if p.1.nk = k.nk then (p.1, d) else p else kvs ++ [(k, d)]
def kPut (o k v : W) (env : Env) (st : Sto) : Fl := match o, k, v with
  | .r l, .v (.tup ds), .v d => match st[l]? with
    | some (.kd kvs) => if okK (.tup ds) && decide (kvs.length ≤ 16000000) then .nx env (st.set l (.kd (storeK kvs (.tup ds) d))) else .bad
    | _ => .bad
  | _, _, _ => .bad
def sKPut (fo fi fv : ED) : SD := fun env st => (fv env st).thenS env fun v st => (fo env st).thenS env fun o st => (fi env st).thenS env fun k st => kPut o k v env st
theorem KdR.length {K : KW} {ρ : Rho} {H : Hp} {xs : List (NestedKey × Addr × Value)} {ds : List (D × D)} (h : KdR K ρ H xs ds) : xs.length = ds.length := by
  induction h with
  | nil => rfl
  | cons _ _ _ _ ih => simp [ih]
theorem KdR.append {K : KW} {ρ : Rho} {H : Hp} {xs ys : List (NestedKey × Addr × Value)} {ds es : List (D × D)} (h : KdR K ρ H xs ds) (h2 : KdR K ρ H ys es) : KdR K ρ H (xs ++ ys) (ds ++ es) := by
  induction h with
  | nil => exact h2
  | cons r q1 q2 _ ih => exact .cons r q1 q2 ih
theorem KdR.maps {K : KW} {ρ : Rho} {H : Hp} {xs : List (NestedKey × Addr × Value)} {ds : List (D × D)} {k d : D} {v : V} {u : Value} (h : KdR K ρ H xs ds) (ru : RelV v u) (rv : Rl K ρ H v d) :
    KdR K ρ H (xs.map (putAt k.nk u)) (ds.map fun p => if p.1.nk = k.nk then (p.1, d) else p) := by
  induction h with
  | nil => exact .nil
  | @cons b u0 v0 k0 d0 xs ds r q1 q2 t ih =>
    simp only [List.map_cons]
    by_cases z : k0.nk = k.nk
    · rw [if_pos z]
      have : putAt k.nk u (k0.nk, b, u0) = (k0.nk, b, u) := if_pos z
      rw [this]
      exact .cons r ru rv ih
    · rw [if_neg z]
      have : putAt k.nk u (k0.nk, b, u0) = (k0.nk, b, u0) := if_neg z
      rw [this]
      exact .cons r q1 q2 ih
theorem KdR.put {K : KW} {ρ : Rho} {H : Hp} {xs : List (NestedKey × Addr × Value)} {ds : List (D × D)} {k d : D} {a : Addr} {v : V} {u : Value} (h : KdR K ρ H xs ds) (rk : Rl K ρ H (.ref a) k) (ru : RelV v u) (rv : Rl K ρ H v d) :
    KdR K ρ H (storedH xs k.nk a u) (storeK ds k d) := by
  have e : (atKey xs k.nk).isSome = hasK ds k := by
    rw [← has_value k h, valueAt_pairsH, Option.isSome_map]
  unfold storedH storeK
  rw [e]
  split
  · exact h.maps ru rv
  · exact h.append (.cons rk ru rv .nil)
theorem storeK_mem {ds : List (D × D)} {k d : D} (h : ∀ p ∈ ds, p.1.hb = true ∧ p.1.nk.depth ≤ 8) (hk : k.hb = true ∧ k.nk.depth ≤ 8) : ∀ p ∈ storeK ds k d, p.1.hb = true ∧ p.1.nk.depth ≤ 8 := by
  intro p hp
  unfold storeK at hp
  split at hp
  · obtain ⟨q, hq, rfl⟩ := List.mem_map.mp hp
    split
    · exact h q hq
    · exact h q hq
  · rcases List.mem_append.mp hp with hp | hp
    · exact h p hp
    · obtain rfl := List.mem_singleton.mp hp
      exact hk
theorem storeK_nodup {ds : List (D × D)} {k d : D} (h : (ds.map (·.1.nk)).Nodup) : ((storeK ds k d).map (·.1.nk)).Nodup := by
  unfold storeK
  split
  · rw [List.map_map]
    have e : ((fun p : D × D => p.1.nk) ∘ fun p : D × D => if p.1.nk = k.nk then (p.1, d) else p) = fun p => p.1.nk := by
      funext p
      simp only [Function.comp]
      split <;> rfl
    rw [e]
    exact h
  · rename_i hn
    rw [List.map_append, List.nodup_append]
    refine ⟨h, by simp, fun x hx y hy => ?_⟩
    simp only [List.map_cons, List.map_nil, List.mem_singleton] at hy
    subst hy
    obtain ⟨q, hq, rfl⟩ := List.mem_map.mp hx
    intro z
    exact hn (List.any_eq_true.mpr ⟨q, hq, decide_eq_true z⟩)
section
variable {X : Cx} {ct : Nat → Value} {E : St → XK} {o e i v : Expr} {fi fv fo : ED} {pos pos' : Pos}
theorem ds_kput (hu : X.A.units + 65 < cLine) (ho : PE X o (tE X.kw ct E fo)) (hi : PE X i (tE X.kw ct E fi)) (hv : PE X v (tE X.kw ct E fv)) (hs : swapsWith v (some (.Subscript o i pos')) pos.line X.env = pure false := by rfl) :
    PS X (.Assign [.Subscript o i pos'] v pos) (tS X.kw ct E (sKPut fo fi fv)) := by
  constructor
  rintro pins s σ H D I ⟨ρ, st, env, a, h⟩
  refine wpAny_Assign_Subscript (thn (hv.run pins s σ H _ I ⟨ρ, st, env, a, okS.first (rel := Rw) h a.2⟩) ?_) hs
  rintro u1 s1 ⟨v1, H1, I1, ru1, ρ1, st1, w1, a1, g1, r1, q1⟩
  refine thn (ho.run pins s1 σ H1 _ I1 ⟨ρ1, st1, env, a1, okS.first (rel := Rw) q1 a1.2⟩) ?_
  rintro u2 s2 ⟨v2, H2, I2, ru2, ρ2, st2, w2, a2, g2, r2, q2⟩
  refine thn (hi.run pins s2 σ H2 _ I2 ⟨ρ2, st2, env, a2, okS.first (rel := Rw) q2 a2.2⟩) ?_
  rintro u3 s3 ⟨v3, H3, I3, ru3, ρ3, st3, w3, a3, g3, r3, q3⟩
  unfold kPut at q3
  split at q3
  · rename_i l ds d
    split at q3
    · rename_i kvs hl
      · split at q3
        · rename_i c
          simp only [okK, Bool.and_eq_true, decide_eq_true_eq] at c
          rcases a3.1.obj l _ hl with ⟨z, _⟩ | ⟨p, hp, ob⟩
          · cases z
          obtain ⟨xs, h1, h2, h3, h4⟩ := kd_dict I3 ob
          obtain ⟨_, h1', h2', hd1, hd2, _⟩ := ob
          rw [h1] at h1'
          cases r2 with | r hl2 hv2 =>
          have := hv2 p (g3.ref l p hl2 hp)
          subst this
          cases ru2
          cases r1 with | v r1 =>
          cases r3 with | v r3 =>
          have rd := (r1.grow g2).grow g3
          cases r3 with
          | @tup ka _ _ t1 t2 t3 =>
            cases ru3
            have hxl : xs.length ≤ sizeLine := by
              rw [h2.length]
              exact Nat.le_trans c.2 (by decide)
            refine wpAny_setItem_heap (knd := nestedKind X.prog X.w) (k := (Jv.D.tup ds).nk) (hsz := hxl) (show X.A.units + 1 + 8 < cLine by omega) ⟨nested_of I3 _ _ _ (.tup t1 t2 t3) rfl c.1.1, c.1.2⟩ h3 fun h' hm sb => ?_
            obtain ⟨o', es', ep', e1, e2, e3, e4, _⟩ := hm
            have new : ObjOk X.prog X.w (upd H3 p (.ext (KdAt X.w p (storedH xs (Jv.D.tup ds).nk ka u1)))) h' p (.ext (KdAt X.w p (storedH xs (Jv.D.tup ds).nk ka u1))) := by
              refine ⟨⟨o', es', ep', e1, e2, e3, e4⟩, ⟨_, e1⟩, ?_⟩
              rintro g1 g2 ⟨o, es, ep, f1, f2⟩ stt
              exact ⟨o, es, ep, stt o f1, f2⟩
            have gw : Grow ρ3 H3 ρ3 (upd H3 p (.ext (KdAt X.w p (storedH xs (Jv.D.tup ds).nk ka u1)))) := .write hp
            refine ⟨σ, _, I3.write (e := p) (t' := s3.toks + (nestedKind X.prog X.w).draws (Jv.D.tup ds).nk) (by rw [h1]; trivial) (.inl rfl) (fun b o hb q => (sb.2 b hb).trans q) ⟨_, e1⟩ new, ?_⟩
            refine q3 ρ3 _ σ gw ⟨a3.1.write hp ⟨_, upd_same, ((h2.put (.tup t1 t2 t3) ru1 rd)).mono (fun _ _ z => z.grow gw), storeK_mem hd1 c.1, storeK_nodup hd2, h4⟩ trivial, a3.2.grow gw⟩
        · exact q3.elim
    · exact q3.elim
  · exact q3.elim
end
/-! ### tuples by < -/
/-! ### join -/
/-! ### a, b, .. = a list -/
end Jv
end
section
namespace Jv
open PySem PySem.Spec L2 PyProof.Rows
end Jv
end
section
/-! comprehensions of any kind: what a turn does with its value is a step of its own -/
namespace Jv
open PySem PySem.Spec L2 PyProof.Rows
/-! ### the step by transformers -/
end Jv
end
section
/-! dict and set comprehensions over trees -/
namespace Jv
open PySem PySem.Spec L2 PyProof.Rows PySem.W
/-! ### d[k] = v by a comprehension -/
end Jv
end
section
/-! set comprehensions; dicts frozen; what a frozen dict answers -/
namespace Jv
open PySem PySem.Spec L2 PyProof.Rows PySem.W
/-! ### {x for ..} -/
section
variable {X : Cx} {ct : Nat → Value} {E : St → XK} {elt : Expr} {fe : ED} {vs : List Nat}
theorem RlAll.snoc {K : KW} {ρ : Rho} {H : Hp} {vs : List V} {ds : List D} {v : V} {d : D} (h : RlAll K ρ H vs ds) (r : Rl K ρ H v d) : RlAll K ρ H (vs ++ [v]) (ds ++ [d]) := h.append (.cons r .nil)
variable {tg iter tg1 iter1 : Expr} {ifs ifs1 : List Expr} {scope : Scope} {own : List (Str × Nat)} {vs1 : List Nat} {pos : Pos} {it it1 : LD} {g g1 : GD} {t t1 : BD}
end
end Jv
end
section
/-! dicts frozen and asked; sorted -/
namespace Jv
open PySem PySem.Spec L2 PyProof.Rows PySem.W
/-! ### frozen -/
/-! ### asked -/
theorem RlAll.apart {K : KW} {ρ : Rho} {H : Hp} : ∀ {as bs : List V} {cs ds : List D}, as.length = cs.length → RlAll K ρ H (as ++ bs) (cs ++ ds) → RlAll K ρ H as cs ∧ RlAll K ρ H bs ds
  | [], _, [], _, _, r => ⟨.nil, r⟩
  | a :: as, _, c :: cs, _, e, .cons q r => by
    have e' : as.length = cs.length := by simpa using e
    obtain ⟨r1, r2⟩ := RlAll.apart e' r
    exact ⟨.cons q r1, r2⟩
theorem kdR_of {K : KW} {ρ : Rho} {H : Hp} : ∀ {xs : List (NestedKey × Addr × Value)} {vs : List V} {kvs : List (D × D)}, xs.map (·.1) = kvs.map (·.1.nk) → Vals vs (xs.map (·.2.2)) → RlAll K ρ H (xs.map fun x => V.ref x.2.1) (kvs.map (·.1)) → RlAll K ρ H vs (kvs.map (·.2)) → KdR K ρ H xs kvs
  | [], _, [], _, _, _, _ => .nil
  | [], _, _ :: _, e, _, _, _ => by simp at e
  | _ :: _, _, [], e, _, _, _ => by simp at e
  | (k, a, u) :: xs, _, (kd, d) :: kvs, e, .cons q qs, .cons r rs, r2 => by
    simp only [List.map_cons, List.cons.injEq] at e
    cases r2 with
    | cons r2 rs2 =>
      have : k = kd.nk := e.1
      subst this
      exact .cons r q r2 (kdR_of e.2 qs rs rs2)
def asKd (st : Sto) : W → Option (List (D × D))
  | .v (.kd kvs) => some kvs
  | .r l => match st[l]? with
    | some (.kd kvs) => some kvs
    | _ => none
  | _ => none
theorem kd_of {X : Cx} {pins : List (Addr × Obj)} {σ : St} {H : Hp} {s : Shared} {ρ : Rho} {st : Sto} {v : V} {w : W} {kvs : List (D × D)} (I : Inv X pins σ H s) (rs : RelSt X.kw ρ H st) (r : Rw X.kw ρ H v w) (e : asKd st w = some kvs) :
    ∃ a xs, v = .ref a ∧ KdR X.kw ρ H xs kvs ∧ s.heap.DictOfH (nestedKind X.prog X.w) a xs ∧ (a == sysModules) = false := by
  cases r with
  | v r =>
    cases r with
    | @kd a o xs vs _ h n k m r =>
      cases e
      obtain ⟨⟨es, ep, k1, k2, k3⟩, k4, k5, k6, k7⟩ := k
      have hl : (xs.map fun x => V.ref x.2.1).length = (kvs.map (·.1)).length := by
        have := congrArg List.length k4
        simpa using this
      obtain ⟨r1, r2⟩ := RlAll.apart hl r
      have kr := kdR_of k4 k5 r1 r2
      refine ⟨a, xs, rfl, kr, ⟨o, es, ep, (I.hok a _ h).1, k1, k2, k3, ?_, by rw [k4]; exact k7⟩, m⟩
      clear k3 k4 k7 hl r1 r2 r k5
      induction kr with
      | nil => intro x hx; cases hx
      | cons r q1 q2 _ ih =>
        intro x hx
        rcases List.mem_cons.mp hx with rfl | hx
        · have := k6 _ List.mem_cons_self
          exact ⟨nested_of I _ _ _ r rfl this.1, this.2⟩
        · exact ih (fun p hp => k6 p (List.mem_cons_of_mem _ hp)) x hx
    | _ => cases e
  | @r l _ hl hv =>
    simp only [asKd] at e
    split at e
    · rename_i kvs' he
      cases e
      rcases rs.obj l _ he with ⟨z, _⟩ | ⟨a, ha, ob⟩
      · cases z
      obtain ⟨xs, h1, h2, h3, h4⟩ := kd_dict I ob
      exact ⟨a, xs, hv a ha, h2, h3, h4⟩
    · cases e
def orO (g1 g2 : O2) : O2 := fun st a b => match g1 st a b with
  | some d => some d
  | none => g2 st a b
theorem OpR.or {X : Cx} {f : Value → Value → Sem Value} {g1 g2 : O2} (h1 : OpR X f (rOf X.kw g1)) (h2 : OpR X f (rOf X.kw g2)) : OpR X f (rOf X.kw (orO g1 g2)) := by
  intro pins s σ H x y v u Q I rx ry h
  obtain ⟨ρ, st, d1, d2, d, rs, r1, r2, e, q⟩ := h
  unfold orO at e
  cases e1 : g1 st d1 d2 with
  | some d' => rw [e1] at e; cases e; exact h1 pins s σ H x y v u Q I rx ry ⟨ρ, st, d1, d2, d, rs, r1, r2, e1, q⟩
  | none => rw [e1] at e; exact h2 pins s σ H x y v u Q I rx ry ⟨ρ, st, d1, d2, d, rs, r1, r2, e, q⟩
theorem IxR.or {X : Cx} {g1 g2 : O2} (h1 : IxR X (rOf X.kw g1)) (h2 : IxR X (rOf X.kw g2)) : IxR X (rOf X.kw (orO g1 g2)) := by
  intro value slice pins s σ H x y v u Q I rx ry h hs
  obtain ⟨ρ, st, d1, d2, d, rs, r1, r2, e, q⟩ := h
  unfold orO at e
  cases e1 : g1 st d1 d2 with
  | some d' => rw [e1] at e; cases e; exact h1 value slice pins s σ H x y v u Q I rx ry ⟨ρ, st, d1, d2, d, rs, r1, r2, e1, q⟩ hs
  | none => rw [e1] at e; exact h2 value slice pins s σ H x y v u Q I rx ry ⟨ρ, st, d1, d2, d, rs, r1, r2, e, q⟩ hs
def inK2 : O2 := fun st a b => match a with
  | .v (.tup ds) => (asKd st b).bind fun kvs => if okK (.tup ds) then some (.bl (hasK kvs (.tup ds))) else none
  | _ => none
def notInK2 : O2 := fun st a b => match a with
  | .v (.tup ds) => (asKd st b).bind fun kvs => if okK (.tup ds) then some (.bl (!hasK kvs (.tup ds))) else none
  | _ => none
def lookK (kvs : List (D × D)) (k : D) : Option D := (kvs.find? fun p => decide (p.1.nk = k.nk)).map (·.2)
def ixK : O2 := fun st a b => match b with
  | .v (.tup ds) => (asKd st a).bind fun kvs => if okK (.tup ds) then lookK kvs (.tup ds) else none
  | _ => none
theorem look_value {K : KW} {ρ : Rho} {H : Hp} {xs : List (NestedKey × Addr × Value)} {ds : List (D × D)} {k d : D} (h : KdR K ρ H xs ds) (e : lookK ds k = some d) : ∃ u v, valueAt (pairsH xs) k.nk = some u ∧ RelV v u ∧ Rl K ρ H v d := by
  induction h with
  | nil => cases e
  | @cons b u v k0 d0 xs ds r q1 q2 t ih =>
    simp only [lookK, List.find?_cons] at e
    by_cases z : k0.nk = k.nk
    · simp only [z, decide_true, Option.map_some, Option.some.injEq] at e
      subst e
      exact ⟨u, v, by simp [pairsH, valueAt, z], q1, q2⟩
    · simp only [z, decide_false] at e
      obtain ⟨u', v', h1, h2, h3⟩ := ih e
      exact ⟨u', v', by simpa [pairsH, valueAt, z] using h1, h2, h3⟩
section
variable {X : Cx}
theorem op_inK2 (hu : X.A.units + 65 < cLine) : OpR X (compareOp .In) (rOf X.kw inK2) := by
  intro pins s σ H x y v u Q I rx ry h
  obtain ⟨ρ, st, d1, d2, d, rs, r1, r2, e, q⟩ := h
  unfold inK2 at e
  split at e
  rotate_left
  · cases e
  cases ek : asKd st d2 with
  | none => rw [ek] at e; cases e
  | some kvs =>
  rw [ek] at e
  simp only [Option.bind_some] at e
  split at e
  rotate_left
  · cases e
  rename_i c
  cases e
  simp only [okK, Bool.and_eq_true, decide_eq_true_eq] at c
  obtain ⟨a, xs, rfl, h2, h3, h4⟩ := kd_of I rs r2 ek
  cases ry
  cases r1 with | v r1 =>
  cases r1 with
  | tup t1 t2 t3 =>
    cases rx
    refine in_keyed (knd := nestedKind X.prog X.w) (show X.A.units + 1 + 8 < cLine by omega) ⟨nested_of I _ _ _ (.tup t1 t2 t3) rfl c.1, c.2⟩ h4 ⟨xs, h3, rfl⟩ ?_
    rw [has_value _ h2]
    exact ⟨.bl _, H, I.kept fun _ _ z => z, rfl, q H _ (.refl _) (.bl _)⟩
theorem op_notInK2 (hu : X.A.units + 65 < cLine) : OpR X (compareOp .NotIn) (rOf X.kw notInK2) := by
  intro pins s σ H x y v u Q I rx ry h
  obtain ⟨ρ, st, d1, d2, d, rs, r1, r2, e, q⟩ := h
  unfold notInK2 at e
  split at e
  rotate_left
  · cases e
  cases ek : asKd st d2 with
  | none => rw [ek] at e; cases e
  | some kvs =>
  rw [ek] at e
  simp only [Option.bind_some] at e
  split at e
  rotate_left
  · cases e
  rename_i c
  cases e
  simp only [okK, Bool.and_eq_true, decide_eq_true_eq] at c
  obtain ⟨a, xs, rfl, h2, h3, h4⟩ := kd_of I rs r2 ek
  cases ry
  cases r1 with | v r1 =>
  cases r1 with
  | tup t1 t2 t3 =>
    cases rx
    refine notIn_keyed (knd := nestedKind X.prog X.w) (show X.A.units + 1 + 8 < cLine by omega) ⟨nested_of I _ _ _ (.tup t1 t2 t3) rfl c.1, c.2⟩ h4 ⟨xs, h3, rfl⟩ ?_
    rw [has_value _ h2]
    exact ⟨.bl _, H, I.kept fun _ _ z => z, rfl, q H _ (.refl _) (.bl _)⟩
theorem ix_K (hu : X.A.units + 65 < cLine) : IxR X (rOf X.kw ixK) := by
  intro value slice pins s σ H x y v u Q I rx ry h hs
  obtain ⟨ρ, st, d1, d2, d, rs, r1, r2, e, q⟩ := h
  unfold ixK at e
  split at e
  rotate_left
  · cases e
  cases ek : asKd st d1 with
  | none => rw [ek] at e; cases e
  | some kvs =>
  rw [ek] at e
  simp only [Option.bind_some] at e
  split at e
  rotate_left
  · cases e
  rename_i c
  simp only [okK, Bool.and_eq_true, decide_eq_true_eq] at c
  obtain ⟨a, xs, rfl, h2, h3, h4⟩ := kd_of I rs r1 ek
  cases rx
  cases r2 with | v r2 =>
  cases r2 with
  | tup t1 t2 t3 =>
    cases ry
    obtain ⟨u', v', e1, e2, e3⟩ := look_value h2 e
    exact subscriptTail_builtinR (x := u') h3.typeIs F.slot_dict_getitem.lookup
      (getItem_keyed (knd := nestedKind X.prog X.w) (Q := fun r s' => r = u' ∧ EP X pins σ Q r s') (show X.A.units + 1 + 8 < cLine by omega) ⟨nested_of I _ _ _ (.tup t1 t2 t3) rfl c.1, c.2⟩ ⟨xs, h3, rfl⟩ e1 ⟨rfl, v', H, I.kept fun _ _ z => z, e2, q H _ (.refl _) e3⟩) hs
end
end Jv
end
section
/-! tuples, an empty one among them, can be sorted -/
namespace Jv
open PySem PySem.Spec PyProof.Rows PySem.W
def isTup0 : PyData → Bool
  | .tuple _ => true
  | _ => false
section
variable {prog : Program} {w : World} {A : Around} {E : Value → Shared → Prop} {s : Shared}
theorem keyLt'_general (x y : Value) : keyLt' general' x y = oneLt' false x y := rfl
open SeqAt in
theorem call_tuple_lt {Q : Value → Shared → Prop} {l b : Addr} {items items2 : Array Value} {e r : Nat → Bool} (hl : IsTup s.heap l items) (hb : IsTup s.heap b items2)
    (he : ∀ j (h1 : j < items.size) (h2 : j < items2.size), EqAt A.in1 s items[j] items2[j] (e j)) (hr : ∀ j (h1 : j < items.size) (h2 : j < items2.size), e j = false → RcLt A.in1 s items[j] items2[j] (r j))
    (h : Q (.bool (firstLt e r (decide (items.size < items2.size)) (List.range (min items.size items2.size)))) s) : wpAny (model prog w) A (call (.builtin "tuple.__lt__") [.ref l, .ref b]) Q E s := by
  obtain ⟨⟨cls, dd, data, sl⟩, ho, hc, n, hd⟩ := id hl
  obtain ⟨⟨cls2, dd2, data2, sl2⟩, ho2, hc2, n2, hd2⟩ := id hb
  simp only at hc hd hc2 hd2
  subst hc hd hc2 hd2
  exact call_meets F.slot_tuple_lt ⟨_, ho, rfl⟩ F.entry_tuple_lt (F.args_tuple_lt_2 _ _) (tuple_ltAt l b items items2 n n2 dd dd2 sl sl2 e r) ⟨ho, ho2, he, hr, h⟩
open SeqAt in
theorem oneLt_tup {xs ys : List PyData} {a b : Value} {as bs : List Addr} {Q : Bool → Shared → Prop} (ra : Reads s.heap a (.tuple xs) as) (rb : Reads s.heap b (.tuple ys) bs) (h : alike (.tuple xs) (.tuple ys) = true)
    (hu : A.units + min (PyData.tuple xs).depth (PyData.tuple ys).depth < cLine) (hq : Q (dataLt (.tuple xs) (.tuple ys)) s) : wpAny (model prog w) A (oneLt' true a b) Q E s := by
  have hal : alikeAll xs ys = true := by simpa [alike] using h
  cases ra with
  | @tuple l o vs n _ as₁ h1 h2 h3 h4 =>
    cases rb with
    | @tuple l' o' vs' n' _ bs₁ k1 k2 k3 k4 =>
      have n1 : vs.size = xs.length := by simpa using ReadsAll.length _ _ _ h4
      have n2 : vs'.size = ys.length := by simpa using ReadsAll.length _ _ _ k4
      rw [dataLt_tuple, ← firstLt_toks xs ys hal, ← n1, ← n2] at hq
      rw [oneLt'_eq]
      simp only [if_true]
      refine wpAny_bind (wpAny_cRoomFor (room_here hu) ?_)
      refine wpAny_bind (wpAny_callSpecialIfBound?_slot (T := "tuple") ⟨_, h1, h2⟩ F.slot_tuple_lt (call_tuple_lt (e := pairEq xs ys) (r := fun j => dataLt (xs.getD j .none) (ys.getD j .none)) ⟨_, h1, h2, _, h3⟩ ⟨_, k1, k2, _, k3⟩ (fun j j1 j2 => ?_) (fun j j1 j2 hj => ?_) ?_))
      · have := eqAt_alikeAll xs ys A.in1 s vs.toList vs'.toList _ _ h4 k4 hal (room_in hu) j (by simpa using j1) (by simpa using j2)
        simpa using this
      · have := rcLt_alikeAll xs ys A.in1 s vs.toList vs'.toList _ _ h4 k4 hal (room_in hu) j (by simpa using j1) (by simpa using j2) hj
        simpa using this
      · exact wpAny_truthy_bool hq
def firstSome : PyData → Bool
  | .tuple (_ :: _) => true
  | _ => false
theorem firsts_of {M : Model} : ∀ {vs : List Value} {ds : List PyData} {Q : List (Option Value) → Shared → Prop}, EachIs (fun v d => ∃ as, Reads s.heap v d as) vs ds → (∀ d ∈ ds, isTup0 d = true) → (∀ fs : List (Option Value), fs.map (·.isSome) = ds.map firstSome → Q fs s) → wpAny M A (vs.mapM firstOfTuple') Q E s
  | _, _, Q, .nil, _, h => by rw [List.mapM_nil]; exact wpAny_pure (h [] rfl)
  | _, _, Q, .cons (a := v) (b := d) (as := vs) (bs := ds) ⟨as, r⟩ t, ht, h => by
    have hd := ht d (List.mem_cons_self ..)
    cases d with
    | tuple xs =>
      cases r with
      | @tuple a o its n _ _ h1 h2 h3 h4 =>
        have n1 : its.size = xs.length := by simpa using SeqAt.ReadsAll.length _ _ _ h4
        rw [List.mapM_cons]
        refine wpAny_bind ?_
        rw [kas_first_eq]
        refine wpAny_bind (Looks.here (show Looks M s.heap (typeOf (.ref a)) o.cls from (Looks.ld h1).andThen .now) ?_)
        rw [h2, if_neg (by first | decide | simp)]
        refine wpAny_bind (listItems_at h1 h3 (wpAny_pure ?_))
        refine wpAny_bind (firsts_of t (fun x hx => ht x (List.mem_cons_of_mem _ hx)) fun fs hf => wpAny_pure (h (its[0]? :: fs) ?_))
        simp only [List.map_cons, hf, List.cons.injEq, and_true]
        cases xs with
        | nil =>
          have : its[0]? = none := Array.getElem?_eq_none (by rw [n1]; exact Nat.le_refl _)
          rw [this]; rfl
        | cons x r =>
          have : its[0]? = some (its[0]'(by simp at n1; omega)) := Array.getElem?_eq_getElem _
          rw [this]; rfl
    | _ => cases hd
theorem sorts_tup0 {vs : List Value} {ds : List PyData} (e : EachIs (fun v d => ∃ as, Reads s.heap v d as) vs ds) (hal : AllAlike ds) (ht : ∀ d ∈ ds, isTup0 d = true) (hu : ∀ d, d ∈ ds → A.units + d.depth < cLine) : SortsAt prog w A s (dataKind s.heap ds) vs := by
  by_cases hall : ∀ d ∈ ds, firstSome d = true
  · refine SortsAt.data e hal (.inl fun d hd => ?_) hu
    have := hall d hd
    unfold firstSome at this
    split at this
    · exact ⟨_, _, rfl⟩
    · cases this
  have room : ∀ {d d' : PyData}, d ∈ ds → A.units + min d.depth d'.depth < cLine := fun {d d'} hd => Nat.lt_of_le_of_lt (Nat.add_le_add_left (Nat.min_le_left _ _) _) (hu d hd)
  refine ⟨fun v hv => ?_, ?_⟩
  · obtain ⟨d, hd, as, r⟩ := e.left v hv
    exact ⟨_, dataKind_some hal hd r⟩
  cases ds with
  | nil => exact absurd (fun d hd => nomatch hd) hall
  | cons d₀ ds₀ =>
    refine ⟨if firstSome d₀ then general' else oneType', ?_, fun h2 E Q hq => ?_⟩
    · intro E x y a b Q ha hb hq
      obtain ⟨d, as, hd, ra, rfl⟩ := dataKind_inv ha
      obtain ⟨d', as', hd', rb, rfl⟩ := dataKind_inv hb
      have h1 := ht d hd
      have h2 := ht d' hd'
      cases d with
      | tuple xs =>
        cases d' with
        | tuple ys =>
          split
          · rw [keyLt'_general]
            exact oneLt_alike (f := false) (fun z => nomatch z) ra rb (hal _ hd _ hd') (fun z => nomatch z) (room hd) hq
          · rw [keyLt'_oneType]
            exact oneLt_tup ra rb (hal _ hd _ hd') (room hd) hq
        | _ => cases h2
      | _ => cases h1
    · rw [kat_kind_eq, List.mapM_toArray, map_eq_pure_bind]
      refine wpAny_bind (wpAny_bind (firsts_of e ht fun fs hf => wpAny_pure ?_))
      have hna : ¬ (fs.toArray.all fun x => x.isSome) = true := by
        rw [List.all_toArray]
        intro z
        refine hall fun d hd => ?_
        have h3 : ∀ b ∈ fs.map (·.isSome), b = true := fun b hb => by
          obtain ⟨x, hx, rfl⟩ := List.mem_map.mp hb
          exact List.all_eq_true.mp z x hx
        rw [hf] at h3
        exact h3 _ (List.mem_map.mpr ⟨d, hd, rfl⟩)
      rw [if_neg hna]
      cases fs with
      | nil => simp at hf
      | cons f0 fr =>
      simp only [List.map_cons, List.cons.injEq] at hf
      have h0 : ((f0 :: fr).toArray[0]?.bind id) = f0 := by simp
      rw [h0]
      by_cases hf0 : firstSome d₀ = true
      · rw [hf0] at hf
        rw [if_pos hf0] at hq
        rw [if_pos hf.1]
        exact wpAny_pure hq
      · have hff : firstSome d₀ = false := by simpa using hf0
        rw [if_neg hf0] at hq
        rw [hff] at hf
        rw [if_neg (by rw [hf.1]; exact Bool.false_ne_true)]
        rw [oneTypeOnly'_eq, List.mapM_toArray, map_eq_pure_bind]
        refine wpAny_bind (wpAny_bind (wpAny_bind (kas_mapM (r := Value.type "tuple") _ (fun v hv Q' hq => ?_) (wpAny_pure ?_))))
        · obtain ⟨d, hd, as, r⟩ := e.left v hv
          have h1 := ht d hd
          cases d with
          | tuple xs => exact (looks_reads r).here hq
          | _ => cases h1
        · obtain ⟨v₁, rest, rfl⟩ : ∃ v₁ rest, vs = v₁ :: rest := by
            cases vs with
            | nil => simp at h2
            | cons v r => exact ⟨v, r, rfl⟩
          have hall2 : ((List.map (fun _ => Value.type "tuple") (v₁ :: rest)).toArray.all fun x => x == Value.type "tuple") = true := by
            simp only [List.all_toArray, List.all_map, List.all_eq_true]
            intro _ _
            rfl
          have h00 : (List.map (fun _ => Value.type "tuple") (v₁ :: rest)).toArray[0]? = some (Value.type "tuple") := by simp
          rw [h00]
          simp only [hall2, if_true]
          refine wpAny_pure (wpAny_pure ?_)
          exact hq
end
end Jv
end
section
/-! dicts walked; sorted -/
namespace Jv
open PySem PySem.Spec L2 PyProof.Rows PySem.W
/-! ### for k in d -/
def Itn (a : Addr) (o : Obj) (ks : List Addr) : It where
  go := fun i H => H a = some (.ext (KoAt a o)) ∧ i < ks.length
  yld := fun i H v H' => H' = H ∧ ∃ k, ks[i]? = some k ∧ v = .ref k
  stop := fun i H => H a = some (.ext (KoAt a o)) ∧ ks.length ≤ i
theorem turn_n {P : Program} {w : World} {K : PySem.W.Frag} {tg : Expr} {a it : Addr} {o : Obj} {ks : List Addr} {es : Array DictEntry} {ep : Nat} (hd : o.data = .dict es ep) (hk : es.toList.map (·.key) = ks.map Value.ref) :
    Turn P w K tg (Itn a o ks) [it] it (fun i h => h.IsKeyIter it a i ks.length ep) where
  mem := by simp
  obj := fun i h st b hb => by
    have e : b = it := by simpa using hb
    subst e
    obtain ⟨oi, e, c, dd⟩ := st
    exact ⟨oi, e, fun v z => by rw [dd] at z; cases z⟩
  keep := fun i h h' st k => st.at fun oi e => k it (by simp) oi e
  item := by
    intro X hP hw hK hc i pins s σ H E I hf st hg
    obtain ⟨ha, hi⟩ := hg
    obtain ⟨f0, f1, f2, f3, f4, f5⟩ := hf it (by simp)
    have hsz : es.size = ks.length := by simpa using congrArg List.length hk
    have ho : s.heap.get? a = some o := (I.hok a _ ha).1
    obtain ⟨en, hen⟩ : ∃ en, es[i]? = some en := ⟨es[i]'(by omega), Array.getElem?_eq_getElem _⟩
    obtain ⟨k, hki⟩ : ∃ k, ks[i]? = some k := ⟨ks[i], List.getElem?_eq_getElem hi⟩
    have hkey : en.key = .ref k := by
      have e1 : (es.toList.map (·.key))[i]? = some en.key := by simp [hen]
      rw [hk, List.getElem?_map, hki] at e1
      simpa using e1.symm
    subst hP hw hK
    refine next_key_item st ho hd hsz hen fun h' st' sb => ?_
    have I1 : Inv X pins σ H { s with heap := h' } := I.turned (t' := s.toks) (fun b ob hb e => (sb.2 b hb).trans e) f0 f1 f3 f4 f5
    obtain ⟨oi, e, c, dd⟩ := id st'
    exact ⟨en.key, rfl, go_of (s := { s with heap := h' }) e c dd (by decide) ⟨.ref k, H, I1, hkey, ⟨rfl, k, hki, rfl⟩, st', fun b hb => (hf b hb).1⟩⟩
  done := by
    intro X hP hw hK hc i pins s σ H E I hf st hg
    obtain ⟨ha, hi⟩ := hg
    obtain ⟨f0, f1, f2, f3, f4, f5⟩ := hf it (by simp)
    have hsz : es.size = ks.length := by simpa using congrArg List.length hk
    have ho : s.heap.get? a = some o := (I.hok a _ ha).1
    subst hP hw hK
    exact next_key_end (I.ok.hd hc) st ho hd hsz hi fun h' eb => ⟨rfl, I.turned (t' := s.toks) (fun b ob hb e => eb b ob hb e) f0 f1 f3 f4 f5⟩
  self := fun A i s Q E st h => by
    refine wpAny_pyIter_slot st.typeIs F.slot_dict_keyiterator_iter (wpAny_call_entry F.slot_dict_keyiterator_iter st.typeIs F.entry_dict_keyiterator_iter ?_ (F.args_dict_keyiterator_iter_1 _))
    show wpAny _ _ (ret (.ref it)) _ _ s
    exact wpAny_pure ⟨_, rfl, "dict_keyiterator", _, st.typeIs, F.slot_dict_keyiterator_next.lookup, h⟩
def iKd (w : World) (te : TE) : TI := fun σ H R => te σ H fun x H1 => ∃ a o xs, x = .ref a ∧ H1 a = some (.ext (KoAt a o)) ∧ KdO w o xs ∧ (a == sysModules) = false ∧ R (Itn a o (xs.map (·.2.1))) H1
theorem pi_kd {X : Cx} {tg e : Expr} {te : TE} (he : PE X e te) : PI X tg e (iKd X.w te) := ⟨fun pins s σ H R I h => by
  refine thn (he.run pins s σ H _ I h) ?_
  rintro u s1 ⟨x, H1, I1, ru, a, o, xs, rfl, ha, ⟨es, ep, k1, k2, k3⟩, hs, q⟩
  cases ru
  have ho : s1.heap.get? a = some o := (I1.hok a _ ha).1
  have hk : es.toList.map (·.key) = (xs.map (·.2.1)).map Value.ref := by rw [k3]; simp [Function.comp_def]
  have hn : es.size = (xs.map (·.2.1)).length := by simpa using congrArg List.length hk
  exact iter_keys hs ho k1 k2 (pi_one (tk := s1.toks) I1 _ (turn_n k2 hk) ⟨_, Heap.get?_push_size _ rfl, rfl, by rw [hn]; rfl⟩ q)⟩
def itemsK (w : W) (st : Sto) : R (List D) := match w with
  | .v (.kd kvs) => .ok (kvs.map (·.1)) st
  | w => items w st
def itK (f : ED) : LD := fun env st => (f env st).bind itemsK
theorem itOk_kd {K : KW} {ρ : Rho} {H : Hp} {a : Addr} {o : Obj} {xs : List (NestedKey × Addr × Value)} {ds : List D} (h : H a = some (.ext (KoAt a o))) (n : ¬ ρ.mut a) (r : RlAll K ρ H (xs.map fun x => V.ref x.2.1) ds) : ItOk K (Itn a o (xs.map (·.2.1))) ρ H ds := by
  intro ρ' H' st g s
  obtain ⟨h', n'⟩ := g _ _ h n
  have r' := r.ext g
  have hl : (xs.map (·.2.1)).length = ds.length := by have := r.length; simpa using this
  refine ⟨fun i d e => ?_, h', Nat.le_of_eq hl⟩
  have hi : i < ds.length := (List.getElem?_eq_some_iff.mp e).1
  refine ⟨⟨h', by omega⟩, ?_⟩
  rintro x H2 ⟨rfl, k, hk, rfl⟩
  refine ⟨.refl _, ?_⟩
  obtain ⟨v, e1, rv⟩ := r'.getD e
  have : (xs.map fun x => V.ref x.2.1) = (xs.map (·.2.1)).map V.ref := by simp [Function.comp_def]
  rw [this, List.getElem?_map, hk] at e1
  cases e1
  exact rv
theorem di_k {X : Cx} {ct : Nat → Value} {E : St → XK} {tg e : Expr} {f : ED} (h : PE X e (tE X.kw ct E f)) : PI X tg e (iR X.kw ct E (itK f)) := PI.of (PI.or (pi_kd h) (di_e h)) fun σ H R' ⟨ρ, st, env, a, q⟩ => by
  cases ef : f env st with
  | exc x y => exact .inr ⟨ρ, st, env, a, by simp only [itK, itE, ef] at q ⊢; exact q⟩
  | bad => exact .inr ⟨ρ, st, env, a, by simp only [itK, itE, ef] at q ⊢; exact q⟩
  | ok w st1 =>
    by_cases hk : ∃ kvs, w = .v (.kd kvs)
    · obtain ⟨kvs, rfl⟩ := hk
      refine .inl ⟨ρ, st, env, a, ?_⟩
      rw [ef]
      intro ρ1 H1 b g1 s1 r1
      cases r1 with | v r1 =>
      cases r1 with
      | @kd p o xs vs _ hh n k m r =>
        obtain ⟨k0, k4, k5, k6, k7⟩ := k
        have hl : (xs.map fun x => V.ref x.2.1).length = (kvs.map (·.1)).length := by
          have := congrArg List.length k4
          simpa using this
        obtain ⟨ra, _⟩ := RlAll.apart hl r
        refine ⟨p, o, xs, rfl, hh, k0, m, ?_⟩
        simp only [itK, ef, R.bind_ok, itemsK] at q
        exact q ρ1 H1 _ g1 s1 (itOk_kd hh n ra)
    · refine .inr ⟨ρ, st, env, a, ?_⟩
      simp only [itK, itE, ef, R.bind_ok] at q ⊢
      have : itemsK w st1 = items w st1 := by
        unfold itemsK
        split
        · exact absurd ⟨_, rfl⟩ hk
        · rfl
      rw [this] at q
      exact q
/-! ### sorted -/
def notTup : PyData → Bool
  | .tuple _ => false
  | .none => false
  | _ => true
def keysOk2 (ks : List D) : Bool := alikes (ks.map D.py) && ((ks.map D.py).all isTup0 || (ks.map D.py).all notTup) && ks.all (fun k => decide (k.py.depth ≤ 60) && k.py.canLay0) && decide (ks.length ≤ 100000)
def unlike : List D → Bool
  | [] => true
  | k :: r => r.all (fun x => dataLt k.py x.py || dataLt x.py k.py) && unlike r
def sortL (ds : List D) : List D := isort (dataLe false D.py) ds
theorem sorts2 {prog : Program} {w : World} {A : Around} {s : Shared} {vs : List Value} {ks : List PyData} (e : EachIs (fun v d => ∃ as, Reads s.heap v d as) vs ks) (hal : AllAlike ks) (h : (ks.all isTup0 || ks.all notTup) = true) (hu : ∀ d, d ∈ ks → A.units + d.depth < cLine) : SortsAt prog w A s (dataKind s.heap ks) vs := by
  rw [Bool.or_eq_true] at h
  rcases h with h | h
  · exact sorts_tup0 e hal (fun d hd => List.all_eq_true.mp h d hd) hu
  · refine SortsAt.data e hal (.inr fun d hd => ?_) hu
    have h1 := List.all_eq_true.mp h d hd
    refine ⟨fun z => ?_, fun xs z => ?_⟩ <;> rw [z] at h1 <;> cases h1
theorem dataLe_total {β : Type} (k : β → PyData) : TotalLe (dataLe false k) := show TotalLe (dataLe false k) from sortLe_total _ _ _
section
variable {X : Cx} {pins : List (Addr × Obj)} {σ : St} {H : Hp} {s : Shared} {ρ : Rho}
theorem vals_each : ∀ {us : List Value} {bs : List (V × D)}, EachIs (fun u b => RelV b.1 u) us bs → Vals (bs.map (·.1)) us
  | _, _, .nil => .nil
  | _, _, .cons r t => .cons r (vals_each t)
theorem sortedV (I : Inv X pins σ H s) {x : Value} {Pm : List (V × D) → Prop} {Q : VK} (hu : X.A.units + 65 < cLine)
    (hb : ∀ bs, Pm bs → (∀ b ∈ bs, Rl X.kw ρ H b.1 b.2) ∧ keysOk2 (bs.map (·.2)) = true)
    (hcol : ∀ (R : List Value → Shared → Prop) (E : Value → Shared → Prop), (∀ s1 vs bs, Inv X pins σ H s1 → Pm bs → EachIs (fun u b => RelV b.1 u) vs bs → R vs s1) → wpAny (model X.prog X.w) X.A.in1 (collect x) R E s)
    (hQ : ∀ bs, Pm bs → ∀ p, H p = none → Q (.ref p) (upd H p (.lst ((bs.mergeSort (dataLe false fun b => b.2.py)).map (·.1))))) :
    wpAny (model X.prog X.w) X.A (call (.builtin "sorted") [x]) (EP X pins σ Q) X.xe s := by
  refine Calls.call_function_entry kind_sorted plain_sorted entry_sorted (args_sorted1 _) ?_
  unfold Builtin.«sorted»
  refine wpAny_bind (m := checkCount "sorted" 1 1 _) (wpAny_pure ?_)
  refine wpAny_bind (hcol _ _ fun s1 vs bs I1 pm e => ?_)
  obtain ⟨hr, ok⟩ := hb bs pm
  simp only [keysOk2, Bool.and_eq_true] at ok
  obtain ⟨⟨⟨o1, o2⟩, o3⟩, o4⟩ := ok
  have emap : (bs.map (·.2)).map D.py = bs.map fun b => b.2.py := by simp [Function.comp_def]
  rw [emap] at o1 o2
  have hlen : bs.length ≤ 100000 := by simpa using o4
  have hZ : vs.length ≤ sizeLine := by rw [e.length]; exact sl5 hlen
  refine wpAny_bind (wpAny_newList ?_ hZ)
  have hoL : (s1.heap.push (seqObj "list" vs.toArray 0)).get? s1.heap.objs.size = some (seqObj "list" vs.toArray 0) := Heap.get?_push_size _ rfl
  have kp : ∀ b o, s1.heap.get? b = some o → (sortingHeap (s1.heap.push (seqObj "list" vs.toArray 0)) s1.heap.objs.size vs).get? b = some o := fun b o q => sortingHeap_old (Nat.ne_of_lt (Heap.lt_size q)) (Heap.get?_push_of_some _ q)
  have d60 : ∀ b ∈ bs, b.2.py.depth ≤ 60 ∧ b.2.py.canLay0 = true := fun b hb => by
    have := List.all_eq_true.mp o3 b.2 (List.mem_map.mpr ⟨b, hb, rfl⟩)
    simpa using this
  have er : EachIs (fun v (b : V × D) => ∃ as, Reads (sortingHeap (s1.heap.push (seqObj "list" vs.toArray 0)) s1.heap.objs.size vs) v b.2.py as) vs bs :=
    (each_mem e).mono fun u b ⟨ru, hb⟩ => by
      obtain ⟨as, r⟩ := Dp.reads I1 _ _ _ ((hr b hb).dp (d60 b hb).2) ru
      exact ⟨as, PyProof.Rows.Reads.keeps kp r⟩
  have hal : AllAlike (bs.map fun b => b.2.py) := alikes_of o1
  refine wpAny_bind (wpAny_holding (wpAny_call_entry slot_list_sort ⟨_, hoL, rfl⟩ entry_list_sort (list_sort_vals (s := { s1 with heap := s1.heap.push (seqObj "list" vs.toArray 0) }) (κ := dataKind (sortingHeap (s1.heap.push (seqObj "list" vs.toArray 0)) s1.heap.objs.size vs) (bs.map fun b => b.2.py)) hoL
    (sorts2 (s := { s1 with heap := sortingHeap (s1.heap.push (seqObj "list" vs.toArray 0)) s1.heap.objs.size vs }) (each_map (R := fun v d => ∃ as, Reads (sortingHeap (s1.heap.push (seqObj "list" vs.toArray 0)) s1.heap.objs.size vs) v d as) (fun b : V × D => b.2.py) er) hal o2 ?_) hZ ⟨.none, rfl, ?_⟩) (args_list_sort _)))
  · intro d hd
    obtain ⟨b, hb, rfl⟩ := List.mem_map.mp hd
    have := (d60 b hb).1
    simp only [Around.in1_units]
    omega
  have eo := sortVals_data false e er hal
  generalize sortVals (dataKind (sortingHeap (s1.heap.push (seqObj "list" vs.toArray 0)) s1.heap.objs.size vs) (bs.map fun b => b.2.py)) false vs vs = out at eo
  obtain ⟨c, hc⟩ := sortedHeap_at (vs := vs) (out := out.toArray) hoL
  have vo := vals_each eo
  have hlo : ((bs.mergeSort (dataLe false fun b => b.2.py)).map (·.1)).length ≤ sizeLine := by
    rw [List.length_map, List.length_mergeSort]
    exact sl5 hlen
  refine wpAny_pure ⟨_, rfl, .ref s1.heap.objs.size, upd H s1.heap.objs.size (.lst ((bs.mergeSort (dataLe false fun b => b.2.py)).map (·.1))), I1.laid (t' := s1.toks) (fun b u q => ?_) (Nat.le_refl _) ⟨hlo, out, c, vo, hc⟩, rfl, hQ bs pm _ (I1.hok.fresh (Nat.le_refl _))⟩
  have hlt := Heap.lt_size q
  show (sortedHeap (s1.heap.push (seqObj "list" vs.toArray 0)) s1.heap.objs.size vs out.toArray).get? b = some u
  rw [sortedHeap_old (Nat.ne_of_lt hlt) (by rw [size_push']; exact Nat.lt_succ_of_lt hlt)]
  exact Heap.get?_push_of_some _ q
end
/-- unlike ones have one order -/
theorem filter_one {α : Type} {le : α → α → Bool} (h : TotalLe le) (c : α) : ∀ {l : List α}, l.Pairwise (fun a b => sameRank le a b = false) → (l.filter (sameRank le c)).length ≤ 1
  | [], _ => by simp
  | a :: l, p => by
    obtain ⟨p1, p2⟩ := List.pairwise_cons.mp p
    have ih := filter_one h c p2
    rw [List.filter_cons]
    split
    · rename_i ca
      have : l.filter (sameRank le c) = [] := by
        rw [List.filter_eq_nil_iff]
        intro b hb cb
        have := p1 b hb
        simp only [sameRank, Bool.and_eq_true] at ca cb
        have e : sameRank le a b = true := by
          simp only [sameRank, Bool.and_eq_true]
          exact ⟨h.trans _ _ _ ca.2 cb.1, h.trans _ _ _ cb.2 ca.1⟩
        rw [e] at this
        cases this
      simp [this]
    · exact ih
theorem perm_short {α : Type} {l m : List α} (p : l.Perm m) (h : l.length ≤ 1) : l = m := by
  have e := p.length_eq
  match l, m, h, e, p with
  | [], [], _, _, _ => rfl
  | [a], [b], _, _, p =>
    have := p.mem_iff.mp (List.mem_singleton.mpr rfl)
    rw [List.mem_singleton.mp this]
theorem sort_perm {α : Type} {le : α → α → Bool} (h : TotalLe le) {l m : List α} (p : m.Perm l) (u : l.Pairwise (fun a b => sameRank le a b = false)) : m.mergeSort le = l.mergeSort le := by
  refine sort_unique h (sort_pairwise h m) fun c => ?_
  rw [sort_stable h m c]
  exact (perm_short (p.filter _).symm (filter_one h c u)).symm
theorem unlike_pw {bs : List (V × D)} (h : unlike (bs.map (·.2)) = true) : bs.Pairwise fun a b => sameRank (dataLe false fun b : V × D => b.2.py) a b = false := by
  induction bs with
  | nil => exact .nil
  | cons a bs ih =>
    simp only [List.map_cons, unlike, Bool.and_eq_true] at h
    refine List.pairwise_cons.mpr ⟨fun b hb => ?_, ih h.2⟩
    have := List.all_eq_true.mp h.1 b.2 (List.mem_map.mpr ⟨b, hb, rfl⟩)
    rw [Bool.or_eq_true] at this
    simp only [sameRank, dataLe_eq, cond_false]
    rcases this with z | z <;> simp [z]
theorem sortL_pairs {xs : List V} {ds : List D} (hl : xs.length = ds.length) : ((xs.zip ds).mergeSort (dataLe false fun b => b.2.py)).map (·.2) = sortL ds := by
  unfold sortL
  rw [isort_eq (dataLe_total _), sort_maps (r := dataLe false fun b : V × D => b.2.py) (s := dataLe false D.py) (·.2) (fun a _ b _ => rfl), List.map_snd_zip (by omega)]
theorem RlAll.ofPairs {K : KW} {ρ : Rho} {H : Hp} : ∀ {bs : List (V × D)}, (∀ b ∈ bs, Rl K ρ H b.1 b.2) → RlAll K ρ H (bs.map (·.1)) (bs.map (·.2))
  | [], _ => .nil
  | b :: bs, h => .cons (h b List.mem_cons_self) (RlAll.ofPairs fun x hx => h x (List.mem_cons_of_mem _ hx))
theorem RlAll.pairs {K : KW} {ρ : Rho} {H : Hp} : ∀ {xs : List V} {ds : List D}, RlAll K ρ H xs ds → ∀ b ∈ xs.zip ds, Rl K ρ H b.1 b.2
  | _, _, .nil, b, hb => by simp at hb
  | _, _, .cons r t, b, hb => by
    rcases List.mem_cons.mp (by simpa using hb) with rfl | hb
    · exact r
    · exact RlAll.pairs t b hb
theorem each_zip : ∀ {xs : List V} {us : List Value} {ds : List D}, Vals xs us → xs.length = ds.length → EachIs (fun u (b : V × D) => RelV b.1 u) us (xs.zip ds)
  | [], _, [], .nil, _ => .nil
  | x :: xs, _, d :: ds, .cons r t, e => .cons r (each_zip t (by simpa using e))
theorem inv_after {X : Cx} {pins : List (Addr × Obj)} {σ : St} {H : Hp} {s s' : Shared} (I : Inv X pins σ H s) (k : ∀ b o, s.heap.get? b = some o → s'.heap.get? b = some o) (g : s'.gens = s.gens) (o : s'.os = s.os) : Inv X pins σ H s' :=
  I.call' (ch := []) o (Un.kept k) (I.hok.kept k) (by rw [g]; exact I.bare) (fun _ z => nomatch z)
/-- what sorted is asked of, and whether its order is nobody's -/
def sortSrc (st : Sto) : W → Option (List D × Bool)
  | .v (.kd kvs) => some (kvs.map (·.1), false)
  | .r l => match st[l]? with
    | some (.set ds) => some (ds, true)
    | some (.lst ds) => some (ds, false)
    | some (.kd kvs) => some (kvs.map (·.1), false)
    | _ => none
  | .v (.lst ds) => some (ds, false)
  | _ => none
def sortF : BF
  | st, [w] => (sortSrc st w).bind fun p => if keysOk2 p.1 && (!p.2 || unlike p.1) then some (sortL p.1) else none
  | _, _ => none
section
variable {X : Cx}
theorem sort_end {K : KW} {ρ : Rho} {H : Hp} {xs : List V} {ds : List D} (r : RlAll K ρ H xs ds) : RlAll K ρ H (((xs.zip ds).mergeSort (dataLe false fun b => b.2.py)).map (·.1)) (sortL ds) := by
  rw [← sortL_pairs r.length]
  exact RlAll.ofPairs fun b hb => r.pairs b ((List.mergeSort_perm _ _).mem_iff.mp hb)
theorem vals_rows : ∀ (xs : List (NestedKey × Addr × Value)), Vals (xs.map fun x => V.ref x.2.1) (xs.map fun x => Value.ref x.2.1)
  | [] => .nil
  | _ :: xs => .cons rfl (vals_rows xs)
theorem vals_mem : ∀ (xs : NS.Mem), Vals (xs.map fun x => V.ref x.1) (xs.map fun x => Value.ref x.1)
  | [] => .nil
  | _ :: xs => .cons rfl (vals_mem xs)
theorem each_perm {β : Type} {R : Value → β → Prop} {out us : List Value} (p : out.Perm us) : ∀ {bs : List β}, EachIs R us bs → ∃ bs', bs'.Perm bs ∧ EachIs R out bs' := by
  induction p with
  | nil => intro bs e; exact ⟨bs, .refl _, e⟩
  | cons x _ ih =>
    intro bs e
    cases e with
    | cons r t =>
      obtain ⟨bs', p', e'⟩ := ih t
      exact ⟨_ :: bs', p'.cons _, .cons r e'⟩
  | swap x y l =>
    intro bs e
    cases e with
    | cons r t =>
      cases t with
      | cons r2 t2 => exact ⟨_ :: _ :: _, .swap _ _ _, .cons r2 (.cons r t2)⟩
  | trans _ _ ih1 ih2 =>
    intro bs e
    obtain ⟨b1, p1, e1⟩ := ih2 e
    obtain ⟨b2, p2, e2⟩ := ih1 e1
    exact ⟨b2, p2.trans p1, e2⟩
theorem zip_snd {xs : List V} {ds : List D} (h : xs.length = ds.length) : (xs.zip ds).map (·.2) = ds := List.map_snd_zip (by omega)
theorem cf_sorted (hc : X.calm = true) (hu : X.A.units + 65 < cLine) : CallR X (.builtin "sorted") (rF X.kw sortF) := by
  intro pins s σ H vs us Q I r h
  obtain ⟨ρ, st, ws, ds, rs, rw', e, q⟩ := h
  have one : ∃ w, ws = [w] := by
    match ws, e with
    | [w], _ => exact ⟨w, rfl⟩
    | [], e => cases e
    | _ :: _ :: _, e => cases e
  obtain ⟨w, rfl⟩ := one
  obtain ⟨v, rfl, rv⟩ := rw'.one
  simp only [sortF] at e
  cases es : sortSrc st w with
  | none => rw [es] at e; cases e
  | some pr =>
  obtain ⟨ds0, fl⟩ := pr
  rw [es] at e
  simp only [Option.bind_some] at e
  split at e
  rotate_left
  · cases e
  rename_i c
  cases e
  rw [Bool.and_eq_true] at c
  -- a list
  have list : ∀ {a : Addr} {xs : List V}, v = .ref a → SqL X.K H a xs → RlAll X.kw ρ H xs ds0 → wpAny (model X.prog X.w) X.A (call (.builtin "sorted") us) (EP X pins σ Q) X.xe s := fun {a xs} ev hs hr => by
    subst ev
    rw [Vals.ref1 r]
    obtain ⟨its, ri, hl, hz⟩ := I.list hs
    refine sortedV (ρ := ρ) (Pm := fun bs => bs = xs.zip ds0) I hu (fun bs e => ?_) (fun R E k => ?_) fun bs e p hp => ?_
    · subst e; exact ⟨hr.pairs, by rw [zip_snd hr.length]; exact c.1⟩
    · refine collect_list hl.isList ?_ (by rw [← ri.length]; exact hz)
      refine k _ _ _ (inv_after I (fun b o q => ?_) rfl rfl) rfl (each_zip ri hr.length)
      have hlt := Heap.lt_size q
      show ((s.heap.push (seqObj "list" #[] 0)).update s.heap.objs.size _).get? b = some o
      rw [Heap.get?_update_ne _ _ _ _ (Nat.ne_of_lt hlt)]
      exact Heap.get?_push_of_some _ q
    · subst e; exact q _ _ hp (sort_end hr)
  -- a dict
  have dict : ∀ {kvs : List (D × D)}, asKd st w = some kvs → ds0 = kvs.map (·.1) → wpAny (model X.prog X.w) X.A (call (.builtin "sorted") us) (EP X pins σ Q) X.xe s := fun {kvs} ek ed => by
    subst ed
    obtain ⟨a, xs, ev, h2, h3, h4⟩ := kd_of I rs rv ek
    subst ev
    rw [Vals.ref1 r]
    obtain ⟨vs', k1, k2, k3, k4⟩ := h2.rows
    obtain ⟨o, es', ep, e1, e2, e3, e4, e5, e6⟩ := id h3
    have hk : es'.toList.map (·.key) = xs.map fun x => Value.ref x.2.1 := by rw [e4]; simp [entryOfKey, Function.comp_def]
    have hn : es'.size = xs.length := by simpa using congrArg List.length hk
    have hlk : (xs.map fun x => V.ref x.2.1).length = (kvs.map (·.1)).length := k3.length
    have small : es'.size ≤ sizeLine := by
      have := c.1
      simp only [keysOk2, Bool.and_eq_true, decide_eq_true_eq] at this
      have h := this.2
      rw [hn]
      have : xs.length = kvs.length := by simpa using hlk
      rw [this]
      exact sl5 (by simpa using h)
    refine sortedV (ρ := ρ) (Pm := fun bs => bs = (xs.map fun x => V.ref x.2.1).zip (kvs.map (·.1))) I hu (fun bs e => ?_) (fun R E k => ?_) fun bs e p hp => ?_
    · subst e; exact ⟨k3.pairs, by rw [zip_snd hlk]; exact c.1⟩
    · refine kdu_collect (KdlSrc.rawDict (es := es') (ep := ep) h4) (I.ok.hd hc) ⟨o, e1, e2, e3⟩ small fun h' tk acc kp it => ?_
      have hacc : acc.toList = xs.map fun x => Value.ref x.2.1 := by
        rw [← hk]
        apply List.ext_getElem?
        intro j
        by_cases hj : j < es'.size
        · have hja : j < acc.size := by rw [it.1]; exact hj
          obtain ⟨_, hv⟩ := it.2 j acc[j] (Array.getElem?_eq_getElem hja)
          simp [hja, hj, hv]
        · rw [List.getElem?_eq_none (by simp [it.1]; omega), List.getElem?_eq_none (by simp; omega)]
      rw [hacc]
      exact k _ _ _ (inv_after I kp rfl rfl) rfl (each_zip (vals_rows xs) hlk)
    · subst e; exact q _ _ hp (sort_end k3)
  cases w with
  | v d =>
    cases d with
    | kd kvs => cases es; exact dict rfl rfl
    | lst ds' =>
      cases es
      cases rv with | v rv =>
      cases rv with
      | lst hh rr => exact list rfl hh.sql rr
    | _ => cases es
  | r l =>
    simp only [sortSrc] at es
    split at es
    · rename_i dsx he
      cases es
      rcases rs.obj l _ he with ⟨z, _⟩ | ⟨a, ha, ob⟩
      · cases z
      obtain ⟨L0, h1, h2, h3, h4⟩ := ob
      cases rv with | r hl hv =>
      have ev := hv a ha
      subst ev
      rw [Vals.ref1 r]
      obtain ⟨⟨L, es0, ep, t, pm, R⟩, _, _⟩ := I.hok a _ h1
      obtain ⟨ob, eo, ec, ed⟩ := R.ob
      have hl0 : (L0.map fun p => V.ref p.1).length = ds0.length := h2.length
      refine sortedV (ρ := ρ) (Pm := fun bs => bs.Perm ((L0.map fun p => V.ref p.1).zip ds0)) I hu (fun bs e => ?_) (fun R' E k => ?_) fun bs e p hp => ?_
      · refine ⟨fun b hb => h2.pairs b (e.mem_iff.mp hb), ?_⟩
        have pm2 : (bs.map (·.2)).Perm ds0 := by
          have := e.map (·.2)
          rwa [zip_snd hl0] at this
        have c1 := c.1
        simp only [keysOk2, Bool.and_eq_true, decide_eq_true_eq] at c1 ⊢
        have pm3 := pm2.map D.py
        refine ⟨⟨⟨?_, ?_⟩, ?_⟩, by rw [pm2.length_eq]; exact c1.2⟩
        · refine List.all_eq_true.mpr fun x hx => List.all_eq_true.mpr fun y hy => ?_
          exact alikes_of c1.1.1.1 x (pm3.mem_iff.mp hx) y (pm3.mem_iff.mp hy)
        · have := c1.1.1.2
          rw [Bool.or_eq_true] at this ⊢
          exact this.imp (fun z => List.all_eq_true.mpr fun x hx => List.all_eq_true.mp z x (pm3.mem_iff.mp hx)) fun z => List.all_eq_true.mpr fun x hx => List.all_eq_true.mp z x (pm3.mem_iff.mp hx)
        · exact List.all_eq_true.mpr fun x hx => List.all_eq_true.mp c1.1.2 x (pm2.mem_iff.mp hx)
      · refine collect_set (A := X.A.in1) (I.ok.hd hc) ⟨ob, eo, ec.1, ed⟩ R.fits (by have := R.fw; rw [R.size]; unfold scanBound; omega) R.tb.ris R.ld fun s1 out k1 hz g1 o1 po => ?_
        have hes : es0.toList.map (·.2) = L.map fun q => Value.ref q.1 := by
          rw [R.rw]
          simp [NS.rows, Function.comp_def]
        rw [hes] at po
        obtain ⟨bs, pb, eb⟩ := each_perm (po.trans (pm.map fun q => Value.ref q.1)) (each_zip (vals_mem L0) hl0)
        exact k s1 _ bs (inv_after I k1 g1 o1) pb eb
      · have u := unlike_pw (bs := (L0.map fun p => V.ref p.1).zip ds0) (by rw [zip_snd hl0]; simpa using c.2)
        rw [sort_perm (dataLe_total _) e u]
        exact q _ _ hp (sort_end h2)
    · rename_i ds' he
      cases es
      obtain ⟨a, xs, ev, h1, h2⟩ := lst_of rs rv (show asLst st (.r l) = some ds0 by simp only [asLst, he])
      exact list ev h1 h2
    · rename_i kvs he
      cases es
      exact dict (show asKd st (.r l) = some kvs by simp only [asKd, he]) rfl
    · cases es
end
end Jv
end
section
/-! list comprehensions of several clauses -/
namespace Jv
open PySem PySem.Spec L2 PyProof.Rows PySem.W
end Jv
end
section
/-! max(.., key=len); list.pop, list.index, list.extend; a comprehension over a list that may change; xs[::-1] -/
namespace Jv
open PySem PySem.Spec L2 PyProof.Rows PySem.W
/-! ### max by len -/
end Jv
end
section
namespace Jv
open PySem PySem.Spec L2 PyProof.Rows PySem.W
section
variable {X : Cx} {ct : Nat → Value} {E : St → XK}
abbrev ix2 : O2 := orO ixD ixK
theorem de_ix2 {a b : Expr} {fa fb : ED} {pos : Pos} (hu : X.A.units + 65 < cLine) (ha : PE X a (tE X.kw ct E fa)) (hb : PE X b (tE X.kw ct E fb)) (hs : PlainIx b := by exact fun _ _ => rfl) : PE X (.Subscript a b pos) (tE X.kw ct E (eBin ix2 fa fb)) :=
  PE.of (pe_ix (IxR.or ix_D (ix_K hu)) ha hb hs) fun σ H Q h => two_read h
abbrev in2 : O2 := orO inD inK2
abbrev notIn2 : O2 := orO notInD notInK2
theorem op_in2 (hu : X.A.units + 65 < cLine) : OpR X (compareOp .In) (rOf X.kw in2) := OpR.or (op_inDD hu) (op_inK2 hu)
theorem op_notIn2 (hu : X.A.units + 65 < cLine) : OpR X (compareOp .NotIn) (rOf X.kw notIn2) := OpR.or (op_notInDD hu) (op_notInK2 hu)
/-! ### a list that may change, walked by a comprehension -/
def nthL (l : Nat) : Nth := fun i st => match st[l]? with
  | some (.lst es) => some (es[i]?)
  | _ => none
def listsN (w : W) (st : Sto) : R Nth := match w with
  | .r l => match st[l]? with
    | some (.lst _) => .ok (nthL l) st
    | _ => .bad
  | _ => .bad
def nLst (f : ED) : ND := fun env st => (f env st).bind listsN
theorem itN_list {K : KW} {ρ : Rho} {H : Hp} {l : Nat} {a : Addr} (hl : ρ.lc[l]? = some (some a)) : ItN K (Itl K a) ρ H (nthL l) := by
  intro ρ' H' st ⟨g, gl⟩ s i
  have key : ∀ es, st[l]? = some (.lst es) → ∃ xs, H' a = some (.lst xs) ∧ RlAll K ρ' H' xs es := fun es q => by
    rcases s.obj l _ q with ⟨z, _⟩ | ⟨b, hb, ob⟩
    · cases z
    · have := gl l b (List.getElem?_eq_some_iff.mp hl).1 hb
      rw [hl] at this
      cases this
      exact ob
  unfold nthL
  cases q : st[l]? with
  | none => exact ⟨fun d e => by simp at e, fun e => by simp at e⟩
  | some ob =>
    cases ob with
    | dead => exact ⟨fun d e => by simp at e, fun e => by simp at e⟩
    | dct _ => exact ⟨fun d e => by simp at e, fun e => by simp at e⟩
    | kd _ => exact ⟨fun d e => by simp at e, fun e => by simp at e⟩
    | ld _ => exact ⟨fun d e => by simp at e, fun e => by simp at e⟩
    | set _ => exact ⟨fun d e => by simp at e, fun e => by simp at e⟩
    | tab _ _ => exact ⟨fun d e => by simp at e, fun e => by simp at e⟩
    | ins _ _ => exact ⟨fun d e => by simp at e, fun e => by simp at e⟩
    | pr _ => exact ⟨fun d e => by simp at e, fun e => by simp at e⟩
    | lst es =>
      obtain ⟨xs, h1, r1⟩ := key es q
      have h' : SqL K H' a xs := .inl (.inl h1)
      refine ⟨fun d e => ?_, fun e => ⟨xs, h', ?_⟩⟩
      · simp only [Option.some.injEq] at e
        obtain ⟨v, e1, rv⟩ := r1.getD e
        refine ⟨⟨xs, v, h', e1⟩, ?_⟩
        rintro x H2 ⟨rfl, hy⟩
        have := hy xs h'
        rw [e1] at this
        cases this
        exact ⟨.refl _, rv⟩
      · simp only [Option.some.injEq, List.getElem?_eq_none_iff] at e
        rw [r1.length]
        exact e
theorem dn_list {tg e : Expr} {f : ED} (h : PE X e (tE X.kw ct E f)) : PI X tg e (nR X.kw ct E (nLst f)) := by
  refine PI.of (pi_list h) ?_
  rintro σ H R' ⟨ρ, st, env, a, q⟩
  unfold nLst at q
  refine ⟨ρ, st, env, a, ?_⟩
  cases ef : f env st with
  | exc x st1 => rw [ef] at q; exact q
  | bad => rw [ef] at q; exact q.elim
  | ok w st1 =>
    rw [ef] at q
    simp only [R.bind_ok, listsN] at q
    split at q
    · rename_i l
      split at q
      · rename_i es hes
        intro ρ1 H1 v g s rv
        rcases s.obj l _ hes with ⟨z, _⟩ | ⟨b, hb, xs, ob, _⟩
        · cases z
        · cases rv with
          | r hl hx =>
            have := hx b hb
            subst this
            exact ⟨_, rfl, ⟨xs, .inl (.inl ob)⟩, q ρ1 H1 _ g s (itN_list hb)⟩
      · exact q.elim
    · exact q.elim
/-! ### xs[::-1] of a list -/
/-! ### l.pop(i), l.extend(x), l.index(x) -/
def popG (w : W) (ws : List W) (st : Sto) : R W := match w, ws with
  | .r l, [.v (.int i)] => match st[l]? with
    | some (.lst ds) => if -(2 ^ 63) ≤ i ∧ i < 2 ^ 63 then (match seqIndex? i ds.length with
      | some j => (match ds[j]? with
        | some d => .ok (.v d) (st.set l (.lst (ds.eraseIdx j)))
        | none => .bad)
      | none => .bad) else .bad
    | _ => .bad
  | _, _ => .bad
/-- l.m(..), l a list that changes -/
def eMeth (m : W → List W → Sto → R W) (f : ED) (g : AD) : ED := fun env st => (f env st).bind fun w st => if isLst st w then (g env st).bind fun ws st => m w ws st else .bad
theorem RlAll.erase {K : KW} {ρ : Rho} {H : Hp} : ∀ {vs : List V} {ds : List D} (i : Nat), RlAll K ρ H vs ds → RlAll K ρ H (vs.eraseIdx i) (ds.eraseIdx i)
  | _, _, _, .nil => .nil
  | _, _, 0, .cons _ t => t
  | _, _, i + 1, .cons q t => .cons q (RlAll.erase i t)
theorem meth_read {K : KW} {f : ED} {g : AD} {m : W → List W → Sto → R W} {rM : V → List V → Hp → VK → Prop} {σ : St} {H : Hp} {Q : VK}
    (hm : ∀ {ρ2 : Rho} {H2 : Hp} {st2 : Sto} {l : Nat} {p : Addr} {vs : List V} {ws : List W} {EE : XK} {xs : List V} {ds : List D}, RelSt K ρ2 H2 st2 → RwAll K ρ2 H2 vs ws → ρ2.lc[l]? = some (some p) → st2[l]? = some (.lst ds) → H2 p = some (.lst xs) → RlAll K ρ2 H2 xs ds →
      okG K ct Rw ρ2 H2 EE Q (m (.r l) ws st2) → rM (.ref p) vs H2 Q)
    (hb : ∀ {l : Nat} {ws : List W} {st2 : Sto}, (∀ ds, st2[l]? ≠ some (.lst ds)) → m (.r l) ws st2 = .bad)
    (h : tE K ct E (eMeth m f g) σ H Q) : tBM K "list" rM (tE K ct E f) (tA K ct E g) σ H Q := by
  refine (tG.bind (rel := Rw) (k := fun w env st => if isLst st w then (g env st).bind fun ws st => m w ws st else R.bad) h).mono fun x H1 ⟨ρ1, st1, env, w, a1, r1, q1⟩ => ?_
  split at q1
  rotate_left
  · exact q1.elim
  rename_i hw
  cases r1 with
  | v r1 => cases hw
  | @r l _ hl hv =>
    simp only [isLst] at hw
    split at hw
    rotate_left
    · cases hw
    rename_i ds0 e0
    rcases a1.1.obj l _ e0 with ⟨z, _⟩ | ⟨p, hp, xs, h1, h2⟩
    · cases z
    cases hv p hp
    refine ⟨.inl ⟨rfl, xs, .of h1⟩, ρ1, st1, env, a1, (okG.bind (rel := RwAll) q1 a1.2).mono fun vs H2 ⟨ρ2, st2, ws, a2, g2, r2, q2⟩ => ?_⟩
    by_cases hds : ∃ ds, st2[l]? = some (.lst ds)
    · obtain ⟨ds, e2⟩ := hds
      rcases a2.1.obj l _ e2 with ⟨z, _⟩ | ⟨p', hp', xs', h1', h2'⟩
      · cases z
      have ep : p' = p := by
        have := g2.ref l p' hl hp'
        rw [hp] at this
        cases this
        rfl
      subst ep
      exact hm a2.1 r2 hp' e2 h1' h2' q2
    · rw [hb fun ds z => hds ⟨ds, z⟩] at q2
      exact q2.elim
variable {o e : Expr} {es : List Expr} {f : ED} {g : AD} {apos cpos : Pos}
theorem de_pop (ho : PE X o (tE X.kw ct E f)) (ha : PA X (e :: es) (tA X.kw ct E g)) (hbase : attributeBase o "pop" X.env (eval o X.env) = eval o X.env := by rfl)
    (hfew : ((backTo cpos (starEach (e :: es) X.env)).all (fun x => !x.1) && (backToKw cpos (keywordEach [] X.env)).all (fun x => x.1.isSome)
      && decide ((e :: es).length + ([] : List Keyword).length + (if ([] : List Keyword).isEmpty then 0 else 1) < 30)) = true := by rfl)
    (hline : (apos.endLine == cpos.line) = true := by rfl) (hs : starEach (e :: es) X.env = (false, eval e X.env) :: starEach es X.env := by rfl) (hplain : (backTo cpos (starEach es X.env)).any (·.1) = false := by rfl) :
    PE X (.Call (.Attribute o "pop" apos) (e :: es) [] cpos) (tE X.kw ct E (eMeth popG f g)) :=
  PE.of (pe_bm PySem.F.plainAttrs_list PySem.F.slot_list_pop PySem.F.type_list_pop mt_popAt ho ha hbase hfew hline hs hplain) fun σ H Q h => meth_read (fun {ρ2 H2 st2 l p vs ws EE xs ds} s2 r2 hp e2 h1 h2 q2 => by
    unfold popG at q2
    split at q2
    · rename_i l' i heq
      cases heq
      rw [e2] at q2
      simp only at q2
      split at q2
      · rename_i hi
        split at q2
        · rename_i j hj
          split at q2
          · rename_i d hd
            obtain ⟨y, rfl, ry⟩ := r2.one
            cases ry with | v ry =>
            cases ry
            obtain ⟨v, hv, rv⟩ := h2.getD hd
            refine ⟨p, xs, i, j, v, rfl, rfl, h1, hi.1, hi.2, by rw [h2.length]; exact hj, hv, ?_⟩
            have gw : Grow ρ2 H2 ρ2 (upd H2 p (.lst (xs.eraseIdx j))) := .write hp
            exact q2 ρ2 _ v gw (s2.write hp ⟨_, upd_same, (h2.erase j).grow gw⟩ trivial) (.v (rv.grow gw))
          · exact q2.elim
        · exact q2.elim
      · exact q2.elim
    · exact q2.elim) (fun {l ws st2} hn => by
    unfold popG
    split
    · rename_i l' i heq
      cases heq
      split
      · rename_i ds e2
        exact absurd e2 (hn ds)
      · rfl
    · rfl) h
def indexO (st : Sto) (w : W) (ws : List W) : Option D := match asLst st w, ws with
  | some ds, [.v d] => if SeqAt.shaped d.py && SeqAt.shaped (.list (D.pyL ds)) then (match (D.pyL ds).findIdx? fun z => PyData.eqv z d.py with
    | some j => some (.int (j : Nat))
    | none => none) else none
  | _, _ => none
def eIndex (f : ED) (g : AD) : ED := fun env st => (f env st).bind fun w st => match asLst st w with
  | some _ => (g env st).bind fun ws st => ofOp st (indexO st w ws)
  | none => .bad
theorem de_index (hu : X.A.units + 65 < cLine) (ho : PE X o (tE X.kw ct E f)) (ha : PA X (e :: es) (tA X.kw ct E g)) (hbase : attributeBase o "index" X.env (eval o X.env) = eval o X.env := by rfl)
    (hfew : ((backTo cpos (starEach (e :: es) X.env)).all (fun x => !x.1) && (backToKw cpos (keywordEach [] X.env)).all (fun x => x.1.isSome)
      && decide ((e :: es).length + ([] : List Keyword).length + (if ([] : List Keyword).isEmpty then 0 else 1) < 30)) = true := by rfl)
    (hline : (apos.endLine == cpos.line) = true := by rfl) (hs : starEach (e :: es) X.env = (false, eval e X.env) :: starEach es X.env := by rfl) (hplain : (backTo cpos (starEach es X.env)).any (·.1) = false := by rfl) :
    PE X (.Call (.Attribute o "index" apos) (e :: es) [] cpos) (tE X.kw ct E (eIndex f g)) :=
  PE.of (pe_bm PySem.F.plainAttrs_list PySem.F.slot_list_index PySem.F.type_list_index (mt_indexD hu) ho ha hbase hfew hline hs hplain) fun σ H Q h => by
  refine (tG.bind (rel := Rw) (k := fun w env st => match asLst st w with
    | some _ => (g env st).bind fun ws st => ofOp st (indexO st w ws)
    | none => R.bad) h).mono fun x H1 ⟨ρ1, st1, env, w, a1, r1, q1⟩ => ?_
  cases ea : asLst st1 w with
  | none => rw [ea] at q1; exact q1.elim
  | some ds0 =>
  rw [ea] at q1
  simp only at q1
  obtain ⟨a, xs, rfl, h1, h2⟩ := lst_of a1.1 r1 ea
  refine ⟨.inl ⟨rfl, xs, h1⟩, ρ1, st1, env, a1, (okG.bind (rel := RwAll) q1 a1.2).mono fun vs H2 ⟨ρ2, st2, ws, a2, g2, r2, q2⟩ => ?_⟩
  cases ei : indexO st2 w ws with
  | none => rw [ei] at q2; exact q2.elim
  | some d =>
  rw [ei] at q2
  unfold indexO at ei
  split at ei
  · rename_i ds d0 hds
    split at ei
    · rename_i c
      rw [Bool.and_eq_true] at c
      split at ei
      · rename_i j hj
        cases ei
        obtain ⟨y, rfl, ry⟩ := r2.one
        cases ry with | v ry =>
        obtain ⟨a', xs', ea', h1', h2'⟩ := lst_of a2.1 (r1.grow g2) hds
        cases ea'
        obtain ⟨hlt, hp1, hp2⟩ := List.findIdx?_eq_some_iff_getElem.mp hj
        refine ⟨a, y, d0.py, D.pyL ds, j, (D.pyL ds)[j], rfl, rfl, .lst h1' (h2'.dp (by simpa [PyData.canLay0] using SeqAt.canLay_of_shaped c.2)), ry.dp (SeqAt.canLay_of_shaped c.1), c.2, c.1, List.getElem?_eq_getElem hlt, hp1, fun m z' hm hz => ?_, okG.here q2 a2.1 (.v (.int _))⟩
        obtain ⟨hm', rfl⟩ := List.getElem?_eq_some_iff.mp hz
        have := hp2 m hm
        simpa using this
      · cases ei
    · cases ei
  · cases ei
end
end Jv
end
section
/-! repr(x) != repr(y), without looking into the texts where the trees are equal -/
namespace Jv
open PySem PySem.Spec L2 PyProof.Rows PySem.W
def okRepr (d : PyData) : Bool := SeqAt.shaped d && d.showable && PyData.layable0 d && d.intsShort 13
def reprB2 : B1
  | st, [w] => if okRepr (deref st w).py then some (.str (deref st w).py.shown) else none
  | _, _ => none
def neStr : O2
  | _, .v (.str x), .v (.str y) => some (.bl (!decide (x = y)))
  | _, _, _ => none
def eqStr : O2
  | _, .v (.str x), .v (.str y) => some (.bl (decide (x = y)))
  | _, _, _ => none
section
variable {X : Cx} {K : KW} {ρ : Rho} {H : Hp} {ct : Nat → Value} {E : St → XK}
theorem cb_repr2 (gd : X.A.guards = some []) (hu : X.A.units + 65 < cLine) : CallR X (.builtin "repr") (rA X.kw reprB2) := by
  intro pins s σ H xs us Q I rr h
  obtain ⟨ρ, st, ws, d, rs, r, e, q⟩ := h
  unfold reprB2 at e
  split at e
  · rename_i w
    obtain ⟨v, rfl, rv⟩ := r.one
    split at e
    · rename_i c
      simp only [okRepr, Bool.and_eq_true] at c
      obtain ⟨⟨⟨c1, c2⟩, c3⟩, c3'⟩ := c
      have c4 : (deref st w).py.shown.length ≤ sizeLine := PyData.shown_fits_of_layable0 (B := 13) (by decide) (by decide) c3 c3'
      cases e
      have dp := deref_dp rs rv c1
      have q' := q H (.str (deref st w).py.shown) (.refl _) (.str _)
      have hd := SeqAt.depth_of_shaped c1
      obtain ⟨u, rfl, ru⟩ := vals1 rr
      obtain ⟨as, rd⟩ := Dp.reads I _ _ u dp ru
      have nd := hasDict_of c1
      generalize (deref st w).py = dd at *
      cases dp with
      | non =>
        cases ru
        exact PySem.P.repr_of_none ⟨.str _, H, I.tok _, ⟨_, rfl⟩, by simpa [PyData.shown] using q'⟩
      | bl b =>
        cases ru
        exact PySem.P.repr_of_bool ⟨.str _, H, I.tok _, ⟨_, rfl⟩, by simpa [PyData.shown] using q'⟩
      | int i =>
        obtain ⟨t, rfl⟩ := ru
        exact PySem.P.repr_of_int (by simpa [PyData.showable] using c2) ⟨.str _, H, I.tok _, ⟨_, rfl⟩, by simpa [PyData.shown] using q'⟩
      | str x =>
        obtain ⟨t, rfl⟩ := ru
        exact PySem.P.repr_of_str ⟨.str _, H, I.tok _, ⟨_, rfl⟩, by simpa [PyData.shown] using q'⟩ (by simpa [PyData.shown] using c4)
      | lst h1 h2 =>
        cases ru
        exact repr_of_reads' rd c2 (PyData.noDict_hsm nd) gd (by omega) (fun _ _ z => z) (fun h' u tk hk => ⟨.str _, H, I.kept hk, ⟨_, rfl⟩, q'⟩) c4
      | tup h1 h2 =>
        cases ru
        exact repr_of_reads' rd c2 (PyData.noDict_hsm nd) gd (by omega) (fun _ _ z => z) (fun h' u tk hk => ⟨.str _, H, I.kept hk, ⟨_, rfl⟩, q'⟩) c4
    · cases e
  · cases e
theorem op_neStr : OpR X (compareOp .NotEq) (rOf X.kw neStr) := by
  intro pins s σ H x y v u Q I rx ry h
  obtain ⟨ρ, st, d1, d2, d, rs, r1, r2, e, q⟩ := h
  unfold neStr at e
  split at e
  · cases e
    cases r1 with | v r1 => cases r2 with | v r2 => cases r1; cases r2; exact op_ne pins s σ H _ _ v u Q I rx ry ⟨rfl, by have := q _ _ (.refl _) (.bl _); simpa using this⟩
  · cases e
end
mutual
def dEq : D → D → Bool
  | .non, .non => true
  | .bl a, .bl b => a == b
  | .int i, .int j => decide (i = j)
  | .str x, .str y => x.cps.toList == y.cps.toList
  | .tup xs, .tup ys => dEqL xs ys
  | .lst xs, .lst ys => dEqL xs ys
  | _, _ => false
def dEqL : List D → List D → Bool
  | [], [] => true
  | x :: xs, y :: ys => dEq x y && dEqL xs ys
  | _, _ => false
end
mutual
theorem dEq_eq : ∀ {a b : D}, dEq a b = true → a = b
  | .non, b, h => by cases b <;> first | rfl | (simp [dEq] at h; done)
  | .bl a, b, h => by cases b <;> first | (simp [dEq] at h; done) | (simp [dEq] at h; rw [h])
  | .int a, b, h => by cases b <;> first | (simp [dEq] at h; done) | (simp [dEq] at h; rw [h])
  | .str x, b, h => by
    cases b with
    | str y =>
      simp only [dEq, beq_iff_eq] at h
      obtain ⟨⟨x⟩⟩ := x
      obtain ⟨⟨y⟩⟩ := y
      simp only at h
      rw [h]
    | _ => simp [dEq] at h
  | .tup xs, b, h => by
    cases b with
    | tup ys => simp only [dEq] at h; rw [dEqL_eq h]
    | _ => simp [dEq] at h
  | .lst xs, b, h => by
    cases b with
    | lst ys => simp only [dEq] at h; rw [dEqL_eq h]
    | _ => simp [dEq] at h
  | .dct _, b, h => by cases b <;> simp [dEq] at h
  | .ty _, b, h => by cases b <;> simp [dEq] at h
  | .kd _, b, h => by cases b <;> simp [dEq] at h
  | .cod _, b, h => by cases b <;> simp [dEq] at h
  | .ld _, b, h => by cases b <;> simp [dEq] at h
  | .adr _, b, h => by cases b <;> simp [dEq] at h
  | .tupx _, b, h => by cases b <;> simp [dEq] at h
  | .exc _ _, b, h => by cases b <;> simp [dEq] at h
theorem dEqL_eq : ∀ {a b : List D}, dEqL a b = true → a = b
  | [], [], _ => rfl
  | x :: xs, y :: ys, h => by
    simp only [dEqL, Bool.and_eq_true] at h
    rw [dEq_eq h.1, dEqL_eq h.2]
  | [], _ :: _, h | _ :: _, [], h => by simp [dEqL] at h
end
def rne (a b : D) : Bool := if dEq a b then false else !decide (a.py.shown = b.py.shown)
def eRNe (f g : ED) : ED := fun env st => (f env st).bind fun a st => if okRepr (deref st a).py then (let A := deref st a
  (g env st).bind fun b st => if okRepr (deref st b).py then .ok (.v (.bl (rne A (deref st b)))) st else .bad) else .bad
theorem rne_eq (a b : D) : rne a b = !decide (a.py.shown = b.py.shown) := by
  unfold rne
  split
  · rename_i h
    rw [dEq_eq h]
    simp
  · rfl
theorem eRNe_eq (f g : ED) : eRNe f g = eBin neStr (eBlt reprB2 (aCons f aNil)) (eBlt reprB2 (aCons g aNil)) := by
  funext env st
  simp only [eRNe, eBin, eBlt, aCons, aNil]
  cases f env st with
  | exc x y => rfl
  | bad => rfl
  | ok a st1 =>
    simp only [R.bind_ok, reprB2]
    split
    · simp only [ofOp_some, R.bind_ok]
      cases g env st1 with
      | exc x y => rfl
      | bad => rfl
      | ok b st2 =>
        simp only [R.bind_ok]
        split
        · simp only [ofOp_some, R.bind_ok, neStr, rne_eq]
        · rfl
    · rfl
section
variable {X : Cx} {ct : Nat → Value} {E : St → XK} {a b : Expr} {fa fb : ED} {p1 p2 c1 c2 pos : Pos}
theorem de_rep2 {e : Expr} {f : ED} {p c : Pos} (gd : X.A.guards = some []) (hu : X.A.units + 65 < cLine) (hg : Gl X "repr") (hm : X.mg "repr" = none) (h : PE X e (tE X.kw ct E f)) (hs : starEach [e] X.env = [(false, eval e X.env)] := by rfl) :
    PE X (.Call (.Name "repr" p) [e] [] c) (tE X.kw ct E (eBlt reprB2 (aCons f aNil))) := de_callB (cb_repr2 gd hu) hg hm bt_repr (da_cons h da_nil hs) (by decide) (by decide) hs
theorem dt_rne (gd : X.A.guards = some []) (hu : X.A.units + 65 < cLine) (hg : Gl X "repr") (hm : X.mg "repr" = none) (ha : PE X a (tE X.kw ct E fa)) (hb : PE X b (tE X.kw ct E fb)) (hs1 : starEach [a] X.env = [(false, eval a X.env)] := by rfl) (hs2 : starEach [b] X.env = [(false, eval b X.env)] := by rfl) :
    PT X (.Compare (.Call (.Name "repr" p1) [a] [] c1) [.NotEq] [.Call (.Name "repr" p2) [b] [] c2] pos) (tT X.kw ct E (tVal (eRNe fa fb))) := by
  rw [eRNe_eq]
  exact dt_cmp op_neStr (de_rep2 gd hu hg hm ha hs1) (de_rep2 gd hu hg hm hb hs2)
end
end Jv
end
section
/-! sorted(.., key=lambda x: ..), the lambda without captured names -/
namespace Jv
open PySem PySem.Spec L2 PyProof.Rows PySem.W
section
variable {X : Cx} {pins : List (Addr × Obj)} {σ : St} {H : Hp} {s : Shared}
/-- the lambda is made -/
theorem lam_make3 {q : Str} {c P : Addr} {params : Arguments} {body : Expr} {scope : Scope} {lpos : Pos} {ps : Array Value} {cs : List Addr} {E : Value → Shared → Prop} {Q : Value → Shared → Prop} (I : Inv X pins σ H s) (TB : LamX.TabB X.base X.mg c P) (hcode : X.env.code = .ref c) (hq : X.env.qual ++ "<lambda>" = q)
    (hP : H P = some (.tbl ps)) (ht : TriplesOk ps.toList) (ha : ∀ (pos : Pos) (cv : Value), codeAmong pos ps.toList = some cv → ∃ c ∈ cs, cv = .ref c) (hdef : defaultsOf params X.env = ([], [])) (hfree : ∀ y ∈ scope.names, y.2 ≠ .free)
    (hnew : ∀ (f c' : Addr) (pm ctv : Value) (s' : Shared), H c' = none → s.heap.objs.size ≤ f → Inv X pins σ (upd (upd H P (.tbl (ps ++ #[rawInt lpos.line, rawInt lpos.col, .ref c']))) c' (LamX.CodeO c' q)) s' → f ≠ c' → f ≠ P →
      s'.heap.get? f = some (kla_obj "<lambda>" q params body scope [] pm c' ctv) → Q (.ref f) s')
    (hhit : ∀ (f c' : Addr) (pm ctv : Value) (s' : Shared), c' ∈ cs → s.heap.objs.size ≤ f → Inv X pins σ H s' → s'.heap.get? f = some (kla_obj "<lambda>" q params body scope [] pm c' ctv) → Q (.ref f) s') :
    wpAny (model X.prog X.w) X.A (eval (.Lambda params body scope lpos) X.env) Q E s := by
  subst hq
  have clo : cloFrom X.env.cells scope.names [] = [] := by
    have gen : ∀ (ns : List (Str × NameKind)), (∀ y ∈ ns, y.2 ≠ .free) → ∀ acc, cloFrom X.env.cells ns acc = acc := by
      intro ns
      induction ns with
      | nil => intro _ acc; rfl
      | cons y r ih =>
        intro h acc
        obtain ⟨n, k⟩ := y
        have hk := h _ List.mem_cons_self
        have hr := ih (fun z hz => h z (List.mem_cons_of_mem _ hz)) acc
        cases k <;> first | exact hr | exact absurd rfl hk
    exact gen _ hfree []
  have hcl : closureFor scope X.env = pure [] := by
    rw [closure_ok fun y hy e => absurd e (hfree y hy), clo]
  refine kla_eval hdef ?_
  have bP : s.heap.BuiltinsAt X.mg P := TB.bm.keeps I.bk
  have hP' : s.heap.get? P = some (tabObj ps) := I.hok P _ hP
  have gl := I.mod.glob.keeps I.bk
  have cd := TB.code.keeps I.bk
  cases hc : codeAmong lpos ps.toList with
  | none =>
    refine kla_makeFunction (mg := X.mg) (c := c) (P := P) (ps := ps) hcl I.ok.glob gl hcode cd hP' ht hc TB.gP bP fun c' ctv h' tk hx hge hlt hrec htb => ?_
    obtain ⟨c2, oc, vs, t, e2, hoc, hd, hv⟩ := hrec
    cases e2
    have sz : s.heap.objs.size ≤ h'.objs.size := by omega
    refine hnew h'.objs.size c' ((X.mg "__name__").getD .none) ctv _ (I.hok.fresh hge) sz ?_ (Nat.ne_of_gt hlt) (Nat.ne_of_gt (Nat.lt_of_lt_of_le (Heap.lt_size hP') sz)) (Heap.get?_push_size _ rfl)
    exact LamX.inv_table (t' := tk) I hP (fun b o hb e => Heap.get?_push_of_some _ (hx b o hb e)) (Heap.get?_push_of_some _ htb) hge ⟨oc, vs, t, Heap.get?_push_of_some _ hoc, hd, hv⟩
  | some cv =>
    obtain ⟨c', hm, rfl⟩ := ha lpos cv hc
    refine kla_makeFunctionHit (mg := X.mg) (c := c) (P := P) (ps := ps) hcl I.ok.glob gl hcode cd hP' ht hc bP fun ctv h' tk hx hsz => ?_
    exact hhit h'.objs.size c' ((X.mg "__name__").getD .none) ctv _ hm hsz (I.kept fun b o e => Heap.get?_push_of_some _ (hx b o e)) (Heap.get?_push_size _ rfl)
end
/-- what the lambda computes -/
def runL (fe : ED) : List W → Sto → R W := fun ws st => noX (runS 1 (sRet fe) ws st)
theorem lam_calls {X : Cx} {ct : Nat → Value} {k : Nat} {pins0 : List (Addr × Obj)} {ρ0 : Rho} {H0 : Hp} {f c' : Addr} {params : Arguments} {body : Expr} {scope : Scope} {pm ctv : Value} {x q : Str} {fe : ED}
    (S : FnScope [x] [x] scope) (gd : X.A.guards = some []) (hr : Room (k + 2) X.A) (hpin : (f, kla_obj "<lambda>" q params body scope [] pm c' ctv) ∈ pins0) (hc : H0 c' = some (LamX.CodeO c' q)) (nc : some c' ∉ ρ0.lc)
    (hbind : ∀ u : Value, bindArgs (kla_fn "<lambda>" q params body scope [] pm (.ref c') ctv) ⟨[u], []⟩ = pure [(x, u)])
    (hbody : ∀ (A : Around) (outer : List PySem.Env) (s : Shared) (H : Hp) (E : XK), A.guards = some [] → Room k (A.deeper (envOfC q scope s.heap.objs.size f (.ref c'))) →
      PE (cxOf CX0 X.prog X.w X.K X.mg X.base [x] q scope f (.ref c') A outer s H E).nox body (tE X.kw ct (fun _ => E0) fe)) :
    CallsTo X ρ0 H0 pins0 f (runL fe) := fun pins σ s' H' ρ' st' st2 v xv d kd hp I' gr rs' ru rd er => by
  have hf := (I'.pin _ (List.mem_append_right _ (hp _ hpin))).1
  obtain ⟨hc', _⟩ := gr.obj c' _ hc nc
  obtain ⟨⟨oc, vs, t, hoc, hdc, hvc⟩, _, _⟩ := I'.hok c' _ hc'
  have hr1 : Room (k + 1) X.A.in1.in1 := by
    have h1 := hr.hd
    have h2 := hr.dp
    have h3 := hr.un
    exact ⟨h1, by show X.A.depth + 3 * (k + 1) + 5 < _; omega, by show X.A.units + 1 + 1 + 16 * (k + 1) + 200 < _; omega⟩
  have e0 : Env0 X.prog X.w X.K X.mg X.base X.A.in1.in1 X.stack s' H' := by
    obtain ⟨q1, q2, q3, q4, q5, q6, q7, q8⟩ := I'.env0
    exact ⟨q1, q2, q3, q4, q5, q6, q7, q8⟩
  have lim : s'.heap.NoLimit := I'.nolimit
  refine kla_callFunE hr1.depth hf rfl S.co S.gen rfl ⟨c', oc, vs, t, rfl, hoc, hdc, hvc⟩ ?_
  rw [hbind]
  refine wpAny_pure (wpAny_newFunctionEnv_cells S.kind ?_ fun env he s1 y => ?_)
  · rintro ⟨n, u⟩ hy
    obtain ⟨rfl, rfl⟩ : n = x ∧ u = v := by simpa using hy
    rcases S.par n (by simp) with z | z
    · exact .inl z
    · exact .inr ⟨z, cellsFrom_some _ _ _ (.inl z)⟩
  · subst he
    refine ⟨lim.keeps y.toInCall.keep, kla_codeExpr ?_⟩
    have I : Inv (cxOf CX0 X.prog X.w X.K X.mg X.base [x] q scope f (.ref c') X.A.in1.in1 X.stack s' H' E0) [] (start [x] [xv]) H' s1 := inv_start (us := [v]) S hr1.hd e0 rfl (.cons ru .nil) y
    have hb := (hbody X.A.in1.in1 X.stack s' H' E0 gd (hr1.deeper _)).nox
    have er' : okS X.kw ct ρ' H' (fun _ => E0) { nx := fun _ H' => False, rt := fun y2 H2 => ∃ ρ2, Grow ρ' H' ρ2 H2 ∧ RelSt X.kw ρ2 H2 st2 ∧ Rw X.kw ρ2 H2 y2 (.v kd) } (sRet fe [some (.v d)] st') := by
      have fo := fin_ok (K := X.kw) (ct := ct) (E := E0) (Q := fun y2 H2 => ∃ ρ2, Grow ρ' H' ρ2 H2 ∧ RelSt X.kw ρ2 H2 st2 ∧ Rw X.kw ρ2 H2 y2 (.v kd)) (r := sRet fe [some (.v d)] st') rs' (by
        have er2 : noX (fin st'.length (sRet fe [some (.v d)] st')) = .ok (.v kd) st2 := er
        cases ef : fin st'.length (sRet fe [some (.v d)] st') with
        | ok a b =>
          rw [ef] at er2
          simp only [noX_ok, R.ok.injEq] at er2
          obtain ⟨rfl, rfl⟩ := er2
          exact fun ρ2 H2 y2 g2 s2 r2 => ⟨ρ2, g2, s2, r2⟩
        | exc a b => rw [ef] at er2; cases er2
        | bad => rw [ef] at er2; cases er2)
      unfold sRet R.thenS at fo ⊢
      cases ee : fe [some (.v d)] st' with
      | ok w st3 => rw [ee] at fo; exact fo
      | exc a b => rw [ee] at fo; exact fo
      | bad => rw [ee] at fo; exact fo
    have re : RelEnv X.kw ρ' H' (start [x] [xv]) [some (.v d)] := relEnv_start (N := [x]) (ws := [.v d]) (.cons (.v rd) .nil)
    have h1 : tE X.kw ct (fun _ => E0) fe (start [x] [xv]) H' (fun y2 H2 => ∃ ρ2, Grow ρ' H' ρ2 H2 ∧ RelSt X.kw ρ2 H2 st2 ∧ Rw X.kw ρ2 H2 y2 (.v kd)) :=
      ⟨ρ', st', _, ⟨rs', re⟩, (okS.first (rel := Rw) er' re).mono fun v H1 ⟨ρ1, st1, w, a1, g1, r1, q1⟩ => q1 ρ1 H1 v (.refl _ _) a1.1 r1⟩
    refine wpAny_mono (hb.run [] s1 (start [x] [xv]) H' _ I h1) (fun u s2 hq => ?_) fun e s2 hq => hq
    obtain ⟨w', H2, J, rv, qq⟩ := hq
    exact ⟨w', H2, J.os, J.bare, J.base, J.hok, rv, qq⟩
end Jv
namespace Jv
open PySem PySem.Spec L2 PyProof.Rows PySem.W
def tabAt (st : Sto) (l : Nat) (p : Str × Option Str) (q : Str) : Bool := match st[l]? with
  | some (.tab p' q') => decide (p' = p) && decide (q' = q)
  | _ => false
def lSortL (l : Nat) (p : Str × Option Str) (q : Str) (fe : ED) (g : AD) : LD := fun env st => (g env st).bind fun ws st => match ws with
  | [w] => match asLst st w with
    | some ds => if tabAt st l p q then sortK (runL fe) ds st else .bad
    | none => .bad
  | _ => .bad
section
variable {X : Cx} {ct : Nat → Value} {E : St → XK} {p pos lpos kpos : Pos} {e : Expr} {f : ED}
/-- behind the making: the table is known as before -/
theorem grow_lam {K : KW} {ρ : Rho} {H : Hp} {st : Sto} {l : Nat} {P c' : Addr} {pn : Str × Option Str} {q : Str} {ps more : Array Value} {cs : List Addr} (s : RelSt K ρ H st) (hl : st[l]? = some (.tab pn q)) (hp : ρ.lc[l]? = some (some P)) (hP : P = (He.cT K.K pn).2) (nC : H c' = none)
    (hT : H P = some (.tbl ps)) (ht : TriplesOk (ps ++ more).toList) (ha : ∀ (pos : Pos) (cv : Value), codeAmong pos (ps ++ more).toList = some cv → ∃ c ∈ c' :: cs, cv = .ref c) (rc : RlAll K ρ H (cs.map V.ref) (cs.map fun _ => D.cod q)) :
    Grow ρ H ρ (upd (upd H P (.tbl (ps ++ more))) c' (LamX.CodeO c' q)) ∧ RelSt K ρ (upd (upd H P (.tbl (ps ++ more))) c' (LamX.CodeO c' q)) st := by
  have nP : P ≠ c' := ne_of_none hT nC
  have g1 : Grow ρ H ρ (upd H P (.tbl (ps ++ more))) := .write hp
  have nC1 : (upd H P (.tbl (ps ++ more))) c' = none := by rw [upd_ne (Ne.symm nP)]; exact nC
  have sm : Same (upd H P (.tbl (ps ++ more))) (upd (upd H P (.tbl (ps ++ more))) c' (LamX.CodeO c' q)) := same_upd nC1
  have g2 : Grow ρ H ρ (upd (upd H P (.tbl (ps ++ more))) c' (LamX.CodeO c' q)) := g1.trans (.same sm)
  have nm : ¬ ρ.mut c' := s.fresh nC
  refine ⟨g2, ⟨s.len, s.inj, fun i ob ei => ?_, fun a h => ?_, s.apart, s.ord⟩⟩
  · rcases s.obj i ob ei with z | ⟨a, e1, o⟩
    · exact .inl z
    · refine .inr ⟨a, e1, ?_⟩
      by_cases hi : i = l
      · subst hi
        rw [hl] at ei
        cases ei
        rw [hp] at e1
        cases e1
        refine ⟨hP, ps ++ more, c' :: cs, by rw [upd_ne nP, upd_same], ht, ha, ?_⟩
        exact .cons (.cod upd_same nm) (rc.grow g2)
      · have na : a ≠ P := fun z => hi (s.inj i l P (z ▸ e1) hp)
        refine o.mono (fun u hu => ?_) (fun _ _ z => z.grow g2) fun _ _ z => z.grow g2
        have nc : a ≠ c' := ne_of_none hu nC
        rw [upd_ne nc, upd_ne na]
        exact hu
  · obtain ⟨u, hu⟩ := s.hidt a h
    have nc : a ≠ c' := ne_of_none hu nC
    have na : a ≠ P := fun z => s.apart P (List.mem_of_getElem? hp) (z ▸ h)
    exact ⟨u, by rw [upd_ne nc, upd_ne na]; exact hu⟩
theorem df_sortLam {l k : Nat} {pn : Str × Option Str} {q x : Str} {params : Arguments} {body : Expr} {scope : Scope} {fe : ED} (gd : X.A.guards = some []) (hr : Room (k + 2) X.A) (TB : LamX.TabB X.base X.mg (He.cT X.K pn).1 (He.cT X.K pn).2) (hcode : X.env.code = .ref (He.cT X.K pn).1) (hq : X.env.qual ++ "<lambda>" = q)
    (S : FnScope [x] [x] scope) (hdef : defaultsOf params X.env = ([], [])) (hbind : ∀ (pm ctv : Value) (c' : Addr) (u : Value), bindArgs (kla_fn "<lambda>" q params body scope [] pm (.ref c') ctv) ⟨[u], []⟩ = pure [(x, u)])
    (hbody : ∀ (f c' : Addr) (A : Around) (outer : List PySem.Env) (s : Shared) (H : Hp) (E : XK), A.guards = some [] → Room k (A.deeper (envOfC q scope s.heap.objs.size f (.ref c'))) →
      PE (cxOf CX0 X.prog X.w X.K X.mg X.base [x] q scope f (.ref c') A outer s H E).nox body (tE X.kw ct (fun _ => E0) fe))
    (hgs : Gl X "sorted") (hm : X.mg "sorted" = none) (h : PE X e (tE X.kw ct E f))
    (hs : starEach [e] X.env = [(false, eval e X.env)] := by rfl)
    (he : backTo pos (starEach [e] X.env) = (false, eval e X.env) :: backTo pos (starEach [] X.env) := by rfl) (hpl : (backTo pos (starEach [e] X.env)).any (·.1) = false := by rfl)
    (hall : (backToKw pos (keywordEach [⟨some (Str.ofString "key"), .Lambda params body scope lpos, kpos⟩] X.env)).all (·.1.isSome) = true := by rfl) (hnone : (backToKw pos (keywordEach [⟨some (Str.ofString "key"), .Lambda params body scope lpos, kpos⟩] X.env)).any (·.1.isNone) = false := by rfl) (hks : (backToKw pos (keywordEach [⟨some (Str.ofString "key"), .Lambda params body scope lpos, kpos⟩] X.env)).filterMap (·.1) = [Str.ofString "key"] := by rfl) :
    PE X (.Call (.Name "sorted" p) [e] [⟨some (Str.ofString "key"), .Lambda params body scope lpos, kpos⟩] pos) (tF X.kw ct E (lSortL l pn q fe (aCons f aNil))) := by
  have ha : PA X [e] (tA X.kw ct E (aCons f aNil)) := da_cons h da_nil hs
  refine ⟨fun pins s σ H Q I hq0 => ?_⟩
  obtain ⟨ρ, st, env, at0, hok⟩ := hq0
  refine wpAny_Call_Name_kw (ld_blt I hgs hm bt_sorted ?_ (by decide) (by decide))
  have hA : tA X.kw ct E (aCons f aNil) σ H (fun vs H1 => ∃ ρ1 st1 w ds v, vs = [v] ∧ At X.kw ρ1 H1 st1 σ env ∧ Grow ρ H ρ1 H1 ∧ Rw X.kw ρ1 H1 v w ∧ asLst st1 w = some ds ∧ tabAt st1 l pn q = true ∧ okF X.kw ct ρ1 H1 (E σ) Q (sortK (runL fe) ds st1)) := by
    refine ⟨ρ, st, env, at0, ?_⟩
    unfold lSortL at hok
    cases ef : aCons f aNil env st with
    | exc y st1 => rw [ef] at hok; exact hok
    | bad => rw [ef] at hok; exact hok.elim
    | ok ws st1 =>
      rw [ef] at hok
      simp only [R.bind_ok] at hok
      intro ρ1 H1 vs g1 s1 r1
      split at hok
      · rename_i w
        cases ea : asLst st1 w with
        | none => rw [ea] at hok; exact hok.elim
        | some ds =>
          rw [ea] at hok
          simp only at hok
          split at hok
          · rename_i ht
            obtain ⟨v, rfl, rv⟩ := r1.one
            exact ⟨ρ1, st1, w, ds, v, rfl, ⟨s1, at0.2.grow g1⟩, g1, rv, ea, ht, hok.grow g1⟩
          · exact hok.elim
      · exact hok.elim
  refine PyProof.Rows.callWith_kw (thn (ha.run pos pins s σ H _ I hA) fun us s1 ⟨vs, H1, I1, r1, ρ1, st1, w, ds, v, ev, a1, g1, rv, ea, ht, hok1⟩ => ?_) he hpl hall hnone
  subst ev
  obtain ⟨la, xs, rfl, hS, hR⟩ := lst_of a1.1 rv ea
  rw [Vals.ref1 r1]
  unfold tabAt at ht
  split at ht
  rotate_left
  · cases ht
  rename_i p' q' hl
  simp only [Bool.and_eq_true, decide_eq_true_eq] at ht
  obtain ⟨rfl, rfl⟩ := ht
  rcases a1.1.obj l _ hl with ⟨z, _⟩ | ⟨P, hp, hP, ps, cs, hT, htr, hcs, rc⟩
  · cases z
  subst hP
  have nlc : ∀ {b : Addr} {u : HO}, H1 b = some u → (∀ qs, u ≠ .tbl qs) → b ≠ (He.cT X.K p').2 := fun {b u} hb hu z => by
    rw [z, hT] at hb
    cases hb
    exact hu _ rfl
  have fin : ∀ (f c' : Addr) (pm ctv : Value) (s2 : Shared) (H2 : Hp), Grow ρ1 H1 ρ1 H2 → RelSt X.kw ρ1 H2 st1 → Inv X pins σ H2 s2 → H2 f = none → s1.heap.objs.size ≤ f → H2 c' = some (LamX.CodeO c' q') → some c' ∉ ρ1.lc → SqL X.K H2 la xs →
      s2.heap.get? f = some (kla_obj "<lambda>" q' params body scope [] pm c' ctv) → wpAny (model X.prog X.w) X.A (call (.builtin "sorted") [.ref la] [(Str.ofString "key", .ref f)]) (EP X pins σ Q) X.xe s2 := fun f c' pm ctv s2 H2 g2 s2' I2 hfn szf hc2 nc hS2 ho => by
    have fp : FpOk X pins H2 f := I1.fpOk szf hfn
    have I3 : Inv X ((f, kla_obj "<lambda>" q' params body scope [] pm c' ctv) :: pins) σ H2 s2 := I2.pins_of fun pp hpp => by
      rcases List.mem_cons.mp hpp with z | hpp
      · subst z
        exact ⟨ho, hfn, fp.2.1, fp.2.2.1, fun v z => nomatch z⟩
      · exact I2.pin pp (List.mem_append_right _ hpp)
    have C : CallsTo X ρ1 H2 ((f, kla_obj "<lambda>" q' params body scope [] pm c' ctv) :: pins) f (runL fe) := lam_calls (ct := ct) S gd hr List.mem_cons_self hc2 nc (hbind pm ctv c') (hbody f c')
    refine thn (sort_by (by have := hr.un; omega) I3 hS2 (hR.grow g2) s2' C ((okF_ct hok1).grow g2)) fun u s4 ⟨v4, H4, I4, r4, q4⟩ => ⟨v4, H4, I4.pins_of fun pp hpp => I4.pin pp (List.mem_append_right _ (List.mem_cons_of_mem _ hpp)), r4, q4⟩
  show wpAny _ _ (evalAll ((do let v ← eval (.Lambda params body scope lpos) X.env; standAt pos; pure v) :: [])) _ _ s1
  refine wpAny_evalAll_cons (wpAny_bind (lam_make3 I1 TB hcode hq hT htr hcs hdef S.nofree (fun f c' pm ctv s2 nC szf I2 nfc nfP ho => ?_) (fun f c' pm ctv s2 hmc szf I2 ho => ?_)))
  · refine wpAny_bind (wpAny_standAt (wpAny_pure (wpAny_evalAll_nil ?_)))
    rw [hks]
    have hTr' : TriplesOk (ps ++ #[rawInt lpos.line, rawInt lpos.col, .ref c']).toList := by
      have : (ps ++ #[rawInt lpos.line, rawInt lpos.col, .ref c']).toList = ps.toList ++ [rawInt lpos.line, rawInt lpos.col, .ref c'] := by simp
      rw [this]
      exact PySem.TriplesOk_snoc _ _ _ _ htr
    have hcs' : ∀ (pos : Pos) (cv : Value), codeAmong pos (ps ++ #[rawInt lpos.line, rawInt lpos.col, .ref c']).toList = some cv → ∃ c ∈ c' :: cs, cv = .ref c := fun pos' cv hc => by
      have ee : (ps ++ #[rawInt lpos.line, rawInt lpos.col, .ref c']).toList = ps.toList ++ [rawInt lpos.line, rawInt lpos.col, .ref c'] := by simp
      rw [ee] at hc
      rcases LamX.among_app _ htr hc with z | z
      · obtain ⟨c0, m0, e0⟩ := hcs pos' cv z
        exact ⟨c0, List.mem_cons_of_mem _ m0, e0⟩
      · exact ⟨c', List.mem_cons_self, z⟩
    obtain ⟨g2, s2'⟩ := grow_lam a1.1 hl hp rfl nC hT hTr' hcs' rc
    refine fin f c' pm ctv s2 _ g2 s2' I2 (by rw [upd_ne nfc, upd_ne nfP]; exact I1.hok.fresh szf) szf upd_same (fun z => a1.1.fresh nC (.inl z)) ?_ ho
    rcases hS with h | h
    · rcases h with h | ⟨o, h⟩
      · exact .inl (.inl (by rw [upd_ne (ne_of_none h nC), upd_ne (nlc h fun qs z => nomatch z)]; exact h))
      · exact .inl (.inr ⟨o, by rw [upd_ne (ne_of_none h nC), upd_ne (nlc h fun qs z => nomatch z)]; exact h⟩)
    · exact .inr h
  · refine wpAny_bind (wpAny_standAt (wpAny_pure (wpAny_evalAll_nil ?_)))
    rw [hks]
    obtain ⟨hcO, ncm⟩ : H1 c' = some (LamX.CodeO c' q') ∧ ¬ ρ1.mut c' := by
      have gen : ∀ cs : List Addr, RlAll X.kw ρ1 H1 (cs.map V.ref) (cs.map fun _ => D.cod q') → c' ∈ cs → H1 c' = some (LamX.CodeO c' q') ∧ ¬ ρ1.mut c' := by
        intro cs
        induction cs with
        | nil => intro _ hm; cases hm
        | cons c0 r ih =>
          intro rr hm
          cases rr with
          | cons r0 rs =>
            rcases List.mem_cons.mp hm with z | hm
            · subst z
              cases r0 with
              | cod h n => exact ⟨h, n⟩
            · exact ih rs hm
      exact gen cs rc hmc
    exact fin f c' pm ctv s2 H1 (.refl _ _) a1.1 I2 (I1.hok.fresh szf) szf hcO (fun z => ncm (.inl z)) hS ho
end
end Jv
end
section
/-! a def whose code object is told; the law's call where tables of code objects are filled -/
namespace Jv
open PySem PySem.Spec L2 PyProof.Rows PySem.W
theorem fnG_ofT {CX : CXT} {P : Program} {w : World} {K : PySem.W.Frag} {mg : Str → Option Value} {base : Heap} {k : Nat} {pn : Str × Option Str} {x qual : Str} {st : Stmt} {fd : FuncData} {N ps : List Str} {sp : Sp}
    (F : Fun K x qual st (He.fAd K pn) fd) (S : FnScope N ps (defScope st)) (len : ∀ vs H Q E, sp vs H Q E → vs.length = ps.length)
    (hbody : ∀ (A : Around) (outer : List PySem.Env) (s : Shared) (H : Hp) (vs : List V) (Q : VK) (E : XK), A.guards = some [] → Room k (A.deeper (envOfC qual (defScope st) s.heap.objs.size (He.fAd K pn) (.ref (He.cT K pn).1))) → sp vs H Q E →
      ∃ t, PSs (cxOf CX P w K mg base N qual (defScope st) (He.fAd K pn) (.ref (He.cT K pn).1) A outer s H E) (defBody st) t ∧ t { nx := fun _ H' => Q .non H', rt := Q } (start N vs) H) :
    FnG P w K mg base CX (k + 1) (He.fAd K pn) fd ps sp := by
  obtain ⟨oc, od, kV, doc, pm, an, cdv, ct, osl, rfl, lk, hcd⟩ := F.ex
  have ec : cdv = .ref (He.cT K pn).1 := by
    obtain ⟨c, rfl⟩ := He.codeIn_ref hcd
    show Value.ref c = .ref (He.codeOf K pn)
    rw [He.codeOf_eq lk rfl]
  subst ec
  refine ⟨len, fun A outer s H args us vs Q E gd hr e0 hb r hsp => ?_⟩
  have hl := len _ _ _ _ hsp
  have KX : K.In s.heap := e0.mod.kin.keeps (fun b o e => (e0.bs b o e).1)
  have lim : s.heap.NoLimit := e0.mod.nolimit.keeps (fun b o e => (e0.bs b o e).1)
  refine codeAny_call_function hr.depth (KX _ _ lk) rfl S.co S.gen rfl (PySem.W.codeRec_of KX hcd) (hb _ _ _ _ ?_)
  refine wpAny_newFunctionEnv_cells S.kind ?_ (fun env he s1 y => ?_)
  · rintro ⟨n, v⟩ hy
    rcases S.par n (List.of_mem_zip hy).1 with q | q
    · exact .inl q
    · exact .inr ⟨q, PySem.W.cellsFrom_some _ _ _ (.inl q)⟩
  · subst he
    refine ⟨lim.keeps y.toInCall.keep, codeAny_func ?_⟩
    obtain ⟨t, ht, hq⟩ := hbody A outer s H vs Q E gd (hr.deeper _) hsp
    have I : Inv (cxOf CX P w K mg base N qual (defScope st) (He.fAd K pn) (.ref (He.cT K pn).1) A outer s H E) [] (start N vs) H s1 := inv_start S hr.hd e0 hl r y
    refine wpAny_mono (ht.run [] s1 (start N vs) H _ I hq) ?_ (fun e s' hs => hs)
    rintro (_ | _ | _ | u) s' hs
    · obtain ⟨σ', H', J, q⟩ := hs
      exact ⟨.non, H', J.os, J.bare, J.base, J.hok, rfl, q⟩
    · obtain ⟨_, _, _, q⟩ := hs
      exact q.elim
    · obtain ⟨_, _, _, q⟩ := hs
      exact q.elim
    · obtain ⟨v, σ', H', J, rv, q⟩ := hs
      exact ⟨v, H', J.os, J.bare, J.base, J.hok, rv, q⟩
/-- a def that lets no error out, its code object told -/
theorem fn_den0T {P : Program} {w : World} {K : PySem.W.Frag} {mg : Str → Option Value} {base : Heap} {ct : Nat → Value} {k : Nat} {pn : Str × Option Str} {x qual : Str} {st : Stmt} {fd : FuncData} {N ps : List Str} {den : SD}
    (F : Fun K x qual st (He.fAd K pn) fd) (S : FnScope N ps (defScope st))
    (body : ∀ (A : Around) (outer : List PySem.Env) (s : Shared) (H : Hp) (E : XK), A.guards = some [] → Room k (A.deeper (envOfC qual (defScope st) s.heap.objs.size (He.fAd K pn) (.ref (He.cT K pn).1))) →
      PSs (cxOf CX0 P w K mg base N qual (defScope st) (He.fAd K pn) (.ref (He.cT K pn).1) A outer s H E).nox (defBody st) (tS ⟨K, w, mg⟩ ct (fun _ => E0) den)) :
    FnG P w K mg base CX0 (k + 1) (He.fAd K pn) fd ps (spG ⟨K, w, mg⟩ ct ps.length fun ws st => noX (runS N.length den ws st)) := by
  refine fnG_ofT F S (fun vs H Q E ⟨_, _, _, _, _, h, _⟩ => h) fun A outer s H vs Q E gd hr ⟨ρ, st', ws, rs, rw', hl, h⟩ => ⟨_, (body A outer s H E gd hr).nox, ?_⟩
  refine ⟨ρ, st', _, ⟨rs, relEnv_start rw'⟩, fin_ok rs ?_⟩
  show okG ⟨K, w, mg⟩ ct Rw ρ H E0 Q (runS N.length den ws st')
  replace h : okG ⟨K, w, mg⟩ ct Rw ρ H E Q (noX (runS N.length den ws st')) := h
  cases e : runS N.length den ws st' with
  | ok a b => rw [e] at h; exact h
  | exc a b => rw [e] at h; exact h.elim
  | bad => rw [e] at h; exact h.elim
/-- the abstract heap at the law's start: the script, the tables -/
def H0 (a : Addr) (vs : List Value) (ns : List Int) (fz : Bool) (tb : List Addr) : Hp := fun b =>
  if fz = true ∧ b = a then some (.frz { cls := .type "list", data := .seq vs.toArray } (.lst (ns.map V.int))) else if b ∈ tb then some (.tbl #[]) else none
theorem law_callTG {P : Program} {w : World} {K : PySem.W.Frag} {mg mb : Str → Option Value} {k : Nat} {fa a : Addr} {cs : List (Addr × Addr)} {fd : FuncData} {x : Str} {sp : Sp} {s₁ : Shared} {vs : List Value} {ns : List Int}
    (KX : K.In s₁.heap) (hns : s₁.heap.Ns mainGlobals mg) (hb : s₁.heap.Ns builtinsNs mb) (hbb : ∀ x : Str, x ≠ "__name__" → mb x = bootBuiltins x) (hlim : s₁.heap.NoLimit) (hg : s₁.gens = #[])
    (hT : ∀ p ∈ cs, s₁.heap.get? p.2 = some (tabObj #[])) (nT : ∀ p ∈ cs, K.lookup p.2 = none) (C : ∀ p ∈ cs, CodeHd s₁.heap p.1 p.2)
    (hbm : ∃ (bm : Addr) (ob : Obj), mg "__builtins__" = some (.ref bm) ∧ bm ≠ builtinsNs ∧ s₁.heap.get? bm = some ob ∧ ob.cls = .type "module" ∧ ob.dict = some builtinsNs ∧ ob.data = .plain)
    (ha : s₁.heap.get? a = some { cls := .type "list", data := .seq vs.toArray }) (hi : IntsAre vs ns) (hl : ns.length ≤ sizeLine) (hr : Room k callerA)
    (F : ∀ base : Heap, K.In base → base.Ns mainGlobals mg → (∀ p ∈ cs, LamX.TabB base mg p.1 p.2) → FnG P w K mg base CX0 k fa fd [x] sp) (hbind : ∀ (s : Shared) (u : Value), BindsTo s fd ⟨[u], []⟩ [(x, u)])
    (hsp : ∀ H : Hp, (∀ p ∈ cs, H p.2 = some (.tbl #[])) → a ∉ cs.map (·.2) → SqL K H a (ns.map V.int) → sp [.ref a] H (fun v _ => v = .bl true) fun _ _ _ => False) :
    codeAny (model P w) callerA (.call (.ref fa) ⟨[.ref a], []⟩) (fun r s' => r = .ok (.ret (.bool true)) ∧ OldK s₁.heap s'.heap ∧ s'.os = s₁.os ∧ AllBare s'.gens) s₁ := by
  have rv := vals_ints hi
  have tabs : ∀ b : Addr, b ∈ cs.map (·.2) → s₁.heap.get? b = some (tabObj #[]) ∧ K.lookup b = none := by
    intro b h
    obtain ⟨p, hp, rfl⟩ := List.mem_map.mp h
    exact ⟨hT p hp, nT p hp⟩
  have aT : a ∉ cs.map (·.2) := fun z => by
    have := (tabs a z).1
    rw [ha] at this
    cases this
  have go : ∀ fz : Bool, (fz = true → K.lookup a = none) → SqL K (H0 a vs ns fz (cs.map (·.2))) a (ns.map V.int) →
      codeAny (model P w) callerA (.call (.ref fa) ⟨[.ref a], []⟩) (fun r s' => r = .ok (.ret (.bool true)) ∧ OldK s₁.heap s'.heap ∧ s'.os = s₁.os ∧ AllBare s'.gens) s₁ := by
    intro fz hfz hS
    generalize eH : H0 a vs ns fz (cs.map (·.2)) = H at hS
    have atT : ∀ p ∈ cs, H p.2 = some (.tbl #[]) := fun p hp => by
      have m : p.2 ∈ cs.map (·.2) := List.mem_map.mpr ⟨p, hp, rfl⟩
      rw [← eH]
      unfold H0
      rw [if_neg (show ¬ (fz = true ∧ p.2 = a) from fun z => aT (z.2 ▸ m)), if_pos m]
    have what : ∀ b u, H b = some u → (b = a ∧ K.lookup a = none ∧ u = .frz { cls := .type "list", data := .seq vs.toArray } (.lst (ns.map V.int))) ∨ (b ∈ cs.map (·.2) ∧ u = .tbl #[]) := fun b u e => by
      rw [← eH] at e
      unfold H0 at e
      split at e
      · rename_i z
        cases e
        exact .inl ⟨z.2, hfz z.1, rfl⟩
      · split at e
        · rename_i m
          cases e
          exact .inr ⟨m, rfl⟩
        · cases e
    have hok : HOk P w H s₁.heap := fun b u e => by
      rcases what b u e with ⟨rfl, _, rfl⟩ | ⟨m, rfl⟩
      · exact ⟨ha, by rw [List.length_map]; exact hl, vs, _, rv, ha⟩
      · exact (tabs b m).1
    have off : ∀ {b : Addr} {o : Obj}, s₁.heap.get? b = some o → (∀ us n, o.data ≠ .seq us n) → o.data ≠ .fields #[] → H b = none := fun {b o} e n1 n2 => by
      cases q : H b with
      | none => rfl
      | some u =>
        exfalso
        rcases what b u q with ⟨rfl, _, _⟩ | ⟨m, _⟩
        · rw [ha] at e
          cases e
          exact n1 _ _ rfl
        · rw [(tabs b m).1] at e
          cases e
          exact n2 rfl
    have ns' : ∀ {b : Addr} {m : Str → Option Value}, s₁.heap.Ns b m → (hidT s₁.heap H).Ns b m := by
      rintro b m ⟨o, es, ep, e, d, r⟩
      refine ⟨o, es, ep, hidT_get e (off e (fun us n z => ?_) fun z => ?_), d, r⟩ <;> rw [d] at z <;> cases z
    have hKb : K.In (hidT s₁.heap H) := by
      intro b o e
      refine hidT_get (KX b o e) ?_
      cases q : H b with
      | none => rfl
      | some u =>
        exfalso
        rcases what b u q with ⟨rfl, z, _⟩ | ⟨m, _⟩
        · rw [z] at e; cases e
        · rw [(tabs b m).2] at e; cases e
    have hM : Mod K mg (hidT s₁.heap H) := ⟨hKb, ns' hns, ⟨mb, ns' hb, hbb⟩, let ⟨mc, h1, h2⟩ := hlim; ⟨mc, ns' h1, h2⟩⟩
    have TB : ∀ p ∈ cs, LamX.TabB (hidT s₁.heap H) mg p.1 p.2 := fun p hp => by
      refine ⟨?_, ?_, fun z => ?_⟩
      · obtain ⟨o, us, fl, t1, fg, t2, inF, tx, t3, e1, c1, c2, c3, more⟩ := C p hp
        refine ⟨o, us, fl, t1, fg, t2, inF, tx, t3, hidT_get e1 (off e1 (fun us n z => ?_) fun z => ?_), c1, c2, c3, more⟩
        · rw [c2] at z; cases z
        · rw [c2] at z; cases z; simp at c3
      · obtain ⟨bm, ob, b1, b2, b3, b4, b5, b6⟩ := hbm
        refine ⟨bm, ob, b1, b2, ?_, ?_, hidT_get b3 (off b3 (fun us n z => ?_) fun z => ?_), b4, b5, b6⟩
        · rintro rfl
          obtain ⟨o, es, ep, e, d, _⟩ := hns
          rw [e] at b3; cases b3
          rw [d] at b6; cases b6
        · rintro rfl
          rw [hT p hp] at b3; cases b3; cases b6
        · rw [b6] at z; cases z
        · rw [b6] at z; cases z
      · obtain ⟨o, es, ep, e, d, _⟩ := hns
        rw [z, hT p hp] at e
        cases e; cases d
    have e0 : Env0 P w K mg (hidT s₁.heap H) callerA [] s₁ H := ⟨rfl, hM, fun b o e => of_hidT e, Nat.le_of_eq (hidT_size _ _), trivial, fun b z => absurd (show b ∈ ([] : List Addr) from z) (by simp), hok, .of_eq hg⟩
    refine codeAny_mono ((F _ hKb (ns' hns) TB).run callerA [] s₁ H ⟨[.ref a], []⟩ [.ref a] [.ref a] _ _ rfl hr e0 (hbind s₁ (.ref a)) (.cons rfl .nil) (hsp H atT aT hS)) ?_
    rintro (e | (_ | _ | _ | u)) s' h
    · exact h.elim
    · exact h.elim
    · exact h.elim
    · exact h.elim
    · obtain ⟨v, H', os, bare, un, hok', r', q⟩ := h
      cases (show v = .bl true from q)
      cases (show u = Value.bool true from r')
      have grown : ∀ b ∈ cs.map (·.2), ∃ more : Array Value, s'.heap.get? b = some (tabObj more) := fun b m => by
        obtain ⟨p, hp, rfl⟩ := List.mem_map.mp m
        obtain ⟨more, z⟩ := un.tbls p.2 #[] (atT p hp)
        exact ⟨_, hok' p.2 _ z⟩
      have same : ∀ b o, b ∉ cs.map (·.2) → s₁.heap.get? b = some o → s'.heap.get? b = some o := fun b o nb e => by
        cases qb : H b with
        | none => exact un.keep b o e qb (fun y => absurd (show b ∈ ([] : List Addr) from y) (by simp)) (by simp)
        | some u =>
          rcases what b u qb with ⟨rfl, _, rfl⟩ | ⟨m, _⟩
          · obtain ⟨e2, _⟩ := hok' b _ (un.frzs b _ _ qb)
            rw [ha] at e; cases e
            exact e2
          · exact absurd m nb
      refine ⟨rfl, ⟨fun b o e => ?_, fun b o e => ?_⟩, os, bare⟩
      · by_cases m : b ∈ cs.map (·.2)
        · obtain ⟨more, hm⟩ := grown b m
          obtain ⟨p, hp, rfl⟩ := List.mem_map.mp m
          rw [hT p hp] at e
          cases e
          exact .inr (.inl ⟨((C p hp).tab (hT p hp)).isCodeTable, rfl, #[], more, rfl, by rw [Array.empty_append]; exact hm⟩)
        · exact .inl (same b o m e)
      · by_cases m : b ∈ cs.map (·.2)
        · exact let ⟨more, hm⟩ := grown b m; ⟨_, hm⟩
        · exact ⟨o, same b o m e⟩
  cases hk : K.lookup a with
  | some o =>
    have e := KX a o hk
    rw [ha] at e
    cases e
    exact go false (fun z => nomatch z) (.inr ⟨_, vs.toArray, _, hk, rfl, rfl, rfl, by rw [List.size_toArray, hi.length]; exact hl, by simpa using rv⟩)
  | none => exact go true (fun _ => hk) (.inl (.inr ⟨_, if_pos ⟨rfl, rfl⟩⟩))
theorem walkTG {l : PySem.W.OpenLaw} {n k : Nat} {q : Program} {loose : List Str} {XP : (Str → Option Value) → Heap → Prop} {YP : World → Heap → Prop} {d : DefRec} {x : Str}
    (hn : l.most = some n) (hn2 : n ≤ sizeLine) (hdf : d.params.defaults = []) (hr : Room k callerA)
    (F : ∀ (w : World) (mg : Str → Option Value) (fa : Addr) (h : Heap), YP w h → h.Ns mainGlobals mg → mg d.name = some (.ref fa) →
      ∃ (K : PySem.W.Frag) (cs : List (Addr × Addr)) (fd : FuncData) (sp : Sp), K.In h ∧ (∀ p ∈ cs, h.get? p.2 = some (tabObj #[])) ∧ (∀ p ∈ cs, K.lookup p.2 = none) ∧ (∀ p ∈ cs, CodeHd h p.1 p.2) ∧ (∀ (s : Shared) (u : Value), BindsTo s fd ⟨[u], []⟩ [(x, u)]) ∧
        (∀ (H : Hp) (a : Addr) (ns : List Int), ns.length ≤ n → (∀ p ∈ cs, H p.2 = some (.tbl #[])) → a ∉ cs.map (·.2) → SqL K H a (ns.map V.int) → sp [.ref a] H (fun v _ => v = .bl true) fun _ _ _ => False) ∧
        ∀ base : Heap, K.In base → base.Ns mainGlobals mg → (∀ p ∈ cs, LamX.TabB base mg p.1 p.2) → FnG l.prog w K mg base CX0 k fa fd [x] sp) :
    PySem.W.WalkO q loose XP YP l.row.toRowW d [] (fun f vs => PySem.call f vs) := by
  refine Att.attach_call hn hdf ?_
  intro w s₀ s₁ mg mb fa o pm cd doc a vs ns G Y ho hd hcd hmg hobj hints hlen hg
  obtain ⟨K, cs, fd, sp, KX, hT, nT, C, hb, hsp, hF⟩ := F w mg fa _ Y G.T.g hmg
  exact law_callTG KX G.T.g G.T.b G.T.builtins G.T.nolimit hg hT nT C G.T.bmain hobj hints (Nat.le_trans hlen hn2) hr hF hb (fun H hH hA hS => hsp H a ns hlen hH hA hS)
end Jv
end
section
namespace Jv
open PySem PySem.Spec L2 PyProof.Rows PySem.W
/-! ### zip of two tuples -/
end Jv
end
section
namespace Jv
open PySem PySem.Spec L2 PyProof.Rows PySem.W
end Jv
end
section
/-! set(xs), xs a list of nested tuples -/
namespace NS
open PySem PySem.Spec PyProof.Rows L2
section
variable {P : Program} {w : World} {A : Around} {E : Value → Shared → Prop} {s : Shared}
theorem KAt.keep {h h' : Heap} {k : NestedKey} {b : Addr} (x : KAt h k b) (hk : ∀ c o, h.get? c = some o → h'.get? c = some o) : KAt h' k b := ⟨NestedIs.at (fun c u vs n hc _ => hk c u hc) k _ x.1, x.2⟩
theorem SOb.keep {h h' : Heap} {a : Addr} {L : Mem} {es : Array (Int × Value)} {ep : Nat} {t : SetTable} (R : SOb w h a L es ep t) (ha : ∀ o, h.get? a = some o → h'.get? a = some o) : SOb w h' a L es ep t := by
  obtain ⟨o, ho, r⟩ := R.ob
  exact ⟨⟨o, ha o ho, r⟩, R.rw, R.tb, R.nd, R.ld, R.rm, R.fw⟩
end
end NS
end
section
namespace Jv
open PySem PySem.Spec L2 PyProof.Rows PySem.W
def isTp : D → Bool
  | .tup _ => true
  | _ => false
end Jv
end
section
namespace Jv
open PySem PySem.Spec L2 PyProof.Rows PySem.W
/-! ### a, b, c = x, y, z -/
end Jv
end
section
namespace Jv
open PySem PySem.Spec L2 PyProof.Rows PySem.W
/-! ### [..] * k: a new list told so often -/
end Jv
end
section
/-! l.extend(x), d.get(k), list(range(n)), t[::2] of three, x in a tuple of flat values -/
namespace Jv
open PySem PySem.Spec L2 PyProof.Rows PySem.W
/-! x in a tuple of flat values -/
def D.fv : D → Option V
  | .non => some .non
  | .bl b => some (.bl b)
  | .int i => some (.int i)
  | .str x => some (.str x)
  | _ => none
def fvs : List D → Option (List V)
  | [] => some []
  | d :: r => (d.fv).bind fun v => (fvs r).map (v :: ·)
theorem fv_of {K : KW} {ρ : Rho} {H : Hp} {v u : V} {d : D} (r : Rl K ρ H v d) (e : d.fv = some u) : v = u ∧ flatV u = true := by
  cases r <;> simp [D.fv] at e <;> subst e <;> exact ⟨rfl, rfl⟩
theorem fvs_of {K : KW} {ρ : Rho} {H : Hp} : ∀ {vs us : List V} {ds : List D}, RlAll K ρ H vs ds → fvs ds = some us → vs = us ∧ us.all flatV = true
  | _, _, _, .nil, e => by simp [fvs] at e; subst e; exact ⟨rfl, rfl⟩
  | _, us, _, .cons (d := d) (ds := ds) r t, e => by
    simp only [fvs] at e
    cases e1 : d.fv with
    | none => rw [e1] at e; cases e
    | some u =>
      rw [e1] at e
      simp only [Option.bind_some] at e
      cases e2 : fvs ds with
      | none => rw [e2] at e; cases e
      | some us' =>
        rw [e2] at e
        cases e
        obtain ⟨rfl, h1⟩ := fv_of r e1
        obtain ⟨rfl, h2⟩ := fvs_of t e2
        exact ⟨rfl, by rw [List.all_cons, h1, h2]; rfl⟩
def inT (neg : Bool) : T2
  | a, .tup ds => a.fv.bind fun x => (fvs ds).map fun xs => .bl (if neg then !inV x xs else inV x xs)
  | _, _ => none
theorem inT_read {X : Cx} {neg : Bool} {f : Value → Value → Sem Value} (h : OpR X f (rIn X.K neg)) : OpR X f (rOf X.kw (onV (inT neg))) := OpR.v <| by
  intro pins s σ H x y v u Q I rx ry hh
  obtain ⟨ρ, st, d1, d2, d, rs, r1, r2, e, q⟩ := hh
  unfold inT at e
  split at e
  rotate_left
  · cases e
  rename_i ds
  cases e1 : d1.fv with
  | none => rw [e1] at e; cases e
  | some a =>
  rw [e1] at e
  simp only [Option.bind_some] at e
  cases e2 : fvs ds with
  | none => rw [e2] at e; cases e
  | some xs =>
  rw [e2] at e
  cases e
  obtain ⟨rfl, f1⟩ := fv_of r1 e1
  cases r2 with
  | tup h1 n1 r3 =>
    obtain ⟨rfl, f2⟩ := fvs_of r3 e2
    exact h pins s σ H _ _ v u Q I rx ry ⟨_, _, rfl, .inr (.inl h1), f1, f2, q _ _ (.refl _) (.bl _)⟩
abbrev in3 : O2 := orO in2 (onV (inT false))
abbrev notIn3 : O2 := orO notIn2 (onV (inT true))
theorem op_in3 {X : Cx} (hu : X.A.units + 65 < cLine) : OpR X (compareOp .In) (rOf X.kw in3) := OpR.or (op_in2 hu) (inT_read op_in_seq)
theorem op_notIn3 {X : Cx} (hu : X.A.units + 65 < cLine) : OpR X (compareOp .NotIn) (rOf X.kw notIn3) := OpR.or (op_notIn2 hu) (inT_read op_notIn_seq)
end Jv
end
section
/-! dict(list or tuple of pairs); len of such -/
namespace Jv
open PySem PySem.Spec L2 PyProof.Rows PySem.W
def hasL (kvs : List (D × D)) (k : Leaf) : Bool := kvs.any fun p => decide (p.1.lf = some k)
def storeL (kvs : List (D × D)) (k d : D) (l : Leaf) : List (D × D) := if hasL kvs l then kvs.map fun p => if p.1.lf = some l then (p.1, d) else p else kvs ++ [(k, d)]
section
variable {K : KW} {ρ : Rho} {H : Hp}
theorem LdR.has {xs : List (Leaf × Value)} {ds : List (D × D)} (l : Leaf) (h : LdR K ρ H xs ds) : (xs.any fun kv => decide (kv.1 = l)) = hasL ds l := by
  induction h with
  | nil => rfl
  | @cons l0 u v k d xs ds e r q t ih =>
    simp only [hasL, List.any_cons] at ih ⊢
    rw [ih, e]
    simp
theorem LdR.append {xs ys : List (Leaf × Value)} {ds es : List (D × D)} (h : LdR K ρ H xs ds) (h2 : LdR K ρ H ys es) : LdR K ρ H (xs ++ ys) (ds ++ es) := by
  induction h with
  | nil => exact h2
  | cons r q1 q2 _ ih => exact .cons r q1 q2 ih
theorem LdR.maps {xs : List (Leaf × Value)} {ds : List (D × D)} {l : Leaf} {d : D} {v : V} {u : Value} (h : LdR K ρ H xs ds) (ru : RelV v u) (rv : Rl K ρ H v d) :
    LdR K ρ H (xs.map fun kv => if kv.1 = l then (kv.1, u) else kv) (ds.map fun p => if p.1.lf = some l then (p.1, d) else p) := by
  induction h with
  | nil => exact .nil
  | @cons l0 u0 v0 k0 d0 xs ds e q1 q2 t ih =>
    simp only [List.map_cons]
    by_cases z : l0 = l
    · rw [if_pos z, if_pos (by rw [e, z])]
      exact .cons e ru rv ih
    · rw [if_neg z, if_neg (by rw [e]; exact fun y => z (Option.some.inj y))]
      exact .cons e q1 q2 ih
theorem LdR.put {xs : List (Leaf × Value)} {ds : List (D × D)} {k d : D} {l : Leaf} {v : V} {u : Value} (h : LdR K ρ H xs ds) (e : k.lf = some l) (ru : RelV v u) (rv : Rl K ρ H v d) : LdR K ρ H (stored xs l u) (storeL ds k d l) := by
  unfold stored storeL
  rw [h.has l]
  split
  · exact h.maps ru rv
  · exact h.append (.cons e ru rv .nil)
theorem LdR.rows {xs : List (Leaf × Value)} {kvs : List (D × D)} (r : LdR K ρ H xs kvs) : ∃ vs, LdOk xs vs kvs ∧ RlAll K ρ H vs (kvs.map (·.2)) := by
  induction r with
  | nil => exact ⟨[], ⟨rfl, .nil⟩, .nil⟩
  | @cons l u v k d xs ds e q1 q2 _ ih =>
    obtain ⟨vs, h1, h2⟩ := ih
    exact ⟨v :: vs, ⟨by simp [e, h1.keys], .cons q1 h1.vals⟩, .cons q2 h2⟩
theorem leaf_is {k : D} {v : V} {u : Value} {l : Leaf} (r : Rl K ρ H v k) (q : RelV v u) (e : k.lf = some l) : Leaf.isOf l u = true := by
  cases k with
  | non => cases e; cases r; cases q; rfl
  | int i => cases e; cases r; obtain ⟨t, rfl⟩ := q; exact decide_eq_true rfl
  | str x => cases e; cases r; obtain ⟨t, rfl⟩ := q; show (x == x) = true; simp
  | _ => cases e
/-- the pairs' rows: keys, values -/
inductive PrR (K : KW) (ρ : Rho) (H : Hp) : List (Value × Value) → List (D × D) → Prop
  | nil : PrR K ρ H [] []
  | cons {a u : Value} {va vu : V} {k d : D} {xs : List (Value × Value)} {ds : List (D × D)} : RelV va a → Rl K ρ H va k → RelV vu u → Rl K ρ H vu d → PrR K ρ H xs ds → PrR K ρ H ((a, u) :: xs) ((k, d) :: ds)
theorem PrR.length {xs : List (Value × Value)} {ds : List (D × D)} (h : PrR K ρ H xs ds) : xs.length = ds.length := by
  induction h with
  | nil => rfl
  | cons _ _ _ _ _ ih => simp [ih]
theorem PrR.kd {ps : List (Value × Value)} {ds : List (D × D)} (h : PrR K ρ H ps ds) (c : ∀ p ∈ ds, isTp p.1 = true) : ∃ xs : List (NestedKey × Addr × Value), KdR K ρ H xs ds ∧ ps = xs.map fun x => (Value.ref x.2.1, x.2.2) := by
  induction h with
  | nil => exact ⟨[], .nil, rfl⟩
  | @cons a u va vu k d xs ds q1 r1 q2 r2 t ih =>
    obtain ⟨ys, h1, h2⟩ := ih fun p hp => c p (List.mem_cons_of_mem _ hp)
    have ck := c _ List.mem_cons_self
    cases r1 with
    | tup h n r => cases q1; exact ⟨_, .cons (.tup h n r) q2 r2 h1, by rw [h2]; rfl⟩
    | _ => cases ck
theorem PrR.ld {ps : List (Value × Value)} {ds : List (D × D)} (h : PrR K ρ H ps ds) (c : ∀ p ∈ ds, (p.1.lf).isSome = true) : ∃ xs : List (Leaf × Value), LdR K ρ H xs ds ∧ xs.length = ps.length ∧ ∀ (i : Nat) (key v : Value), ps[i]? = some (key, v) → ∃ k, xs[i]? = some (k, v) ∧ Leaf.isOf k key = true := by
  induction h with
  | nil => exact ⟨[], .nil, rfl, fun i key v e => by simp at e⟩
  | @cons a u va vu k d xs ds q1 r1 q2 r2 t ih =>
    obtain ⟨ys, h1, h2, h3⟩ := ih fun p hp => c p (List.mem_cons_of_mem _ hp)
    obtain ⟨l, el⟩ := Option.isSome_iff_exists.mp (c _ List.mem_cons_self)
    refine ⟨(l, u) :: ys, .cons el q2 r2 h1, by simp [h2], fun i key v e => ?_⟩
    cases i with
    | zero => simp at e; obtain ⟨rfl, rfl⟩ := e; exact ⟨l, rfl, leaf_is r1 q1 el⟩
    | succ i => simpa using h3 i key v (by simpa using e)
end
section
variable {X : Cx}
/-! len of a frozen dict -/
theorem len_raw {P : Program} {w : World} {A : Around} {E : Value → Shared → Prop} {Q : Value → Shared → Prop} {s : Shared} {d : Addr} {es : Array DictEntry} {ep : Nat} (hd : (d == sysModules) = false) (hm : s.heap.DictRaw d es ep) (hz : es.size ≤ 16000000)
    (h : ∀ tk t, Q (.int es.size t) { s with toks := tk }) : wpAny (model P w) A (call (.builtin "len") [.ref d]) Q E s :=
  PyProof.Rows.call_len_slot (n := es.size) hm.typeIs F.slot_dict_len (fun Q' hq => call_len_raw hd hm hq) (by omega) (by omega) (h _ _)
def lenK : B1
  | _, [.v (.kd kvs)] => if kvs.length ≤ 100000 then some (.int (kvs.length : Nat)) else none
  | _, [.v (.ld kvs)] => if kvs.length ≤ 100000 then some (.int (kvs.length : Nat)) else none
  | st, [.r l] => match st[l]? with
    | some (.kd kvs) => if kvs.length ≤ 16000000 then some (.int (kvs.length : Nat)) else none
    | _ => none
  | _, _ => none
theorem cb_lenK : CallR X (.builtin "len") (rA X.kw lenK) := by
  intro pins s σ H xs us Q I rr h
  obtain ⟨ρ, st, ws, d, rs, r, e, q⟩ := h
  unfold lenK at e
  split at e
  · rename_i kvs
    split at e
    rotate_left
    · cases e
    rename_i hl
    cases e
    obtain ⟨v, rfl, rv⟩ := r.one
    obtain ⟨u, rfl, ru⟩ := Vals.one rr
    obtain ⟨a, xs, rfl, h1, h2, h3⟩ := kd_of I rs rv rfl
    cases ru
    obtain ⟨o, es, ep, e1, e2, e3, e4, _⟩ := h2
    have hz : es.size = kvs.length := by rw [size_of_entries e4, h1.length]
    refine len_raw h3 ⟨o, e1, e2, e3⟩ (by omega) fun tk t => ⟨.int es.size, H, I.tok _, ⟨_, rfl⟩, ?_⟩
    rw [hz]
    exact q _ _ (.refl _) (.int _)
  · rename_i kvs
    split at e
    rotate_left
    · cases e
    rename_i hl
    cases e
    obtain ⟨v, rfl, rv⟩ := r.one
    obtain ⟨u, rfl, ru⟩ := Vals.one rr
    cases rv with | v rv =>
    cases rv with
    | @ld a o xs vs _ h n m y rl =>
      cases ru
      obtain ⟨⟨pg, es, ep, k1, k2, k3, k4, k5⟩, m2⟩ := m
      have hz : es.size = kvs.length := by
        have h1 := k4.length
        have h2 := congrArg List.length m2.keys
        simp at h1 h2
        omega
      refine len_raw y ⟨o, (I.hok a _ h).1, k1, k2⟩ (by omega) fun tk t => ⟨.int es.size, H, I.tok _, ⟨_, rfl⟩, ?_⟩
      rw [hz]
      exact q _ _ (.refl _) (.int _)
  · rename_i l
    split at e
    · rename_i kvs hk
      split at e
      rotate_left
      · cases e
      rename_i hl
      cases e
      obtain ⟨v, rfl, rv⟩ := r.one
      obtain ⟨u, rfl, ru⟩ := Vals.one rr
      obtain ⟨a, xs, rfl, h1, h2, h3⟩ := kd_of I rs rv (kvs := kvs) (by simp only [asKd, hk])
      cases ru
      obtain ⟨o, es, ep, e1, e2, e3, e4, _⟩ := h2
      have hz : es.size = kvs.length := by rw [size_of_entries e4, h1.length]
      refine len_raw h3 ⟨o, e1, e2, e3⟩ (by omega) fun tk t => ⟨.int es.size, H, I.tok _, ⟨_, rfl⟩, ?_⟩
      rw [hz]
      exact q _ _ (.refl _) (.int _)
    · cases e
  · cases e
def lenA : B1 := fun st ws => match lenB st ws with
  | some d => some d
  | none => lenK st ws
theorem cb_lenA : CallR X (.builtin "len") (rA X.kw lenA) := by
  intro pins s σ H xs us Q I rr h
  obtain ⟨ρ, st, ws, d, rs, r, e, q⟩ := h
  unfold lenA at e
  cases e1 : lenB st ws with
  | some d' => rw [e1] at e; cases e; exact cb_len pins s σ H xs us Q I rr ⟨ρ, st, ws, _, rs, r, e1, q⟩
  | none => rw [e1] at e; exact cb_lenK pins s σ H xs us Q I rr ⟨ρ, st, ws, d, rs, r, e, q⟩
end
end Jv
end
section
/-! tuples whose very object is known: displays, parts, forgotten again -/
namespace Jv
open PySem PySem.Spec L2 PyProof.Rows PySem.W
section
variable {X : Cx} {ct : Nat → Value} {E : St → XK} {e : Expr} {es : List Expr} {f : ED} {g : AD}
/-- forgotten -/
def tx : W → W
  | .v (.tupx ds) => .v (.tup ds)
  | w => w
/-! parts -/
end
/-! ### tuples by <= -/
end Jv
end
section
/-! dicts whose keys are ints, texts, None -/
namespace Jv
open PySem PySem.Spec L2 PyProof.Rows PySem.W
/-! {} -/
end Jv
end
section
/-! dicts whose keys are ints, texts, None: stored, frozen, walked, displayed -/
namespace Jv
open PySem PySem.Spec L2 PyProof.Rows PySem.W
/-! d[k] = v -/
theorem LdR.length {K : KW} {ρ : Rho} {H : Hp} {xs : List (Leaf × Value)} {ds : List (D × D)} (h : LdR K ρ H xs ds) : xs.length = ds.length := by
  induction h with
  | nil => rfl
  | cons _ _ _ _ ih => simp [ih]
/-! ### frozen -/
/-! ### for k in d, d frozen, its keys texts and None -/
end Jv
end
section
/-! dicts whose keys are ints, texts, None: comprehensions, displays -/
namespace Jv
open PySem PySem.Spec L2 PyProof.Rows PySem.W
/-! {k: v for ..} -/
/-! {k: v, ..}, the keys written down -/
theorem PrR.mono {K : KW} {ρ ρ' : Rho} {H H' : Hp} {xs : List (Value × Value)} {ds : List (D × D)} (f : ∀ v d, Rl K ρ H v d → Rl K ρ' H' v d) (h : PrR K ρ H xs ds) : PrR K ρ' H' xs ds := by
  induction h with
  | nil => exact .nil
  | cons a b c d _ ih => exact .cons a (f _ _ b) c (f _ _ d) ih
end Jv
end
section
/-! sorted(set(xs)), xs a list of texts -/
namespace TS
open PySem PySem.Spec PyProof.Rows L2
/-- the set of the texts l -/
def TxR (w : World) (h : Heap) (a : Addr) (l : List Str) : Prop :=
  ∃ D : Froz.SD, h.get? a = some (Froz.sObj "set" D) ∧ (∃ rows : List (Str × Tok), D.1.toList.Perm (rows.map fun p => (hashStr w p.1, Value.str p.1 p.2)) ∧ rows.map (·.1) = l) ∧ D.2.2.fits D.1.size = true ∧ Ris D.2.2.place.toList ∧ (w.params.followText "set-order" = true ∨ D.2.2.led = true) ∧ l.Nodup ∧ l.length < 64
section
variable {P : Program} {w : World} {A : Around} {E : Value → Shared → Prop} {s : Shared} {a : Addr} {l : List Str}
theorem TxR.keep {h h' : Heap} (R : TxR w h a l) (k : ∀ o, h.get? a = some o → h'.get? a = some o) : TxR w h' a l := by
  obtain ⟨D, ho, r⟩ := R
  exact ⟨D, k _ ho, r⟩
end
end TS
end
section
/-! sorted(set(texts)); list(d), d == e of dicts whose keys are ints, texts, None -/
namespace Jv
open PySem PySem.Spec L2 PyProof.Rows PySem.W
end Jv
end
section
/-! t * 1, t a tuple -/
namespace Jv
open PySem PySem.Spec L2 PyProof.Rows PySem.W
end Jv
end
section
/-! the objects of a block are forgotten behind it -/
namespace Jv
open PySem PySem.Spec L2 PyProof.Rows PySem.W
def cutW (n : Nat) : Option W → Option W
  | some (.r l) => if l < n then some (.r l) else none
  | w => w
def cutE (n : Nat) (env : Env) : Env := env.map (cutW n)
def cutF (n : Nat) : Fl → Fl
  | .nx env st => .nx (cutE n env) (st.take n)
  | .ct env st => .ct (cutE n env) (st.take n)
  | .bk env st => .bk (cutE n env) (st.take n)
  | .rt (.v d) st => .rt (.v d) (st.take n)
  | r => r
def sCut (den : SD) : SD := fun env st => cutF st.length (den env st)
theorem RelEnv.cut {K : KW} {ρ : Rho} {H : Hp} {σ : St} {env : Env} (n : Nat) (a : RelEnv K ρ H σ env) : RelEnv K (ρ.cut n) H σ (cutE n env) := by
  refine ⟨by simp [cutE, a.len], fun i d e => ?_⟩
  unfold cutE at e
  rw [List.getElem?_map] at e
  cases ei : env[i]? with
  | none => rw [ei] at e; cases e
  | some o =>
    rw [ei] at e
    cases o with
    | none => cases e
    | some w =>
      obtain ⟨v, h1, h2⟩ := a.get i w ei
      cases w with
      | v x => cases e; exact ⟨v, h1, h2.cut trivial⟩
      | r l =>
        simp only [Option.map_some, cutW] at e
        split at e
        · rename_i hl
          cases e
          exact ⟨v, h1, h2.cut hl⟩
        · cases e
section
variable {X : Cx} {ct : Nat → Value} {E : St → XK}
theorem At.cut {K : KW} {ρ : Rho} {H : Hp} {st : Sto} {σ : St} {env : Env} (n : Nat) (a : At K ρ H st σ env) : At K (ρ.cut n) H (st.take n) σ (cutE n env) := ⟨a.1.cut n, a.2.cut n⟩
theorem dss_cut {ss : List Stmt} {den : SD} (h : PSs X ss (tS X.kw ct E den)) : PSs X ss (tS X.kw ct E (sCut den)) := PSs.of h fun D σ H ⟨ρ, st, env, a, q⟩ => by
  refine ⟨ρ, st, env, a, ?_⟩
  have hn : ρ.lc.length ≤ st.length := Nat.le_of_eq a.1.len
  unfold sCut at q
  cases ef : den env st with
  | nx env' st' => rw [ef] at q; exact fun ρ' H' σ' g a' => q (ρ'.cut st.length) H' σ' (g.cut hn) (a'.cut _)
  | ct env' st' => rw [ef] at q; exact fun ρ' H' σ' g a' => q (ρ'.cut st.length) H' σ' (g.cut hn) (a'.cut _)
  | bk env' st' => rw [ef] at q; exact fun ρ' H' σ' g a' => q (ρ'.cut st.length) H' σ' (g.cut hn) (a'.cut _)
  | rt w st' =>
    rw [ef] at q
    cases w with
    | v d => exact fun ρ' H' v g s' r => q (ρ'.cut st.length) H' v (g.cut hn) (s'.cut _) (r.cut trivial)
    | r l => exact q
  | exc env' x st' => rw [ef] at q; exact q
  | bad => rw [ef] at q; exact q
end
end Jv
end
section
/-! an exception that is caught stays as an object of ours -/
namespace Jv
open PySem PySem.Spec L2 PyProof.Rows
/-- an error a of the class cls that lies still in X's own frame; without it the state was sI, over the ground B -/
structure Still (X : Cx) (pins : List (Addr × Obj)) (a : Addr) (cls : Value) (d : Option Addr) (σ : St) (H : Hp) (B : Heap) (sI s : Shared) : Prop where
  inv : Inv X pins σ H sI
  low : ∀ b o, sI.heap.get? b = some o → b ∉ frs X.stack → B.get? b = some o
  up : sI.heap.UpToSlots s.heap
  fl : HandSPX.FlyingZ B (X.env :: X.outer) a (Zc cls d) s.heap
  none : H a = none
  os : s.os = sI.os
  bare : AllBare s.gens
section
variable {X : Cx} {pins : List (Addr × Obj)} {a : Addr} {cls : Value} {d : Option Addr} {σ : St} {H : Hp} {B : Heap} {sI s : Shared}
theorem Still.here (z : Still X pins a cls d σ H B sI s) : Inv X pins σ H s := z.inv.landed z.low z.fl.1 z.up z.os z.bare
end
section
variable {X : Cx} {x n : Str} {c : Value} {i : Nat} {body suite : List Stmt} {b₀ : Stmt} {np pos pos' : Pos} {tb : WX → TS} {ts : TS} {Wout : WX}
/-- what comes behind a try, told of its body's own context -/
theorem SP.out {pn pins : List (Addr × Obj)} {xe : Value → Shared → Prop} {D : Ends} {f : Flow} {s : Shared} (ok : X.Ok) (h : SP (X.tr (X.pn ++ pins) xe) [] D f s) : SP X pins D f s := by
  match f, h with
  | .next, ⟨σ, H, J, q⟩ => exact ⟨σ, H, J.ofTry ok, q⟩
  | .brk, ⟨σ, H, J, q⟩ => exact ⟨σ, H, J.ofTry ok, q⟩
  | .cont, ⟨σ, H, J, q⟩ => exact ⟨σ, H, J.ofTry ok, q⟩
  | .ret _, ⟨v, σ, H, J, r, q⟩ => exact ⟨v, σ, H, J.ofTry ok, r, q⟩
end
end Jv
end
section
/-! try: .. except C as e: .. -/
namespace Jv
open PySem PySem.Spec L2 PyProof.Rows
end Jv
end
section
/-! raise C(e), C an own class with an own __init__ of two lines -/
namespace Jv
open PySem PySem.Spec L2 PyProof.Rows
/-- what such an __init__ does -/
def spInit (K : PySem.W.Frag) (C : Addr) (f : Str) : Sp := fun vs H Q _ => ∃ (a : Addr) (y : V), vs = [.ref a, y] ∧ H a = some (exo a C none) ∧ ∀ dx, H dx = none → dx ≠ a → Q .non (upd (upd H dx (exd dx [(f, y)])) a (exo a C (some dx)))
abbrev tInit (K : PySem.W.Frag) (f m : Str) : TS := tSeq (tDrop (tVeI K (tCons (tVar 0) (tCons (tC (.str m)) tNil)))) (tOst K f (tVar 0) (tVar 1))
theorem init_ok {P : Program} {w : World} {K : PySem.W.Frag} {mg : Str → Option Value} {base : Heap} {x qual f pn m : Str} {st : Stmt} {fI C : Addr} {fd : FuncData} {k : Nat}
    (F : Fun K x qual st fI fd) (S : FnScope ["self", pn] ["self", pn] (defScope st)) (T : OexC K C) (hno : PySem.W.findIn K (.ref C) f = some none)
    (hb : ∀ (cdv : Value) (A : Around) (outer : List PySem.Env) (s : Shared) (H : Hp) (E : XK), PSs (cxOf CX0 P w K mg base ["self", pn] qual (defScope st) fI cdv A outer s H E).nox (defBody st) (tInit K f m)) :
    FnOk P w K mg base CX0 (k + 1) fI fd ["self", pn] (spInit K C f) := by
  refine F.ok S (fun vs H Q E ⟨a, y, e, _⟩ => by rw [e]; rfl) fun cdv A outer s H vs Q E hr ⟨a, y, e, ha, q⟩ => ?_
  subst e
  refine ⟨_, hb cdv A outer s H E, ?_⟩
  exact ⟨.ref a, rfl, a, C, [.str m], rfl, by simp, T, ha, y, rfl, .ref a, rfl, a, C, rfl, T, hno, .inl ⟨ha, fun dx n ne => q dx n ne⟩⟩
end Jv
end
section
/-! exceptions that were caught: isinstance, fields, is None -/
namespace Jv
open PySem PySem.Spec L2 PyProof.Rows
/-! ### at trees -/
end Jv
end
section
/-! isinstance by a class's name, fields -/
namespace Jv
open PySem PySem.Spec L2 PyProof.Rows
/-! ### e.f -/
end Jv
end
section
/-! defs that let errors out: called, and their own contexts -/
namespace Jv
open PySem PySem.Spec L2 PyProof.Rows
end Jv
end
section
/-! a lambda that captures names, handed to a def that calls it in a try -/
namespace Jv
open PySem PySem.Spec L2 PyProof.Rows PySem.W
end Jv
end
section
/-! the lambda's own context; the call by the def that got it -/
namespace Jv
open PySem PySem.Spec L2 PyProof.Rows PySem.W
/-- names of its own: none that is known outside -/
structure LamF (N : List Str) (sc scope : Scope) : Prop where
  kind : scope.kind = .function
  co : scope.isCoroutine = false
  gen : scope.isGenerator = false
  ncell : ∀ y ∈ scope.names, y.2 ≠ .cell
  own : ∀ y ∈ scope.names, y.2 = .local → y.1 ∉ N
  free : ∀ y ∈ scope.names, y.2 = .free → sc.names.lookup y.1 = some .cell ∨ sc.names.lookup y.1 = some .free
section
variable {X : Cx} {pins : List (Addr × Obj)} {σ : L2.St} {H HZ : Hp} {s s1 : Shared} {scope : Scope}
theorem LamF.has (L : LamF X.N X.env.scope scope) (ok : X.Ok) : ∀ y ∈ scope.names, y.2 = .free → ∃ c, X.env.cells.lookup y.1 = some c := fun y hy e => ok.has _ (L.free y hy e)
end
end Jv
end
section
/-! x(lambda: ..), x a def that calls it in a try -/
namespace Jv
open PySem PySem.Spec L2 PyProof.Rows PySem.W
end Jv
end
section
/-! what is told of the classes of errors, as Bools over K -/
namespace Jv
open PySem PySem.Spec L2 PyProof.Rows PySem.W
def excCB (K : Frag) (D : Addr) : Bool := He.eqO (findIn K (.ref D) "__getattribute__") (some (some (.builtin "BaseException.__getattribute__"))) && (He.eqO (findIn K (.ref D) "__getattr__") (some none) && (decide (subIn K (.ref D) (.type "BaseException") = some true) && (hasDictIn K D &&
  (He.eqO (findIn K (.ref D) "__class__") (some (some (.builtin "object.__class__"))) && (He.eqO (specialIn K (.builtin "object.__class__") "__get__") (some (some (.builtin "getset_descriptor.__get__"))) && (decide (takesIn K (.builtin "object.__class__") = some true) && decide (mroIn K D (.type "object") = some true)))))))
def kitB (K : Frag) (n : Str) (cv : Value) (b : Bool) : Bool := decide (kitOne K (.ref (He.ga K n)) cv = some b)
/-- what JarError.__init__(self, ..) wants -/
def jarB (K : Frag) (mc : Value) : Bool := decide (specialIn K (.ref (He.ga K "JarError")) "__getattribute__" = some (some (.builtin "type.__getattribute__"))) && (readsIn K (He.ga K "JarError") mc && (match findCls K (.ref (He.ga K "JarError")) mc "__init__" with
  | some (.val (.builtin n)) => n == "ValueError.__init__"
  | _ => false))
theorem jarB_ok {K : Frag} {mc : Value} (h : jarB K mc = true) : specialIn K (.ref (He.ga K "JarError")) "__getattribute__" = some (some (.builtin "type.__getattribute__")) ∧ readsIn K (He.ga K "JarError") mc = true ∧ findCls K (.ref (He.ga K "JarError")) mc "__init__" = some (.val (.builtin "ValueError.__init__")) := by
  unfold jarB at h
  simp only [Bool.and_eq_true] at h
  refine ⟨of_decide_eq_true h.1, h.2.1, ?_⟩
  have h3 := h.2.2
  split at h3
  · rename_i n e
    rw [e, beq_iff_eq.mp h3]
  · cases h3
def clsBody : Stmt → List Stmt
  | .ClassDef _ _ _ b _ _ _ _ _ _ _ => b
  | _ => []
/-- the law's store at its start: tables of code objects -/
def tabsOf (tq : List ((Str × Option Str) × Str)) : Sto := tq.map fun p => .tab p.1 p.2
theorem tabs_rel {K : KW} {H : Hp} (tq : List ((Str × Option Str) × Str)) (hT : ∀ p ∈ tq, H (He.cT K.K p.1).2 = some (.tbl #[])) (nd : (tq.map fun p => (He.cT K.K p.1).2).Nodup) : RelSt K ⟨tq.map fun p => some (He.cT K.K p.1).2, []⟩ H (tabsOf tq) := by
  refine ⟨by simp [tabsOf], fun l l' a e1 e2 => ?_, fun l ob e => ?_, (fun a h => nomatch h), (fun a _ h => nomatch h), fun l ob e => ?_⟩
  · have g : ∀ l : Nat, (tq.map fun p => some (He.cT K.K p.1).2)[l]? = some (some a) → (tq.map fun p => (He.cT K.K p.1).2)[l]? = some a := fun l h => by
      simp only [List.getElem?_map] at h ⊢
      cases q : tq[l]? with
      | none => rw [q] at h; cases h
      | some p => rw [q] at h; simp only [Option.map_some, Option.some.injEq] at h ⊢; exact h
    have h1 := g l e1
    have h2 := g l' e2
    obtain ⟨i1, j1⟩ := List.getElem?_eq_some_iff.mp h1
    obtain ⟨i2, j2⟩ := List.getElem?_eq_some_iff.mp h2
    exact (List.getElem_inj nd).mp (j1.trans j2.symm)
  · unfold tabsOf at e
    rw [List.getElem?_map] at e
    cases q : tq[l]? with
    | none => rw [q] at e; cases e
    | some p =>
      rw [q] at e
      cases e
      have hm : p ∈ tq := List.mem_of_getElem? q
      refine .inr ⟨(He.cT K.K p.1).2, by rw [List.getElem?_map, q]; rfl, rfl, #[], [], hT p hm, True.intro, (fun pos cv hc => by
        have z : codeAmong pos [] = some cv := hc
        simp [codeAmong] at z), .nil⟩
  · unfold tabsOf at e
    rw [List.getElem?_map] at e
    cases q : tq[l]? with
    | none => rw [q] at e; cases e
    | some p => rw [q] at e; cases e; exact True.intro
end Jv
end
section
/-! what is looked at behind the top: as in hookX, and the interpreter's own statics -/
namespace Jv
open PySem PySem.Spec L2 PyProof.Rows PySem.W He
end Jv
end
section
/-! tests by `a if c else b`; d.get(k, x) -/
namespace Jv
open PySem PySem.Spec L2 PyProof.Rows PySem.W
/-! d.get(k, x) -/
end Jv
end
section
/-! range(a, b) walked -/
namespace Jv
open PySem PySem.Spec L2 PyProof.Rows
end Jv
end
section
/-! tuple(list): its very object is known -/
namespace Jv
open PySem PySem.Spec L2 PyProof.Rows PySem.W
end Jv
end
section
/-! sorted(..) of a tuple, of a dict whose keys are ints, texts, None -/
namespace Jv
open PySem PySem.Spec L2 PyProof.Rows PySem.W
end Jv
end
section
/-! sorted(dict(pairs)): pairs of unlike ints -/
namespace Jv
open PySem PySem.Spec L2 PyProof.Rows PySem.W
end Jv
end
section
/-! d.get(k, x) of a dict whose keys are ints, texts, None -/
namespace Jv
open PySem PySem.Spec L2 PyProof.Rows PySem.W
end Jv
end
section
/-! for x in d.values(), d with tuple keys -/
namespace Jv
open PySem PySem.Spec L2 PyProof.Rows PySem.W
end Jv
end
section
/-! l.insert(i, x), i not below 0 -/
namespace Jv
open PySem PySem.Spec L2 PyProof.Rows PySem.W
end Jv
end
section
/-! a[k], b[j] = c, d with constants -/
namespace Jv
open PySem PySem.Spec L2 PyProof.Rows PySem.W
end Jv
end
section
/-! list(d), d with tuple keys -/
namespace Jv
open PySem PySem.Spec L2 PyProof.Rows PySem.W
end Jv
end
section
/-! list(d.items()), d with tuple keys, frozen or an object -/
namespace Jv
open PySem PySem.Spec L2 PyProof.Rows PySem.W
end Jv
end
section
/-! d.clear(), d with tuple keys, an object -/
namespace Jv
open PySem PySem.Spec L2 PyProof.Rows PySem.W
end Jv
end
section
/-! a dict with tuple keys that changed, as it stands from now on -/
namespace Jv
open PySem PySem.Spec L2 PyProof.Rows PySem.W
end Jv
end
section
/-! texts compared by == -/
namespace Jv
open PySem PySem.Spec L2 PyProof.Rows PySem.W
theorem op_eqStr {X : Cx} : OpR X (compareOp .Eq) (rOf X.kw eqStr) := by
  intro pins s σ H x y v u Q I rx ry h
  obtain ⟨ρ, st, d1, d2, d, rs, r1, r2, e, q⟩ := h
  unfold eqStr at e
  split at e
  · cases e
    cases r1 with | v r1 => cases r2 with | v r2 => cases r1; cases r2; exact op_eq pins s σ H _ _ v u Q I rx ry ⟨rfl, by have := q _ _ (.refl _) (.bl _); simpa using this⟩
  · cases e
end Jv
end
section
/-! repr of a dict whose keys are texts, None, its values trees without lists -/
namespace Jv
open PySem PySem.Spec L2 PyProof.Rows PySem.W
end Jv
end
section
/-! isinstance(e, (C, ..)); l.count(x) -/
namespace Jv
open PySem PySem.Spec L2 PyProof.Rows
end Jv
end
section
/-! repr(x) != repr(y) of small trees with long ints; == of a deep tree and a shallow one -/
namespace Jv
open PySem PySem.Spec L2 PyProof.Rows PySem.W
/-! == where one of the two is shallow -/
end Jv
end
section
/-! for x in d: y = d[x]; .., d a dict with tuple keys that is an object: meanwhile it stays as it is -/
namespace Jv
open PySem PySem.Spec L2 PyProof.Rows PySem.W
section
variable {K : KW} {ρ ρ' : Rho} {H H' : Hp}
theorem KdR.at {xs : List (NestedKey × Addr × Value)} {kvs : List (D × D)} (r : KdR K ρ H xs kvs) : ∀ {i : Nat} {k d : D}, kvs[i]? = some (k, d) → ∃ b u v, xs[i]? = some (k.nk, b, u) ∧ Rl K ρ H (.ref b) k ∧ RelV v u ∧ Rl K ρ H v d := by
  induction r with
  | nil => intro i k d e; simp at e
  | @cons b u v k0 d0 xs ds r q1 q2 t ih =>
    intro i k d e
    cases i with
    | zero =>
      simp at e
      obtain ⟨rfl, rfl⟩ := e
      exact ⟨b, u, v, by simp, r, q1, q2⟩
    | succ i => simpa using ih (i := i) (k := k) (d := d) (by simpa using e)
theorem KdR.len {xs : List (NestedKey × Addr × Value)} {kvs : List (D × D)} (r : KdR K ρ H xs kvs) : xs.length = kvs.length := by
  induction r with
  | nil => rfl
  | cons _ _ _ _ ih => simp [ih]
end
/-! ### the turns -/
end Jv
end
section
/-! isinstance(d, T), d a dict with tuple keys -/
namespace Jv
open PySem PySem.Spec L2 PyProof.Rows PySem.W
end Jv
end
section
/-! == of dicts with tuple keys -/
namespace Jv
open PySem PySem.Spec L2 PyProof.Rows PySem.W PySem.SeqAt
end Jv
end
section
/-! x(lambda: ..), x a def that calls it in a try with any number of clauses, behind a first statement -/
namespace Jv
open PySem PySem.Spec L2 PyProof.Rows PySem.W
/-! ### a try with several clauses; the exceptions are objects of ours -/
/-! ### .. by denotations -/
/-! ### what a def makes of the call of what it got -/
/-! ### the try's statement -/
end Jv
end
section
/-! repr of trees with lists and empty dicts, of dicts with tuple keys -/
namespace Jv
open PySem PySem.Spec L2 PyProof.Rows PySem.W
end Jv
end
section
/-! what is looked at behind the top: as in hookX, and the statics, the modules -/
namespace Jv
open PySem PySem.Spec L2 PyProof.Rows PySem.W He
def asZ (g : Addr → Option Obj) (n : Nat) : List Addr := asD g n ++ [cStatics, sysModules]
def obsZ (n : Nat) (fa : List Fa) (fn : List DefD) (tf : List Defn) (ex : PySem.W.Frag → Bool) (g : Addr → Option Obj) : AlX :=
  (obsT fa fn [] (frT g (asZ g n)), ex (frT g (asZ g n)) && tabsB g tf (frT g (asZ g n)))
theorem saysZ_of {n : Nat} {fa : List Fa} {fn : List DefD} {tf : List Defn} {ex : PySem.W.Frag → Bool} {w : World} {h : Heap} (e : obsZ n fa fn tf ex h.get? = valX fn [] w) : SaysX fa fn [] tf ex w h (frT h.get? (asZ h.get? n)) := by
  have e1 : obsT fa fn [] (frT h.get? (asZ h.get? n)) = valT fn [] w := congrArg (fun z : AlX => z.1) e
  have e2 : (ex (frT h.get? (asZ h.get? n)) && tabsB h.get? tf (frT h.get? (asZ h.get? n))) = true := congrArg (fun z : AlX => z.2) e
  have out : ∀ (b : Addr) (o : Obj), h.get? b = some o → emptyTab o = true → (frT h.get? (asZ h.get? n)).lookup b = none := fun b o a c => frT_none a c
  generalize frT h.get? (asZ h.get? n) = K at e1 e2 out ⊢
  have tab : ∀ p ∈ tf, codeHdIn K (cT K p).1 (cT K p).2 = true ∧ ∃ o, h.get? (cT K p).2 = some o ∧ emptyTab o = true := fun p hp => by
    have q := List.all_eq_true.mp (Bool.and_eq_true_iff.mp e2).2 p hp
    rw [Bool.and_eq_true] at q
    refine ⟨q.1, ?_⟩
    have q2 := q.2
    split at q2
    · exact ⟨_, by assumption, q2⟩
    · cases q2
  have none_ : ∀ p ∈ tf, K.lookup (cT K p).2 = none := fun p hp => by
    obtain ⟨o, a, b⟩ := (tab p hp).2
    exact out _ o a b
  refine { t := e1, more := (Bool.and_eq_true_iff.mp e2).1, hd := fun p hp => (tab p hp).1, out := none_, empty := fun p hp => ?_ }
  obtain ⟨o, a, b⟩ := (tab p hp).2
  exact a.trans (congrArg some (emptyTab_eq b))
end Jv
end
section
/-! {k: v, j: u}, the keys nested tuples -/
namespace Jv
open PySem PySem.Spec L2 PyProof.Rows PySem.W
end Jv
end
section
/-! d["x"] = .., d a dict with tuple keys: nobody looks at it from now on -/
namespace Jv
open PySem PySem.Spec L2 PyProof.Rows PySem.W
end Jv
end
section
/-! == of any tuple, any list, with an empty one -/
namespace Jv
open PySem PySem.Spec L2 PyProof.Rows PySem.W
def eq0 : O2
  | _, .v (.tup xs), .v (.tup []) => some (.bl xs.isEmpty)
  | _, .v (.lst xs), .v (.lst []) => some (.bl xs.isEmpty)
  | _, _, _ => none
section
variable {X : Cx}
theorem op_eq0 (hu : X.A.units + 64 < cLine) : OpR X (compareOp .Eq) (rOf X.kw eq0) := by
  intro pins s σ H x y v u Q I rx ry h
  obtain ⟨ρ, st, d1, d2, d, rs, r1, r2, e, q⟩ := h
  unfold eq0 at e
  split at e
  · rename_i xs
    cases e
    cases r1 with | v r1 =>
    cases r2 with | v r2 =>
    cases r1 with
    | tup h1 n1 a1 =>
    cases r2 with
    | tup h2 n2 a2 =>
    cases a2
    cases rx
    cases ry
    obtain ⟨its, rv, p, _⟩ := I.tuple (.inl h1)
    obtain ⟨its2, rv2, p2, _⟩ := I.tuple (.inl h2)
    cases rv2
    have e1 : its.length = xs.length := by rw [← rv.length, a1.length]
    refine PySem.SeqAt.eq_tupleAt (e := fun _ => true) p p2 (by omega) (fun j _ h => absurd h (Nat.not_lt_zero _)) ⟨.bl _, H, I, ?_, q H _ (.refl _) (.bl _)⟩
    show Value.bool _ = Value.bool _
    congr 1
    cases xs with
    | nil =>
      have : its = [] := List.length_eq_zero_iff.mp (by simpa using e1)
      subst this
      rfl
    | cons a b =>
      cases its with
      | nil => simp at e1
      | cons c d => simp
  · rename_i xs
    cases e
    cases r1 with | v r1 =>
    cases r2 with | v r2 =>
    cases r1 with
    | lst h1 a1 =>
    cases r2 with
    | lst h2 a2 =>
    cases a2
    cases rx
    cases ry
    obtain ⟨its, rv, ⟨o, n, ho, hc, _, hd⟩, _⟩ := I.list h1.sql
    obtain ⟨its2, rv2, ⟨o2, n2, ho2, hc2, _, hd2⟩, _⟩ := I.list h2.sql
    cases rv2
    have e1 : its.length = xs.length := by rw [← rv.length, a1.length]
    cases xs with
    | nil =>
      have : its = [] := List.length_eq_zero_iff.mp (by simpa using e1)
      subst this
      exact PySem.SeqAt.eq_listAt (e := fun _ => true) ⟨o, ho, hc, n, hd⟩ ⟨o2, ho2, hc2, n2, hd2⟩ rfl (by omega) (fun j _ h => absurd h (Nat.not_lt_zero _)) ⟨.bl _, H, I, rfl, q H _ (.refl _) (.bl _)⟩
    | cons a b =>
      refine PySem.SeqAt.eq_list_lengthsAt ⟨o, ho, hc, n, hd⟩ ⟨o2, ho2, hc2, n2, hd2⟩ ?_ (by omega) ⟨.bl _, H, I, rfl, q H _ (.refl _) (.bl _)⟩
      cases its with
      | nil => simp at e1
      | cons c d => simp
  · cases e
abbrev eqD0 : O2 := orO eqD eq0
theorem op_eqD0 (hu : X.A.units + 64 < cLine) : OpR X (compareOp .Eq) (rOf X.kw eqD0) := OpR.or (op_eqDD hu) (op_eq0 hu)
end
end Jv
end
section
/-! l[::-1], l a list -/
namespace Jv
open PySem PySem.Spec L2 PyProof.Rows PySem.W
end Jv
end
section
/-! instances of an own class: fields, methods, properties, len, in -/
namespace Jv
open PySem PySem.Spec L2 PyProof.Rows
theorem RlI.length {K : KW} {ρ : Rho} {H : Hp} {L : List (Str × V)} {ds : List (Str × W)} (h : RlI K ρ H L ds) : L.length = ds.length := by
  induction h with
  | nil => rfl
  | cons _ _ ih => simp [ih]
theorem RlI.look {K : KW} {ρ : Rho} {H : Hp} {L : List (Str × V)} {ds : List (Str × W)} {f : Str} {w : W} (h : RlI K ρ H L ds) (e : ds.lookup f = some w) : ∃ v, L.lookup f = some v ∧ Rw K ρ H v w := by
  induction h with
  | nil => cases e
  | @cons k v d kvs ds r _ ih =>
    rw [List.lookup_cons] at e ⊢
    cases q : f == k with
    | true => rw [q] at e; cases e; exact ⟨v, rfl, r⟩
    | false => rw [q] at e; exact ih e
theorem RlI.lookN {K : KW} {ρ : Rho} {H : Hp} {L : List (Str × V)} {ds : List (Str × W)} {f : Str} (h : RlI K ρ H L ds) (e : ds.lookup f = none) : L.lookup f = none := by
  induction h with
  | nil => rfl
  | @cons k v d kvs ds r _ ih =>
    rw [List.lookup_cons] at e ⊢
    cases q : f == k with
    | true => rw [q] at e; cases e
    | false => rw [q] at e; exact ih e
def putI (f : Str) (w : W) : List (Str × W) → List (Str × W)
  | [] => [(f, w)]
  | (g, x) :: r => if g = f then (g, w) :: r else (g, x) :: putI f w r
theorem RlI.put {K : KW} {ρ : Rho} {H : Hp} {L : List (Str × V)} {ds : List (Str × W)} {f : Str} {v : V} {w : W} (h : RlI K ρ H L ds) (r : Rw K ρ H v w) : RlI K ρ H (putF f v L) (putI f w ds) := by
  induction h with
  | nil => exact .cons r .nil
  | @cons k v d kvs ds r' t ih =>
    unfold putF putI
    by_cases q : k = f
    · rw [if_pos q, if_pos q]; exact .cons r t
    · rw [if_neg q, if_neg q]; exact .cons r' ih
def W.undB (n : Nat) : W → Bool
  | .v _ => true
  | .r l => decide (l < n)
theorem W.undB_ok {n : Nat} {w : W} (h : w.undB n = true) : W.under n w := by
  cases w with
  | v _ => trivial
  | r l =>
    have h' : decide (l < n) = true := h
    have : l < n := of_decide_eq_true h'
    exact this
theorem under_put {n : Nat} {f : Str} {w : W} (hw : W.under n w) : ∀ {ds : List (Str × W)}, (∀ p ∈ ds, W.under n p.2) → ∀ p ∈ putI f w ds, W.under n p.2
  | [], _, p, hp => by
    simp only [putI, List.mem_singleton] at hp
    subst hp; exact hw
  | (g, x) :: r, h, p, hp => by
    unfold putI at hp
    split at hp
    · rcases List.mem_cons.mp hp with rfl | hp
      · exact hw
      · exact h p (List.mem_cons_of_mem _ hp)
    · rcases List.mem_cons.mp hp with rfl | hp
      · exact h _ List.mem_cons_self
      · exact under_put hw (fun q hq => h q (List.mem_cons_of_mem _ hq)) p hp
/-- the fields of an instance of n -/
def insF (n : Str) (st : Sto) : W → Option (List (Str × W))
  | .r l => match st[l]? with
    | some (.ins n' fs) => if n' = n then some fs else none
    | _ => none
  | .v _ => none
theorem ins_of {K : KW} {ρ : Rho} {H : Hp} {st : Sto} {n : Str} {w : W} {x : V} {fs : List (Str × W)} {C : Addr} (s : RelSt K ρ H st) (r : Rw K ρ H x w) (e : insF n st w = some fs) (hm : K.mg n = some (.ref C)) :
    ∃ (l : Nat) (a dx : Addr) (vs : List (Str × V)), w = .r l ∧ x = .ref a ∧ ρ.lc[l]? = some (some a) ∧ st[l]? = some (.ins n fs) ∧ H a = some (.ins C dx vs) ∧ RlI K ρ H vs fs := by
  cases w with
  | v d => cases e
  | r l =>
    simp only [insF] at e
    split at e
    · rename_i n' fs' el
      split at e
      · rename_i q
        cases e
        subst q
        rcases s.obj l _ el with ⟨z, _⟩ | ⟨p, hp, C', dx, vs, h1, h2, h3⟩
        · cases z
        · cases r with | r hl hv =>
          rw [hm] at h2
          cases h2
          exact ⟨l, p, dx, vs, rfl, hv p hp, hp, el, h1, h3⟩
      · cases e
    · cases e
/-- a class of the text: its name, names that none of its classes has -/
structure ClsI (K : PySem.W.Frag) (mg : Str → Option Value) (n : Str) (as : List Str) : Prop where
  ex : ∃ C : Addr, mg n = some (.ref C) ∧ Cls K C ∧ ∀ f ∈ as, NoAttr K C f
/-! ### e.f -/
def fldI (n f : Str) (w : W) (st : Sto) : R W := match insF n st w with
  | some fs => match fs.lookup f with
    | some w => .ok w st
    | none => .bad
  | none => .bad
def eFldI (n f : Str) (fe : ED) : ED := fun env st => (fe env st).bind fun w st => fldI n f w st
/-! ### e.f = v -/
def putFI (n f : Str) (v w : W) (env : Env) (st : Sto) : Fl := match insF n st w, w with
  | some fs, .r l => if v.undB l && decide (fs.length < 1000) then .nx env (st.set l (.ins n (putI f v fs))) else .bad
  | _, _ => .bad
def sFldI (n f : Str) (fo fv : ED) : SD := fun env st => (fv env st).thenS env fun v st => (fo env st).thenS env fun w st => putFI n f v w env st
section
variable {X : Cx} {ct : Nat → Value} {E : St → XK} {o e v : Expr} {es : List Expr} {fe fo fv : ED} {n f : Str} {as : List Str} {pos pos' : Pos}
theorem de_fldI (C : ClsI X.K X.mg n as) (hf : f ∈ as) (he : PE X e (tE X.kw ct E fe)) (hb : attributeBase e f X.env (eval e X.env) = eval e X.env := by rfl) : PE X (.Attribute e f pos) (tE X.kw ct E (eFldI n f fe)) := by
  obtain ⟨C, hm, hc, ha⟩ := C.ex
  refine PE.of (pe_fld he hb) fun σ H Q h => ?_
  refine (tG.bind (rel := Rw) (k := fun w env st => fldI n f w st) h).mono fun x H1 ⟨ρ1, st1, env, w, a1, r1, q1⟩ => ?_
  unfold fldI at q1
  split at q1
  · rename_i fs ef
    split at q1
    · rename_i w' el
      obtain ⟨l, a, dx, vs, rfl, rfl, hl, es, h1, h2⟩ := ins_of a1.1 r1 ef hm
      obtain ⟨v', e1, rv⟩ := h2.look el
      exact ⟨a, C, dx, vs, v', rfl, h1, hc, ha f hf, e1, q1.here a1.1 rv⟩
    · exact q1.elim
  · exact q1.elim
theorem ds_fldI (C : ClsI X.K X.mg n as) (hf : f ∈ as) (ho : PE X o (tE X.kw ct E fo)) (hv : PE X v (tE X.kw ct E fv)) (hs : swapsWith v (some (.Attribute o f pos')) pos.line X.env = pure false := by rfl) :
    PS X (.Assign [.Attribute o f pos'] v pos) (tS X.kw ct E (sFldI n f fo fv)) := by
  obtain ⟨C, hm, hc, ha⟩ := C.ex
  refine PS.of (ps_fld ho hv hs) fun D σ H ⟨ρ, st, env, a, h⟩ => ?_
  refine ⟨ρ, st, env, a, (okS.first (rel := Rw) h a.2).mono fun v1 H1 ⟨ρ1, st1, w1, a1, g1, r1, q1⟩ => ?_⟩
  refine ⟨ρ1, st1, env, a1, (okS.first (rel := Rw) q1 a1.2).mono fun v2 H2 ⟨ρ2, st2, w2, a2, g2, r2, q2⟩ => ?_⟩
  unfold putFI at q2
  split at q2
  · rename_i fs l ef
    split at q2
    · rename_i hc2
      rw [Bool.and_eq_true, decide_eq_true_eq] at hc2
      obtain ⟨l', a', dx, vs, e0, rfl, hl, es, h1, h2⟩ := ins_of a2.1 r2 ef hm
      cases e0
      have gw : Grow ρ2 H2 ρ2 (upd H2 a' (.ins C dx (putF f v1 vs))) := .write hl
      have r1' := (r1.grow g2).grow gw
      have u : (Ob.ins n (putI f w1 fs)).under l := under_put (W.undB_ok hc2.1) (a2.1.ord l _ es)
      have s' := a2.1.write hl (ob := .ins n (putI f w1 fs)) (o := .ins C dx (putF f v1 vs)) ⟨C, dx, _, upd_same, hm, (h2.mono fun _ _ z => z.grow gw).put r1'⟩ u
      refine ⟨a', C, dx, vs, rfl, h1, hc, ha f hf, by rw [h2.length]; exact hc2.2, ?_⟩
      exact q2 ρ2 _ σ gw ⟨s', a2.2.grow gw⟩
    · exact q2.elim
  · exact q2.elim
end
end Jv
end
section
/-! instances of an own class: methods, making, properties, len, in -/
namespace Jv
open PySem PySem.Spec L2 PyProof.Rows
theorem in1_guards {A : Around} (h : A.guards = some []) : A.in1.guards = some [] := by
  first | exact h | (simp [Around.in1]; exact h)
theorem make_guards {A : Around} {C : Addr} {us : List Value} {kw : List (Str × Value)} (h : A.guards = some []) : (A.under (.builtin "type.__call__" ⟨.ref C :: us, kw⟩)).guards = some [] := by
  first | exact h | (simp [Around.under, Code.isGuard, guardIds]; exact h)
/-- a method (also a special one) of a class of the text -/
structure MetI (P : Program) (w : World) (K : PySem.W.Frag) (mg : Str → Option Value) (base : Heap) (CX : CXT) (ct : Nat → Value) (cn m : Str) (n k : Nat) (run : List W → Sto → R W) : Prop where
  ex : ∃ (C f : Addr) (fd : FuncData) (ps : List Str), FnG P w K mg base CX k f fd ps (spG ⟨K, w, mg⟩ ct n run) ∧ Binds K fd ps [] ∧ mg cn = some (.ref C) ∧ Cls K C ∧ Meth K C m f
/-- a class of the text that is called -/
structure MakI (P : Program) (w : World) (K : PySem.W.Frag) (mg : Str → Option Value) (base : Heap) (CX : CXT) (ct : Nat → Value) (cn : Str) (n k : Nat) (run : List W → Sto → R W) : Prop where
  ex : ∃ (C f : Addr) (fd : FuncData) (ps : List Str), FnG P w K mg base CX k f fd ps (spG ⟨K, w, mg⟩ ct n run) ∧ Binds K fd ps [] ∧ mg cn = some (.ref C) ∧ Mk K C f
/-- a property of a class of the text -/
structure PrpI (P : Program) (w : World) (K : PySem.W.Frag) (mg : Str → Option Value) (base : Heap) (ct : Nat → Value) (cn f : Str) (k : Nat) (run : List W → Sto → R W) : Prop where
  ex : ∃ (C p g : Addr) (fd : FuncData) (ps : List Str), FnG P w K mg base CX0 k g fd ps (spG ⟨K, w, mg⟩ ct 1 run) ∧ Binds K fd ps [] ∧ mg cn = some (.ref C) ∧ Cls K C ∧ PropOf K C f p g
section
variable {X : Cx} {ct : Nat → Value} {E : St → XK} {CX : CXT} {k : Nat} {f C a dx : Addr} {fd : FuncData} {ps : List Str} {sp : Sp} {m cn : Str} {apos pos : Pos} {e o : Expr} {es : List Expr} {ta : TE} {t : TA}
def tMethG (C : Addr) (m : Str) (sp : Sp) (E : St → XK) (ta : TE) (t : TA) : TE := fun σ H Q => ta σ H fun x H1 => ∃ a dx fs, x = .ref a ∧ H1 a = some (.ins C dx fs) ∧ fs.lookup m = none ∧ t σ H1 fun vs H2 => sp (x :: vs) H2 Q (E σ)
theorem pe_methG {pl : Sem Bool} (he : PE X o ta) (c : Cls X.K C) (hm : Meth X.K C m f) (F : FnG X.prog X.w X.K X.mg X.base CX k f fd ps sp) (gd : X.A.guards = some []) (hr : Room k X.A) (hb : Binds X.K fd ps []) (hx : ∀ σ, PassesAt CX X σ (E σ)) (ha : PA X (e :: es) t)
    (hst : starEach (e :: es) X.env = (false, eval e X.env) :: starEach es X.env) (hpl : (backTo pos (starEach es X.env)).any (·.1) = false)
    (ht : eval (.Call (.Attribute o m apos) (e :: es) [] pos) X.env = (do
      let ov ← eval o X.env
      standAt apos.atName
      let (f, first) ← holding [ov] (getMethod ov m pl)
      callWith pos f first (backTo pos (starEach (e :: es) X.env)) (backToKw pos (keywordEach [] X.env)))) :
    PE X (.Call (.Attribute o m apos) (e :: es) [] pos) (tMethG C m sp E ta t) := by
  refine ⟨fun pins s σ H Q I h => ?_⟩
  refine PySem.W.methodCall_KW (pl := pl) (thn (he.run pins s σ H _ I h) fun u s1 ⟨x, H1, I1, rx, a, dx, fs, ex, ea, l, q⟩ => ?_) ht
  subst ex
  obtain rfl : u = Value.ref a := rx
  refine getmeth_ok I1 ea c hm l ?_
  refine PySem.W.callWith_K (first := [.ref a]) (h₀ := X.base) I.ok.mod.kin hm.kp (thn (ha.run pos pins s1 σ H1 _ I1 q) fun us s2 ⟨vs, H2, I2, r, q2⟩ => ⟨I2.kIn, ?_⟩) hst hpl
  exact run_g (us := .ref a :: us) (vs := .ref a :: vs) F gd hr hb (hx σ) I2 (.cons rfl r) q2
theorem pe_methG0 {pl : Sem Bool} (he : PE X o ta) (c : Cls X.K C) (hm : Meth X.K C m f) (F : FnG X.prog X.w X.K X.mg X.base CX k f fd ps sp) (gd : X.A.guards = some []) (hr : Room k X.A) (hb : Binds X.K fd ps []) (hx : ∀ σ, PassesAt CX X σ (E σ))
    (ht : eval (.Call (.Attribute o m apos) [] [] pos) X.env = (do
      let ov ← eval o X.env
      standAt apos.atName
      let (f, first) ← holding [ov] (getMethod ov m pl)
      callWith pos f first (backTo pos (starEach [] X.env)) (backToKw pos (keywordEach [] X.env)))) :
    PE X (.Call (.Attribute o m apos) [] [] pos) (tMethG C m sp E ta tNil) := by
  refine ⟨fun pins s σ H Q I h => ?_⟩
  refine PySem.W.methodCall_KW (pl := pl) (thn (he.run pins s σ H _ I h) fun u s1 ⟨x, H1, I1, rx, a, dx, fs, ex, ea, l, q⟩ => ?_) ht
  subst ex
  obtain rfl : u = Value.ref a := rx
  refine getmeth_ok I1 ea c hm l ?_
  exact PySem.W.callWith_K0 (first := [.ref a]) I1.kIn hm.kp (run_g (us := [.ref a]) (vs := [.ref a]) F gd hr hb (hx σ) I1 (.cons rfl .nil) q)
/-! o.m(..) -/
def eMetI (cn m : Str) (run : List W → Sto → R W) (fo : ED) (g : AD) : ED := fun env st => (fo env st).bind fun w st => match insF cn st w with
  | some fs => if (fs.lookup m).isNone then (g env st).bind fun ws st => run (w :: ws) st else .bad
  | none => .bad
theorem met_read {K : KW} {n : Nat} {run : List W → Sto → R W} {fo : ED} {g : AD} {σ : St} {H : Hp} {Q : VK} (hm : K.mg cn = some (.ref C)) (hn : ∀ env st ws st', g env st = .ok ws st' → ws.length + 1 = n) (h : tE K ct E (eMetI cn m run fo g) σ H Q) : tMethG C m (spG K ct n run) E (tE K ct E fo) (tA K ct E g) σ H Q := by
  refine (tG.bind (rel := Rw) (k := fun w env st => match insF cn st w with
    | some fs => if (fs.lookup m).isNone then (g env st).bind fun ws st => run (w :: ws) st else .bad
    | none => .bad) h).mono fun x H1 ⟨ρ1, st1, env, w, a1, r1, q1⟩ => ?_
  cases ef : insF cn st1 w with
  | none => rw [ef] at q1; exact q1.elim
  | some fs =>
    rw [ef] at q1
    simp only at q1
    split at q1
    · rename_i hl
      obtain ⟨l, a, dx, vs, rfl, rfl, hlc, es, h1, h2⟩ := ins_of a1.1 r1 ef hm
      refine ⟨a, dx, vs, rfl, h1, h2.lookN (Option.isNone_iff_eq_none.mp hl), ρ1, st1, env, a1, ?_⟩
      cases eg : g env st1 with
      | ok ws st2 =>
        rw [eg] at q1
        exact fun ρ2 H2 us gr s r => ⟨ρ2, st2, .r l :: ws, s, .cons (r1.grow gr) r, by simp [r.length, hn _ _ _ _ eg], okG.grow gr q1⟩
      | exc x st' => rw [eg] at q1; exact q1
      | bad => rw [eg] at q1; exact q1.elim
    · exact q1.elim
theorem de_metI {pl : Sem Bool} {n : Nat} {run : List W → Sto → R W} {fo : ED} {g : AD} (M : MetI X.prog X.w X.K X.mg X.base CX ct cn m n k run) (gd : X.A.guards = some []) (hr : Room k X.A) (hx : ∀ σ, PassesAt CX X σ (E σ)) (hn : ∀ env st ws st', g env st = .ok ws st' → ws.length + 1 = n)
    (ho : PE X o (tE X.kw ct E fo)) (ha : PA X (e :: es) (tA X.kw ct E g))
    (hst : starEach (e :: es) X.env = (false, eval e X.env) :: starEach es X.env := by rfl) (hpl : (backTo pos (starEach es X.env)).any (·.1) = false := by rfl)
    (ht : eval (.Call (.Attribute o m apos) (e :: es) [] pos) X.env = (do
      let ov ← eval o X.env
      standAt apos.atName
      let (f, first) ← holding [ov] (getMethod ov m pl)
      callWith pos f first (backTo pos (starEach (e :: es) X.env)) (backToKw pos (keywordEach [] X.env))) := by rfl) :
    PE X (.Call (.Attribute o m apos) (e :: es) [] pos) (tE X.kw ct E (eMetI cn m run fo g)) := by
  obtain ⟨C, f, fd, ps, G, b, hm, c, mt⟩ := M.ex
  exact PE.of (pe_methG (pl := pl) ho c mt G gd hr b hx ha hst hpl ht) fun σ H Q h => met_read hm hn h
theorem de_metI0 {pl : Sem Bool} {run : List W → Sto → R W} {fo : ED} (M : MetI X.prog X.w X.K X.mg X.base CX ct cn m 1 k run) (gd : X.A.guards = some []) (hr : Room k X.A) (hx : ∀ σ, PassesAt CX X σ (E σ))
    (ho : PE X o (tE X.kw ct E fo))
    (ht : eval (.Call (.Attribute o m apos) [] [] pos) X.env = (do
      let ov ← eval o X.env
      standAt apos.atName
      let (f, first) ← holding [ov] (getMethod ov m pl)
      callWith pos f first (backTo pos (starEach [] X.env)) (backToKw pos (keywordEach [] X.env))) := by rfl) :
    PE X (.Call (.Attribute o m apos) [] [] pos) (tE X.kw ct E (eMetI cn m run fo aNil)) := by
  obtain ⟨C, f, fd, ps, G, b, hm, c, mt⟩ := M.ex
  refine PE.of (pe_methG0 (pl := pl) ho c mt G gd hr b hx ht) fun σ H Q h => ?_
  refine (met_read (g := aNil) hm (fun env st ws st' e => by rw [aNil_len _ _ _ _ e]) h).mono fun x H1 q => ?_
  obtain ⟨a, dx, fs, e1, e2, e3, ρ, st, env, a4, q⟩ := q
  exact ⟨a, dx, fs, e1, e2, e3, q ρ H1 [] (.refl _ _) a4.1 .nil⟩
end
end Jv
end
section
/-! instances of an own class: making, properties, len, in -/
namespace Jv
open PySem PySem.Spec L2 PyProof.Rows
section
variable {X : Cx} {ct : Nat → Value} {E : St → XK} {CX : CXT} {k : Nat} {f C a dx p g : Addr} {fd : FuncData} {ps : List Str} {sp : Sp} {m cn x : Str} {np apos pos : Pos} {e o : Expr} {es : List Expr} {ta : TE} {t : TA}
/-! ### C(..) -/
def tMakeG (C : Addr) (sp : Sp) (E : St → XK) (t : TA) : TE := fun σ H Q => t σ H fun vs H1 => ∀ x dx, H1 x = none → H1 dx = none → dx ≠ x →
  sp (.ref x :: vs) (upd (upd H1 dx (.own x)) x (.ins C dx [])) (fun v H2 => v = .non ∧ Q (.ref x) H2) (E σ)
theorem run_makeG {pins : List (Addr × Obj)} {σ : St} {H : Hp} {s : Shared} {Q : VK} {us : List Value} {vs : List V} {E : XK} (M : Mk X.K C f) (F : FnG X.prog X.w X.K X.mg X.base CX k f fd ps sp) (gd : X.A.guards = some []) (hr : Room (k + 1) X.A) (hb : Binds X.K fd ps [])
    (hx : ∀ (pins : List (Addr × Obj)) (σ : St) (H : Hp) (s : Shared) (e : Value) (s' : Shared), Inv X pins σ H s → CX X.stack H s E e s' → X.xe e s') (I : Inv X pins σ H s) (r : Vals vs us)
    (h : ∀ x dx, H x = none → H dx = none → dx ≠ x → sp (.ref x :: vs) (upd (upd H dx (.own x)) x (.ins C dx [])) (fun v H2 => v = .non ∧ Q (.ref x) H2) E) :
    wpAny (model X.prog X.w) X.A (call (.ref C) us) (EP X pins σ Q) X.xe s := by
  have hq := h (s.heap.objs.size + 1) s.heap.objs.size (I.hok.fresh (Nat.le_succ _)) (I.hok.fresh (Nat.le_refl _)) (Nat.ne_of_lt (Nat.lt_succ_self _))
  have I2 := Inv.made (C := C) I
  have r2 : Vals (V.ref (s.heap.objs.size + 1) :: vs) (Value.ref (s.heap.objs.size + 1) :: us) := .cons rfl r
  have hl : (Value.ref (s.heap.objs.size + 1) :: us ++ []).length = ps.length := by
    have e := r2.length
    rw [F.len _ _ _ _ hq] at e
    rw [List.append_nil]
    exact e.symm
  have b := hb _ (Value.ref (s.heap.objs.size + 1) :: us) I2.kIn hl
  rw [List.append_nil] at b
  refine wpAny_call (make_map (f := f) I.kIn M.makes M.init (beq_iff_eq.mp M.fn) (codeAny_mono (F.run _ X.stack _ _ ⟨Value.ref (s.heap.objs.size + 1) :: us, []⟩ (Value.ref (s.heap.objs.size + 1) :: us) _ _ E (make_guards gd) (hr.make C us [])
    (I2.env0.make C us []) b r2 hq) fun r s' hq' => ?_))
  cases r with
  | error e => exact hx pins σ _ _ e s' I2 hq'
  | ok fl =>
    cases fl with
    | ret u =>
      obtain ⟨v, H', I3, rv, ev, q3⟩ := I2.after hq'
      subst ev
      exact ⟨rv, ⟨V.ref (s.heap.objs.size + 1), H', I3, rfl, q3⟩⟩
    | next => exact False.elim hq'
    | brk => exact False.elim hq'
    | cont => exact False.elim hq'
theorem pe_makeG (M : Mk X.K C f) (F : FnG X.prog X.w X.K X.mg X.base CX k f fd ps sp) (gd : X.A.guards = some []) (hr : Room (k + 1) X.A) (hg : Gl X x) (hm : X.mg x = some (.ref C)) (hb : Binds X.K fd ps [])
    (hx : ∀ (σ0 : St) (pins : List (Addr × Obj)) (σ : St) (H : Hp) (s : Shared) (e : Value) (s' : Shared), Inv X pins σ H s → CX X.stack H s (E σ0) e s' → X.xe e s')
    (ha : PA X (e :: es) t) (hdb : (x == ("__debug__" : Str)) = false) (he : starEach (e :: es) X.env = (false, eval e X.env) :: starEach es X.env) (hpl : (backTo pos (starEach es X.env)).any (·.1) = false) :
    PE X (.Call (.Name x np) (e :: es) [] pos) (tMakeG C sp E t) := by
  refine ⟨fun pins s σ H Q I h => ?_⟩
  refine wpAny_Call_Name_kw (ld_glob I hg hm ?_ hdb)
  refine PySem.W.callWith_K (h₀ := X.base) I.ok.mod.kin M.kp (thn (ha.run pos pins s σ H _ I h) fun us s1 ⟨vs, H1, I1, r, q⟩ => ⟨I1.kIn, ?_⟩) he hpl
  exact run_makeG M F gd hr hb (hx σ) I1 r q
def eMakI (cn : Str) (run : List W → Sto → R W) (g : AD) : ED := fun env st => (g env st).bind fun ws st => (run (.r st.length :: ws) (st ++ [.ins cn []])).bind fun w st2 => match w with
  | .v .non => .ok (.r st.length) st2
  | _ => .bad
theorem sto_new {K : KW} {ρ : Rho} {H : Hp} {st : Sto} {x dx : Addr} {n : Str} (hm : K.mg n = some (.ref C)) (s : RelSt K ρ H st) (hx : H x = none) (hd : H dx = none) (ne : dx ≠ x) :
    Grow ρ H ⟨ρ.lc ++ [some x], ρ.hid⟩ (upd (upd H dx (.own x)) x (.ins C dx [])) ∧ RelSt K ⟨ρ.lc ++ [some x], ρ.hid⟩ (upd (upd H dx (.own x)) x (.ins C dx [])) (st ++ [.ins n []]) := by
  have nx : some x ∉ ρ.lc := fun z => s.fresh hx (.inl z)
  have keep : ∀ a o, H a = some o → (upd (upd H dx (.own x)) x (.ins C dx [])) a = some o := fun a o h => by
    rw [upd_ne (ne_of_none h hx), upd_ne (ne_of_none h hd)]; exact h
  have g : Grow ρ H ⟨ρ.lc ++ [some x], ρ.hid⟩ (upd (upd H dx (.own x)) x (.ins C dx [])) := by
    refine ⟨by simp, rfl, fun l a hl e => ?_, fun a o h n => ⟨keep a o h, fun z => ?_⟩⟩
    · rw [List.getElem?_append_left hl] at e; exact e
    · rcases List.mem_append.mp z with z | z
      · exact n z
      · simp only [List.mem_singleton, Option.some.injEq] at z
        subst z; rw [hx] at h; cases h
  refine ⟨g, ?_⟩
  have old : ∀ (l : Nat) (b : Addr), (ρ.lc ++ [some x])[l]? = some (some b) → (l < ρ.lc.length ∧ ρ.lc[l]? = some (some b)) ∨ (l = ρ.lc.length ∧ b = x) := fun l b e => by
    by_cases hl : l < ρ.lc.length
    · rw [List.getElem?_append_left hl] at e; exact .inl ⟨hl, e⟩
    · rw [List.getElem?_append_right (by omega)] at e
      have h0 : l - ρ.lc.length = 0 := by
        have := (List.getElem?_eq_some_iff.mp e).1
        simp at this; omega
      rw [h0] at e
      simp at e
      exact .inr ⟨by omega, e.symm⟩
  refine ⟨by simp [s.len], fun l l' a e1 e2 => ?_, fun l ob e => ?_, fun a h => let ⟨o, q⟩ := s.hidt a h; ⟨o, keep _ _ q⟩, fun a h z => ?_, fun l ob e => ?_⟩
  · rcases old l a e1 with ⟨h1, q1⟩ | ⟨h1, rfl⟩ <;> rcases old l' a e2 with ⟨h2, q2⟩ | ⟨h2, h3⟩
    · exact s.inj l l' a q1 q2
    · subst h3; exact absurd (List.mem_of_getElem? q1) nx
    · exact absurd (List.mem_of_getElem? q2) nx
    · omega
  · by_cases hl : l < st.length
    · rw [List.getElem?_append_left hl] at e
      have hl' : l < ρ.lc.length := by rw [s.len]; exact hl
      rcases s.obj l ob e with ⟨z, q⟩ | ⟨b, q, o⟩
      · exact .inl ⟨z, by simp only; rw [List.getElem?_append_left hl']; exact q⟩
      · exact .inr ⟨b, by simp only; rw [List.getElem?_append_left hl']; exact q, o.mono (fun _ z => keep _ _ z) (fun _ _ z => z.grow g) fun _ _ z => z.grow g⟩
    · rw [List.getElem?_append_right (by omega)] at e
      have h0 : l - st.length = 0 := by
        have := (List.getElem?_eq_some_iff.mp e).1
        simp at this; omega
      rw [h0] at e
      simp at e
      subst e
      have hl : l = ρ.lc.length := by rw [s.len]; omega
      exact .inr ⟨x, by simp only; rw [hl]; simp, C, dx, [], upd_same, hm, .nil⟩
  · rcases List.mem_append.mp h with h | h
    · exact s.apart a h z
    · simp only [List.mem_singleton, Option.some.injEq] at h
      subst h
      obtain ⟨o, q⟩ := s.hidt _ z
      rw [hx] at q; cases q
  · by_cases hl : l < st.length
    · rw [List.getElem?_append_left hl] at e
      exact s.ord l ob e
    · rw [List.getElem?_append_right (by omega)] at e
      have h0 : l - st.length = 0 := by
        have := (List.getElem?_eq_some_iff.mp e).1
        simp at this; omega
      rw [h0] at e
      simp at e
      subst e
      exact fun p hp => nomatch hp
theorem mak_read {K : KW} {n : Nat} {run : List W → Sto → R W} {g : AD} {σ : St} {H : Hp} {Q : VK} (hm : K.mg cn = some (.ref C)) (hn : ∀ env st ws st', g env st = .ok ws st' → ws.length + 1 = n) (h : tE K ct E (eMakI cn run g) σ H Q) : tMakeG C (spG K ct n run) E (tA K ct E g) σ H Q := by
  obtain ⟨ρ, st, env, a, h⟩ := h
  refine ⟨ρ, st, env, a, ?_⟩
  unfold eMakI at h
  cases eg : g env st with
  | ok ws st1 =>
    rw [eg] at h
    simp only [R.bind_ok] at h
    intro ρ1 H1 vs gr s r x dx hx hd ne
    obtain ⟨g2, s2⟩ := sto_new hm s hx hd ne
    refine ⟨_, _, .r st1.length :: ws, s2, .cons (.r (by simp [s.len]) fun b e => ?_) (r.grow g2), by simp [r.length, hn _ _ _ _ eg], ?_⟩
    · simp only at e
      rw [← s.len] at e
      simp at e
      rw [e]
    · cases er : run (.r st1.length :: ws) (st1 ++ [.ins cn []]) with
      | ok w st2 =>
        rw [er] at h
        simp only [R.bind_ok] at h
        intro ρ3 H3 v g3 s3 r3
        cases w with
        | r _ => exact h.elim
        | v d =>
          cases d <;> first | exact h.elim | skip
          cases r3 with | v r3 =>
          cases r3
          refine ⟨rfl, h ρ3 H3 (.ref x) ((gr.trans g2).trans g3) s3 (.r ?_ fun b e => ?_)⟩
          · have := g3.len
            simp at this
            rw [← s.len]; omega
          · have e1 := g3.ref st1.length b (by simp [s.len]) e
            simp only at e1
            rw [← s.len] at e1
            simp at e1
            rw [e1]
      | exc y st' => rw [er] at h; exact fun ρ' H' cv od g' s' r' => h ρ' H' cv od ((gr.trans g2).trans g') s' r'
      | bad => rw [er] at h; exact h.elim
  | exc x st' => rw [eg] at h; exact h
  | bad => rw [eg] at h; exact h.elim
theorem de_makI {n : Nat} {run : List W → Sto → R W} {g : AD} (M : MakI X.prog X.w X.K X.mg X.base CX ct cn n k run) (gd : X.A.guards = some []) (hr : Room (k + 1) X.A)
    (hx : ∀ (σ0 : St) (pins : List (Addr × Obj)) (σ : St) (H : Hp) (s : Shared) (e : Value) (s' : Shared), Inv X pins σ H s → CX X.stack H s (E σ0) e s' → X.xe e s') (hg : Gl X cn) (hn : ∀ env st ws st', g env st = .ok ws st' → ws.length + 1 = n)
    (ha : PA X (e :: es) (tA X.kw ct E g)) (hdb : (cn == ("__debug__" : Str)) = false := by decide) (he : starEach (e :: es) X.env = (false, eval e X.env) :: starEach es X.env := by rfl) (hpl : (backTo pos (starEach es X.env)).any (·.1) = false := by rfl) :
    PE X (.Call (.Name cn np) (e :: es) [] pos) (tE X.kw ct E (eMakI cn run g)) := by
  obtain ⟨C, f, fd, ps, G, b, hm, mk⟩ := M.ex
  exact PE.of (pe_makeG mk G gd hr hg hm b hx ha hdb he hpl) fun σ H Q h => mak_read hm hn h
/-! ### e.f, a property -/
def tPropG (C : Addr) (sp : Sp) (E : St → XK) (ta : TE) : TE := fun σ H Q => ta σ H fun x H1 => ∃ a dx fs, x = .ref a ∧ H1 a = some (.ins C dx fs) ∧ sp [.ref a] H1 Q (E σ)
theorem getpropG {pins : List (Addr × Obj)} {σ : St} {H : Hp} {s : Shared} {Q : VK} {b : Bool} {E : XK} {E' : Value → Shared → Prop} {fs : List (Str × V)} (I : Inv X pins σ H s) (ea : H a = some (.ins C dx fs)) (c : Cls X.K C) (hp : PropOf X.K C m p g)
    (F : FnG X.prog X.w X.K X.mg X.base CX0 k g fd ps sp) (gd : X.A.guards = some []) (hr : Room (k + 1) X.A) (hb : Binds X.K fd ps []) (h : sp [.ref a] H Q E) :
    wpAny (model X.prog X.w) X.A (getAttr (.ref a) m b) (EP X pins σ Q) E' s := by
  obtain ⟨mA, O, _, _, _, _⟩ := ins_get I.hok ea
  obtain ⟨od, J, _⟩ := O.look
  obtain ⟨rest, hrec⟩ := hp.rec_
  have I1 := I.tok (s.toks + 1)
  have hl : ([Value.ref a] ++ []).length = ps.length := by
    rw [← F.len _ _ _ _ h]
    rfl
  have hc : (PySem.W.clsIn X.K C).isSome = true := by
    obtain ⟨cd, hc, _⟩ := PySem.W.any_some c.hd
    rw [hc]
    rfl
  have b1 := hb { s with toks := s.toks + 1 } [.ref a] I1.kIn hl
  rw [List.append_nil] at b1
  refine PySem.W.get_bind I.kIn J (PySem.W.plainGet_of (c.get m)).1 (PySem.W.findObj_data hc hp.at_ hp.get hp.tak) (PySem.W.plainGet_of (c.get m)).2 (wpAny_call (PySem.W.prop_get (s := { s with toks := s.toks + 1 }) I.kIn hrec ?_))
  refine codeAny_mono (F.run X.A.in1 X.stack { s with toks := s.toks + 1 } H ⟨[.ref a], []⟩ [.ref a] [.ref a] Q E (in1_guards gd) hr.in1 I1.env0.in1 b1 (.cons rfl .nil) h) fun r s' hq => ?_
  cases r with
  | error er => exact False.elim hq
  | ok fl =>
    cases fl with
    | ret u =>
      obtain ⟨v, H', I3, rv, q3⟩ := I1.after hq
      show wpAny _ _ (handedOut u) _ _ _
      rw [PySem.W.handedOut_of (handed_of rv)]
      exact wpAny_pure ⟨v, H', I3, rv, q3⟩
    | next => exact False.elim hq
    | brk => exact False.elim hq
    | cont => exact False.elim hq
theorem pe_propG (he : PE X e ta) (c : Cls X.K C) (hp : PropOf X.K C m p g) (F : FnG X.prog X.w X.K X.mg X.base CX0 k g fd ps sp) (gd : X.A.guards = some []) (hr : Room (k + 1) X.A) (hb : Binds X.K fd ps [])
    (hab : attributeBase e m X.env (eval e X.env) = eval e X.env) : PE X (.Attribute e m pos) (tPropG C sp E ta) := by
  refine ⟨fun pins s σ H Q I h => ?_⟩
  refine attr_of hab (thn (he.run pins s σ H _ I h) fun u s1 ⟨x, H1, I1, rx, a, dx, fs, ex, ea, q⟩ => ?_)
  subst ex
  obtain rfl : u = Value.ref a := rx
  exact getpropG I1 ea c hp F gd hr hb q
def ePrpI (cn : Str) (run : List W → Sto → R W) (fo : ED) : ED := fun env st => (fo env st).bind fun w st => match insF cn st w with
  | some _ => run [w] st
  | none => .bad
theorem de_prpI {run : List W → Sto → R W} {fo : ED} (M : PrpI X.prog X.w X.K X.mg X.base ct cn m k run) (gd : X.A.guards = some []) (hr : Room (k + 1) X.A) (ho : PE X o (tE X.kw ct E fo)) (hab : attributeBase o m X.env (eval o X.env) = eval o X.env := by rfl) :
    PE X (.Attribute o m pos) (tE X.kw ct E (ePrpI cn run fo)) := by
  obtain ⟨C, p, g, fd, ps, G, b, hm, c, pr⟩ := M.ex
  refine PE.of (pe_propG (E := E) ho c pr G gd hr b hab) fun σ H Q h => ?_
  refine (tG.bind (rel := Rw) (k := fun w env st => match insF cn st w with
    | some _ => run [w] st
    | none => .bad) h).mono fun x H1 ⟨ρ1, st1, env, w, a1, r1, q1⟩ => ?_
  cases ef : insF cn st1 w with
  | none => rw [ef] at q1; exact q1.elim
  | some fs =>
    rw [ef] at q1
    obtain ⟨l, a, dx, vs, rfl, rfl, hlc, es, h1, h2⟩ := ins_of a1.1 r1 ef hm
    exact ⟨a, dx, vs, rfl, h1, ρ1, st1, [.r l], a1.1, .cons r1 .nil, rfl, q1⟩
end
end Jv
end
section
/-! instances of an own class: len, in -/
namespace Jv
open PySem PySem.Spec L2 PyProof.Rows
section
variable {X : Cx} {ct : Nat → Value} {E : St → XK} {CX : CXT} {k n : Nat} {f C a dx : Addr} {fd : FuncData} {ps : List Str} {sp : Sp} {m cn x : Str} {np apos pos : Pos} {e o b : Expr} {es : List Expr} {fo fb : ED} {run : List W → Sto → R W}
/-- a special method runs, at the same height or one call of a built-in function below -/
theorem run_spc {A : Around} {pins : List (Addr × Obj)} {σ : St} {H : Hp} {s : Shared} {Q : VK} {us : List Value} {vs : List V} {E : XK} (F : FnG X.prog X.w X.K X.mg X.base CX0 k f fd ps sp) (gd : A.guards = some []) (hr : Room k A) (hb : Binds X.K fd ps []) (I : Inv X pins σ H s)
    (e0 : Env0 X.prog X.w X.K X.mg X.base A X.stack s H) (r : Vals vs us) (h : sp vs H Q E) (E' : Value → Shared → Prop) : wpAny (model X.prog X.w) A (call (.ref f) us) (EP X pins σ Q) E' s := by
  have n : us.length = ps.length := r.length.symm.trans (F.len _ _ _ _ h)
  have b := hb s us I.kIn (by rw [List.append_nil]; exact n)
  rw [List.append_nil] at b
  apply wpAny_call
  refine codeAny_mono (F.run A X.stack s H ⟨us, []⟩ us vs Q E gd hr e0 b r h) ?_
  rintro (e | (_ | _ | _ | u)) s' q
  · exact q.elim
  · exact q.elim
  · exact q.elim
  · exact q.elim
  · exact I.after q
/-! ### len(o) -/
def rLenI (C : Addr) (sp : Sp) (E : XK) : List V → Hp → VK → Prop := fun xs H Q => ∃ a dx fs, xs = [.ref a] ∧ H a = some (.ins C dx fs) ∧ sp [.ref a] H (fun v H' => ∃ i, v = .int i ∧ 0 ≤ i ∧ i < 2 ^ 63 ∧ Q (.int i) H') E
theorem call_lenI {E : XK} (hm : Meth X.K C "__len__" f) (F : FnG X.prog X.w X.K X.mg X.base CX0 k f fd ps sp) (gd : X.A.guards = some []) (hr : Room (k + 1) X.A) (hb : Binds X.K fd ps []) : CallR X (.builtin "len") (rLenI C sp E) := by
  intro pins s σ H xs us Q I r h
  obtain ⟨a, dx, fs, rfl, ea, q⟩ := h
  obtain ⟨u, rfl, ru⟩ := vals1 r
  obtain rfl : u = Value.ref a := ru
  obtain ⟨mA, O, _, _, _, _⟩ := ins_get I.hok ea
  obtain ⟨od, J, _⟩ := O.look
  refine Calls.call_function_entry kind_len plain_len entry_len (args_len1 _) ?_
  unfold Builtin.«len»
  refine wpAny_bind (m := oneArg "len" _) (wpAny_pure ?_)
  refine wpAny_bind (m := callSpecial? (.ref a) (Str.ofString "__len__")) (PySem.W.special_fn I.kIn J hm.at_ (beq_iff_eq.mp hm.fn) (wpAny_mono (run_spc (us := [.ref a]) (vs := [.ref a]) F (in1_guards gd) hr.in1 hb I I.env0.in1 (.cons rfl .nil) q _) (fun r' s' hr' => ?_) fun _ _ y => y))
  obtain ⟨v, H', I', rv, i, rfl, h0, h1, hq⟩ := hr'
  obtain ⟨t, rfl⟩ : ∃ t, r' = Value.int i t := rv
  refine wpAny_bind (wpAny_holding (wpAny_pure ?_))
  refine wpAny_bind (wpAny_letGo ?_)
  show wpAny _ _ (if i < 0 then _ else _) _ _ _
  rw [if_neg (by omega)]
  show wpAny _ _ (if i ≥ 2 ^ 63 then _ else _) _ _ _
  rw [if_neg (by omega)]
  exact wpAny_bind (wpAny_mkInt (wpAny_pure ⟨_, rfl, .int i, H', I'.tok _, ⟨_, rfl⟩, hq⟩))
def lenOut : W → Sto → R W
  | .v (.int i), st => if 0 ≤ i ∧ i < 2 ^ 63 then .ok (.v (.int i)) st else .bad
  | _, _ => .bad
def eLenI (cn : Str) (run : List W → Sto → R W) (fo : ED) : ED := fun env st => (fo env st).bind fun w st => match insF cn st w with
  | some _ => (noX (run [w] st)).bind lenOut
  | none => .bad
theorem de_lenI (M : MetI X.prog X.w X.K X.mg X.base CX0 ct cn "__len__" 1 k run) (gd : X.A.guards = some []) (hr : Room (k + 1) X.A) (hg : Gl X "len") (hz : X.mg "len" = none) (ho : PE X o (tE X.kw ct E fo))
    (he : starEach [o] X.env = (false, eval o X.env) :: starEach [] X.env := by rfl) (hpl : (backTo pos (starEach [] X.env)).any (·.1) = false := by rfl) : PE X (.Call (.Name "len" np) [o] [] pos) (tE X.kw ct E (eLenI cn run fo)) := by
  obtain ⟨C, f, fd, ps, G, b, hm, c, mt⟩ := M.ex
  refine PE.of (pe_callB (call_lenI (E := E0) mt G gd hr b) hg hz bt_len (pa_cons ho pa_nil he) (by decide) (by decide) he hpl) fun σ H Q h => ?_
  refine (tG.bind (rel := Rw) (k := fun w env st => match insF cn st w with
    | some _ => (noX (run [w] st)).bind lenOut
    | none => .bad) h).mono fun x H1 ⟨ρ1, st1, env, w, a1, r1, q1⟩ => ?_
  cases ef : insF cn st1 w with
  | none => rw [ef] at q1; exact q1.elim
  | some fs =>
    rw [ef] at q1
    simp only at q1
    obtain ⟨l, a, dx, vs, rfl, rfl, hlc, es, h1, h2⟩ := ins_of a1.1 r1 ef hm
    refine ⟨a, dx, vs, rfl, h1, ρ1, st1, [.r l], a1.1, .cons r1 .nil, rfl, ?_⟩
    cases er : run [.r l] st1 with
    | ok w2 st2 =>
      rw [er] at q1
      simp only [noX_ok, R.bind_ok] at q1
      intro ρ2 H2 v g2 s2 r2
      unfold lenOut at q1
      split at q1
      · rename_i i
        split at q1
        · rename_i hc
          cases r2 with | v r2 =>
          cases r2
          exact ⟨i, rfl, hc.1, hc.2, q1 ρ2 H2 _ g2 s2 (.v (.int i))⟩
        · exact q1.elim
      · exact q1.elim
    | exc y st' => rw [er] at q1; exact q1.elim
    | bad => rw [er] at q1; exact q1.elim
/-! ### key in o -/
def rInI (C : Addr) (sp : Sp) (E : XK) : R2 := fun x y H Q => ∃ a dx fs, y = .ref a ∧ H a = some (.ins C dx fs) ∧ sp [.ref a, x] H (fun v H' => ∃ b, v = .bl b ∧ Q (.bl b) H') E
theorem op_inI {E : XK} (hm : Meth X.K C "__contains__" f) (F : FnG X.prog X.w X.K X.mg X.base CX0 k f fd ps sp) (gd : X.A.guards = some []) (hr : Room k X.A) (hb : Binds X.K fd ps []) : OpR X (compareOp .In) (rInI C sp E) := by
  intro pins s σ H x y u v Q I rx ry h
  obtain ⟨a, dx, fs, rfl, ea, q⟩ := h
  obtain rfl : v = Value.ref a := ry
  obtain ⟨mA, O, _, _, _, _⟩ := ins_get I.hok ea
  obtain ⟨od, J, _⟩ := O.look
  have X' := I.kIn
  show wpAny _ _ (contains (.ref a) u >>= fun b => pure (Value.bool b)) _ _ _
  refine wpAny_bind ?_
  unfold contains
  refine wpAny_holding (wpAny_bind (wpAny_bind (J.type.here ((PySem.W.looks_findIn X' hm.at_).here ?_))))
  rw [if_neg (by simp)]
  refine wpAny_bind (PySem.W.unlessNone_K X' J hm.at_ hm.fn (wpAny_mono (run_spc (us := [.ref a, u]) (vs := [.ref a, x]) F gd hr hb I I.env0 (.cons rfl (.cons rx .nil)) q _) (fun r' s' hr' => ?_) fun _ _ y => y))
  obtain ⟨v', H', I', rv, b, rfl, hq⟩ := hr'
  obtain rfl : r' = Value.bool b := rv
  exact wpAny_of_eq (a := b) rfl (wpAny_pure ⟨.bl b, H', I', rfl, hq⟩)
def inOut : W → Sto → R W
  | .v (.bl b), st => .ok (.v (.bl b)) st
  | _, _ => .bad
def eInI (cn : Str) (run : List W → Sto → R W) (fa fb : ED) : ED := fun env st => (fa env st).bind fun x st => (fb env st).bind fun w st => match insF cn st w with
  | some _ => (noX (run [w, x] st)).bind inOut
  | none => .bad
theorem de_inI {fa fb : ED} (M : MetI X.prog X.w X.K X.mg X.base CX0 ct cn "__contains__" 2 k run) (gd : X.A.guards = some []) (hr : Room k X.A) (ha : PE X e (tE X.kw ct E fa)) (hb : PE X o (tE X.kw ct E fb)) (hm : behindInMarks .In o = false := by rfl) :
    PE X (.Compare e [.In] [o] pos) (tE X.kw ct E (eInI cn run fa fb)) := by
  obtain ⟨C, f, fd, ps, G, b, hmg, c, mt⟩ := M.ex
  refine PE.of (pe_cmpR (op_inI (E := E0) mt G gd hr b) ha hb hm) fun σ H Q h => ?_
  refine (tG.bind (rel := Rw) (k := fun x env st => (fb env st).bind fun w st => match insF cn st w with
    | some _ => (noX (run [w, x] st)).bind inOut
    | none => .bad) h).mono fun x H1 ⟨ρ1, st1, env, wx, a1, r1, q1⟩ => ?_
  refine ⟨ρ1, st1, env, a1, (okG.bind (rel := Rw) q1 a1.2).mono fun y H2 ⟨ρ2, st2, w, a2, g2, r2, q2⟩ => ?_⟩
  cases ef : insF cn st2 w with
  | none => rw [ef] at q2; exact q2.elim
  | some fs =>
    rw [ef] at q2
    simp only at q2
    obtain ⟨l, a, dx, vs, rfl, rfl, hlc, es, h1, h2⟩ := ins_of a2.1 r2 ef hmg
    refine ⟨a, dx, vs, rfl, h1, ρ2, st2, [.r l, wx], a2.1, .cons r2 (.cons (r1.grow g2) .nil), rfl, ?_⟩
    cases er : run [.r l, wx] st2 with
    | ok w2 st3 =>
      rw [er] at q2
      simp only [noX_ok, R.bind_ok] at q2
      intro ρ3 H3 v g3 s3 r3
      unfold inOut at q2
      split at q2
      · rename_i b
        cases r3 with | v r3 =>
        cases r3
        exact ⟨b, rfl, q2 ρ3 H3 _ g3 s3 (.v (.bl b))⟩
      · exact q2.elim
    | exc y st' => rw [er] at q2; exact q2.elim
    | bad => rw [er] at q2; exact q2.elim
end
end Jv
end
section
/-! a["x"], b["y"] = e, e a pair -/
namespace Jv
open PySem PySem.Spec L2 PyProof.Rows
theorem dput_step {K : KW} {ρ : Rho} {H : Hp} {st st' : Sto} {env env' : Env} {w k : W} {d : D} {x y v : V} (s : RelSt K ρ H st) (rx : Rw K ρ H x w) (ry : Rw K ρ H y k) (rv : Rl K ρ H v d) (h : dPut w k (.v d) env st = .nx env' st') :
    ∃ (p : Addr) (H' : Hp), x = .ref p ∧ DPut H p y v H' ∧ Grow ρ H ρ H' ∧ RelSt K ρ H' st' ∧ env' = env := by
  unfold dPut at h
  split at h
  · rename_i l k' d' e0
    split at h
    · rename_i kvs ek
      split at h
      · rename_i kvs' ep
        split at h
        · rename_i hlen
          cases h
          cases e0
          cases rx with | r hl hv2 =>
          cases ry with | v ry =>
          cases ry
          rcases s.obj l _ ek with ⟨z, _⟩ | ⟨p, hp, L, h1, h2⟩
          · cases z
          have e2 := hv2 p hp
          subst e2
          have gw : Grow ρ H ρ (upd H p (.dK (putK L (.inr k') v))) := .write hp
          refine ⟨p, _, rfl, DPut.k (k := Sum.inr k') h1 (Nat.lt_of_le_of_lt (show L.length ≤ 1000 by rw [h2.length]; exact hlen) (by decide)), gw, ?_, rfl⟩
          refine s.write hp ⟨_, upd_same, (h2.put (.v rv) ep).mono fun _ _ z => z.grow gw⟩ ?_
          have ord := s.ord l _ ek
          unfold Jv.putS at ep
          split at ep
          · cases ep
            intro q hq
            obtain ⟨q0, hq0, rfl⟩ := List.mem_map.mp hq
            split
            · exact trivial
            · exact ord q0 hq0
          · cases ep
        · cases h
      · cases h
    · cases h
  · cases h
section
variable {X : Cx} {ct : Nat → Value} {E : St → XK} {o1 i1 o2 i2 v : Expr} {fo1 fi1 fo2 fi2 fv : ED} {pos p1 p2 tp : Pos} {k : Nat}
def sDPut2 (fo1 fi1 fo2 fi2 fv : ED) : SD := fun env st => (fv env st).thenS env fun v st => match v with
  | .v (.tup [d1, d2]) => (fo1 env st).thenS env fun o1 st => (fi1 env st).thenS env fun k1 st => match dPut o1 k1 (.v d1) env st with
    | .nx _ st => (fo2 env st).thenS env fun o2 st => (fi2 env st).thenS env fun k2 st => match dPut o2 k2 (.v d2) env st with
      | .nx _ st => .nx env st
      | _ => .bad
    | _ => .bad
  | _ => .bad
theorem ds_dput2 (hc : X.calm = true) (hu : X.A.units + 1 < cLine) (ho1 : PE X o1 (tE X.kw ct E fo1)) (hi1 : PE X i1 (tE X.kw ct E fi1)) (ho2 : PE X o2 (tE X.kw ct E fo2)) (hi2 : PE X i2 (tE X.kw ct E fi2)) (hv : PE X v (tE X.kw ct E fv))
    (ha1 : ∀ v, assign (.Subscript o1 i1 p1) X.env v = (do
      let ov ← holding [v] (eval o1 X.env)
      let iv ← holding [v, ov] (eval i1 X.env)
      standAt p1
      holding [v, ov, iv] (setItem ov iv v)
      release [v, ov, iv] []) := by intro _; rfl)
    (ha2 : ∀ v, assign (.Subscript o2 i2 p2) X.env v = (do
      let ov ← holding [v] (eval o2 X.env)
      let iv ← holding [v, ov] (eval i2 X.env)
      standAt p2
      holding [v, ov, iv] (setItem ov iv v)
      release [v, ov, iv] []) := by intro _; rfl)
    (hs : swapsWithSole [.Tuple [.Subscript o1 i1 p1, .Subscript o2 i2 p2] k tp] v pos.line X.env = pure false := by rfl) (hw : swappedStores [.Tuple [.Subscript o1 i1 p1, .Subscript o2 i2 p2] k tp] v X.env = pure none := by rfl) :
    PS X (.Assign [.Tuple [.Subscript o1 i1 p1, .Subscript o2 i2 p2] k tp] v pos) (tS X.kw ct E (sDPut2 fo1 fi1 fo2 fi2 fv)) :=
  PS.of (ps_asg hv (pg_tup hc (pgs_cons (pg_sub ho1 hi1 (set_dict hu) ha1) (pgs_cons (pg_sub ho2 hi2 (set_dict hu) ha2) pgs_nil))) hs hw) fun D σ H ⟨ρ, st, env, a, h⟩ => by
  refine ⟨ρ, st, env, a, okG.mono (okS.first (rel := Rw) h a.2) ?_⟩
  rintro x H1 ⟨ρ1, st1, w, a1, g1, r1, h⟩
  split at h
  rotate_left
  · exact h.elim
  rename_i d1 d2
  cases r1 with | v r1 =>
  cases r1 with
  | @tup a' xs _ t1 t2 t3 =>
  cases t3 with | cons q1 t3 =>
  cases t3 with | cons q2 t3 =>
  cases t3
  rename_i v1 v2
  refine ⟨a', [v1, v2], rfl, .inl t1, rfl, v1, [v2], rfl, ?_⟩
  refine ⟨ρ1, st1, env, a1, okG.mono (okS.first (rel := Rw) h a1.2) ?_⟩
  rintro y1 H2 ⟨ρ2, st2, w1, a2, g2, ry1, h2⟩
  refine ⟨ρ2, st2, env, a2, okG.mono (okS.first (rel := Rw) h2 a2.2) ?_⟩
  rintro y2 H3 ⟨ρ3, st3, w2, a3, g3, ry2, h3⟩
  have gg := (g2.trans g3)
  split at h3
  rotate_left
  · exact h3.elim
  rename_i env4 st4 e4
  obtain ⟨p, H4, rfl, dp, g4, s4, _⟩ := dput_step a3.1 (ry1.grow g3) ry2 (q1.grow gg) e4
  refine ⟨p, H4, rfl, dp, ?_⟩
  refine ⟨v2, [], rfl, ?_⟩
  have a4 : At X.kw ρ3 H4 st4 σ env := ⟨s4, a3.2.grow g4⟩
  refine ⟨ρ3, _, env, a4, okG.mono (okS.first (rel := Rw) (okS.grow g4 h3) a4.2) ?_⟩
  rintro y3 H5 ⟨ρ5, st5, w3, a5, g5, ry3, h5⟩
  refine ⟨ρ5, st5, env, a5, okG.mono (okS.first (rel := Rw) h5 a5.2) ?_⟩
  rintro y4 H6 ⟨ρ6, st6, w4, a6, g6, ry4, h6⟩
  split at h6
  rotate_left
  · exact h6.elim
  rename_i env7 st7 e7
  obtain ⟨p', H7, rfl, dp', g7, s7, _⟩ := dput_step a6.1 (ry3.grow g6) ry4 (q2.grow (((gg.trans g4).trans g5).trans g6)) e7
  exact ⟨p', H7, rfl, dp', rfl, h6 ρ6 H7 σ g7 ⟨s7, a6.2.grow g7⟩⟩
end
end Jv
end
section
/-! a tuple that holds objects; unpacked; l.pop() -/
namespace Jv
open PySem PySem.Spec L2 PyProof.Rows
def eTupW (g : AD) : ED := fun env st => (g env st).bind fun ws st => if ws.length ≤ 100000 ∧ ws.all (fun w => w.undB st.length) = true then .ok (.r st.length) (st ++ [.pr ws]) else .bad
/-- i, j = a pair that holds objects -/
def sUnp (i j : Nat) (fe : ED) : SD := fun env st => (fe env st).thenS env fun w st => match w with
  | .r l => match st[l]? with
    | some (.pr [w1, w2]) => .nx ((env.set i (some w1)).set j (some w2)) st
    | _ => .bad
  | _ => .bad
section
variable {X : Cx} {ct : Nat → Value} {E : St → XK} {es : List Expr} {g : AD} {e o : Expr} {fe f : ED} {apos cpos pos pt : Pos}
theorem de_tupW {x1 pos} (h : PA X es (tA X.kw ct E g)) : PE X (.Tuple es x1 pos) (tE X.kw ct E (eTupW g)) := PE.of (pe_tup h) fun σ H Q q => by
  refine (tG.bind (rel := RwAll) (k := fun ws env st => if ws.length ≤ 100000 ∧ ws.all (fun w => w.undB st.length) = true then R.ok (W.r st.length) (st ++ [.pr ws]) else R.bad) q).mono fun v H1 ⟨ρ1, st1, env, ws, a1, r1, q1⟩ => ?_
  split at q1
  rotate_left
  · exact q1.elim
  rename_i hc
  refine ⟨sl5 (by rw [r1.length]; exact hc.1), fun p hp => ?_⟩
  have gp : Grow ρ1 H1 (ρ1.push p) (upd H1 p (.tup v)) := .push hp
  refine q1 (ρ1.push p) _ (.ref p) gp (pushK a1.1 hp ⟨v, upd_same, r1.mono fun _ _ z => z.grow gp⟩ fun w hw => W.undB_ok (List.all_eq_true.mp hc.2 w hw)) (.r (by rw [← a1.1.len]; simp [Rho.push]) fun a ea => ?_)
  rw [← a1.1.len] at ea
  simp [Rho.push] at ea
  rw [ea]
theorem ds_unp {i j : Nat} {x y : Str} {px py : Pos} {kt : Nat} (hc : X.calm = true) (hN : X.N.Nodup) (he : PE X e (tE X.kw ct E fe)) (hi : X.N[i]? = some x := by rfl) (hj : X.N[j]? = some y := by rfl)
    (hx : Loc X.env.scope x := by first | exact Or.inl rfl | exact Or.inr rfl) (hy : Loc X.env.scope y := by first | exact Or.inl rfl | exact Or.inr rfl)
    (hf : X.fn x = true ∨ X.env.scope.names.lookup x = some .local := by first | exact .inl rfl | exact .inr rfl | assumption) (hf2 : X.fn y = true ∨ X.env.scope.names.lookup y = some .local := by first | exact .inl rfl | exact .inr rfl | assumption)
    (hs : swapsWithSole [.Tuple [.Name x px, .Name y py] kt pt] e pos.line X.env = pure false := by rfl) (hw : swappedStores [.Tuple [.Name x px, .Name y py] kt pt] e X.env = pure none := by rfl) :
    PS X (.Assign [.Tuple [.Name x px, .Name y py] kt pt] e pos) (tS X.kw ct E (sUnp i j fe)) :=
  PS.of (ps_asg he (pg_tup hc (pgs_cons (pg_name hN hi hx hf) (pgs_cons (pg_name hN hj hy hf2) pgs_nil))) hs hw) fun D σ H ⟨ρ, st, env, a, h⟩ => by
  refine ⟨ρ, st, env, a, (okS.first (rel := Rw) h a.2).mono fun v H1 ⟨ρ1, st1, w, a1, g1, r1, q1⟩ => ?_⟩
  split at q1
  rotate_left
  · exact q1.elim
  rename_i l
  split at q1
  rotate_left
  · exact q1.elim
  rename_i w1 w2 el
  rcases a1.1.obj l _ el with ⟨z, _⟩ | ⟨p, hp, xs, h1, h2⟩
  · cases z
  cases r1 with | r hl hv =>
  have := hv p hp
  subst this
  cases h2 with | cons q1' h2 =>
  cases h2 with | cons q2' h2 =>
  cases h2
  rename_i v1 v2
  refine ⟨p, [v1, v2], rfl, .inl (.inl h1), rfl, v1, [v2], rfl, v2, [], rfl, rfl, ?_⟩
  exact q1 ρ1 H1 _ (.refl _ _) ⟨a1.1, (a1.2.set q1' i).set q2' j⟩
/-- l.pop() -/
def pop0 (w : W) (st : Sto) : R W := match w with
  | .r l => match st[l]? with
    | some (.lst ds) => match ds[ds.length - 1]? with
      | some d => .ok (.v d) (st.set l (.lst ds.dropLast))
      | none => .bad
    | _ => .bad
  | _ => .bad
def ePop0 (f : ED) : ED := fun env st => (f env st).bind pop0
theorem RlAll.dropLast {K : KW} {ρ : Rho} {H : Hp} {xs : List V} {ds : List D} (h : RlAll K ρ H xs ds) : RlAll K ρ H xs.dropLast ds.dropLast := by
  rw [List.dropLast_eq_take, List.dropLast_eq_take, h.length]
  exact h.take _
theorem de_pop0 (ho : PE X o (tE X.kw ct E f)) (hbase : attributeBase o "pop" X.env (eval o X.env) = eval o X.env := by rfl) (hline : (apos.endLine == cpos.line) = true := by rfl) :
    PE X (.Call (.Attribute o "pop" apos) [] [] cpos) (tE X.kw ct E (ePop0 f)) :=
  PE.of (pe_bm0 PySem.F.plainAttrs_list PySem.F.slot_list_pop PySem.F.type_list_pop mt_pop ho hbase hline) fun σ H Q h => by
  refine (tG.bind (rel := Rw) (k := fun w env st => pop0 w st) h).mono fun x H1 ⟨ρ1, st1, env, w, a1, r1, q1⟩ => ?_
  unfold pop0 at q1
  split at q1
  rotate_left
  · exact q1.elim
  rename_i l
  split at q1
  rotate_left
  · exact q1.elim
  rename_i ds el
  split at q1
  rotate_left
  · exact q1.elim
  rename_i d hd
  rcases a1.1.obj l _ el with ⟨z, _⟩ | ⟨p, hp, xs, h1, h2⟩
  · cases z
  cases r1 with | r hl hv =>
  have := hv p hp
  subst this
  obtain ⟨y, hy, ry⟩ := h2.getD (i := ds.length - 1) hd
  have gw : Grow ρ1 H1 ρ1 (upd H1 p (.lst xs.dropLast)) := .write hp
  refine ⟨.inl ⟨rfl, xs, .of h1⟩, p, xs, y, rfl, rfl, h1, by rw [h2.length]; exact hy, ?_⟩
  exact q1 ρ1 _ y gw (a1.1.write hp ⟨_, upd_same, h2.dropLast.grow gw⟩ trivial) (.v (ry.grow gw))
end
end Jv
end
section
/-! what is looked at behind the top: as in hookZ, and the getters of properties -/
namespace Jv
open PySem PySem.Spec L2 PyProof.Rows PySem.W He
def gtA (K : PySem.W.Frag) (x f : Str) : Addr := match PySem.W.recIn K (ma K (ga K x) f) "property" with
  | some (.ref g :: _) => g
  | _ => 0
def prG (K : PySem.W.Frag) (d : DefD) : Addr := gtA K d.at_.1 (d.at_.2.getD "")
def fnA (K : PySem.W.Frag) (a : Addr) : FnW := match K.lookup a with
  | some ⟨_, _, .func fd, _⟩ => some (fd.name, fd.qualname, fd.params, fd.body, fd.scope, fd.globals, fd.closure, fd.builtins)
  | _ => none
def okA (K : PySem.W.Frag) (a : Addr) (q : Str) : Bool := PySem.W.keepIn K (.ref a) && (match K.lookup a with
  | some ⟨_, _, .func fd, _⟩ => PySem.W.codeIn K fd.code q && (dflB K fd.defaults [] && kwdB K fd.kwdefaults [])
  | _ => false)
theorem funA {K : PySem.W.Frag} {a : Addr} {name qual : Str} {params : Arguments} {body : List Stmt} {scope : Scope} (e : fnA K a = some (name, qual, params, .stmts body, scope, mainGlobals, [], builtinsNs)) (c : okA K a qual = true) : ∃ fd, FunD K name qual params body scope [] [] a fd := by
  obtain ⟨kp, c2⟩ := ba c
  unfold fnA at e
  cases q : K.lookup a with
  | none =>
    rw [q] at c2
    cases c2
  | some o =>
    obtain ⟨oc, od, dt, osl⟩ := o
    rw [q] at c2 e
    cases dt with
    | func fd =>
      obtain ⟨n1, n2, n3, n4, n5, n6, n7, n8, n9, n10, n11, n12, n13, n14, n15⟩ := fd
      have e2 : (some (n1, n2, n3, n4, n5, n6, n7, n15) : FnW) = some (name, qual, params, .stmts body, scope, mainGlobals, [], builtinsNs) := e
      simp only [Option.some.injEq, Prod.mk.injEq] at e2
      obtain ⟨h1, h2, h3, h4, h5, h6, h7, h8⟩ := e2
      subst h1 h2 h3 h4 h5 h6 h7 h8
      have c3 : (PySem.W.codeIn K n13 n2 && (dflB K n8 [] && kwdB K n9 [])) = true := c2
      obtain ⟨k1, k2⟩ := ba c3
      obtain ⟨k3, k4⟩ := ba k2
      exact ⟨_, ⟨oc, od, n8, n9, n10, n11, n12, n13, n14, osl, rfl, q, k1, dflB_ok k3, kwdB_ok k4⟩, kp⟩
    | _ => cases c2
def prpB (K : PySem.W.Frag) (x f : Str) : Bool := eqO (PySem.W.findIn K (.ref (ga K x)) f) (some (some (.ref (ma K (ga K x) f)))) && (decide (PySem.W.specialIn K (.ref (ma K (ga K x) f)) "__get__" = some (some (.builtin "property.__get__"))) &&
  (decide (PySem.W.takesIn K (.ref (ma K (ga K x) f)) = some true) && (match PySem.W.recIn K (ma K (ga K x) f) "property" with
    | some (.ref _ :: _) => true
    | _ => false)))
theorem prpB_ok {K : PySem.W.Frag} {x f : Str} (h : prpB K x f = true) : PropOf K (ga K x) f (ma K (ga K x) f) (gtA K x f) := by
  obtain ⟨h1, h⟩ := ba h
  obtain ⟨h2, h⟩ := ba h
  obtain ⟨h3, h4⟩ := ba h
  refine ⟨eqO_ok h1, of_decide_eq_true h2, of_decide_eq_true h3, ?_⟩
  unfold gtA
  split at h4
  · rename_i g r e
    rw [e]
    exact ⟨r, rfl⟩
  · cases h4
def obsW (n : Nat) (fa : List Fa) (fn gs : List DefD) (tf : List Defn) (ex : PySem.W.Frag → Bool) (g : Addr → Option Obj) : AlX × List FnW :=
  (obsZ n fa fn tf ex g, gs.map fun d => fnA (frT g (asZ g n)) (prG (frT g (asZ g n)) d))
def hookW (n : Nat) (fa : List Fa) (fn gs : List DefD) (tf : List Defn) (ex : PySem.W.Frag → Bool) : Hook where
  α := AlX × List FnW
  obs := fun s => obsW n fa fn gs tf ex s.heap.get?
  val := fun w => (valX fn [] w, gs.map DefD.val)
  says := fun w h => ∃ K : PySem.W.Frag, K.In h ∧ SaysX fa fn [] tf ex w h K ∧ (gs.map fun d => fnA K (prG K d)) = gs.map DefD.val
  of := fun _ _ e => ⟨_, frT_in, saysZ_of (congrArg (fun z : AlX × List FnW => z.1) e), congrArg (fun z : AlX × List FnW => z.2) e⟩
  keeps := fun _ _ _ ⟨K, hK, c, cg⟩ k => ⟨K, PySem.W.Frag.In.keeps hK k, ⟨c.t, c.more, c.hd, c.out, fun p hp => k _ _ (c.empty p hp)⟩, cg⟩
theorem obsW_eq {n : Nat} {fa : List Fa} {fn gs : List DefD} {tf : List Defn} {ex : PySem.W.Frag → Bool} {g : Addr → Option Obj} {s : Shared} (h : ∀ a, g a = s.heap.get? a) : obsW n fa fn gs tf ex g = (hookW n fa fn gs tf ex).obs s := congrArg (obsW n fa fn gs tf ex) (funext h)
/-- a getter -/
theorem get_def {K : PySem.W.Frag} {gs : List DefD} (cg : (gs.map fun d => fnA K (prG K d)) = gs.map DefD.val) (i : Nat) {d : DefD} (h : gs[i]? = some d) (c : okA K (prG K d) d.qual = true) : ∃ fd, FunD K d.name d.qual d.params d.body d.scope [] [] (prG K d) fd := by
  have e2 : (gs.map fun d => fnA K (prG K d))[i]? = (gs.map DefD.val)[i]? := by rw [cg]
  rw [List.getElem?_map, List.getElem?_map, h] at e2
  exact funA (Option.some.inj e2) c
theorem prp_mk {P : Program} {w : World} {K : PySem.W.Frag} {mg : Str → Option Value} {base : Heap} {ct : Nat → Value} {cn f : Str} {k : Nat} {run : List W → Sto → R W} {fd : FuncData} {ps : List Str} (hm : mg cn = some (.ref (ga K cn))) (hc : Cls K (ga K cn)) (hp : prpB K cn f = true)
    (b : Binds K fd ps []) (G : FnG P w K mg base CX0 k (gtA K cn f) fd ps (spG ⟨K, w, mg⟩ ct 1 run)) : PrpI P w K mg base ct cn f k run := ⟨_, _, _, fd, ps, G, b, hm, hc, prpB_ok hp⟩
theorem met_mk {P : Program} {w : World} {K : PySem.W.Frag} {mg : Str → Option Value} {base : Heap} {CX : CXT} {ct : Nat → Value} {cn m : Str} {n k : Nat} {run : List W → Sto → R W} {fd : FuncData} {ps : List Str} (hm : mg cn = some (.ref (ga K cn))) (hc : Cls K (ga K cn)) (hp : Meth K (ga K cn) m (ma K (ga K cn) m))
    (b : Binds K fd ps []) (G : FnG P w K mg base CX k (fAd K (cn, some m)) fd ps (spG ⟨K, w, mg⟩ ct n run)) : MetI P w K mg base CX ct cn m n k run := ⟨_, _, fd, ps, G, b, hm, hc, hp⟩
theorem mak_mk {P : Program} {w : World} {K : PySem.W.Frag} {mg : Str → Option Value} {base : Heap} {CX : CXT} {ct : Nat → Value} {cn : Str} {n k : Nat} {run : List W → Sto → R W} {fd : FuncData} {ps : List Str} (hm : mg cn = some (.ref (ga K cn))) (hp : Mk K (ga K cn) (ma K (ga K cn) "__init__"))
    (b : Binds K fd ps []) (G : FnG P w K mg base CX k (fAd K (cn, some "__init__")) fd ps (spG ⟨K, w, mg⟩ ct n run)) : MakI P w K mg base CX ct cn n k run := ⟨_, _, fd, ps, G, b, hm, hp⟩
end Jv
end
section
namespace K37
open PySem PySem.Spec L2 PyProof.Rows Jv
def top (i : Nat) : Stmt := PySem.Challenge.pw_jarvisits_k37_whole_browsers.main.body.getD i (.Pass ⟨0, 0, 0, 0⟩)
abbrev s_is_of : Stmt := top 8
abbrev s_is_name : Stmt := top 9
abbrev s_are_words : Stmt := top 10
abbrev s_is_host : Stmt := top 11
abbrev s_is_path : Stmt := top 12
abbrev s_is_address : Stmt := top 13
abbrev s_is_within : Stmt := top 14
abbrev s_is_below : Stmt := top 15
abbrev s_is_whole : Stmt := top 25
abbrev s_is_value : Stmt := top 26
abbrev s_is_write : Stmt := top 27
abbrev s_need_site : Stmt := top 28
abbrev s_need_page : Stmt := top 29
abbrev s_need_name : Stmt := top 30
abbrev s_key_in : Stmt := top 31
abbrev s_taken_in : Stmt := top 32
abbrev s_is_key : Stmt := top 34
abbrev s_rank : Stmt := top 35
abbrev s_need_address : Stmt := top 36
abbrev s_after : Stmt := top 37
abbrev s_goes : Stmt := top 38
abbrev s_sent_in : Stmt := top 39
abbrev s_read_in : Stmt := top 40
abbrev s__law_mixed : Stmt := top 44
abbrev s__law_begin : Stmt := top 45
abbrev s__law_draw : Stmt := top 46
abbrev s__law_key : Stmt := top 48
abbrev s__law_visited : Stmt := top 49
abbrev s__law_goes : Stmt := top 51
abbrev s__law_sent : Stmt := top 52
abbrev s__law_jar : Stmt := top 53
abbrev s__law_host : Stmt := top 54
abbrev s__law_path : Stmt := top 55
abbrev s__law_write : Stmt := top 56
abbrev s__law_page : Stmt := top 57
abbrev s__law_keys : Stmt := top 59
abbrev s__law_site : Stmt := top 58
abbrev s__law_address : Stmt := top 61
abbrev s_Browser_keep : Stmt := (clsBody (top 42)).getD 7 (.Pass ⟨0, 0, 0, 0⟩)
abbrev s_Browser_visit : Stmt := (clsBody (top 42)).getD 8 (.Pass ⟨0, 0, 0, 0⟩)
abbrev s_Browser_clear : Stmt := (clsBody (top 42)).getD 11 (.Pass ⟨0, 0, 0, 0⟩)
abbrev s_Browser_undo : Stmt := (clsBody (top 42)).getD 12 (.Pass ⟨0, 0, 0, 0⟩)
abbrev s__law_turned : Stmt := top 62
abbrev s_Browser_jar : Stmt := (clsBody (top 42)).getD 2 (.Pass ⟨0, 0, 0, 0⟩)
abbrev s_Browser_row : Stmt := (clsBody (top 42)).getD 3 (.Pass ⟨0, 0, 0, 0⟩)
abbrev s_Browser___len__ : Stmt := (clsBody (top 42)).getD 5 (.Pass ⟨0, 0, 0, 0⟩)
abbrev s_Browser_site : Stmt := (clsBody (top 42)).getD 1 (.Pass ⟨0, 0, 0, 0⟩)
abbrev s_Browser___contains__ : Stmt := (clsBody (top 42)).getD 6 (.Pass ⟨0, 0, 0, 0⟩)
abbrev s__law_shown : Stmt := top 63
abbrev s_Browser___init__ : Stmt := (clsBody (top 42)).getD 0 (.Pass ⟨0, 0, 0, 0⟩)
abbrev s__law_new : Stmt := top 64
abbrev s_Browser_sent : Stmt := (clsBody (top 42)).getD 9 (.Pass ⟨0, 0, 0, 0⟩)
abbrev s_Browser_read : Stmt := (clsBody (top 42)).getD 10 (.Pass ⟨0, 0, 0, 0⟩)
abbrev s__law_asked_right : Stmt := top 65
abbrev s_law : Stmt := top 66
def D_is_of : He.DefD := ⟨("is_of", none), "is_of", "is_of", defArgs s_is_of, defBody s_is_of, defScope s_is_of, [], []⟩
def D_is_name : He.DefD := ⟨("is_name", none), "is_name", "is_name", defArgs s_is_name, defBody s_is_name, defScope s_is_name, [], []⟩
def D_are_words : He.DefD := ⟨("are_words", none), "are_words", "are_words", defArgs s_are_words, defBody s_are_words, defScope s_are_words, [], []⟩
def D_is_host : He.DefD := ⟨("is_host", none), "is_host", "is_host", defArgs s_is_host, defBody s_is_host, defScope s_is_host, [], []⟩
def D_is_path : He.DefD := ⟨("is_path", none), "is_path", "is_path", defArgs s_is_path, defBody s_is_path, defScope s_is_path, [], []⟩
def D_is_address : He.DefD := ⟨("is_address", none), "is_address", "is_address", defArgs s_is_address, defBody s_is_address, defScope s_is_address, [], []⟩
def D_is_within : He.DefD := ⟨("is_within", none), "is_within", "is_within", defArgs s_is_within, defBody s_is_within, defScope s_is_within, [], []⟩
def D_is_below : He.DefD := ⟨("is_below", none), "is_below", "is_below", defArgs s_is_below, defBody s_is_below, defScope s_is_below, [], []⟩
def D_is_whole : He.DefD := ⟨("is_whole", none), "is_whole", "is_whole", defArgs s_is_whole, defBody s_is_whole, defScope s_is_whole, [], []⟩
def D_is_value : He.DefD := ⟨("is_value", none), "is_value", "is_value", defArgs s_is_value, defBody s_is_value, defScope s_is_value, [], []⟩
def D_is_write : He.DefD := ⟨("is_write", none), "is_write", "is_write", defArgs s_is_write, defBody s_is_write, defScope s_is_write, [], []⟩
def D_need_site : He.DefD := ⟨("need_site", none), "need_site", "need_site", defArgs s_need_site, defBody s_need_site, defScope s_need_site, [], []⟩
def D_need_page : He.DefD := ⟨("need_page", none), "need_page", "need_page", defArgs s_need_page, defBody s_need_page, defScope s_need_page, [], []⟩
def D_need_name : He.DefD := ⟨("need_name", none), "need_name", "need_name", defArgs s_need_name, defBody s_need_name, defScope s_need_name, [], []⟩
def D_key_in : He.DefD := ⟨("key_in", none), "key_in", "key_in", defArgs s_key_in, defBody s_key_in, defScope s_key_in, [], []⟩
def D_taken_in : He.DefD := ⟨("taken_in", none), "taken_in", "taken_in", defArgs s_taken_in, defBody s_taken_in, defScope s_taken_in, [], []⟩
def D_is_key : He.DefD := ⟨("is_key", none), "is_key", "is_key", defArgs s_is_key, defBody s_is_key, defScope s_is_key, [], []⟩
def D_rank : He.DefD := ⟨("rank", none), "rank", "rank", defArgs s_rank, defBody s_rank, defScope s_rank, [], []⟩
def D_need_address : He.DefD := ⟨("need_address", none), "need_address", "need_address", defArgs s_need_address, defBody s_need_address, defScope s_need_address, [], []⟩
def D_after : He.DefD := ⟨("after", none), "after", "after", defArgs s_after, defBody s_after, defScope s_after, [], []⟩
def D_goes : He.DefD := ⟨("goes", none), "goes", "goes", defArgs s_goes, defBody s_goes, defScope s_goes, [], []⟩
def D_sent_in : He.DefD := ⟨("sent_in", none), "sent_in", "sent_in", defArgs s_sent_in, defBody s_sent_in, defScope s_sent_in, [], []⟩
def D_read_in : He.DefD := ⟨("read_in", none), "read_in", "read_in", defArgs s_read_in, defBody s_read_in, defScope s_read_in, [], []⟩
def D__law_mixed : He.DefD := ⟨("_law_mixed", none), "_law_mixed", "_law_mixed", defArgs s__law_mixed, defBody s__law_mixed, defScope s__law_mixed, [], []⟩
def D__law_begin : He.DefD := ⟨("_law_begin", none), "_law_begin", "_law_begin", defArgs s__law_begin, defBody s__law_begin, defScope s__law_begin, [], []⟩
def D__law_draw : He.DefD := ⟨("_law_draw", none), "_law_draw", "_law_draw", defArgs s__law_draw, defBody s__law_draw, defScope s__law_draw, [], []⟩
def D__law_key : He.DefD := ⟨("_law_key", none), "_law_key", "_law_key", defArgs s__law_key, defBody s__law_key, defScope s__law_key, [], []⟩
def D__law_visited : He.DefD := ⟨("_law_visited", none), "_law_visited", "_law_visited", defArgs s__law_visited, defBody s__law_visited, defScope s__law_visited, [], []⟩
def D__law_goes : He.DefD := ⟨("_law_goes", none), "_law_goes", "_law_goes", defArgs s__law_goes, defBody s__law_goes, defScope s__law_goes, [], []⟩
def D__law_sent : He.DefD := ⟨("_law_sent", none), "_law_sent", "_law_sent", defArgs s__law_sent, defBody s__law_sent, defScope s__law_sent, [], []⟩
def D__law_jar : He.DefD := ⟨("_law_jar", none), "_law_jar", "_law_jar", defArgs s__law_jar, defBody s__law_jar, defScope s__law_jar, [], []⟩
def D__law_host : He.DefD := ⟨("_law_host", none), "_law_host", "_law_host", defArgs s__law_host, defBody s__law_host, defScope s__law_host, [], []⟩
def D__law_path : He.DefD := ⟨("_law_path", none), "_law_path", "_law_path", defArgs s__law_path, defBody s__law_path, defScope s__law_path, [], []⟩
def D__law_write : He.DefD := ⟨("_law_write", none), "_law_write", "_law_write", defArgs s__law_write, defBody s__law_write, defScope s__law_write, [], []⟩
def D__law_page : He.DefD := ⟨("_law_page", none), "_law_page", "_law_page", defArgs s__law_page, defBody s__law_page, defScope s__law_page, [], []⟩
def D__law_keys : He.DefD := ⟨("_law_keys", none), "_law_keys", "_law_keys", defArgs s__law_keys, defBody s__law_keys, defScope s__law_keys, [], []⟩
def D__law_site : He.DefD := ⟨("_law_site", none), "_law_site", "_law_site", defArgs s__law_site, defBody s__law_site, defScope s__law_site, [], []⟩
def D__law_address : He.DefD := ⟨("_law_address", none), "_law_address", "_law_address", defArgs s__law_address, defBody s__law_address, defScope s__law_address, [], []⟩
def D_Browser_keep : He.DefD := ⟨("Browser", some "keep"), "keep", "Browser.keep", defArgs s_Browser_keep, defBody s_Browser_keep, defScope s_Browser_keep, [], []⟩
def D_Browser_visit : He.DefD := ⟨("Browser", some "visit"), "visit", "Browser.visit", defArgs s_Browser_visit, defBody s_Browser_visit, defScope s_Browser_visit, [], []⟩
def D_Browser_clear : He.DefD := ⟨("Browser", some "clear"), "clear", "Browser.clear", defArgs s_Browser_clear, defBody s_Browser_clear, defScope s_Browser_clear, [], []⟩
def D_Browser_undo : He.DefD := ⟨("Browser", some "undo"), "undo", "Browser.undo", defArgs s_Browser_undo, defBody s_Browser_undo, defScope s_Browser_undo, [], []⟩
def D__law_turned : He.DefD := ⟨("_law_turned", none), "_law_turned", "_law_turned", defArgs s__law_turned, defBody s__law_turned, defScope s__law_turned, [], []⟩
def D_Browser_jar : He.DefD := ⟨("Browser", some "jar"), "jar", "Browser.jar", defArgs s_Browser_jar, defBody s_Browser_jar, defScope s_Browser_jar, [], []⟩
def D_Browser_row : He.DefD := ⟨("Browser", some "row"), "row", "Browser.row", defArgs s_Browser_row, defBody s_Browser_row, defScope s_Browser_row, [], []⟩
def D_Browser___len__ : He.DefD := ⟨("Browser", some "__len__"), "__len__", "Browser.__len__", defArgs s_Browser___len__, defBody s_Browser___len__, defScope s_Browser___len__, [], []⟩
def D_Browser_site : He.DefD := ⟨("Browser", some "site"), "site", "Browser.site", defArgs s_Browser_site, defBody s_Browser_site, defScope s_Browser_site, [], []⟩
def D_Browser___contains__ : He.DefD := ⟨("Browser", some "__contains__"), "__contains__", "Browser.__contains__", defArgs s_Browser___contains__, defBody s_Browser___contains__, defScope s_Browser___contains__, [], []⟩
def D__law_shown : He.DefD := ⟨("_law_shown", none), "_law_shown", "_law_shown", defArgs s__law_shown, defBody s__law_shown, defScope s__law_shown, [], []⟩
def D_Browser___init__ : He.DefD := ⟨("Browser", some "__init__"), "__init__", "Browser.__init__", defArgs s_Browser___init__, defBody s_Browser___init__, defScope s_Browser___init__, [], []⟩
def D__law_new : He.DefD := ⟨("_law_new", none), "_law_new", "_law_new", defArgs s__law_new, defBody s__law_new, defScope s__law_new, [], []⟩
def D_Browser_sent : He.DefD := ⟨("Browser", some "sent"), "sent", "Browser.sent", defArgs s_Browser_sent, defBody s_Browser_sent, defScope s_Browser_sent, [], []⟩
def D_Browser_read : He.DefD := ⟨("Browser", some "read"), "read", "Browser.read", defArgs s_Browser_read, defBody s_Browser_read, defScope s_Browser_read, [], []⟩
def D__law_asked_right : He.DefD := ⟨("_law_asked_right", none), "_law_asked_right", "_law_asked_right", defArgs s__law_asked_right, defBody s__law_asked_right, defScope s__law_asked_right, [], []⟩
def D_law : He.DefD := ⟨("law", none), "law", "law", defArgs s_law, defBody s_law, defScope s_law, [], []⟩
def fn : List He.DefD := [D_is_of, D_is_name, D_are_words, D_is_host, D_is_path, D_is_address, D_is_within, D_is_below, D_is_whole, D_is_value, D_is_write, D_need_site, D_need_page, D_need_name, D_key_in, D_taken_in, D_is_key, D_rank, D_need_address, D_after, D_goes] ++ [D_sent_in, D_read_in, D__law_mixed, D__law_begin, D__law_draw, D__law_key, D__law_visited, D__law_goes, D__law_sent, D__law_jar, D__law_host, D__law_path, D__law_write, D__law_page, D__law_keys, D__law_site, D__law_address, D_Browser_keep, D_Browser_visit, D_Browser_clear, D_Browser_undo, D__law_turned, D_Browser___len__, D_Browser___contains__, D__law_shown, D_Browser___init__, D__law_new, D_Browser_sent, D_Browser_read, D__law_asked_right, D_law]
def gs : List He.DefD := [D_Browser_jar, D_Browser_row, D_Browser_site]
def fa1 : List He.Fa := [.glo "is_of", .glo "is_name", .glo "are_words", .glo "is_host", .glo "is_path", .glo "is_address", .glo "is_within", .glo "is_below", .glo "is_whole", .glo "is_value", .glo "is_write", .glo "need_site", .glo "need_page", .glo "need_name", .glo "key_in", .glo "taken_in", .glo "is_key", .glo "rank", .glo "need_address", .glo "after", .glo "goes", .glo "sent_in", .glo "read_in", .glo "_law_mixed", .glo "_law_begin", .glo "_law_draw", .glo "_law_key", .glo "_law_visited", .glo "_law_goes", .glo "_law_sent", .glo "_law_jar", .glo "_law_host"]
def fa2 : List He.Fa := [.glo "_law_path", .glo "_law_write", .glo "_law_page", .glo "_law_keys", .glo "_law_site", .glo "_law_address", .glo "_law_turned", .glo "_law_shown", .glo "_law_new", .glo "_law_asked_right", .glo "law", .glo "JarError", .glo "BadSite", .glo "BadAddress", .glo "BadName", .glo "BadPage", .glo "Browser", .cls "Browser", .mkr "Browser", .noat "Browser" "own_site", .noat "Browser" "state", .noat "Browser" "past", .meth "Browser" "keep", .meth "Browser" "visit", .meth "Browser" "clear", .meth "Browser" "undo", .meth "Browser" "__len__", .meth "Browser" "__contains__", .meth "Browser" "sent", .meth "Browser" "read", .free "len", .int "MOST_SIGNS" 6, .free "str", .free "isinstance", .free "all", .str "LETTERS" "abcdefghijklmnopqrstuvwxyz", .free "tuple", .str "SIGNS" "abcdefghijklmnopqrstuvwxyz0123456789", .int "MOST_LABELS" 5, .int "LEAST_LABELS" 2, .int "MOST_SEGMENTS" 4, .free "bool", .free "int", .int "MOST_PAGES" 5, .free "enumerate", .int "MOST_WRITES" 5, .free "list", .free "sorted", .free "range", .free "repr", .free "min"]
def fa : List He.Fa := fa1 ++ fa2
def errsL : List Str := ["BadSite", "BadAddress", "BadName", "BadPage"]
def tq : List ((Str × Option Str) × Str) := [(("_law_sent", none), "_law_sent.<locals>.<lambda>"), (("_law_jar", none), "_law_jar.<locals>.<lambda>")]
abbrev Rw5 : PySem.W.OpenRow := PySem.W.OpenLaw.row PySem.Challenge.rw_jarvisits_k37_whole_browsers
def tf : List He.Defn := [("_law_sent", none), ("_law_jar", none)]
theorem tf_eq : tf = tq.map (·.1) := rfl
def exL (K : PySem.W.Frag) : List Bool := [(decide ((tq.map fun p => (He.cT K p.1).2).Nodup)), (errsL.all fun n => excCB K (He.ga K n)), (jarB K (.type "type")), (prpB K "Browser" "jar"), (okA K (prG K D_Browser_jar) D_Browser_jar.qual), (prpB K "Browser" "row"), (okA K (prG K D_Browser_row) D_Browser_row.qual), (prpB K "Browser" "site"), (okA K (prG K D_Browser_site) D_Browser_site.qual)]
def ex (K : PySem.W.Frag) : Bool := (exL K).all id
theorem ex_get {K : PySem.W.Frag} (h : ex K = true) (i : Nat) {b : Bool} (e : (exL K)[i]? = some b) : b = true := List.all_eq_true.mp h b (List.mem_of_getElem? e)
abbrev hk : PySem.W.Hook := Jv.hookW 5 fa fn gs tf ex
def ob (s : PySem.W.SharedT) : He.AlX × List He.FnW := Jv.obsW 5 fa fn gs tf ex (HandSHeadRun.getT s)
theorem ob_eq (s : PySem.W.SharedT) : ob s = hk.obs s.abs := Jv.obsW_eq (HandSHeadRun.getT_eq s)
def hnm1 : List PySem.Str := ["_wall", "LETTERS", "SIGNS", "MOST_SIGNS", "LEAST_LABELS", "MOST_LABELS", "MOST_SEGMENTS", "is_of", "is_name", "are_words", "is_host", "is_path", "is_address", "is_within", "is_below", "JarError", "BadSite", "BadAddress", "BadName", "BadPage", "MOST_PAGES", "MOST_WRITES", "is_whole", "is_value", "is_write"]
def hnm2 : List PySem.Str := ["need_site", "need_page", "need_name", "key_in", "taken_in", "is_key", "rank", "need_address", "after", "goes", "sent_in", "read_in", "Browser", "_law_mixed", "_law_begin", "_law_draw", "_law_of", "_law_key", "_law_visited", "_law_behind", "_law_goes", "_law_sent", "_law_jar", "_law_host", "_law_path"]
def hnm3 : List PySem.Str := ["_law_write", "_law_page", "_law_site", "_law_keys", "_law_effects", "_law_address", "_law_turned", "_law_shown", "_law_new", "_law_asked_right"]
def hnm4 : List PySem.Str := []
def names : List PySem.Str := hnm1 ++ (hnm2 ++ (hnm3 ++ hnm4))
theorem run (w : World) : HandSHeadRun.RunEq Rw5 (PySem.W.view Rw5.prog [66]) hk ob 20000 names w := by
  intro os
  kernel_rfl
end K37
end
section
/-! sites, keys, jars as plain things; their trees -/
namespace Rf
open PySem Jv
abbrev D := Jv.D
abbrev W := Jv.W
structure Adr where
  host : List Str
  path : List Str
  sec : Bool
  deriving DecidableEq
structure Wr where
  name : Str
  value : Option Str
  dom : Option (List Str)
  fol : Option (List Str)
  gd : Bool
  deriving DecidableEq
structure Pg where
  adr : Adr
  ws : List Wr
  deriving DecidableEq
structure Ky where
  name : Str
  dom : List Str
  fol : List Str
  alone : Bool
  deriving DecidableEq
structure Kp where
  key : Ky
  val : Str
  gd : Bool
  deriving DecidableEq
instance : Inhabited Ky := ⟨⟨"", [], [], false⟩⟩
def eSs (xs : List Str) : D := .tup (xs.map .str)
def eO {α : Type} (f : α → D) : Option α → D
  | none => .non
  | some a => f a
def eAdr (a : Adr) : D := .tup [eSs a.host, eSs a.path, .bl a.sec]
def eWr (w : Wr) : D := .tup [.str w.name, eO .str w.value, eO eSs w.dom, eO eSs w.fol, .bl w.gd]
def ePg (p : Pg) : D := .tup [eAdr p.adr, .tup (p.ws.map eWr)]
def eSite (s : List Pg) : D := .tup (s.map ePg)
def eKy (k : Ky) : D := .tup [.str k.name, eSs k.dom, eSs k.fol, .bl k.alone]
def eKp (k : Kp) : D := .tup [eKy k.key, .str k.val, .bl k.gd]
/-! ### good ones -/
abbrev LET : Str := "abcdefghijklmnopqrstuvwxyz"
abbrev SIG : Str := "abcdefghijklmnopqrstuvwxyz0123456789"
def wordB (s x : Str) : Bool := decide (1 ≤ x.cps.size) && decide (x.cps.size ≤ 6) && x.cps.toList.all fun c => decide (c ∈ s.cps.toList)
def hostG (h : List Str) : Bool := h.all (wordB SIG) && decide (2 ≤ h.length) && decide (h.length ≤ 5)
def pathG (h : List Str) : Bool := h.all (wordB SIG) && decide (h.length ≤ 4)
def adrG (a : Adr) : Bool := hostG a.host && pathG a.path
def optG {α : Type} (p : α → Bool) : Option α → Bool
  | none => true
  | some a => p a
def wrG (w : Wr) : Bool := wordB LET w.name && optG (wordB SIG) w.value && optG hostG w.dom && optG pathG w.fol
def pgG (p : Pg) : Bool := adrG p.adr && decide (p.ws.length ≤ 5) && p.ws.all wrG
def siteG (s : List Pg) : Bool := decide (1 ≤ s.length) && decide (s.length ≤ 5) && s.all pgG
def kyG (k : Ky) : Bool := wordB LET k.name && hostG k.dom && pathG k.fol
theorem sig_all : ∀ c ∈ SIG.cps.toList, c < 0x110000 := by decide +kernel
theorem let_all : ∀ c ∈ LET.cps.toList, c ∈ SIG.cps.toList := by decide +kernel
theorem strOk_of {s x : Str} (hs : ∀ c ∈ s.cps.toList, c < 0x110000) (h : wordB s x = true) : PyData.strOk x = true := by
  simp only [wordB, Bool.and_eq_true, decide_eq_true_eq, List.all_eq_true] at h
  unfold PyData.strOk
  rw [← Array.all_toList]
  exact List.all_eq_true.mpr fun c hc => decide_eq_true (hs c (h.2 c hc))
theorem strOk_sig {x : Str} (h : wordB SIG x = true) : PyData.strOk x = true := strOk_of sig_all h
theorem strOk_let {x : Str} (h : wordB LET x = true) : PyData.strOk x = true := strOk_of (fun c hc => sig_all c (let_all c hc)) h
def strsOk (xs : List Str) : Bool := xs.all PyData.strOk
theorem strsOk_host {h : List Str} (g : hostG h = true) : strsOk h = true := by
  simp only [hostG, Bool.and_eq_true, List.all_eq_true] at g
  exact List.all_eq_true.mpr fun x hx => strOk_sig (g.1.1 x hx)
theorem strsOk_path {h : List Str} (g : pathG h = true) : strsOk h = true := by
  simp only [pathG, Bool.and_eq_true, List.all_eq_true] at g
  exact List.all_eq_true.mpr fun x hx => strOk_sig (g.1 x hx)
/-! ### trees compared -/
theorem pyL_strs (a : List Str) : D.pyL (a.map .str) = a.map PyData.str := by
  induction a with
  | nil => rfl
  | cons x r ih => simp [D.pyL, D.py, ih]
theorem lay_strs {a : List Str} (h : strsOk a = true) : PyData.canLayAll0 (a.map PyData.str) = true := by
  induction a with
  | nil => rfl
  | cons x r ih =>
    simp only [strsOk, List.all_cons, Bool.and_eq_true] at h
    simp only [List.map_cons, PyData.canLayAll0, PyData.canLay0, Bool.and_eq_true]
    exact ⟨h.1, ih h.2⟩
theorem dep_strs (a : List Str) : PyData.depthAll (a.map PyData.str) = 0 := by
  induction a with
  | nil => rfl
  | cons x r ih => simp [PyData.depthAll, PyData.depth, ih]
theorem eqv_strs : ∀ (a b : List Str), PyData.eqvAll (a.map PyData.str) (b.map PyData.str) = decide (a = b)
  | [], [] => by simp [PyData.eqvAll]
  | [], _ :: _ => by simp [PyData.eqvAll]
  | _ :: _, [] => by simp [PyData.eqvAll]
  | x :: a, y :: b => by
    simp only [List.map_cons, PyData.eqvAll, PyData.eqv, eqv_strs a b, List.cons.injEq, Bool.decide_and]
    rfl
theorem py_ss (a : List Str) : (eSs a).py = .tuple (a.map PyData.str) := by simp [eSs, D.py, pyL_strs]
theorem sh_ss {a : List Str} (h : strsOk a = true) : SeqAt.shaped (eSs a).py = true := by
  simp [SeqAt.shaped, py_ss, PyData.canLay0, lay_strs h, PyData.depth, dep_strs]
theorem eqD_ss {a b : List Str} (ha : strsOk a = true) (hb : strsOk b = true) (st : Sto) : eqD st (.v (eSs a)) (.v (eSs b)) = some (.bl (decide (a = b))) := by
  have h1 := sh_ss ha
  have h2 := sh_ss hb
  rw [py_ss] at h1 h2
  simp [eqD, deref, py_ss, h1, h2, PyData.eqv, eqv_strs]
theorem neD_ss {a b : List Str} (ha : strsOk a = true) (hb : strsOk b = true) (st : Sto) : neD st (.v (eSs a)) (.v (eSs b)) = some (.bl (!decide (a = b))) := by
  have h1 := sh_ss ha
  have h2 := sh_ss hb
  rw [py_ss] at h1 h2
  simp [neD, deref, py_ss, h1, h2, PyData.eqv, eqv_strs]
theorem decide_bool (a b : Bool) : (a == b) = decide (a = b) := rfl
theorem decide_str (a b : Str) : (a == b) = decide (a = b) := rfl
/-- a key's texts -/
def kyOk (k : Ky) : Bool := PyData.strOk k.name && strsOk k.dom && strsOk k.fol
theorem kyOk_of {k : Ky} (h : kyG k = true) : kyOk k = true := by
  simp only [kyG, Bool.and_eq_true] at h
  simp only [kyOk, Bool.and_eq_true]
  exact ⟨⟨strOk_let h.1.1, strsOk_host h.1.2⟩, strsOk_path h.2⟩
theorem py_ky (k : Ky) : (eKy k).py = .tuple [.str k.name, .tuple (k.dom.map PyData.str), .tuple (k.fol.map PyData.str), .bool k.alone] := by
  simp only [eKy, D.py, D.pyL, py_ss]
theorem lay_ky {k : Ky} (h : kyOk k = true) : (eKy k).py.canLay0 = true := by
  simp only [kyOk, Bool.and_eq_true] at h
  simp [py_ky, PyData.canLay0, PyData.canLayAll0, h.1.1, lay_strs h.1.2, lay_strs h.2]
theorem dep_ky (k : Ky) : (eKy k).py.depth = 2 := by
  simp [py_ky, PyData.depth, PyData.depthAll, dep_strs]
theorem sh_ky {k : Ky} (h : kyOk k = true) : SeqAt.shaped (eKy k).py = true := by
  simp [SeqAt.shaped, lay_ky h, dep_ky]
theorem eqv_ky (a b : Ky) : PyData.eqv (eKy a).py (eKy b).py = decide (a = b) := by
  obtain ⟨n, d, f, l⟩ := a
  obtain ⟨n2, d2, f2, l2⟩ := b
  simp only [py_ky, PyData.eqv, PyData.eqvAll, eqv_strs, Bool.and_true, Ky.mk.injEq, Bool.decide_and]
  simp [decide_bool, decide_str]
theorem eqD_ky {a b : Ky} (ha : kyOk a = true) (hb : kyOk b = true) (st : Sto) : eqD st (.v (eKy a)) (.v (eKy b)) = some (.bl (decide (a = b))) := by
  simp [eqD, deref, sh_ky ha, sh_ky hb, eqv_ky]
theorem neD_ky {a b : Ky} (ha : kyOk a = true) (hb : kyOk b = true) (st : Sto) : neD st (.v (eKy a)) (.v (eKy b)) = some (.bl (!decide (a = b))) := by
  simp [neD, deref, sh_ky ha, sh_ky hb, eqv_ky]
/-! ### keys as keys of dicts -/
theorem nk_strs : ∀ (a b : List Str), D.nkL (a.map .str) = D.nkL (b.map .str) → a = b
  | [], [], _ => rfl
  | [], _ :: _, h => by simp [D.nkL] at h
  | _ :: _, [], h => by simp [D.nkL] at h
  | x :: a, y :: b, h => by
    simp only [List.map_cons, D.nkL, D.nk, List.cons.injEq, NestedKey.text.injEq] at h
    rw [h.1, nk_strs a b h.2]
theorem nk_ky {a b : Ky} : (eKy a).nk = (eKy b).nk ↔ a = b := by
  constructor
  · intro h
    obtain ⟨n, d, f, l⟩ := a
    obtain ⟨n2, d2, f2, l2⟩ := b
    simp only [eKy, eSs, D.nk, D.nkL, NestedKey.tup.injEq, List.cons.injEq, NestedKey.text.injEq, NestedKey.num.injEq, and_true] at h
    obtain ⟨h1, h2, h3, h4⟩ := h
    have e2 := nk_strs _ _ h2
    have e3 := nk_strs _ _ h3
    have e4 : l = l2 := by cases l <;> cases l2 <;> simp_all
    rw [h1, e2, e3, e4]
  · intro h; rw [h]
theorem hb_strs (a : List Str) : D.hbL (a.map .str) = true := by
  induction a with
  | nil => rfl
  | cons x r ih => simp [D.hbL, D.hb, ih]
theorem nkd_strs (a : List Str) : NestedKey.depthAll (D.nkL (a.map .str)) = 0 := by
  induction a with
  | nil => rfl
  | cons x r ih => simp [D.nkL, D.nk, NestedKey.depthAll, NestedKey.depth, ih]
theorem okK_ky (k : Ky) : okK (eKy k) = true := by
  simp [okK, eKy, eSs, D.hb, D.hbL, hb_strs, D.nk, D.nkL, NestedKey.depth, NestedKey.depthAll, nkd_strs]
/-- the entries of a dict with keys as keys -/
def eKv {α : Type} (f : α → D) (l : List (Ky × α)) : List (D × D) := l.map fun p => (eKy p.1, f p.2)
def hasA {α : Type} (l : List (Ky × α)) (k : Ky) : Bool := l.any fun p => decide (p.1 = k)
def putA {α : Type} (l : List (Ky × α)) (k : Ky) (v : α) : List (Ky × α) := if hasA l k then l.map fun p => if p.1 = k then (p.1, v) else p else l ++ [(k, v)]
theorem hasK_eKv {α : Type} (f : α → D) (l : List (Ky × α)) (k : Ky) : hasK (eKv f l) (eKy k) = hasA l k := by
  unfold hasK hasA eKv
  rw [List.any_map]
  congr 1
  funext p
  simp only [Function.comp_def]
  exact decide_eq_decide.mpr nk_ky
theorem storeK_eKv {α : Type} (f : α → D) (l : List (Ky × α)) (k : Ky) (v : α) : storeK (eKv f l) (eKy k) (f v) = eKv f (putA l k v) := by
  unfold storeK putA
  rw [hasK_eKv]
  split
  · simp only [eKv, List.map_map]
    congr 1
    funext p
    simp only [Function.comp_def]
    by_cases h : p.1 = k
    · rw [if_pos (nk_ky.mpr h), if_pos h]
    · rw [if_neg (fun z => h (nk_ky.mp z)), if_neg h]
  · simp [eKv]
theorem putA_len {α : Type} (l : List (Ky × α)) (k : Ky) (v : α) : (putA l k v).length ≤ l.length + 1 := by
  unfold putA
  split <;> simp
theorem putA_keys {α : Type} (l : List (Ky × α)) (k : Ky) (v : α) : (putA l k v).map (·.1) = if k ∈ l.map (·.1) then l.map (·.1) else l.map (·.1) ++ [k] := by
  unfold putA
  have e : hasA l k = decide (k ∈ l.map (·.1)) := by
    unfold hasA
    rw [Bool.eq_iff_iff]
    simp [List.any_eq_true]
  rw [e]
  by_cases h : k ∈ l.map (·.1)
  · rw [if_pos (decide_eq_true h), if_pos h, List.map_map]
    congr 1
    funext p
    simp only [Function.comp_def]
    split <;> rfl
  · rw [if_neg (by simpa using h), if_neg h]
    simp
/-! ### sorted keys -/
def kyLe (a b : Ky) : Bool := PySem.W.dataLe false D.py (eKy a) (eKy b)
theorem ins_map {α β : Type} {le : α → α → Bool} {le' : β → β → Bool} (f : α → β) (h : ∀ a b, le' (f a) (f b) = le a b) (x : α) : ∀ l : List α, ins le' (f x) (l.map f) = (ins le x l).map f
  | [] => rfl
  | y :: r => by
    simp only [List.map_cons, ins, h]
    split
    · rfl
    · simp [ins_map f h x r]
theorem isort_map {α β : Type} {le : α → α → Bool} {le' : β → β → Bool} (f : α → β) (h : ∀ a b, le' (f a) (f b) = le a b) : ∀ l : List α, isort le' (l.map f) = (isort le l).map f
  | [] => rfl
  | x :: r => by simp only [List.map_cons, isort, isort_map f h r, ins_map f h]
def sortKy (l : List Ky) : List Ky := isort kyLe l
theorem sortL_ky (l : List Ky) : sortL (l.map eKy) = (sortKy l).map eKy := isort_map (le := kyLe) eKy (fun _ _ => rfl) l
theorem alike_strs : ∀ (a b : List Str), PySem.W.alikeAll (a.map PyData.str) (b.map PyData.str) = true
  | [], b => by unfold PySem.W.alikeAll; cases b <;> simp
  | _ :: _, [] => by simp [PySem.W.alikeAll]
  | x :: a, y :: b => by simp [PySem.W.alikeAll, PySem.W.alike, alike_strs a b]
theorem alike_ky (a b : Ky) : PySem.W.alike (eKy a).py (eKy b).py = true := by
  simp [py_ky, PySem.W.alike, PySem.W.alikeAll, alike_strs]
theorem keysOk2_ky {l : List Ky} (h : ∀ k ∈ l, kyOk k = true) (hl : l.length ≤ 100000) : keysOk2 (l.map eKy) = true := by
  unfold keysOk2
  simp only [Bool.and_eq_true, Bool.or_eq_true, decide_eq_true_eq]
  refine ⟨⟨⟨?_, .inl ?_⟩, ?_⟩, by simpa using hl⟩
  · unfold alikes
    simp only [List.all_eq_true, List.mem_map]
    rintro _ ⟨_, ⟨a, _, rfl⟩, rfl⟩ _ ⟨_, ⟨b, _, rfl⟩, rfl⟩
    exact alike_ky a b
  · simp only [List.all_eq_true, List.mem_map]
    rintro _ ⟨_, ⟨a, _, rfl⟩, rfl⟩
    rw [py_ky]
    rfl
  · simp only [List.all_eq_true, List.mem_map]
    rintro _ ⟨a, ha, rfl⟩
    simp [dep_ky, lay_ky (h a ha)]
theorem ins_perm {α : Type} (le : α → α → Bool) (x : α) : ∀ l : List α, (ins le x l).Perm (x :: l)
  | [] => .refl _
  | y :: r => by
    simp only [ins]
    split
    · exact .refl _
    · exact ((ins_perm le x r).cons y).trans (.swap x y r)
theorem isort_perm {α : Type} (le : α → α → Bool) : ∀ l : List α, (isort le l).Perm l
  | [] => .refl _
  | x :: r => (ins_perm le x (isort le r)).trans ((isort_perm le r).cons x)
/-! ### the key of a write -/
def isWithin (h d : List Str) : Bool := d.isSuffixOf h
def keyOf (a : Adr) (w : Wr) : Option Ky :=
  if (w.gd && !a.sec) || (match w.dom with | some d => !isWithin a.host d | none => false) then none
  else some ⟨w.name, w.dom.getD a.host, w.fol.getD a.path.dropLast, w.dom.isNone⟩
theorem keyOf_is {a : Adr} {w : Wr} {k : Ky} (e : keyOf a w = some k) : k = ⟨w.name, w.dom.getD a.host, w.fol.getD a.path.dropLast, w.dom.isNone⟩ := by
  unfold keyOf at e
  generalize (w.gd && !a.sec || (match w.dom with | some d => !isWithin a.host d | none => false)) = c at e
  cases c
  · exact (Option.some.inj e).symm
  · cases e
theorem keyOf_good {a : Adr} {w : Wr} (ha : adrG a = true) (hw : wrG w = true) {k : Ky} (e : keyOf a w = some k) : kyG k = true := by
  rw [keyOf_is e]
  obtain ⟨name, value, dom, fol, gd⟩ := w
  simp only [adrG, wrG, Bool.and_eq_true] at ha hw
  obtain ⟨⟨⟨h1, h2⟩, h3⟩, h4⟩ := hw
  simp only [kyG, Bool.and_eq_true]
  refine ⟨⟨h1, ?_⟩, ?_⟩
  · cases dom with
    | none => exact ha.1
    | some d => exact h3
  · cases fol with
    | none =>
      have h := ha.2
      simp only [pathG, Bool.and_eq_true, List.all_eq_true, decide_eq_true_eq] at h ⊢
      simp only [Option.getD]
      exact ⟨fun x hx => h.1 x (List.dropLast_subset _ hx), by rw [List.length_dropLast]; omega⟩
    | some d => exact h4
/-- the keys of pages, in the order in which they come -/
def addKy (l : List Ky) (k : Ky) : List Ky := if k ∈ l then l else l ++ [k]
def keysPg (l : List Ky) (p : Pg) : List Ky := (p.ws.filterMap (keyOf p.adr)).foldl addKy l
def keysRaw (s : List Pg) : List Ky := s.foldl keysPg []
/-- the keys of a site, ascending -/
def keysS (s : List Pg) : List Ky := sortKy (keysRaw s)
end Rf
end
section
/-! parts of lists, loops, results: general facts -/
namespace Rf
open PySem Jv
/-! ### parts -/
theorem cut_tail {α : Type} (xs : List α) {n : Nat} (h : 1 ≤ n) : cutD xs (some (-(n : Int))) none = xs.drop (xs.length - n) := by
  unfold cutD
  have e : HT.sIx xs.length 0 (some (-(n : Int))) = xs.length - n := by
    show (if (-(n : Int)) < 0 then ((-(n : Int)) + (xs.length : Int)).toNat else min (-(n : Int)).toNat xs.length) = _
    rw [if_pos (by omega)]
    omega
  rw [e, HT.sIx_none]
  exact List.take_of_length_le (by simp)
theorem cut_init {α : Type} (xs : List α) : cutD xs none (some (-1)) = xs.dropLast := by
  unfold cutD
  have e : HT.sIx xs.length xs.length (some (-1)) = xs.length - 1 := by
    show (if (-1 : Int) < 0 then ((-1 : Int) + (xs.length : Int)).toNat else min (-1 : Int).toNat xs.length) = _
    rw [if_pos (by omega)]
    omega
  rw [e, HT.sIx_none]
  simp [List.dropLast_eq_take]
theorem cut_upto {α : Type} (xs : List α) (n : Nat) : cutD xs none (some (n : Int)) = xs.take n := by
  unfold cutD
  rw [HT.sIx_nat, HT.sIx_none]
  simp only [List.drop_zero, Nat.sub_zero]
  rcases Nat.le_total n xs.length with h | h
  · rw [Nat.min_eq_left h]
  · rw [Nat.min_eq_right h, List.take_of_length_le (Nat.le_refl _), List.take_of_length_le h]
theorem cut_from {α : Type} (xs : List α) (n : Nat) : cutD xs (some (n : Int)) none = xs.drop n := by
  unfold cutD
  rw [HT.sIx_nat, HT.sIx_none]
  rcases Nat.le_total n xs.length with h | h
  · rw [Nat.min_eq_left h]
    exact List.take_of_length_le (by simp)
  · rw [Nat.min_eq_right h, List.drop_of_length_le (Nat.le_refl _), List.drop_of_length_le h]
    simp
/-- x[len(x) - n:] == y, n the length of y -/
theorem tail_is {x y : List Str} : decide (x.drop (x.length - y.length) = y) = isWithin x y := by
  unfold isWithin
  rw [Bool.eq_iff_iff, decide_eq_true_iff, List.isSuffixOf_iff_suffix]
  constructor
  · intro h
    exact ⟨x.take (x.length - y.length), by
      have := List.take_append_drop (x.length - y.length) x
      rw [h] at this
      exact this⟩
  · rintro ⟨t, rfl⟩
    simp
/-! ### slices of trees of texts -/
theorem slc_ss (st : Sto) (xs : List Str) (lo hi : Option Int) : slcD st (.v (eSs xs)) lo hi = some (eSs (cutD xs lo hi)) := by
  simp only [eSs, slcD, Option.some.injEq, Jv.D.tup.injEq]
  simp [cutD]
theorem len_ss (st : Sto) (xs : List Str) : lenA st [.v (eSs xs)] = some (.int xs.length) := by
  simp [eSs, lenA, lenB]
theorem isNot_ss (st : Sto) (xs : List Str) : isNotD st (.v (eSs xs)) (.v .non) = some (.bl true) := rfl
theorem is_ss (st : Sto) (xs : List Str) : isD st (.v (eSs xs)) (.v .non) = some (.bl false) := rfl
theorem isNot_non (st : Sto) : isNotD st (.v .non) (.v .non) = some (.bl false) := rfl
theorem is_non (st : Sto) : isD st (.v .non) (.v .non) = some (.bl true) := rfl
theorem isNot_ky (st : Sto) (k : Ky) : isNotD st (.v (eKy k)) (.v .non) = some (.bl true) := rfl
theorem is_ky (st : Sto) (k : Ky) : isD st (.v (eKy k)) (.v .non) = some (.bl false) := rfl
theorem is_str (st : Sto) (x : Str) : isD st (.v (.str x)) (.v .non) = some (.bl false) := rfl
/-! ### loops -/
/-- the same, of what is behind -/
theorem forGo_pre {α : Type} {g : GD} {body : SD} (enc : α → Jv.D) (Inv : List α → Jv.Env → Sto → Prop) {xs : List α} {env : Jv.Env} {st : Sto} (h : Inv [] env st)
    (f : ∀ ys x zs env st, xs = ys ++ x :: zs → Inv ys env st → ∃ env1, g (.v (enc x)) env = some env1 ∧ ∃ env2 st2, (body env1 st = .nx env2 st2 ∨ body env1 st = .ct env2 st2) ∧ Inv (ys ++ [x]) env2 st2) :
    ∃ env2 st2, forGo g body (xs.map enc) env st = .nx env2 st2 ∧ Inv xs env2 st2 := by
  have gen : ∀ (zs ys : List α) (env : Jv.Env) (st : Sto), xs = ys ++ zs → Inv ys env st → ∃ env2 st2, forGo g body (zs.map enc) env st = .nx env2 st2 ∧ Inv xs env2 st2 := by
    intro zs
    induction zs with
    | nil =>
      intro ys env st e i
      rw [List.append_nil] at e
      exact ⟨env, st, rfl, e ▸ i⟩
    | cons x r ih =>
      intro ys env st e i
      obtain ⟨env1, h1, env2, st2, h2, h3⟩ := f ys x r env st e i
      obtain ⟨env3, st3, e3, i3⟩ := ih (ys ++ [x]) env2 st2 (by rw [e]; simp) h3
      refine ⟨env3, st3, ?_, i3⟩
      rcases h2 with h2 | h2 <;> simp only [List.map_cons, forGo, h1, h2, e3]
  exact gen xs [] env st rfl h
/-! ### a dict of keys, each True -/
def eKs (ks : List Ky) : List (D × D) := ks.map fun k => (eKy k, .bl true)
theorem eKs_put (ks : List Ky) (k : Ky) : storeK (eKs ks) (eKy k) (.bl true) = eKs (addKy ks k) := by
  have e : ∀ l : List Ky, eKs l = eKv (fun _ : Unit => Jv.D.bl true) (l.map fun k => (k, ())) := fun l => by simp [eKs, eKv]
  rw [e, e, storeK_eKv (fun _ : Unit => Jv.D.bl true) _ _ ()]
  congr 1
  unfold putA addKy hasA
  rw [List.any_map]
  by_cases h : k ∈ ks
  · rw [if_pos (by simpa using h), if_pos h, List.map_map]
    congr 1
    funext p
    simp only [Function.comp_def]
    split <;> rfl
  · rw [if_neg (by simpa using h), if_neg h]
    simp
theorem addKy_len (l : List Ky) (k : Ky) : (addKy l k).length ≤ l.length + 1 := by
  unfold addKy
  split <;> simp
theorem addKys_len : ∀ (ks l : List Ky), (ks.foldl addKy l).length ≤ l.length + ks.length
  | [], l => by simp
  | k :: r, l => by
    have h1 := addKy_len l k
    have h2 := addKys_len r (addKy l k)
    simp only [List.foldl_cons, List.length_cons]
    omega
theorem addKy_mem {l : List Ky} {k x : Ky} : x ∈ addKy l k ↔ x ∈ l ∨ x = k := by
  unfold addKy
  split
  · constructor
    · exact .inl
    · rintro (h | rfl) <;> assumption
  · simp
theorem addKys_mem {x : Ky} : ∀ {ks l : List Ky}, x ∈ ks.foldl addKy l ↔ x ∈ l ∨ x ∈ ks
  | [], l => by simp
  | k :: r, l => by
    simp only [List.foldl_cons, addKys_mem (ks := r), addKy_mem, List.mem_cons]
    constructor
    · rintro ((h | h) | h)
      · exact .inl h
      · exact .inr (.inl h)
      · exact .inr (.inr h)
    · rintro (h | h | h)
      · exact .inl (.inl h)
      · exact .inl (.inr h)
      · exact .inr h
theorem keysRaw_eq (s : List Pg) : keysRaw s = (s.flatMap fun p => p.ws.filterMap (keyOf p.adr)).foldl addKy [] := by
  unfold keysRaw
  have gen : ∀ (s : List Pg) (l : List Ky), s.foldl keysPg l = (s.flatMap fun p => p.ws.filterMap (keyOf p.adr)).foldl addKy l := by
    intro s
    induction s with
    | nil => intro l; rfl
    | cons p r ih => intro l; simp only [List.foldl_cons, List.flatMap_cons, List.foldl_append]; exact ih _
  exact gen s []
theorem keysRaw_mem {s : List Pg} {k : Ky} : k ∈ keysRaw s ↔ ∃ p ∈ s, ∃ w ∈ p.ws, keyOf p.adr w = some k := by
  rw [keysRaw_eq, addKys_mem]
  simp [List.mem_flatMap, List.mem_filterMap]
theorem pg_of {p : Pg} (h : pgG p = true) : adrG p.adr = true ∧ p.ws.length ≤ 5 ∧ ∀ w ∈ p.ws, wrG w = true := by
  simp only [pgG, Bool.and_eq_true, decide_eq_true_eq, List.all_eq_true] at h
  exact ⟨h.1.1, h.1.2, h.2⟩
theorem keysRaw_good {s : List Pg} (h : ∀ p ∈ s, pgG p = true) {k : Ky} (hk : k ∈ keysRaw s) : kyG k = true := by
  obtain ⟨p, hp, w, hw, e⟩ := keysRaw_mem.mp hk
  obtain ⟨h1, _, h3⟩ := pg_of (h p hp)
  exact keyOf_good h1 (h3 w hw) e
theorem keysOf_mem {s : List Pg} {k : Ky} : k ∈ keysS s ↔ k ∈ keysRaw s := (isort_perm _ _).mem_iff
theorem keysRaw_len {s : List Pg} (h : ∀ p ∈ s, pgG p = true) : (keysRaw s).length ≤ 5 * s.length := by
  rw [keysRaw_eq]
  refine Nat.le_trans (addKys_len _ _) ?_
  simp only [List.length_nil, Nat.zero_add]
  induction s with
  | nil => simp
  | cons p r ih =>
    have h1 := (pg_of (h p List.mem_cons_self)).2.1
    have h2 := ih fun q hq => h q (List.mem_cons_of_mem _ hq)
    have h3 := List.length_filterMap_le (keyOf p.adr) p.ws
    simp only [List.flatMap_cons, List.length_append, List.length_cons]
    omega
/-! ### ints, pages compared -/
theorem eqD_int (st : Sto) (i j : Int) : eqD st (.v (.int i)) (.v (.int j)) = some (.bl (decide (i = j))) := by
  have e1 : ∀ n : Int, SeqAt.shaped (D.int n).py = true := fun n => by
    simp [SeqAt.shaped, D.py, PyData.canLay0, PyData.depth]
  simp only [eqD, deref, e1, Bool.and_self, if_true, D.py, PyData.eqv]
  rfl
theorem optStr_ok {v : Option Str} (h : optG (wordB SIG) v = true) : ((eO .str v : D).py.canLay0 = true) ∧ (eO .str v : D).py.depth = 0 := by
  cases v with
  | none => exact ⟨rfl, rfl⟩
  | some x => exact ⟨strOk_sig h, rfl⟩
theorem optSs_ok {v : Option (List Str)} (h : ∀ x, v = some x → strsOk x = true) : ((eO eSs v : D).py.canLay0 = true) ∧ (eO eSs v : D).py.depth ≤ 1 := by
  cases v with
  | none => exact ⟨rfl, by simp [eO, D.py, PyData.depth]⟩
  | some x => exact ⟨by simp [eO, py_ss, PyData.canLay0, lay_strs (h x rfl)], by simp [eO, py_ss, PyData.depth, dep_strs]⟩
theorem wr_ok {w : Wr} (h : wrG w = true) : (eWr w).py.canLay0 = true ∧ (eWr w).py.depth ≤ 2 := by
  simp only [wrG, Bool.and_eq_true] at h
  obtain ⟨⟨⟨h1, h2⟩, h3⟩, h4⟩ := h
  obtain ⟨a1, a2⟩ := optStr_ok h2
  obtain ⟨b1, b2⟩ := optSs_ok (v := w.dom) fun x e => by rw [e] at h3; exact strsOk_host h3
  obtain ⟨c1, c2⟩ := optSs_ok (v := w.fol) fun x e => by rw [e] at h4; exact strsOk_path h4
  have n1 := strOk_let h1
  constructor
  · simp [eWr, D.py, D.pyL, PyData.canLay0, PyData.canLayAll0, n1, a1, b1, c1]
  · simp only [eWr, D.py, D.pyL, PyData.depth, PyData.depthAll]
    omega
theorem wrs_ok : ∀ {ws : List Wr}, (∀ w ∈ ws, wrG w = true) → PyData.canLayAll0 (D.pyL (ws.map eWr)) = true ∧ PyData.depthAll (D.pyL (ws.map eWr)) ≤ 2
  | [], _ => ⟨rfl, by simp [D.pyL, PyData.depthAll]⟩
  | w :: r, h => by
    obtain ⟨h1, h2⟩ := wr_ok (h w List.mem_cons_self)
    obtain ⟨h3, h4⟩ := wrs_ok (ws := r) fun x hx => h x (List.mem_cons_of_mem _ hx)
    constructor
    · simp [D.pyL, PyData.canLayAll0, h1, h3]
    · simp only [List.map_cons, D.pyL, PyData.depthAll]
      omega
theorem adr_ok {a : Adr} (h : adrG a = true) : (eAdr a).py.canLay0 = true ∧ (eAdr a).py.depth = 2 := by
  simp only [adrG, Bool.and_eq_true] at h
  have h1 := lay_strs (strsOk_host h.1)
  have h2 := lay_strs (strsOk_path h.2)
  constructor
  · simp [eAdr, D.py, D.pyL, py_ss, PyData.canLay0, PyData.canLayAll0, h1, h2]
  · simp [eAdr, D.py, D.pyL, py_ss, PyData.depth, PyData.depthAll, dep_strs]
theorem pg_ok {p : Pg} (h : pgG p = true) : (ePg p).py.canLay0 = true ∧ (ePg p).py.depth ≤ 4 := by
  obtain ⟨h1, _, h3⟩ := pg_of h
  obtain ⟨a1, a2⟩ := adr_ok h1
  obtain ⟨b1, b2⟩ := wrs_ok h3
  constructor
  · simp [ePg, D.py, D.pyL, PyData.canLay0, PyData.canLayAll0, a1, b1]
  · simp only [ePg, D.py, D.pyL, PyData.depth, PyData.depthAll]
    omega
theorem pgs_ok : ∀ {s : List Pg}, (∀ p ∈ s, pgG p = true) → PyData.canLayAll0 (D.pyL (s.map ePg)) = true ∧ PyData.depthAll (D.pyL (s.map ePg)) ≤ 4
  | [], _ => ⟨rfl, by simp [D.pyL, PyData.depthAll]⟩
  | w :: r, h => by
    obtain ⟨h1, h2⟩ := pg_ok (h w List.mem_cons_self)
    obtain ⟨h3, h4⟩ := pgs_ok (s := r) fun x hx => h x (List.mem_cons_of_mem _ hx)
    constructor
    · simp [D.pyL, PyData.canLayAll0, h1, h3]
    · simp only [List.map_cons, D.pyL, PyData.depthAll]
      omega
theorem sh_pgs {s : List Pg} (h : ∀ p ∈ s, pgG p = true) : SeqAt.shaped (D.lst (s.map ePg)).py = true ∧ SeqAt.shaped (D.tup (s.map ePg)).py = true := by
  obtain ⟨h1, h2⟩ := pgs_ok h
  constructor <;> simp only [SeqAt.shaped, D.py, PyData.canLay0, PyData.depth, h1, Bool.true_and, decide_eq_true_eq] <;> omega
/-! ### a list comprehension whose elements change the store -/
theorem lcGo_map {α β : Type} {g : GD} {e : ED} {env : Jv.Env} (enc : α → Jv.D) (encb : β → Jv.D) (J : Nat → Sto → Prop) (Good : β → Prop) (B : Nat) :
    ∀ (xs : List α) (n : Nat) (st : Sto) (acc : List Jv.D), n + xs.length ≤ B → J n st → (∀ n x st, x ∈ xs → n < B → J n st → ∃ env1, g (.v (enc x)) env = some env1 ∧ ∃ y st2, Good y ∧ e env1 st = .ok (.v (encb y)) st2 ∧ J (n + 1) st2) →
      ∃ (ys : List β) (st2 : Sto), ys.length = xs.length ∧ (∀ y ∈ ys, Good y) ∧ lcGo g bYes e env (xs.map enc) st acc = .ok (acc ++ ys.map encb) st2 ∧ J (n + xs.length) st2
  | [], n, st, acc, hB, h, _ => ⟨[], st, rfl, by simp, by simp [lcGo], h⟩
  | x :: r, n, st, acc, hB, h, f => by
    rw [List.length_cons] at hB
    obtain ⟨env1, h1, y, st2, gy, h2, h3⟩ := f n x st List.mem_cons_self (by omega) h
    obtain ⟨ys, st3, l3, g3, e3, j3⟩ := lcGo_map enc encb J Good B r (n + 1) st2 (acc ++ [encb y]) (by omega) h3 fun n z st hz => f n z st (List.mem_cons_of_mem _ hz)
    refine ⟨y :: ys, st3, by simp [l3], fun z hz => (List.mem_cons.mp hz).elim (fun q => q ▸ gy) (g3 z), ?_, by rw [List.length_cons, show n + (r.length + 1) = n + 1 + r.length by omega]; exact j3⟩
    simp only [List.map_cons, lcGo, h1, bYes, noX_ok, R.bind_ok, if_true, h2, e3, List.append_assoc, List.singleton_append]
theorem host_suf {h : List Str} (g : hostG h = true) {n : Nat} (hn : 2 ≤ n) (hl : n ≤ h.length) : hostG (h.drop (h.length - n)) = true := by
  simp only [hostG, Bool.and_eq_true, decide_eq_true_eq, List.all_eq_true] at g ⊢
  refine ⟨⟨fun x hx => g.1.1 x (List.drop_subset _ _ hx), ?_⟩, ?_⟩ <;> rw [List.length_drop] <;> omega
end Rf
end
section
/-! sorted keys are told by their members alone; what pages take, their effects; loops of comprehensions -/
namespace Rf
open PySem Jv
/-! ### the order of keys -/
theorem isort_sorted {α : Type} {le : α → α → Bool} (h : PySem.W.TotalLe le) : ∀ l : List α, (isort le l).Pairwise fun a b => le a b = true
  | [] => .nil
  | x :: r => ins_sorted h (isort_sorted h r)
theorem sortKy_len (l : List Ky) : (sortKy l).length = l.length := (isort_perm _ _).length_eq
/-! ### what a page takes, its effects -/
abbrev Tk := Ky × Option Str × Bool
abbrev Ef := Option (Str × Bool)
def takenOf (p : Pg) : List Tk := p.ws.filterMap fun w => (keyOf p.adr w).map fun k => (k, w.value, w.gd)
def efOf (t : Tk) : Ef := t.2.1.map fun v => (v, t.2.2)
def effRaw (p : Pg) : List (Ky × Ef) := (takenOf p).foldl (fun l t => putA l t.1 (efOf t)) []
def getA {α : Type} (l : List (Ky × α)) (k : Ky) : Option α := (l.find? fun p => decide (p.1 = k)).map (·.2)
def eTk (t : Tk) : D := .tup [eKy t.1, eO .str t.2.1, .bl t.2.2]
theorem putAs_keys {α β : Type} (f : β → Ky) (v : β → α) : ∀ (ts : List β) (l : List (Ky × α)), (ts.foldl (fun l t => putA l (f t) (v t)) l).map (·.1) = (ts.map f).foldl addKy (l.map (·.1))
  | [], l => rfl
  | t :: r, l => by
    simp only [List.foldl_cons, List.map_cons, putAs_keys f v r]
    congr 1
    rw [putA_keys]
    rfl
theorem effRaw_keys (p : Pg) : (effRaw p).map (·.1) = ((takenOf p).map (·.1)).foldl addKy [] := putAs_keys (fun t : Tk => t.1) efOf _ _
theorem taken_keys (p : Pg) : (takenOf p).map (·.1) = p.ws.filterMap (keyOf p.adr) := by
  unfold takenOf
  rw [List.map_filterMap]
  congr 1
  funext w
  cases keyOf p.adr w <;> rfl
theorem effRaw_mem {p : Pg} {k : Ky} : k ∈ (effRaw p).map (·.1) ↔ ∃ w ∈ p.ws, keyOf p.adr w = some k := by
  rw [effRaw_keys, addKys_mem, taken_keys]
  simp [List.mem_filterMap]
theorem taken_len (p : Pg) : (takenOf p).length ≤ p.ws.length := List.length_filterMap_le _ _
/-! ### dicts read -/
theorem getA_mem {α : Type} {l : List (Ky × α)} {k : Ky} (h : k ∈ l.map (·.1)) : ∃ v, getA l k = some v := by
  unfold getA
  obtain ⟨p, hp, rfl⟩ := List.mem_map.mp h
  cases q : l.find? fun x => decide (x.1 = p.1) with
  | none =>
    have := List.find?_eq_none.mp q p hp
    simp at this
  | some v => exact ⟨v.2, rfl⟩
theorem getA_none {α : Type} {l : List (Ky × α)} {k : Ky} (h : k ∉ l.map (·.1)) : getA l k = none := by
  unfold getA
  cases q : l.find? fun x => decide (x.1 = k) with
  | none => rfl
  | some v =>
    have h1 := List.find?_some q
    have h2 := List.mem_of_find?_eq_some q
    exact absurd (List.mem_map.mpr ⟨v, h2, of_decide_eq_true h1⟩) h
/-! ### loops of comprehensions -/
end Rf
end
section
/-! keys in lists, keys compared by <= -/
namespace Rf
open PySem Jv
theorem keys_lay : ∀ {ks : List Ky}, (∀ k ∈ ks, kyOk k = true) → PyData.canLayAll0 (D.pyL (ks.map eKy)) = true ∧ PyData.depthAll (D.pyL (ks.map eKy)) ≤ 2
  | [], _ => ⟨rfl, by simp [D.pyL, PyData.depthAll]⟩
  | k :: r, h => by
    have h1 := lay_ky (h k List.mem_cons_self)
    have h2 := dep_ky k
    obtain ⟨h3, h4⟩ := keys_lay (ks := r) fun x hx => h x (List.mem_cons_of_mem _ hx)
    constructor
    · simp [D.pyL, PyData.canLayAll0, h1, h3]
    · simp only [List.map_cons, D.pyL, PyData.depthAll]
      omega
theorem sh_keys {ks : List Ky} (h : ∀ k ∈ ks, kyOk k = true) : SeqAt.shaped (.list (D.pyL (ks.map eKy))) = true := by
  obtain ⟨h1, h2⟩ := keys_lay h
  simp only [SeqAt.shaped, PyData.canLay0, PyData.depth, h1, Bool.true_and]
  exact decide_eq_true (by omega)
theorem any_eqv (k : Ky) : ∀ ks : List Ky, (D.pyL (ks.map eKy)).any (fun z => PyData.eqv z (eKy k).py) = decide (k ∈ ks)
  | [] => by simp [D.pyL]
  | x :: r => by
    simp only [List.map_cons, D.pyL, List.any_cons, any_eqv k r, eqv_ky, List.mem_cons]
    rw [Bool.eq_iff_iff]
    simp only [Bool.or_eq_true, decide_eq_true_eq]
    constructor
    · rintro (h | h)
      · exact .inl h.symm
      · exact .inr h
    · rintro (h | h)
      · exact .inl h.symm
      · exact .inr h
theorem notIn_ky {ks : List Ky} {k : Ky} (h : ∀ k ∈ ks, kyOk k = true) (hk : kyOk k = true) (st : Sto) : notIn3 st (.v (eKy k)) (.v (.lst (ks.map eKy))) = some (.bl (!decide (k ∈ ks))) := by
  have e : inD st (.v (eKy k)) (.v (.lst (ks.map eKy))) = some (.bl (decide (k ∈ ks))) := by
    have s1 := sh_ky hk
    have s2 := sh_keys h
    have ek : eKy k = .tup [.str k.name, eSs k.dom, eSs k.fol, .bl k.alone] := rfl
    have a := any_eqv k ks
    rw [ek] at s1 a ⊢
    simp only [inD, asLst, s1, s2, Bool.and_self, if_true, a]
  simp only [orO, notInD, e]
theorem in_ky {ks : List Ky} {k : Ky} (h : ∀ k ∈ ks, kyOk k = true) (hk : kyOk k = true) (st : Sto) : in3 st (.v (eKy k)) (.v (.lst (ks.map eKy))) = some (.bl (decide (k ∈ ks))) := by
  have s1 := sh_ky hk
  have s2 := sh_keys h
  have ek : eKy k = .tup [.str k.name, eSs k.dom, eSs k.fol, .bl k.alone] := rfl
  have a := any_eqv k ks
  rw [ek] at s1 a ⊢
  simp only [orO, inD, asLst, s1, s2, Bool.and_self, if_true, a]
/-! pairs laid side by side -/
theorem atI_nat {α : Type} (l : List α) (i : Nat) : L2.atI l (i : Int) = l[i]? := by
  unfold L2.atI L2.ixN
  by_cases h : i < l.length
  · rw [if_pos (by omega), if_pos (by omega)]
    simp
  · rw [List.getElem?_eq_none (by omega)]
    simp only [show (0 : Int) ≤ (i : Int) from by omega, if_true]
    rw [if_neg (by omega)]
    rfl
end Rf
end
section
/-! a search by layers: shortest rows -/
namespace Rf
section
variable {S : Type} [DecidableEq S]
abbrev Fd (S : Type) := List (S × List Nat)
def inF (f : Fd S) (y : S) : Bool := f.any fun p => decide (p.1 = y)
variable (step : S → Nat → S) (n : Nat) (b : S)
end
end Rf
end
section
/-! what is kept behind visits -/
namespace Rf
open PySem Jv
theorem getA_nil {α : Type} (k : Ky) : getA ([] : List (Ky × α)) k = none := rfl
theorem getA_cons {α : Type} (p : Ky × α) (l : List (Ky × α)) (k : Ky) : getA (p :: l) k = if p.1 = k then some p.2 else getA l k := by
  unfold getA
  rw [List.find?_cons]
  by_cases h : p.1 = k
  · rw [if_pos h, decide_eq_true h]; rfl
  · rw [if_neg h, decide_eq_false h]
theorem getA_append {α : Type} (l m : List (Ky × α)) (k : Ky) : getA (l ++ m) k = (getA l k).or (getA m k) := by
  induction l with
  | nil => rw [List.nil_append, getA_nil]; rfl
  | cons p r ih =>
    rw [List.cons_append, getA_cons, getA_cons, ih]
    split <;> rfl
theorem getA_isSome {α : Type} {l : List (Ky × α)} {k : Ky} : (getA l k).isSome = true ↔ k ∈ l.map (·.1) := by
  constructor
  · intro h
    by_cases m : k ∈ l.map (·.1)
    · exact m
    · rw [getA_none m] at h; cases h
  · intro h
    obtain ⟨v, e⟩ := getA_mem h
    rw [e]; rfl
theorem getA_set {α : Type} (l : List (Ky × α)) (k x : Ky) (v : α) : getA (l.map fun p => if p.1 = k then (p.1, v) else p) x = if k = x ∧ k ∈ l.map (·.1) then some v else getA l x := by
  induction l with
  | nil => simp [getA_nil]
  | cons p r ih =>
    rw [List.map_cons, getA_cons, getA_cons, ih]
    by_cases h1 : p.1 = k
    · rw [if_pos h1]
      by_cases h2 : k = x
      · simp [h1, h2]
      · have : ¬ p.1 = x := fun z => h2 (h1.symm.trans z)
        simp [h2, this]
    · rw [if_neg h1]
      by_cases h2 : p.1 = x
      · have : ¬ k = x := fun z => h1 (h2.trans z.symm)
        simp [h2, this]
      · by_cases h3 : k = x
        · subst h3
          have h4 : ¬ k = p.1 := fun z => h2 z.symm
          simp only [h2, if_false, List.map_cons, List.mem_cons, h4, false_or]
        · simp [h2, h3]
theorem getA_put {α : Type} (l : List (Ky × α)) (k x : Ky) (v : α) : getA (putA l k v) x = if k = x then some v else getA l x := by
  have e : hasA l k = decide (k ∈ l.map (·.1)) := by
    unfold hasA
    rw [Bool.eq_iff_iff]
    simp [List.any_eq_true]
  unfold putA
  rw [e]
  by_cases m : k ∈ l.map (·.1)
  · rw [if_pos (decide_eq_true m), getA_set]
    simp only [m, and_true]
  · rw [if_neg (by simpa using m), getA_append, getA_cons, getA_nil]
    by_cases h : k = x
    · subst h
      rw [getA_none m]; simp
    · rw [if_neg h, if_neg h]
      cases getA l x <;> rfl
theorem getA_drop {α : Type} (l : List (Ky × α)) (k x : Ky) : getA (l.filter fun p => decide (p.1 ≠ k)) x = if k = x then none else getA l x := by
  induction l with
  | nil => simp [getA_nil]
  | cons p r ih =>
    rw [List.filter_cons]
    by_cases h1 : p.1 = k
    · rw [if_neg (by simp [h1]), ih, getA_cons]
      by_cases h2 : k = x
      · rw [if_pos h2, if_pos h2]
      · rw [if_neg h2, if_neg h2, if_neg fun z => h2 (h1.symm.trans z)]
    · rw [if_pos (by simp [h1]), getA_cons, getA_cons, ih]
      by_cases h2 : p.1 = x
      · rw [if_pos h2, if_pos h2, if_neg fun z => h1 (h2.trans z.symm)]
      · rw [if_neg h2, if_neg h2]
/-! ### visits -/
abbrev Kd := Ky × (Str × Bool)
def eKd (p : Kd) : D := .tup [eKy p.1, .tup [.str p.2.1, .bl p.2.2]]
/-- one write -/
def visW (a : Adr) (l : List Kd) (w : Wr) : List Kd := match keyOf a w with
  | none => l
  | some k => match w.value with
    | none => l.filter fun p => decide (p.1 ≠ k)
    | some v => putA l k (v, w.gd)
def visPg (l : List Kd) (p : Pg) : List Kd := p.ws.foldl (visW p.adr) l
def KdOk (l : List Kd) : Prop := (l.map (·.1)).Nodup
theorem putA_nodup {α : Type} {l : List (Ky × α)} (h : (l.map (·.1)).Nodup) (k : Ky) (v : α) : ((putA l k v).map (·.1)).Nodup := by
  rw [putA_keys]
  split
  · exact h
  · rename_i m
    exact List.nodup_append.mpr ⟨h, by simp, fun a ha b hb z => by
      rw [List.mem_singleton] at hb
      subst hb; subst z
      exact m ha⟩
theorem visW_ok {a : Adr} {l : List Kd} (h : KdOk l) (w : Wr) : KdOk (visW a l w) := by
  unfold visW
  split
  · exact h
  · split
    · exact List.Nodup.sublist ((List.filter_sublist).map _) h
    · exact putA_nodup h _ _
theorem visPg_ok {l : List Kd} (h : KdOk l) (p : Pg) : KdOk (visPg l p) := by
  unfold visPg
  induction p.ws generalizing l with
  | nil => exact h
  | cons w r ih => exact ih (visW_ok h w)
theorem getA_visW (a : Adr) (l : List Kd) (w : Wr) (x : Ky) : getA (visW a l w) x = if keyOf a w = some x then w.value.map (fun v => (v, w.gd)) else getA l x := by
  unfold visW
  cases hk : keyOf a w with
  | none => simp
  | some k =>
    cases hv : w.value with
    | none =>
      simp only [getA_drop]
      by_cases h : k = x
      · simp [h]
      · simp [h]
    | some v =>
      simp only [getA_put]
      by_cases h : k = x
      · simp [h]
      · simp [h]
/-- what is kept under a key behind a page: the page's effect on it, or what was kept -/
theorem getA_visPg (l : List Kd) (p : Pg) (x : Ky) : getA (visPg l p) x = (getA (effRaw p) x).getD (getA l x) := by
  unfold visPg effRaw takenOf
  generalize ha : p.adr = a
  have gen : ∀ (ws : List Wr) (m : List Kd) (e : List (Ky × Ef)), (∀ x, getA m x = (getA e x).getD (getA l x)) →
      ∀ x, getA (ws.foldl (visW a) m) x = (getA ((ws.filterMap fun w => (keyOf a w).map fun k => ((k, w.value, w.gd) : Tk)).foldl (fun l t => putA l t.1 (efOf t)) e) x).getD (getA l x) := by
    intro ws
    induction ws with
    | nil => intro m e h x; exact h x
    | cons w r ih =>
      intro m e h x
      rw [List.foldl_cons, List.filterMap_cons]
      cases hk : keyOf a w with
      | none =>
        have hv : visW a m w = m := by unfold visW; rw [hk]
        rw [hv]
        exact ih m e h x
      | some k =>
        simp only [Option.map_some, List.foldl_cons]
        refine ih _ _ (fun y => ?_) x
        rw [getA_visW, getA_put, hk]
        by_cases c : k = y
        · subst c
          rw [if_pos rfl, if_pos rfl]
          rfl
        · rw [if_neg (fun z => c (Option.some.inj z)), if_neg c]
          exact h y
  exact gen p.ws l [] (fun _ => rfl) x
def behindOf (s : List Pg) (row : List Nat) : List Kd := row.foldl (fun l i => match s[i]? with | some p => visPg l p | none => l) []
theorem behind_snoc (s : List Pg) (row : List Nat) (i : Nat) {p : Pg} (h : s[i]? = some p) : behindOf s (row ++ [i]) = visPg (behindOf s row) p := by
  unfold behindOf
  rw [List.foldl_append, List.foldl_cons, List.foldl_nil, h]
theorem behind_ok (s : List Pg) (row : List Nat) : KdOk (behindOf s row) := by
  unfold behindOf
  have gen : ∀ (row : List Nat) (l : List Kd), KdOk l → KdOk (row.foldl (fun l i => match s[i]? with | some p => visPg l p | none => l) l) := by
    intro row
    induction row with
    | nil => exact fun l h => h
    | cons i r ih =>
      intro l h
      rw [List.foldl_cons]
      refine ih _ ?_
      split
      · exact visPg_ok h _
      · exact h
  exact gen row [] List.nodup_nil
end Rf
end
section
/-! pages that sign names out -/
namespace Rf
open PySem Jv
abbrev effG (p : Pg) (k : Ky) : Option Ef := getA (effRaw p) k
def setsB (p : Pg) (k : Ky) : Bool := match effG p k with | some (some _) => true | _ => false
def isSetB (s : List Pg) (k : Ky) : Bool := s.any fun p => setsB p k
theorem kept_set {s : List Pg} {k : Ky} : ∀ (row : List Nat), (getA (behindOf s row) k).isSome = true → isSetB s k = true := fun row => by
  have gen : ∀ (r : List Nat) (l : List Kd), ((getA l k).isSome = true → isSetB s k = true) → ((getA (r.foldl (fun l i => match s[i]? with | some p => visPg l p | none => l) l) k).isSome = true → isSetB s k = true) := by
    intro r
    induction r with
    | nil => exact fun l h => h
    | cons i t ih =>
      intro l h
      rw [List.foldl_cons]
      refine ih _ ?_
      split
      · rename_i p hp
        intro q
        rw [getA_visPg] at q
        cases e : getA (effRaw p) k with
        | none => rw [e] at q; exact h q
        | some x =>
          rw [e] at q
          cases x with
          | none => cases q
          | some v =>
            refine List.any_eq_true.mpr ⟨p, List.mem_of_getElem? hp, ?_⟩
            unfold setsB effG
            rw [e]
      · exact h
  exact gen row [] (fun h => by cases h)
theorem eff_key {s : List Pg} {p : Pg} (hp : p ∈ s) {k : Ky} (h : (effG p k).isSome = true) : k ∈ keysS s := by
  obtain ⟨w, hw, e⟩ := effRaw_mem.mp (getA_isSome.mp h)
  exact keysOf_mem.mpr (keysRaw_mem.mpr ⟨p, hp, w, hw, e⟩)
theorem set_key {s : List Pg} {k : Ky} (h : isSetB s k = true) : k ∈ keysS s := by
  obtain ⟨p, hp, q⟩ := List.any_eq_true.mp h
  refine eff_key hp ?_
  unfold setsB at q
  cases e : effG p k with
  | none => rw [e] at q; cases q
  | some _ => rfl
/-! the law's own search -/
end Rf
end
section
/-! effects of one name; dicts of keys asked -/
namespace Rf
open PySem Jv
/-! comprehensions over lists, nothing changed on the way -/
theorem lcGo_pure {α : Type} {g : GD} {t : BD} {e : ED} {env : Jv.Env} (enc : α → D) (q : α → Bool) (val : α → D) {st : Sto} : ∀ (xs : List α) (acc : List D),
    (∀ x ∈ xs, ∃ env1, g (.v (enc x)) env = some env1 ∧ t env1 st = .ok (q x) st ∧ (q x = true → e env1 st = .ok (.v (val x)) st)) → lcGo g t e env (xs.map enc) st acc = .ok (acc ++ (xs.filter q).map val) st
  | [], acc, _ => by simp [lcGo]
  | x :: r, acc, h => by
    obtain ⟨env1, h1, h2, h3⟩ := h x List.mem_cons_self
    have t := fun acc => lcGo_pure enc q val r acc fun y hy => h y (List.mem_cons_of_mem _ hy)
    cases c : q x with
    | true => simp [lcGo, h1, h2, c, h3 c, t]
    | false => simp [lcGo, h1, h2, c, t]
theorem filter_yes {α : Type} (xs : List α) : xs.filter (fun _ => true) = xs := List.filter_eq_self.mpr fun _ _ => rfl
end Rf
end
section
/-! trees that can be shown -/
namespace Rf
open PySem Jv
structure OkT (d : PyData) (k w : Nat) : Prop where
  lay : d.canLay0 = true
  dep : d.depth ≤ k
  wei : d.weight ≤ w
  sho : d.showable = true
  int : d.intsShort 13 = true
theorem OkT.mono {d : PyData} {k w k' w' : Nat} (h : OkT d k w) (hk : k ≤ k') (hw : w ≤ w') : OkT d k' w' := ⟨h.lay, Nat.le_trans h.dep hk, Nat.le_trans h.wei hw, h.sho, h.int⟩
theorem OkT.repr {d : PyData} {k w : Nat} (h : OkT d k w) (hk : k ≤ 50 := by decide) (hw : w ≤ 1000000 := by decide) : okRepr d = true := by
  have h1 := h.dep
  have h2 := h.wei
  unfold okRepr
  simp only [Bool.and_eq_true]
  refine ⟨⟨⟨?_, h.sho⟩, ?_⟩, h.int⟩
  · simp only [SeqAt.shaped, h.lay, Bool.true_and]
    exact decide_eq_true (by omega)
  · simp only [PyData.layable0, h.lay, Bool.true_and, Bool.and_eq_true, decide_eq_true_eq]
    exact ⟨by omega, by omega⟩
theorem okT_str {x : Str} {n : Nat} (h : PyData.strOk x = true) (hl : x.cps.size ≤ n) : OkT (.str x) 0 n := ⟨by simpa [PyData.canLay0] using h, by simp [PyData.depth], by simpa [PyData.weight] using hl, by simp [PyData.showable], by simp [PyData.intsShort]⟩
theorem word_size {s x : Str} (h : wordB s x = true) : x.cps.size ≤ 6 := by
  simp only [wordB, Bool.and_eq_true, decide_eq_true_eq] at h
  exact h.1.2
end Rf
end
section
/-! mended pages -/
namespace Rf
open PySem Jv
theorem len_sub {α : Type} [DecidableEq α] : ∀ {l m : List α}, l.Nodup → (∀ x ∈ l, x ∈ m) → l.length ≤ m.length
  | [], _, _, _ => Nat.zero_le _
  | x :: r, m, h, s => by
    rw [List.nodup_cons] at h
    have hx := s x List.mem_cons_self
    have i := len_sub (l := r) (m := m.erase x) h.2 fun y hy => by
      have : y ≠ x := fun z => h.1 (z ▸ hy)
      exact (List.mem_erase_of_ne this).mpr (s y (List.mem_cons_of_mem _ hy))
    have e := List.length_erase_of_mem hx
    have p := List.length_pos_of_mem hx
    rw [List.length_cons]
    omega
end Rf
end
section
/-! jars: what is kept, by rank; what is kept in the order in which it came, sorted -/
namespace Rf
open PySem Jv
def rkD (p : Kd) : PyData := .tuple [.str p.1.name, .int (0 - (p.1.fol.length : Int)), .tuple (p.1.fol.map PyData.str)]
def rkLe (a b : Kd) : Bool := PySem.W.dataLe false rkD a b
theorem rkLe_eq (a b : Kd) : rkLe a b = !PySem.W.dataLt (rkD b) (rkD a) := rfl
theorem rkD_key {p q : Kd} (h : p.1 = q.1) : rkD p = rkD q := by unfold rkD; rw [h]
def sortR (l : List Kd) : List Kd := isort rkLe l
theorem rkLe_total : PySem.W.TotalLe rkLe := show PySem.W.TotalLe (PySem.W.dataLe false rkD) from dataLe_total _
theorem sortR_perm (l : List Kd) : (sortR l).Perm l := isort_perm _ _
theorem sortR_sorted (l : List Kd) : (sortR l).Pairwise fun a b => rkLe a b = true := isort_sorted rkLe_total l
theorem sortR_stable (l : List Kd) (c : Kd) : (sortR l).filter (PySem.W.sameRank rkLe c) = l.filter (PySem.W.sameRank rkLe c) := by
  unfold sortR
  rw [isort_eq rkLe_total]
  exact PySem.W.sort_stable rkLe_total l c
theorem sortR_of {l m : List Kd} (hs : m.Pairwise fun a b => rkLe a b = true) (hf : ∀ c, m.filter (PySem.W.sameRank rkLe c) = l.filter (PySem.W.sameRank rkLe c)) : m = sortR l := by
  unfold sortR
  rw [isort_eq rkLe_total]
  exact PySem.W.sort_unique rkLe_total hs hf
theorem sortR_congr {l m : List Kd} (hf : ∀ c, m.filter (PySem.W.sameRank rkLe c) = l.filter (PySem.W.sameRank rkLe c)) : sortR m = sortR l :=
  sortR_of (sortR_sorted m) fun c => (sortR_stable m c).trans (hf c)
theorem sortR_snoc (l : List Kd) (x : Kd) : sortR (sortR l ++ [x]) = sortR (l ++ [x]) := sortR_congr fun c => by
  rw [List.filter_append, List.filter_append, sortR_stable]
theorem filter_comm {α : Type} (p q : α → Bool) (l : List α) : (l.filter p).filter q = (l.filter q).filter p := by
  rw [List.filter_filter, List.filter_filter]
  congr 1
  funext x
  exact Bool.and_comm _ _
theorem sortR_filter (q : Kd → Bool) (l : List Kd) : (sortR l).filter q = sortR (l.filter q) :=
  sortR_of ((sortR_sorted l).sublist List.filter_sublist) fun c => by
    rw [filter_comm, sortR_stable, filter_comm]
theorem sortR_map (f : Kd → Kd) (h : ∀ p, (f p).1 = p.1) (l : List Kd) : (sortR l).map f = sortR (l.map f) :=
  (isort_map (le := rkLe) (le' := rkLe) f (fun a b => by
    rw [rkLe_eq, rkLe_eq, rkD_key (h a), rkD_key (h b)]) l).symm
/-! ### visits of jars -/
def aftW (a : Adr) (l : List Kd) (w : Wr) : List Kd := match keyOf a w with
  | none => l
  | some k => match w.value with
    | none => l.filter fun p => decide (p.1 ≠ k)
    | some v => if hasA l k then l.map (fun p => if p.1 = k then (p.1, (v, w.gd)) else p) else sortR (l ++ [(k, (v, w.gd))])
def aftPg (l : List Kd) (p : Pg) : List Kd := p.ws.foldl (aftW p.adr) l
theorem hasA_perm {l m : List Kd} (h : l.Perm m) (k : Ky) : hasA l k = hasA m k := by
  unfold hasA
  rw [Bool.eq_iff_iff, List.any_eq_true, List.any_eq_true]
  exact ⟨fun ⟨p, hp, e⟩ => ⟨p, h.mem_iff.mp hp, e⟩, fun ⟨p, hp, e⟩ => ⟨p, h.mem_iff.mpr hp, e⟩⟩
theorem aftW_sort (a : Adr) (l : List Kd) (w : Wr) : aftW a (sortR l) w = sortR (visW a l w) := by
  unfold aftW visW
  cases keyOf a w with
  | none => rfl
  | some k =>
    cases w.value with
    | none => exact sortR_filter _ l
    | some v =>
      simp only [putA]
      rw [hasA_perm (sortR_perm l)]
      cases hasA l k with
      | true =>
        simp only [if_true]
        exact sortR_map _ (fun p => by split <;> rfl) l
      | false =>
        simp only [Bool.false_eq_true, if_false]
        exact sortR_snoc l _
theorem aftPg_sort (l : List Kd) (p : Pg) : aftPg (sortR l) p = sortR (visPg l p) := by
  unfold aftPg visPg
  generalize p.ws = ws
  induction ws generalizing l with
  | nil => rfl
  | cons w r ih => rw [List.foldl_cons, List.foldl_cons, aftW_sort, ih]
def jarOf (s : List Pg) (row : List Nat) : List Kd := row.foldl (fun l i => match s[i]? with | some p => aftPg l p | none => l) []
theorem jarOf_eq (s : List Pg) (row : List Nat) : jarOf s row = sortR (behindOf s row) := by
  unfold jarOf behindOf
  have gen : ∀ (r : List Nat) (l : List Kd), r.foldl (fun l i => match s[i]? with | some p => aftPg l p | none => l) (sortR l) = sortR (r.foldl (fun l i => match s[i]? with | some p => visPg l p | none => l) l) := by
    intro r
    induction r with
    | nil => intro l; rfl
    | cons i t ih =>
      intro l
      rw [List.foldl_cons, List.foldl_cons]
      cases s[i]? with
      | none => exact ih l
      | some p =>
        simp only
        rw [aftPg_sort]
        exact ih _
  exact gen row []
theorem jarOf_snoc (s : List Pg) (row : List Nat) (i : Nat) {p : Pg} (h : s[i]? = some p) : jarOf s (row ++ [i]) = aftPg (jarOf s row) p := by
  unfold jarOf
  rw [List.foldl_append, List.foldl_cons, List.foldl_nil, h]
theorem sortR_ok {l : List Kd} (h : KdOk l) : KdOk (sortR l) := ((sortR_perm l).map _).nodup_iff.mpr h
end Rf
end
section
/-! small facts for the refinements; parts of a run -/
namespace Rf
open PySem Jv
theorem iat0 {α : Type} (a : α) (r : List α) : L2.atI (a :: r) 0 = some a := by
  simp [L2.atI, L2.ixN]
theorem iat1 {α : Type} (a b : α) (r : List α) : L2.atI (a :: b :: r) 1 = some b := by
  simp [L2.atI, L2.ixN]
  rw [if_pos (by omega)]
  rfl
theorem iat2 {α : Type} (a b c : α) (r : List α) : L2.atI (a :: b :: c :: r) 2 = some c := by
  simp [L2.atI, L2.ixN]
  rw [if_pos (by omega)]
  rfl
theorem iat3 {α : Type} (a b c d : α) (r : List α) : L2.atI (a :: b :: c :: d :: r) 3 = some d := by
  simp [L2.atI, L2.ixN]
  rw [if_pos (by omega)]
  rfl
theorem ky_ix (k : Ky) (st : Sto) : ixD st (.v (eKy k)) (.v (.int 0)) = some (.str k.name) ∧ ixD st (.v (eKy k)) (.v (.int 1)) = some (eSs k.dom) ∧ ixD st (.v (eKy k)) (.v (.int 2)) = some (eSs k.fol) ∧ ixD st (.v (eKy k)) (.v (.int 3)) = some (.bl k.alone) := by
  refine ⟨?_, ?_, ?_, ?_⟩ <;> simp [eKy, ixD, iat0, iat1, iat2, iat3]
theorem eq_str {a b : Str} (ha : PyData.strOk a = true) (hb : PyData.strOk b = true) (st : Sto) : eqD st (.v (.str a)) (.v (.str b)) = some (.bl (decide (a = b))) := by
  have h1 : SeqAt.shaped (PyData.str a) = true := by simp [SeqAt.shaped, PyData.canLay0, PyData.depth, ha]
  have h2 : SeqAt.shaped (PyData.str b) = true := by simp [SeqAt.shaped, PyData.canLay0, PyData.depth, hb]
  simp [eqD, deref, D.py, h1, h2, PyData.eqv, decide_str]
theorem site_parts {s : List Pg} (hg : siteG s = true) : (∀ p ∈ s, pgG p = true) ∧ 1 ≤ s.length ∧ s.length ≤ 5 := by
  simp only [siteG, Bool.and_eq_true, decide_eq_true_eq, List.all_eq_true] at hg
  exact ⟨hg.2, hg.1.1, hg.1.2⟩
theorem sq {f g : SD} {env env' : Jv.Env} {st st' : Sto} (h : f env st = .nx env' st') : sSeq f g env st = g env' st' := by
  unfold sSeq
  rw [h]
/-- a comprehension over a list, nothing changed on the way -/
theorem lLc_pure {α : Type} {vs : List Nat} {it : LD} {g : GD} {t : BD} {e : ED} {env : Jv.Env} {st : Sto} (enc : α → Jv.D) (q : α → Bool) (val : α → Jv.D) {xs : List α} (hit : it env st = .ok (xs.map enc) st) (hl : xs.length ≤ 100000)
    (h : ∀ x ∈ xs, ∃ env1, g (.v (enc x)) (wipeE env vs) = some env1 ∧ t env1 st = .ok (q x) st ∧ (q x = true → e env1 st = .ok (.v (val x)) st)) : lLc vs it g t e env st = .ok ((xs.filter q).map val) st := by
  have lc := lcGo_pure (g := g) (t := t) (e := e) (env := wipeE env vs) enc q val (st := st) xs [] h
  rw [List.nil_append] at lc
  unfold lLc
  rw [hit]
  simp only [R.bind_ok, List.length_map, if_pos hl, lc]
/-- .. with no test -/
theorem lLc_all {α : Type} {vs : List Nat} {it : LD} {g : GD} {e : ED} {env : Jv.Env} {st : Sto} (enc : α → Jv.D) (val : α → Jv.D) {xs : List α} (hit : it env st = .ok (xs.map enc) st) (hl : xs.length ≤ 100000)
    (h : ∀ x ∈ xs, ∃ env1, g (.v (enc x)) (wipeE env vs) = some env1 ∧ e env1 st = .ok (.v (val x)) st) : lLc vs it g bYes e env st = .ok (xs.map val) st := by
  have := lLc_pure (vs := vs) (it := it) (g := g) (t := bYes) (e := e) (env := env) (st := st) enc (fun _ => true) val hit hl fun x hx => by
    obtain ⟨env1, h1, h2⟩ := h x hx
    exact ⟨env1, h1, rfl, fun _ => h2⟩
  rwa [filter_yes] at this
/-- a comprehension that walks an object of the store -/
theorem lcN_pure {α : Type} {nth : Nth} {g : GD} {t : BD} {e : ED} {env : Jv.Env} {st : Sto} (enc : Nat → α → Jv.D) (q : Nat → α → Bool) (val : Nat → α → Jv.D) {xs : List α} (hn : ∀ i, nth i st = some ((xs[i]?).map (enc i)))
    (h : ∀ i x, x ∈ xs → ∃ env1, g (.v (enc i x)) env = some env1 ∧ t env1 st = .ok (q i x) st ∧ (q i x = true → e env1 st = .ok (.v (val i x)) st)) :
    ∀ (ys : List α) (i n : Nat) (acc : List Jv.D), xs.drop i = ys → ys.length < n → lcN nth g t e env n i st acc = .ok (acc ++ ((ys.zipIdx i).filter fun z => q z.2 z.1).map fun z => val z.2 z.1) st := by
  intro ys
  induction ys with
  | nil =>
    intro i n acc e0 hn0
    obtain ⟨m, rfl⟩ : ∃ m, n = m + 1 := ⟨n - 1, by omega⟩
    have h0 : xs[i]? = none := by
      have := congrArg (·[0]?) e0
      simpa using this
    simp [lcN, hn, h0]
  | cons y r ih =>
    intro i n acc e0 hn0
    obtain ⟨m, rfl⟩ : ∃ m, n = m + 1 := ⟨n - 1, by omega⟩
    have h0 : xs[i]? = some y := by
      have := congrArg (·[0]?) e0
      simpa using this
    have h2 : xs.drop (i + 1) = r := by
      have := congrArg (List.drop 1) e0
      simpa [List.drop_drop, Nat.add_comm] using this
    obtain ⟨env1, g1, g2, g3⟩ := h i y (List.mem_of_getElem? h0)
    have x := fun acc => ih (i + 1) m acc h2 (by rw [List.length_cons] at hn0; omega)
    rw [List.zipIdx_cons, List.filter_cons]
    cases c : q i y with
    | true =>
      have g3 := g3 c
      rw [c] at g2
      simp only [lcN, hn, h0, Option.map_some, g1, g2, g3, noX_ok, R.bind_ok, if_true]
      rw [x]
      simp
    | false =>
      rw [c] at g2
      simp only [lcN, hn, h0, Option.map_some, g1, g2, noX_ok, R.bind_ok, Bool.false_eq_true, if_false]
      rw [x]
/-! ### jars -/
def eKq (p : Kd) : Jv.D := .tup [eKy p.1, .str p.2.1, .bl p.2.2]
def eJr (l : List Kd) : Jv.D := .tup (l.map eKq)
theorem kq_ix (p : Kd) (st : Sto) : ixD st (.v (eKq p)) (.v (.int 0)) = some (eKy p.1) ∧ ixD st (.v (eKq p)) (.v (.int 1)) = some (.str p.2.1) ∧ ixD st (.v (eKq p)) (.v (.int 2)) = some (.bl p.2.2) := by
  refine ⟨?_, ?_, ?_⟩ <;> simp [eKq, ixD, iat0, iat1, iat2]
def skQ (p : Kd) : Jv.D := .tup [.str p.1.name, .int (0 - (p.1.fol.length : Int)), eSs p.1.fol]
theorem skQ_py (p : Kd) : (skQ p).py = rkD p := by
  simp only [skQ, D.py, D.pyL, py_ss, rkD]
def kdG (l : List Kd) : Prop := ∀ p ∈ l, kyG p.1 = true
theorem skQ_ok {xs : List Kd} (h : kdG xs) : keysOk (xs.map skQ) = true := by
  unfold keysOk
  simp only [Bool.and_eq_true]
  refine ⟨⟨?_, ?_⟩, ?_⟩
  · unfold alikes
    simp only [List.all_eq_true, List.mem_map]
    rintro _ ⟨_, ⟨a, _, rfl⟩, rfl⟩ _ ⟨_, ⟨b, _, rfl⟩, rfl⟩
    rw [skQ_py, skQ_py]
    simp [rkD, PySem.W.alike, PySem.W.alikeAll, alike_strs]
  · simp only [List.all_eq_true, List.mem_map]
    rintro _ ⟨_, ⟨a, _, rfl⟩, rfl⟩
    rw [skQ_py]; rfl
  · simp only [List.all_eq_true, List.mem_map]
    rintro _ ⟨a, ha, rfl⟩
    have g := kyOk_of (h a ha)
    simp only [kyOk, Bool.and_eq_true] at g
    rw [skQ_py]
    simp [rkD, PyData.depth, PyData.depthAll, dep_strs, PyData.canLay0, PyData.canLayAll0, g.1.1, lay_strs g.2]
/-- sorted by keys that a run tells -/
theorem sortK_rank {run : List W → Sto → R W} {enc : Kd → Jv.D} {xs : List Kd} {st : Sto} (hr : ∀ p ∈ xs, run [.v (enc p)] st = .ok (.v (skQ p)) st) (h : kdG xs) (hl : xs.length ≤ 100000) : sortK run (xs.map enc) st = .ok ((sortR xs).map enc) st := by
  have ks : keysOf run (xs.map enc) st = .ok (xs.map skQ) st := by
    clear h hl
    induction xs with
    | nil => rfl
    | cons p r ih =>
      simp only [List.map_cons, keysOf, hr p List.mem_cons_self, noX_ok, R.bind_ok, ih fun q hq => hr q (List.mem_cons_of_mem _ hq)]
  have z : (xs.map enc).zip (xs.map skQ) = xs.map fun p => (enc p, skQ p) := by rw [List.zip_map']
  have so : sortD (xs.map enc) (xs.map skQ) = (sortR xs).map enc := by
    unfold sortD sortR
    rw [z, isort_map (le := rkLe) (fun p => (enc p, skQ p)) (fun a b => by
      show (!PySem.W.dataLt (skQ b).py (skQ a).py) = rkLe a b
      rw [skQ_py, skQ_py, rkLe_eq]), List.map_map]
    rfl
  have k := skQ_ok h
  have c : decide ((xs.map enc).length ≤ 100000) = true := decide_eq_true (by rw [List.length_map]; omega)
  simp only [sortK, ks, R.bind_ok, sortFin, k, c, Bool.and_self, if_true, so]
def aftT (l : List Kd) (t : Tk) : List Kd := match t.2.1 with
  | none => l.filter fun p => decide (p.1 ≠ t.1)
  | some v => if hasA l t.1 then l.map (fun p => if p.1 = t.1 then (p.1, (v, t.2.2)) else p) else sortR (l ++ [(t.1, (v, t.2.2))])
theorem aftPg_taken (l : List Kd) (p : Pg) : aftPg l p = (takenOf p).foldl aftT l := by
  unfold aftPg takenOf
  generalize p.ws = ws
  induction ws generalizing l with
  | nil => rfl
  | cons w r ih =>
    rw [List.foldl_cons, List.filterMap_cons]
    unfold aftW
    cases keyOf p.adr w with
    | none => exact ih l
    | some k =>
      simp only [Option.map_some, List.foldl_cons]
      exact ih _
theorem taken_good {p : Pg} (h : pgG p = true) {t : Tk} (ht : t ∈ takenOf p) : kyG t.1 = true := by
  have h1 : t.1 ∈ (takenOf p).map (·.1) := List.mem_map.mpr ⟨t, ht, rfl⟩
  rw [taken_keys, List.mem_filterMap] at h1
  obtain ⟨w, hw, e⟩ := h1
  obtain ⟨g1, _, g3⟩ := pg_of h
  exact keyOf_good g1 (g3 w hw) e
theorem aftT_good {l : List Kd} (h : kdG l) {t : Tk} (ht : kyG t.1 = true) : kdG (aftT l t) := by
  unfold aftT
  split
  · exact fun p hp => h p (List.mem_filter.mp hp).1
  · split
    · intro p hp
      obtain ⟨q, hq, rfl⟩ := List.mem_map.mp hp
      split
      · exact h q hq
      · exact h q hq
    · intro p hp
      rcases List.mem_append.mp ((sortR_perm _).mem_iff.mp hp) with q | q
      · exact h p q
      · rw [List.mem_singleton.mp q]; exact ht
theorem aftT_ok {l : List Kd} (h : KdOk l) (t : Tk) : KdOk (aftT l t) := by
  unfold aftT
  split
  · exact List.Nodup.sublist ((List.filter_sublist).map _) h
  · split
    · unfold KdOk
      rw [List.map_map]
      rename_i v _ _
      have : (l.map ((·.1) ∘ fun p : Kd => if p.1 = t.1 then (p.1, (v, t.2.2)) else p)) = l.map (·.1) := List.map_congr_left fun p _ => by
        simp only [Function.comp_def]
        split <;> rfl
      rw [this]; exact h
    · rename_i v _ c
      refine sortR_ok ?_
      unfold KdOk
      rw [List.map_append]
      refine List.nodup_append.mpr ⟨h, by simp, fun a ha b hb z => c ?_⟩
      simp only [List.map_cons, List.map_nil, List.mem_singleton] at hb
      subst hb; subst z
      obtain ⟨p, hp, e⟩ := List.mem_map.mp ha
      exact List.any_eq_true.mpr ⟨p, hp, decide_eq_true e⟩
theorem aftT_len (l : List Kd) (t : Tk) : (aftT l t).length ≤ l.length + 1 := by
  unfold aftT
  split
  · exact Nat.le_succ_of_le (List.length_filter_le _ _)
  · split
    · simp
    · rw [(sortR_perm _).length_eq]; simp
theorem aftTs_len : ∀ (ts : List Tk) (l : List Kd), (ts.foldl aftT l).length ≤ l.length + ts.length
  | [], l => by simp
  | t :: r, l => by
    have h1 := aftT_len l t
    have h2 := aftTs_len r (aftT l t)
    simp only [List.foldl_cons, List.length_cons]
    omega
theorem aftTs_good : ∀ (ts : List Tk) {l : List Kd}, kdG l → (∀ t ∈ ts, kyG t.1 = true) → kdG (ts.foldl aftT l)
  | [], l, h, _ => h
  | t :: r, l, h, g => aftTs_good r (aftT_good h (g t List.mem_cons_self)) fun x hx => g x (List.mem_cons_of_mem _ hx)
theorem aftTs_ok : ∀ (ts : List Tk) {l : List Kd}, KdOk l → KdOk (ts.foldl aftT l)
  | [], l, h => h
  | t :: r, l, h => aftTs_ok r (aftT_ok h t)
theorem aftPg_good {p : Pg} (hp : pgG p = true) {l : List Kd} (hg : kdG l) : kdG (aftPg l p) := by
  rw [aftPg_taken]
  exact aftTs_good _ hg fun t ht => taken_good hp ht
theorem aftPg_ok (p : Pg) {l : List Kd} (h : KdOk l) : KdOk (aftPg l p) := by
  rw [aftPg_taken]
  exact aftTs_ok _ h
/-- the places of a key -/
theorem places_none {l : List Kd} {k : Ky} (h : hasA l k = false) (i : Nat) : (l.zipIdx i).filter (fun z => decide (z.1.1 = k)) = [] := by
  refine List.filter_eq_nil_iff.mpr fun z hz c => ?_
  have m : z.1 ∈ l := by
    obtain ⟨x, j⟩ := z
    exact List.fst_mem_of_mem_zipIdx hz
  have : hasA l k = true := List.any_eq_true.mpr ⟨z.1, m, c⟩
  rw [h] at this; cases this
theorem places_one (v : Str × Bool) {k : Ky} : ∀ {l : List Kd}, KdOk l → hasA l k = true → ∀ i, ∃ j, j < l.length ∧ ((l.zipIdx i).filter fun z => decide (z.1.1 = k)).map (·.2) = [i + j] ∧ l.set j (k, v) = l.map fun p => if p.1 = k then (p.1, v) else p
  | [], _, h, _ => by cases h
  | p :: r, nd, h, i => by
    unfold KdOk at nd
    rw [List.map_cons, List.nodup_cons] at nd
    rw [List.zipIdx_cons, List.filter_cons]
    by_cases c : p.1 = k
    · have nk : ∀ q ∈ r, ¬ q.1 = k := fun q hq z => nd.1 (by rw [c, ← z]; exact List.mem_map.mpr ⟨q, hq, rfl⟩)
      have hr : hasA r k = false := by
        unfold hasA
        rw [List.any_eq_false]
        exact fun q hq => by simpa using nk q hq
      refine ⟨0, by simp, ?_, ?_⟩
      · rw [if_pos (by simpa using c), places_none hr]
        rfl
      · rw [List.map_cons, if_pos c, List.set_cons_zero, c]
        congr 1
        exact ((List.map_congr_left fun q hq => if_neg (nk q hq)).trans (List.map_id' r)).symm
    · have hr : hasA r k = true := by
        unfold hasA at h ⊢
        rw [List.any_cons, decide_eq_false c, Bool.false_or] at h
        exact h
      obtain ⟨j, h1, h2, h3⟩ := places_one v nd.2 hr (i + 1)
      refine ⟨j + 1, by rw [List.length_cons]; omega, ?_, ?_⟩
      · rw [if_neg (by simpa using c), h2]
        congr 1; omega
      · rw [List.set_cons_succ, h3, List.map_cons, if_neg c]
end Rf
end
section
/-! what is kept behind a row is kept behind few of its visits: the last one of each page, and those at which the kept keys came -/
namespace Rf
open PySem Jv
/-! ### what is kept of one key -/
/-! ### the lists -/
end Rf
end
section
/-! dicts whose keys are trees of plain things; jars as keys -/
namespace Rf
open PySem Jv
/-! ### jars, rows -/
def eRow (row : List Nat) : Jv.D := .tup (row.map fun i : Nat => .int (i : Int))
/-! ### trees compared -/
theorem lay_kqs {a : List Kd} (h : kdG a) (hv : ∀ p ∈ a, PyData.strOk p.2.1 = true) : PyData.canLayAll0 (D.pyL (a.map eKq)) = true ∧ PyData.depthAll (D.pyL (a.map eKq)) ≤ 3 := by
  induction a with
  | nil => exact ⟨rfl, by simp [D.pyL, PyData.depthAll]⟩
  | cons x r ih =>
    obtain ⟨h1, h2⟩ := ih (fun p hp => h p (List.mem_cons_of_mem _ hp)) fun p hp => hv p (List.mem_cons_of_mem _ hp)
    have g := lay_ky (kyOk_of (h x List.mem_cons_self))
    have d := dep_ky x.1
    constructor
    · simp [eKq, D.pyL, D.py, PyData.canLayAll0, PyData.canLay0, g, h1, hv x List.mem_cons_self]
    · simp only [List.map_cons, eKq, D.pyL, D.py, PyData.depthAll, PyData.depth]
      omega
end Rf
end
section
/-! last visits; how many states there are -/
namespace Rf
open PySem Jv
/-! ### the pages in the order of their last visits -/
/-! ### rows of unlike pages -/
/-! ### orders of a list -/
/-! ### all that can be kept -/
theorem behind_keys (s : List Pg) (row : List Nat) : ∀ k ∈ (behindOf s row).map (·.1), k ∈ keysRaw s := fun k hk =>
  keysOf_mem.mp (set_key (kept_set row (getA_isSome.mpr hk)))
theorem behind_few (s : List Pg) (row : List Nat) : (behindOf s row).length ≤ (keysRaw s).length := by
  have := len_sub (behind_ok s row) (behind_keys s row)
  rwa [List.length_map] at this
/-! ### the layers end -/
end Rf
end
section
/-! good jars; the values that are kept -/
namespace Rf
open PySem Jv
def kdV (l : List Kd) : Prop := ∀ p ∈ l, wordB SIG p.2.1 = true
theorem taken_val {p : Pg} (h : pgG p = true) {t : Tk} (ht : t ∈ takenOf p) : ∀ v, t.2.1 = some v → wordB SIG v = true := fun v hv => by
  unfold takenOf at ht
  obtain ⟨w, hw, e⟩ := List.mem_filterMap.mp ht
  cases hk : keyOf p.adr w with
  | none => rw [hk] at e; cases e
  | some k =>
    rw [hk] at e
    cases e
    have g := (pg_of h).2.2 w hw
    simp only [wrG, Bool.and_eq_true] at g
    have g2 := g.1.1.2
    simp only at hv
    rw [hv] at g2
    exact g2
theorem aftT_val {l : List Kd} (h : kdV l) {t : Tk} (ht : ∀ v, t.2.1 = some v → wordB SIG v = true) : kdV (aftT l t) := by
  unfold aftT
  split
  · exact fun p hp => h p (List.mem_filter.mp hp).1
  · rename_i v hv
    split
    · intro p hp
      obtain ⟨q, hq, rfl⟩ := List.mem_map.mp hp
      split
      · exact ht v hv
      · exact h q hq
    · intro p hp
      rcases List.mem_append.mp ((sortR_perm _).mem_iff.mp hp) with q | q
      · exact h p q
      · rw [List.mem_singleton.mp q]; exact ht v hv
theorem aftPg_val {p : Pg} (hp : pgG p = true) {l : List Kd} (h : kdV l) : kdV (aftPg l p) := by
  rw [aftPg_taken]
  have gen : ∀ (ts : List Tk) (l : List Kd), kdV l → (∀ t ∈ ts, ∀ v, t.2.1 = some v → wordB SIG v = true) → kdV (ts.foldl aftT l) := by
    intro ts
    induction ts with
    | nil => exact fun l h _ => h
    | cons t r ih => exact fun l h g => ih _ (aftT_val h (g t List.mem_cons_self)) fun x hx => g x (List.mem_cons_of_mem _ hx)
  exact gen _ l h fun t ht => taken_val hp ht
theorem jar_val {s : List Pg} (hs : ∀ p ∈ s, pgG p = true) (row : List Nat) : kdV (jarOf s row) := by
  have gen : ∀ (r : List Nat) (l : List Kd), kdV l → kdV (r.foldl (fun l i => match s[i]? with | some p => aftPg l p | none => l) l) := by
    intro r
    induction r with
    | nil => exact fun l h => h
    | cons i t ih =>
      intro l h
      rw [List.foldl_cons]
      refine ih _ ?_
      cases e : s[i]? with
      | none => exact h
      | some p => exact aftPg_val (hs p (List.mem_of_getElem? e)) h
  exact gen row [] fun p hp => nomatch hp
theorem jar_good {s : List Pg} (hs : ∀ p ∈ s, pgG p = true) (row : List Nat) : kdG (jarOf s row) ∧ KdOk (jarOf s row) := by
  have gen : ∀ (r : List Nat) (l : List Kd), kdG l → KdOk l → kdG (r.foldl (fun l i => match s[i]? with | some p => aftPg l p | none => l) l) ∧ KdOk (r.foldl (fun l i => match s[i]? with | some p => aftPg l p | none => l) l) := by
    intro r
    induction r with
    | nil => exact fun l h1 h2 => ⟨h1, h2⟩
    | cons i t ih =>
      intro l h1 h2
      rw [List.foldl_cons]
      cases e : s[i]? with
      | none => exact ih l h1 h2
      | some p =>
        have gp := hs p (List.mem_of_getElem? e)
        exact ih (aftPg l p) (aftPg_good gp h1) (aftPg_ok p h2)
  exact gen row [] (fun p hp => nomatch hp) List.nodup_nil
theorem jar_few (s : List Pg) (row : List Nat) : (jarOf s row).length ≤ (keysRaw s).length := by
  rw [jarOf_eq, (sortR_perm _).length_eq]
  exact behind_few s row
/-- a jar by the program's own look -/
structure JarG (l : List Kd) : Prop where
  good : kdG l
  ok : KdOk l
  val : kdV l
  asc : l.Pairwise fun a b => rkLe a b = true
  len : l.length ≤ 1000
theorem jarG_of {s : List Pg} (hs : ∀ p ∈ s, pgG p = true) (hl : s.length ≤ 5) (row : List Nat) : JarG (jarOf s row) := by
  obtain ⟨g1, g2⟩ := jar_good hs row
  refine ⟨g1, g2, jar_val hs row, ?_, ?_⟩
  · rw [jarOf_eq]; exact sortR_sorted _
  · have h1 := jar_few s row
    have h2 := keysRaw_len hs
    omega
theorem sh_jr {l : List Kd} (h : kdG l) (hv : kdV l) : (eJr l).py.canLay0 = true ∧ (eJr l).py.depth ≤ 4 := by
  obtain ⟨h1, h2⟩ := lay_kqs h fun p hp => strOk_sig (hv p hp)
  constructor
  · simpa [eJr, D.py, PyData.canLay0] using h1
  · simp only [eJr, D.py, PyData.depth]; omega
end Rf
end
section
/-! jars with the lengths of their shortest rows -/
namespace Rf
open PySem Jv
/-! ### jars with something otherwise -/
end Rf
end
section
/-! wishes: rows that meet them, bars -/
namespace Rf
open PySem Jv
abbrev Wi := Ky × Ef
def meetB (l : List Kd) (w : List Wi) : Bool := w.all fun q => decide (getA l q.1 = q.2)
def meets (s : List Pg) (row : List Nat) (w : List Wi) : Bool := meetB (behindOf s row) w
/-! ### bars -/
/-! ### rows for wishes -/
/-! ### all ascending sets of pages -/
end Rf
end
section
/-! wishes as trees -/
namespace Rf
open PySem Jv
def efG (e : Ef) : Prop := ∀ v b, e = some (v, b) → wordB SIG v = true
/-- a good wish -/
structure WishG (s : List Pg) (w : List Wi) : Prop where
  mem : ∀ q ∈ w, q.1 ∈ keysS s
  val : ∀ q ∈ w, efG q.2
  asc : w.Pairwise fun a b => kyLe a.1 b.1 = true ∧ a.1 ≠ b.1
theorem WishG.nd {s : List Pg} {w : List Wi} (h : WishG s w) : (w.map (·.1)).Nodup := by
  unfold List.Nodup
  rw [List.pairwise_map]
  exact h.asc.imp fun {a b} q => q.2
theorem WishG.len {s : List Pg} {w : List Wi} (h : WishG s w) (hk : (keysRaw s).length ≤ 6) : w.length ≤ 6 := by
  have := len_sub (m := keysRaw s) h.nd fun k hk => by
    obtain ⟨q, hq, rfl⟩ := List.mem_map.mp hk
    exact keysOf_mem.mp (h.mem q hq)
  rw [List.length_map] at this
  omega
theorem ints_lay' : ∀ T : List Nat, PyData.canLayAll0 (D.pyL (T.map fun j : Nat => Jv.D.int (j : Int))) = true ∧ PyData.depthAll (D.pyL (T.map fun j : Nat => Jv.D.int (j : Int))) = 0
  | [] => ⟨rfl, rfl⟩
  | j :: r => by
    obtain ⟨h1, h2⟩ := ints_lay' r
    constructor
    · simp [D.pyL, D.py, PyData.canLayAll0, PyData.canLay0, h1]
    · simp [D.pyL, D.py, PyData.depthAll, PyData.depth, h2]
/-! ### dicts of pairs -/
end Rf
end
section
/-! all rows of few visits; rows as things -/
namespace Rf
open PySem Jv
theorem row_sh (T : List Nat) : SeqAt.shaped (eRow T).py = true := by
  obtain ⟨h1, h2⟩ := ints_lay' T
  simp [SeqAt.shaped, eRow, D.py, PyData.canLay0, PyData.depth, h1, h2]
end Rf
end
section
namespace K37
open PySem PySem.Spec L2 PyProof.Rows Jv
abbrev D := Jv.D
abbrev W := Jv.W
theorem sc_is_of : FnScope ["thing", "signs", "sign"] ["thing", "signs"] (defScope s_is_of) := ⟨rfl, rfl, rfl, by decide +kernel, rfl, by decide +kernel, by decide +kernel⟩
def dn_is_of : SD := (sSeq (sIf (bOr (bNot (tVal (eBlt isiB (aCons (eVar 0) (aCons (eCon (.ty "str")) aNil))))) (bNot (tVal (eChain leD leD (eCon (.int 1)) (eBlt lenA (aCons (eVar 0) aNil)) (eCon (.int 6)))))) (sRet (eCon (.bl false))) sNil) (sRet (eBlt allB (aCons (eLst (lLc [2] (itK (eVar 0)) (gNm 2) bYes (eBin in3 (eVar 2) (eVar 1)))) aNil))))
def rn_is_of : List W → Sto → R W := fun ws st => noX (runS 3 dn_is_of ws st)
theorem ok_is_of {P : Program} {w : World} {K : PySem.W.Frag} {mg : Str → Option Value} {base : Heap} {ct : Nat → Value} {f : Addr} {fd : FuncData} (F : Fun K "is_of" "is_of" s_is_of f fd) (z_len : mg "len" = none) (m_MOST_SIGNS : ∃ t, mg "MOST_SIGNS" = some (.int 6 t)) (z_str : mg "str" = none) (z_isinstance : mg "isinstance" = none) (z_all : mg "all" = none) :
    FnG P w K mg base CX0 1 f fd ["thing", "signs"] (spG ⟨K, w, mg⟩ ct 2 rn_is_of) := by
  refine fn_den0 F sc_is_of (fun cdv A outer s H E gd hr => ?_)
  exact (dss_cons (ds_if (PW.pt (dw_or (dt_not (dt_val (de_callB cb_isi (by rfl) z_isinstance bt_isinstance (da_cons (de_var 0) (da_cons (de_ty (by rfl) z_str bt_str) da_nil))))) (dw_or1 (dt_not (dt_chain op_leD op_leD de_int (de_callB cb_lenA (by rfl) z_len bt_len (da_cons (de_var 0) da_nil)) (de_globI (by rfl) m_MOST_SIGNS.choose_spec)))))) (dss_one (ds_ret de_bl)) dss_nil) (dss_one (ds_ret (de_callB (cb_all rfl) (by rfl) z_all bt_all (da_cons (de_val (df_lc (own := [("sign", 2)]) rfl sc_is_of.nd (di_k (de_var 0)) (blkOk_by (own := [("sign", 2)]) (N := ["thing", "signs", "sign"]) (sc := defScope s_is_of) (by decide +kernel)) (fun _ _ _ _ _ => (dg_name (i := 2) sc_is_of.nd)) (fun _ _ _ _ _ => dts_nil) (fun _ _ _ _ _ => (de_cmp (op_in3 (hu65 hr)) (de_var 2) (de_var 1))))) da_nil)))))
theorem sc_is_name : FnScope ["thing"] ["thing"] (defScope s_is_name) := ⟨rfl, rfl, rfl, by decide +kernel, rfl, by decide +kernel, by decide +kernel⟩
def dn_is_name : SD := (sRet (eCall rn_is_of (aCons (eVar 0) (aCons (eCon (.str "abcdefghijklmnopqrstuvwxyz")) aNil))))
def rn_is_name : List W → Sto → R W := fun ws st => noX (runS 1 dn_is_name ws st)
theorem ok_is_name {P : Program} {w : World} {K : PySem.W.Frag} {mg : Str → Option Value} {base : Heap} {ct : Nat → Value} {f : Addr} {fd : FuncData} (F : Fun K "is_name" "is_name" s_is_name f fd) (m_LETTERS : ∃ t, mg "LETTERS" = some (.str "abcdefghijklmnopqrstuvwxyz" t)) (C_is_of : Cal P w K mg base ct "is_of" 2 1 rn_is_of) :
    FnG P w K mg base CX0 2 f fd ["thing"] (spG ⟨K, w, mg⟩ ct 1 rn_is_name) := by
  refine fn_den0 F sc_is_name (fun cdv A outer s H E gd hr => ?_)
  exact (dss_one (ds_ret (de_calC C_is_of gd (Room.mono hr (by decide)) (by rfl) (aCons_len (aCons_len aNil_len)) (da_cons (de_var 0) (da_cons (de_globS (by rfl) m_LETTERS.choose_spec) da_nil)))))
theorem sc_are_words : FnScope ["thing", "least", "most", "word"] ["thing", "least", "most"] (defScope s_are_words) := ⟨rfl, rfl, rfl, by decide +kernel, rfl, by decide +kernel, by decide +kernel⟩
def dn_are_words : SD := (sSeq (sIf (bOr (bNot (tVal (eBlt isiB (aCons (eVar 0) (aCons (eCon (.ty "tuple")) aNil))))) (bNot (tVal (eChain leD leD (eVar 1) (eBlt lenA (aCons (eVar 0) aNil)) (eVar 2))))) (sRet (eCon (.bl false))) sNil) (sRet (eBlt allB (aCons (eLst (lLc [3] (itK (eVar 0)) (gNm 3) bYes (eCall rn_is_of (aCons (eVar 3) (aCons (eCon (.str "abcdefghijklmnopqrstuvwxyz0123456789")) aNil))))) aNil))))
def rn_are_words : List W → Sto → R W := fun ws st => noX (runS 4 dn_are_words ws st)
theorem ok_are_words {P : Program} {w : World} {K : PySem.W.Frag} {mg : Str → Option Value} {base : Heap} {ct : Nat → Value} {f : Addr} {fd : FuncData} (F : Fun K "are_words" "are_words" s_are_words f fd) (z_len : mg "len" = none) (z_tuple : mg "tuple" = none) (z_isinstance : mg "isinstance" = none) (m_SIGNS : ∃ t, mg "SIGNS" = some (.str "abcdefghijklmnopqrstuvwxyz0123456789" t)) (C_is_of : Cal P w K mg base ct "is_of" 2 1 rn_is_of) (z_all : mg "all" = none) :
    FnG P w K mg base CX0 2 f fd ["thing", "least", "most"] (spG ⟨K, w, mg⟩ ct 3 rn_are_words) := by
  refine fn_den0 F sc_are_words (fun cdv A outer s H E gd hr => ?_)
  exact (dss_cons (ds_if (PW.pt (dw_or (dt_not (dt_val (de_callB cb_isi (by rfl) z_isinstance bt_isinstance (da_cons (de_var 0) (da_cons (de_ty (by rfl) z_tuple bt_tuple) da_nil))))) (dw_or1 (dt_not (dt_chain op_leD op_leD (de_var 1) (de_callB cb_lenA (by rfl) z_len bt_len (da_cons (de_var 0) da_nil)) (de_var 2)))))) (dss_one (ds_ret de_bl)) dss_nil) (dss_one (ds_ret (de_callB (cb_all rfl) (by rfl) z_all bt_all (da_cons (de_val (df_lc (own := [("word", 3)]) rfl sc_are_words.nd (di_k (de_var 0)) (blkOk_by (own := [("word", 3)]) (N := ["thing", "least", "most", "word"]) (sc := defScope s_are_words) (by decide +kernel)) (fun _ _ _ _ _ => (dg_name (i := 3) sc_are_words.nd)) (fun _ _ _ _ _ => dts_nil) (fun _ _ _ _ _ => (de_calC C_is_of gd (Room.mono hr (by decide)) (by rfl) (aCons_len (aCons_len aNil_len)) (da_cons (de_var 3) (da_cons (de_globS (by rfl) m_SIGNS.choose_spec) da_nil)))))) da_nil)))))
theorem sc_is_host : FnScope ["thing"] ["thing"] (defScope s_is_host) := ⟨rfl, rfl, rfl, by decide +kernel, rfl, by decide +kernel, by decide +kernel⟩
def dn_is_host : SD := (sRet (eCall rn_are_words (aCons (eVar 0) (aCons (eCon (.int 2)) (aCons (eCon (.int 5)) aNil)))))
def rn_is_host : List W → Sto → R W := fun ws st => noX (runS 1 dn_is_host ws st)
theorem ok_is_host {P : Program} {w : World} {K : PySem.W.Frag} {mg : Str → Option Value} {base : Heap} {ct : Nat → Value} {f : Addr} {fd : FuncData} (F : Fun K "is_host" "is_host" s_is_host f fd) (m_MOST_LABELS : ∃ t, mg "MOST_LABELS" = some (.int 5 t)) (m_LEAST_LABELS : ∃ t, mg "LEAST_LABELS" = some (.int 2 t)) (C_are_words : Cal P w K mg base ct "are_words" 3 2 rn_are_words) :
    FnG P w K mg base CX0 3 f fd ["thing"] (spG ⟨K, w, mg⟩ ct 1 rn_is_host) := by
  refine fn_den0 F sc_is_host (fun cdv A outer s H E gd hr => ?_)
  exact (dss_one (ds_ret (de_calC C_are_words gd (Room.mono hr (by decide)) (by rfl) (aCons_len (aCons_len (aCons_len aNil_len))) (da_cons (de_var 0) (da_cons (de_globI (by rfl) m_LEAST_LABELS.choose_spec) (da_cons (de_globI (by rfl) m_MOST_LABELS.choose_spec) da_nil))))))
theorem sc_is_path : FnScope ["thing"] ["thing"] (defScope s_is_path) := ⟨rfl, rfl, rfl, by decide +kernel, rfl, by decide +kernel, by decide +kernel⟩
def dn_is_path : SD := (sRet (eCall rn_are_words (aCons (eVar 0) (aCons (eCon (.int 0)) (aCons (eCon (.int 4)) aNil)))))
def rn_is_path : List W → Sto → R W := fun ws st => noX (runS 1 dn_is_path ws st)
theorem ok_is_path {P : Program} {w : World} {K : PySem.W.Frag} {mg : Str → Option Value} {base : Heap} {ct : Nat → Value} {f : Addr} {fd : FuncData} (F : Fun K "is_path" "is_path" s_is_path f fd) (m_MOST_SEGMENTS : ∃ t, mg "MOST_SEGMENTS" = some (.int 4 t)) (C_are_words : Cal P w K mg base ct "are_words" 3 2 rn_are_words) :
    FnG P w K mg base CX0 3 f fd ["thing"] (spG ⟨K, w, mg⟩ ct 1 rn_is_path) := by
  refine fn_den0 F sc_is_path (fun cdv A outer s H E gd hr => ?_)
  exact (dss_one (ds_ret (de_calC C_are_words gd (Room.mono hr (by decide)) (by rfl) (aCons_len (aCons_len (aCons_len aNil_len))) (da_cons (de_var 0) (da_cons de_int (da_cons (de_globI (by rfl) m_MOST_SEGMENTS.choose_spec) da_nil))))))
theorem sc_is_address : FnScope ["thing"] ["thing"] (defScope s_is_address) := ⟨rfl, rfl, rfl, by decide +kernel, rfl, by decide +kernel, by decide +kernel⟩
def dn_is_address : SD := (sSeq (sIf (bOr (bNot (tVal (eBlt isiB (aCons (eVar 0) (aCons (eCon (.ty "tuple")) aNil))))) (tVal (eBin neD (eBlt lenA (aCons (eVar 0) aNil)) (eCon (.int 3))))) (sRet (eCon (.bl false))) sNil) (sRet (eAnd (eCall rn_is_host (aCons (eBin ixD (eVar 0) (eCon (.int 0))) aNil)) (eAnd (eCall rn_is_path (aCons (eBin ixD (eVar 0) (eCon (.int 1))) aNil)) (eBlt isiB (aCons (eBin ixD (eVar 0) (eCon (.int 2))) (aCons (eCon (.ty "bool")) aNil)))))))
def rn_is_address : List W → Sto → R W := fun ws st => noX (runS 1 dn_is_address ws st)
theorem ok_is_address {P : Program} {w : World} {K : PySem.W.Frag} {mg : Str → Option Value} {base : Heap} {ct : Nat → Value} {f : Addr} {fd : FuncData} (F : Fun K "is_address" "is_address" s_is_address f fd) (z_len : mg "len" = none) (z_tuple : mg "tuple" = none) (z_isinstance : mg "isinstance" = none) (z_bool : mg "bool" = none) (C_is_path : Cal P w K mg base ct "is_path" 1 3 rn_is_path) (C_is_host : Cal P w K mg base ct "is_host" 1 3 rn_is_host) :
    FnG P w K mg base CX0 4 f fd ["thing"] (spG ⟨K, w, mg⟩ ct 1 rn_is_address) := by
  refine fn_den0 F sc_is_address (fun cdv A outer s H E gd hr => ?_)
  exact (dss_cons (ds_if (PW.pt (dw_or (dt_not (dt_val (de_callB cb_isi (by rfl) z_isinstance bt_isinstance (da_cons (de_var 0) (da_cons (de_ty (by rfl) z_tuple bt_tuple) da_nil))))) (dw_or1 (dt_cmp (op_neDD (hu64 hr)) (de_callB cb_lenA (by rfl) z_len bt_len (da_cons (de_var 0) da_nil)) de_int)))) (dss_one (ds_ret de_bl)) dss_nil) (dss_one (ds_ret (de_and (de_calC C_is_host gd (Room.mono hr (by decide)) (by rfl) (aCons_len aNil_len) (da_cons (de_ix (de_var 0) de_int) da_nil)) (de_and (de_calC C_is_path gd (Room.mono hr (by decide)) (by rfl) (aCons_len aNil_len) (da_cons (de_ix (de_var 0) de_int) da_nil)) (de_one (de_callB cb_isi (by rfl) z_isinstance bt_isinstance (da_cons (de_ix (de_var 0) de_int) (da_cons (de_ty (by rfl) z_bool bt_bool) da_nil)))))))))
theorem sc_is_within : FnScope ["host", "other"] ["host", "other"] (defScope s_is_within) := ⟨rfl, rfl, rfl, by decide +kernel, rfl, by decide +kernel, by decide +kernel⟩
def dn_is_within : SD := (sRet (eAnd (eBin leD (eBlt lenA (aCons (eVar 1) aNil)) (eBlt lenA (aCons (eVar 0) aNil))) (eBin eqD (eSlc (eVar 0) (pSo (eBin subD (eBlt lenA (aCons (eVar 0) aNil)) (eBlt lenA (aCons (eVar 1) aNil)))) pNo) (eVar 1))))
def rn_is_within : List W → Sto → R W := fun ws st => noX (runS 2 dn_is_within ws st)
theorem ok_is_within {P : Program} {w : World} {K : PySem.W.Frag} {mg : Str → Option Value} {base : Heap} {ct : Nat → Value} {f : Addr} {fd : FuncData} (F : Fun K "is_within" "is_within" s_is_within f fd) (z_len : mg "len" = none) :
    FnG P w K mg base CX0 1 f fd ["host", "other"] (spG ⟨K, w, mg⟩ ct 2 rn_is_within) := by
  refine fn_den0 F sc_is_within (fun cdv A outer s H E gd hr => ?_)
  exact (dss_one (ds_ret (de_and (de_cmp op_leD (de_callB cb_lenA (by rfl) z_len bt_len (da_cons (de_var 1) da_nil)) (de_callB cb_lenA (by rfl) z_len bt_len (da_cons (de_var 0) da_nil))) (de_one (de_cmp (op_eqDD (hu64 hr)) (de_slc (de_var 0) (dp_so (de_bin op_subD (de_callB cb_lenA (by rfl) z_len bt_len (da_cons (de_var 0) da_nil)) (de_callB cb_lenA (by rfl) z_len bt_len (da_cons (de_var 1) da_nil)))) dp_no) (de_var 1))))))
theorem sc_is_below : FnScope ["path", "other"] ["path", "other"] (defScope s_is_below) := ⟨rfl, rfl, rfl, by decide +kernel, rfl, by decide +kernel, by decide +kernel⟩
def dn_is_below : SD := (sRet (eBin eqD (eSlc (eVar 0) pNo (pSo (eBlt lenA (aCons (eVar 1) aNil)))) (eVar 1)))
def rn_is_below : List W → Sto → R W := fun ws st => noX (runS 2 dn_is_below ws st)
theorem ok_is_below {P : Program} {w : World} {K : PySem.W.Frag} {mg : Str → Option Value} {base : Heap} {ct : Nat → Value} {f : Addr} {fd : FuncData} (F : Fun K "is_below" "is_below" s_is_below f fd) (z_len : mg "len" = none) :
    FnG P w K mg base CX0 1 f fd ["path", "other"] (spG ⟨K, w, mg⟩ ct 2 rn_is_below) := by
  refine fn_den0 F sc_is_below (fun cdv A outer s H E gd hr => ?_)
  exact (dss_one (ds_ret (de_cmp (op_eqDD (hu64 hr)) (de_slc (de_var 0) dp_no (dp_so (de_callB cb_lenA (by rfl) z_len bt_len (da_cons (de_var 1) da_nil)))) (de_var 1))))
theorem sc_is_whole : FnScope ["thing", "least", "most"] ["thing", "least", "most"] (defScope s_is_whole) := ⟨rfl, rfl, rfl, by decide +kernel, rfl, by decide +kernel, by decide +kernel⟩
def dn_is_whole : SD := (sRet (eAnd (eBlt isiB (aCons (eVar 0) (aCons (eCon (.ty "int")) aNil))) (eAnd (eNot (eBlt isiB (aCons (eVar 0) (aCons (eCon (.ty "bool")) aNil)))) (eChain leD leD (eVar 1) (eVar 0) (eVar 2)))))
def rn_is_whole : List W → Sto → R W := fun ws st => noX (runS 3 dn_is_whole ws st)
theorem ok_is_whole {P : Program} {w : World} {K : PySem.W.Frag} {mg : Str → Option Value} {base : Heap} {ct : Nat → Value} {f : Addr} {fd : FuncData} (F : Fun K "is_whole" "is_whole" s_is_whole f fd) (z_bool : mg "bool" = none) (z_isinstance : mg "isinstance" = none) (z_int : mg "int" = none) :
    FnG P w K mg base CX0 1 f fd ["thing", "least", "most"] (spG ⟨K, w, mg⟩ ct 3 rn_is_whole) := by
  refine fn_den0 F sc_is_whole (fun cdv A outer s H E gd hr => ?_)
  exact (dss_one (ds_ret (de_and (de_callB cb_isi (by rfl) z_isinstance bt_isinstance (da_cons (de_var 0) (da_cons (de_ty (by rfl) z_int bt_int) da_nil))) (de_and (de_not (de_callB cb_isi (by rfl) z_isinstance bt_isinstance (da_cons (de_var 0) (da_cons (de_ty (by rfl) z_bool bt_bool) da_nil)))) (de_one (de_chain op_leD op_leD (de_var 1) (de_var 0) (de_var 2)))))))
theorem sc_is_value : FnScope ["thing"] ["thing"] (defScope s_is_value) := ⟨rfl, rfl, rfl, by decide +kernel, rfl, by decide +kernel, by decide +kernel⟩
def dn_is_value : SD := (sRet (eCall rn_is_of (aCons (eVar 0) (aCons (eCon (.str "abcdefghijklmnopqrstuvwxyz0123456789")) aNil))))
def rn_is_value : List W → Sto → R W := fun ws st => noX (runS 1 dn_is_value ws st)
theorem ok_is_value {P : Program} {w : World} {K : PySem.W.Frag} {mg : Str → Option Value} {base : Heap} {ct : Nat → Value} {f : Addr} {fd : FuncData} (F : Fun K "is_value" "is_value" s_is_value f fd) (m_SIGNS : ∃ t, mg "SIGNS" = some (.str "abcdefghijklmnopqrstuvwxyz0123456789" t)) (C_is_of : Cal P w K mg base ct "is_of" 2 1 rn_is_of) :
    FnG P w K mg base CX0 2 f fd ["thing"] (spG ⟨K, w, mg⟩ ct 1 rn_is_value) := by
  refine fn_den0 F sc_is_value (fun cdv A outer s H E gd hr => ?_)
  exact (dss_one (ds_ret (de_calC C_is_of gd (Room.mono hr (by decide)) (by rfl) (aCons_len (aCons_len aNil_len)) (da_cons (de_var 0) (da_cons (de_globS (by rfl) m_SIGNS.choose_spec) da_nil)))))
theorem sc_is_write : FnScope ["thing"] ["thing"] (defScope s_is_write) := ⟨rfl, rfl, rfl, by decide +kernel, rfl, by decide +kernel, by decide +kernel⟩
def dn_is_write : SD := (sSeq (sIf (bOr (bNot (tVal (eBlt isiB (aCons (eVar 0) (aCons (eCon (.ty "tuple")) aNil))))) (bOr (tVal (eBin neD (eBlt lenA (aCons (eVar 0) aNil)) (eCon (.int 5)))) (bNot (tVal (eCall rn_is_name (aCons (eBin ixD (eVar 0) (eCon (.int 0))) aNil)))))) (sRet (eCon (.bl false))) sNil) (sSeq (sIf (bAnd (tVal (eBin isNotD (eBin ixD (eVar 0) (eCon (.int 1))) (eCon .non))) (bNot (tVal (eCall rn_is_value (aCons (eBin ixD (eVar 0) (eCon (.int 1))) aNil))))) (sRet (eCon (.bl false))) sNil) (sSeq (sIf (bAnd (tVal (eBin isNotD (eBin ixD (eVar 0) (eCon (.int 2))) (eCon .non))) (bNot (tVal (eCall rn_is_host (aCons (eBin ixD (eVar 0) (eCon (.int 2))) aNil))))) (sRet (eCon (.bl false))) sNil) (sSeq (sIf (bAnd (tVal (eBin isNotD (eBin ixD (eVar 0) (eCon (.int 3))) (eCon .non))) (bNot (tVal (eCall rn_is_path (aCons (eBin ixD (eVar 0) (eCon (.int 3))) aNil))))) (sRet (eCon (.bl false))) sNil) (sRet (eBlt isiB (aCons (eBin ixD (eVar 0) (eCon (.int 4))) (aCons (eCon (.ty "bool")) aNil))))))))
def rn_is_write : List W → Sto → R W := fun ws st => noX (runS 1 dn_is_write ws st)
theorem ok_is_write {P : Program} {w : World} {K : PySem.W.Frag} {mg : Str → Option Value} {base : Heap} {ct : Nat → Value} {f : Addr} {fd : FuncData} (F : Fun K "is_write" "is_write" s_is_write f fd) (C_is_name : Cal P w K mg base ct "is_name" 1 2 rn_is_name) (z_len : mg "len" = none) (z_tuple : mg "tuple" = none) (z_isinstance : mg "isinstance" = none) (C_is_value : Cal P w K mg base ct "is_value" 1 2 rn_is_value) (C_is_host : Cal P w K mg base ct "is_host" 1 3 rn_is_host) (C_is_path : Cal P w K mg base ct "is_path" 1 3 rn_is_path) (z_bool : mg "bool" = none) :
    FnG P w K mg base CX0 4 f fd ["thing"] (spG ⟨K, w, mg⟩ ct 1 rn_is_write) := by
  refine fn_den0 F sc_is_write (fun cdv A outer s H E gd hr => ?_)
  exact (dss_cons (ds_if (PW.pt (dw_or (dt_not (dt_val (de_callB cb_isi (by rfl) z_isinstance bt_isinstance (da_cons (de_var 0) (da_cons (de_ty (by rfl) z_tuple bt_tuple) da_nil))))) (dw_or (dt_cmp (op_neDD (hu64 hr)) (de_callB cb_lenA (by rfl) z_len bt_len (da_cons (de_var 0) da_nil)) de_int) (dw_or1 (dt_not (dt_val (de_calC C_is_name gd (Room.mono hr (by decide)) (by rfl) (aCons_len aNil_len) (da_cons (de_ix (de_var 0) de_int) da_nil)))))))) (dss_one (ds_ret de_bl)) dss_nil) (dss_cons (ds_if (PW.pt (dw_and (dt_cmp op_isNotDD (de_ix (de_var 0) de_int) de_non) (dw_and1 (dt_not (dt_val (de_calC C_is_value gd (Room.mono hr (by decide)) (by rfl) (aCons_len aNil_len) (da_cons (de_ix (de_var 0) de_int) da_nil))))))) (dss_one (ds_ret de_bl)) dss_nil) (dss_cons (ds_if (PW.pt (dw_and (dt_cmp op_isNotDD (de_ix (de_var 0) de_int) de_non) (dw_and1 (dt_not (dt_val (de_calC C_is_host gd (Room.mono hr (by decide)) (by rfl) (aCons_len aNil_len) (da_cons (de_ix (de_var 0) de_int) da_nil))))))) (dss_one (ds_ret de_bl)) dss_nil) (dss_cons (ds_if (PW.pt (dw_and (dt_cmp op_isNotDD (de_ix (de_var 0) de_int) de_non) (dw_and1 (dt_not (dt_val (de_calC C_is_path gd (Room.mono hr (by decide)) (by rfl) (aCons_len aNil_len) (da_cons (de_ix (de_var 0) de_int) da_nil))))))) (dss_one (ds_ret de_bl)) dss_nil) (dss_one (ds_ret (de_callB cb_isi (by rfl) z_isinstance bt_isinstance (da_cons (de_ix (de_var 0) de_int) (da_cons (de_ty (by rfl) z_bool bt_bool) da_nil)))))))))
theorem sc_need_site : FnScope ["thing", "number", "page", "place", "write"] ["thing"] (defScope s_need_site) := ⟨rfl, rfl, rfl, by decide +kernel, rfl, by decide +kernel, by decide +kernel⟩
def dn_need_site : SD := (sSeq (sIf (bOr (bNot (tVal (eBlt isiB (aCons (eVar 0) (aCons (eCon (.ty "tuple")) aNil))))) (bNot (tVal (eChain leD leD (eCon (.int 1)) (eBlt lenA (aCons (eVar 0) aNil)) (eCon (.int 5)))))) sNo sNil) (sSeq (sFor (itEnum (aCons (eVar 0) aNil)) (gTp 2 (gsCons (gNm 1) (gsCons (gNm 2) gsNil))) (sSeq (sIf (bOr (bNot (tVal (eBlt isiB (aCons (eVar 2) (aCons (eCon (.ty "tuple")) aNil))))) (bOr (tVal (eBin neD (eBlt lenA (aCons (eVar 2) aNil)) (eCon (.int 2)))) (bNot (tVal (eCall rn_is_address (aCons (eBin ixD (eVar 2) (eCon (.int 0))) aNil)))))) sNo sNil) (sSeq (sIf (bOr (bNot (tVal (eBlt isiB (aCons (eBin ixD (eVar 2) (eCon (.int 1))) (aCons (eCon (.ty "tuple")) aNil))))) (tVal (eBin gtD (eBlt lenA (aCons (eBin ixD (eVar 2) (eCon (.int 1))) aNil)) (eCon (.int 5))))) sNo sNil) (sFor (itEnum (aCons (eBin ixD (eVar 2) (eCon (.int 1))) aNil)) (gTp 2 (gsCons (gNm 3) (gsCons (gNm 4) gsNil))) (sIf (bNot (tVal (eCall rn_is_write (aCons (eVar 4) aNil)))) sNo sNil))))) (sRet (eVar 0))))
def rn_need_site : List W → Sto → R W := fun ws st => noX (runS 5 dn_need_site ws st)
theorem ok_need_site {P : Program} {w : World} {K : PySem.W.Frag} {mg : Str → Option Value} {base : Heap} {ct : Nat → Value} {f : Addr} {fd : FuncData} (F : Fun K "need_site" "need_site" s_need_site f fd) (z_len : mg "len" = none) (m_MOST_PAGES : ∃ t, mg "MOST_PAGES" = some (.int 5 t)) (z_tuple : mg "tuple" = none) (z_isinstance : mg "isinstance" = none) (z_enumerate : mg "enumerate" = none) (C_is_address : Cal P w K mg base ct "is_address" 1 4 rn_is_address) (m_MOST_WRITES : ∃ t, mg "MOST_WRITES" = some (.int 5 t)) (C_is_write : Cal P w K mg base ct "is_write" 1 4 rn_is_write) :
    FnG P w K mg base CX0 5 f fd ["thing"] (spG ⟨K, w, mg⟩ ct 1 rn_need_site) := by
  refine fn_den0 F sc_need_site (fun cdv A outer s H E gd hr => ?_)
  exact (dss_cons (ds_if (PW.pt (dw_or (dt_not (dt_val (de_callB cb_isi (by rfl) z_isinstance bt_isinstance (da_cons (de_var 0) (da_cons (de_ty (by rfl) z_tuple bt_tuple) da_nil))))) (dw_or1 (dt_not (dt_chain op_leD op_leD de_int (de_callB cb_lenA (by rfl) z_len bt_len (da_cons (de_var 0) da_nil)) (de_globI (by rfl) m_MOST_PAGES.choose_spec)))))) (dss_one ds_no) dss_nil) (dss_cons (ds_for PassesOwn.never rfl (di_enum (by rfl) z_enumerate (de_var 0)) (dg_tup (n := 2) rfl (dgs_cons (dg_name (i := 1) sc_need_site.nd) (dgs_cons (dg_name (i := 2) sc_need_site.nd) dgs_nil))) (dss_cons (ds_if (PW.pt (dw_or (dt_not (dt_val (de_callB cb_isi (by rfl) z_isinstance bt_isinstance (da_cons (de_var 2) (da_cons (de_ty (by rfl) z_tuple bt_tuple) da_nil))))) (dw_or (dt_cmp (op_neDD (hu64 hr)) (de_callB cb_lenA (by rfl) z_len bt_len (da_cons (de_var 2) da_nil)) de_int) (dw_or1 (dt_not (dt_val (de_calC C_is_address gd (Room.mono hr (by decide)) (by rfl) (aCons_len aNil_len) (da_cons (de_ix (de_var 2) de_int) da_nil)))))))) (dss_one ds_no) dss_nil) (dss_cons (ds_if (PW.pt (dw_or (dt_not (dt_val (de_callB cb_isi (by rfl) z_isinstance bt_isinstance (da_cons (de_ix (de_var 2) de_int) (da_cons (de_ty (by rfl) z_tuple bt_tuple) da_nil))))) (dw_or1 (dt_cmp op_gtD (de_callB cb_lenA (by rfl) z_len bt_len (da_cons (de_ix (de_var 2) de_int) da_nil)) (de_globI (by rfl) m_MOST_WRITES.choose_spec))))) (dss_one ds_no) dss_nil) (dss_one (ds_for PassesOwn.never rfl (di_enum (by rfl) z_enumerate (de_ix (de_var 2) de_int)) (dg_tup (n := 2) rfl (dgs_cons (dg_name (i := 3) sc_need_site.nd) (dgs_cons (dg_name (i := 4) sc_need_site.nd) dgs_nil))) (dss_one (ds_if (dt_not (dt_val (de_calC C_is_write gd (Room.mono hr (by decide)) (by rfl) (aCons_len aNil_len) (da_cons (de_var 4) da_nil)))) (dss_one ds_no) dss_nil))))))) (dss_one (ds_ret (de_var 0)))))
theorem sc_need_page : FnScope ["site", "page"] ["site", "page"] (defScope s_need_page) := ⟨rfl, rfl, rfl, by decide +kernel, rfl, by decide +kernel, by decide +kernel⟩
def dn_need_page : SD := (sSeq (sIf (bNot (tVal (eCall rn_is_whole (aCons (eVar 1) (aCons (eCon (.int 0)) (aCons (eBin subD (eBlt lenA (aCons (eVar 0) aNil)) (eCon (.int 1))) aNil)))))) sNo sNil) (sRet (eVar 1)))
def rn_need_page : List W → Sto → R W := fun ws st => noX (runS 2 dn_need_page ws st)
theorem ok_need_page {P : Program} {w : World} {K : PySem.W.Frag} {mg : Str → Option Value} {base : Heap} {ct : Nat → Value} {f : Addr} {fd : FuncData} (F : Fun K "need_page" "need_page" s_need_page f fd) (z_len : mg "len" = none) (C_is_whole : Cal P w K mg base ct "is_whole" 3 1 rn_is_whole) :
    FnG P w K mg base CX0 2 f fd ["site", "page"] (spG ⟨K, w, mg⟩ ct 2 rn_need_page) := by
  refine fn_den0 F sc_need_page (fun cdv A outer s H E gd hr => ?_)
  exact (dss_cons (ds_if (dt_not (dt_val (de_calC C_is_whole gd (Room.mono hr (by decide)) (by rfl) (aCons_len (aCons_len (aCons_len aNil_len))) (da_cons (de_var 1) (da_cons de_int (da_cons (de_bin op_subD (de_callB cb_lenA (by rfl) z_len bt_len (da_cons (de_var 0) da_nil)) de_int) da_nil)))))) (dss_one ds_no) dss_nil) (dss_one (ds_ret (de_var 1))))
theorem sc_need_name : FnScope ["thing"] ["thing"] (defScope s_need_name) := ⟨rfl, rfl, rfl, by decide +kernel, rfl, by decide +kernel, by decide +kernel⟩
def dn_need_name : SD := (sSeq (sIf (bNot (tVal (eCall rn_is_name (aCons (eVar 0) aNil)))) sNo sNil) (sRet (eVar 0)))
def rn_need_name : List W → Sto → R W := fun ws st => noX (runS 1 dn_need_name ws st)
theorem ok_need_name {P : Program} {w : World} {K : PySem.W.Frag} {mg : Str → Option Value} {base : Heap} {ct : Nat → Value} {f : Addr} {fd : FuncData} (F : Fun K "need_name" "need_name" s_need_name f fd) (C_is_name : Cal P w K mg base ct "is_name" 1 2 rn_is_name) :
    FnG P w K mg base CX0 3 f fd ["thing"] (spG ⟨K, w, mg⟩ ct 1 rn_need_name) := by
  refine fn_den0 F sc_need_name (fun cdv A outer s H E gd hr => ?_)
  exact (dss_cons (ds_if (dt_not (dt_val (de_calC C_is_name gd (Room.mono hr (by decide)) (by rfl) (aCons_len aNil_len) (da_cons (de_var 0) da_nil)))) (dss_one ds_no) dss_nil) (dss_one (ds_ret (de_var 0))))
theorem sc_key_in : FnScope ["address", "write", "own", "host", "path", "is_secure", "name", "value", "domain", "folder", "is_guarded"] ["address", "write"] (defScope s_key_in) := ⟨rfl, rfl, rfl, by decide +kernel, rfl, by decide +kernel, by decide +kernel⟩
def dn_key_in : SD := (sSeq (sAsg (eVar 0) (gTp 3 (gsCons (gNm 3) (gsCons (gNm 4) (gsCons (gNm 5) gsNil))))) (sSeq (sAsg (eVar 1) (gTp 5 (gsCons (gNm 6) (gsCons (gNm 7) (gsCons (gNm 8) (gsCons (gNm 9) (gsCons (gNm 10) gsNil))))))) (sSeq (sIf (bOr (bAnd (tVal (eVar 10)) (bNot (tVal (eVar 5)))) (bAnd (tVal (eBin isNotD (eVar 8) (eCon .non))) (bNot (tVal (eCall rn_is_within (aCons (eVar 3) (aCons (eVar 8) aNil))))))) (sRet (eCon .non)) sNil) (sSeq (sSet 2 (eIf (tVal (eBin isD (eVar 9) (eCon .non))) (eSlc (eVar 4) pNo (pSo (eNeg (eCon (.int 1))))) (eVar 9))) (sRet (eTup (aCons (eVar 6) (aCons (eIf (tVal (eBin isD (eVar 8) (eCon .non))) (eVar 3) (eVar 8)) (aCons (eVar 2) (aCons (eBin isD (eVar 8) (eCon .non)) aNil))))))))))
def rn_key_in : List W → Sto → R W := fun ws st => noX (runS 11 dn_key_in ws st)
theorem ok_key_in {P : Program} {w : World} {K : PySem.W.Frag} {mg : Str → Option Value} {base : Heap} {ct : Nat → Value} {f : Addr} {fd : FuncData} (F : Fun K "key_in" "key_in" s_key_in f fd) (C_is_within : Cal P w K mg base ct "is_within" 2 1 rn_is_within) :
    FnG P w K mg base CX0 2 f fd ["address", "write"] (spG ⟨K, w, mg⟩ ct 2 rn_key_in) := by
  refine fn_den0 F sc_key_in (fun cdv A outer s H E gd hr => ?_)
  exact (dss_cons (ds_asg (de_var 0) (dg_tup (n := 3) rfl (dgs_cons (dg_name (i := 3) sc_key_in.nd) (dgs_cons (dg_name (i := 4) sc_key_in.nd) (dgs_cons (dg_name (i := 5) sc_key_in.nd) dgs_nil))))) (dss_cons (ds_asg (de_var 1) (dg_tup (n := 5) rfl (dgs_cons (dg_name (i := 6) sc_key_in.nd) (dgs_cons (dg_name (i := 7) sc_key_in.nd) (dgs_cons (dg_name (i := 8) sc_key_in.nd) (dgs_cons (dg_name (i := 9) sc_key_in.nd) (dgs_cons (dg_name (i := 10) sc_key_in.nd) dgs_nil))))))) (dss_cons (ds_if (PW.pt (dw_or (PW.pt (dw_and (dt_val (de_var 10)) (dw_and1 (dt_not (dt_val (de_var 5)))))) (dw_or1 (PW.pt (dw_and (dt_cmp op_isNotDD (de_var 8) de_non) (dw_and1 (dt_not (dt_val (de_calC C_is_within gd (Room.mono hr (by decide)) (by rfl) (aCons_len (aCons_len aNil_len)) (da_cons (de_var 3) (da_cons (de_var 8) da_nil))))))))))) (dss_one (ds_ret de_non)) dss_nil) (dss_cons (ds_set (i := 2) sc_key_in.nd (de_if (dt_cmp op_isDD (de_var 9) de_non) (de_slc (de_var 4) dp_no (dp_so (de_neg de_int))) (de_var 9))) (dss_one (ds_ret (de_tup (da_cons (de_var 6) (da_cons (de_if (dt_cmp op_isDD (de_var 8) de_non) (de_var 3) (de_var 8)) (da_cons (de_var 2) (da_cons (de_cmp op_isDD (de_var 8) de_non) da_nil)))))))))))
theorem sc_taken_in : FnScope ["page", "found", "write", "key"] ["page"] (defScope s_taken_in) := ⟨rfl, rfl, rfl, by decide +kernel, rfl, by decide +kernel, by decide +kernel⟩
def dn_taken_in : SD := (sSeq (sSet 1 (eNew (aLim aNil))) (sSeq (sFor (itK (eBin ixD (eVar 0) (eCon (.int 1)))) (gNm 2) (sSeq (sSet 3 (eCall rn_key_in (aCons (eBin ixD (eVar 0) (eCon (.int 0))) (aCons (eVar 2) aNil)))) (sIf (tVal (eBin isNotD (eVar 3) (eCon .non))) (sExpr (eApp (eVar 1) (aCons (eTup (aCons (eVar 3) (aCons (eBin ixD (eVar 2) (eCon (.int 1))) (aCons (eBin ixD (eVar 2) (eCon (.int 4))) aNil)))) aNil))) sNil))) (sRet (eFrz (eVar 1)))))
def rn_taken_in : List W → Sto → R W := fun ws st => noX (runS 4 dn_taken_in ws st)
theorem ok_taken_in {P : Program} {w : World} {K : PySem.W.Frag} {mg : Str → Option Value} {base : Heap} {ct : Nat → Value} {f : Addr} {fd : FuncData} (F : Fun K "taken_in" "taken_in" s_taken_in f fd) (C_key_in : Cal P w K mg base ct "key_in" 2 2 rn_key_in) :
    FnG P w K mg base CX0 3 f fd ["page"] (spG ⟨K, w, mg⟩ ct 1 rn_taken_in) := by
  refine fn_den0 F sc_taken_in (fun cdv A outer s H E gd hr => ?_)
  exact (dss_cons (ds_set (i := 1) sc_taken_in.nd (de_new (df_lst da_nil))) (dss_cons (ds_for PassesOwn.never rfl (di_k (de_ix (de_var 0) de_int)) (dg_name (i := 2) sc_taken_in.nd) (dss_cons (ds_set (i := 3) sc_taken_in.nd (de_calC C_key_in gd (Room.mono hr (by decide)) (by rfl) (aCons_len (aCons_len aNil_len)) (da_cons (de_ix (de_var 0) de_int) (da_cons (de_var 2) da_nil)))) (dss_one (ds_if (dt_cmp op_isNotDD (de_var 3) de_non) (dss_one (ds_expr (de_app (de_var 1) (da_cons (de_tup (da_cons (de_var 3) (da_cons (de_ix (de_var 2) de_int) (da_cons (de_ix (de_var 2) de_int) da_nil)))) da_nil)))) dss_nil)))) (dss_one (ds_ret (de_frz (de_var 1))))))
theorem sc_is_key : FnScope ["thing"] ["thing"] (defScope s_is_key) := ⟨rfl, rfl, rfl, by decide +kernel, rfl, by decide +kernel, by decide +kernel⟩
def dn_is_key : SD := (sSeq (sIf (bOr (bNot (tVal (eBlt isiB (aCons (eVar 0) (aCons (eCon (.ty "tuple")) aNil))))) (bOr (tVal (eBin neD (eBlt lenA (aCons (eVar 0) aNil)) (eCon (.int 4)))) (bNot (tVal (eCall rn_is_name (aCons (eBin ixD (eVar 0) (eCon (.int 0))) aNil)))))) (sRet (eCon (.bl false))) sNil) (sRet (eAnd (eCall rn_is_host (aCons (eBin ixD (eVar 0) (eCon (.int 1))) aNil)) (eAnd (eCall rn_is_path (aCons (eBin ixD (eVar 0) (eCon (.int 2))) aNil)) (eBlt isiB (aCons (eBin ixD (eVar 0) (eCon (.int 3))) (aCons (eCon (.ty "bool")) aNil)))))))
def rn_is_key : List W → Sto → R W := fun ws st => noX (runS 1 dn_is_key ws st)
theorem ok_is_key {P : Program} {w : World} {K : PySem.W.Frag} {mg : Str → Option Value} {base : Heap} {ct : Nat → Value} {f : Addr} {fd : FuncData} (F : Fun K "is_key" "is_key" s_is_key f fd) (C_is_name : Cal P w K mg base ct "is_name" 1 2 rn_is_name) (z_len : mg "len" = none) (z_tuple : mg "tuple" = none) (z_isinstance : mg "isinstance" = none) (z_bool : mg "bool" = none) (C_is_path : Cal P w K mg base ct "is_path" 1 3 rn_is_path) (C_is_host : Cal P w K mg base ct "is_host" 1 3 rn_is_host) :
    FnG P w K mg base CX0 4 f fd ["thing"] (spG ⟨K, w, mg⟩ ct 1 rn_is_key) := by
  refine fn_den0 F sc_is_key (fun cdv A outer s H E gd hr => ?_)
  exact (dss_cons (ds_if (PW.pt (dw_or (dt_not (dt_val (de_callB cb_isi (by rfl) z_isinstance bt_isinstance (da_cons (de_var 0) (da_cons (de_ty (by rfl) z_tuple bt_tuple) da_nil))))) (dw_or (dt_cmp (op_neDD (hu64 hr)) (de_callB cb_lenA (by rfl) z_len bt_len (da_cons (de_var 0) da_nil)) de_int) (dw_or1 (dt_not (dt_val (de_calC C_is_name gd (Room.mono hr (by decide)) (by rfl) (aCons_len aNil_len) (da_cons (de_ix (de_var 0) de_int) da_nil)))))))) (dss_one (ds_ret de_bl)) dss_nil) (dss_one (ds_ret (de_and (de_calC C_is_host gd (Room.mono hr (by decide)) (by rfl) (aCons_len aNil_len) (da_cons (de_ix (de_var 0) de_int) da_nil)) (de_and (de_calC C_is_path gd (Room.mono hr (by decide)) (by rfl) (aCons_len aNil_len) (da_cons (de_ix (de_var 0) de_int) da_nil)) (de_one (de_callB cb_isi (by rfl) z_isinstance bt_isinstance (da_cons (de_ix (de_var 0) de_int) (da_cons (de_ty (by rfl) z_bool bt_bool) da_nil)))))))))
theorem sc_rank : FnScope ["kept", "name", "host", "folder", "is_alone"] ["kept"] (defScope s_rank) := ⟨rfl, rfl, rfl, by decide +kernel, rfl, by decide +kernel, by decide +kernel⟩
def dn_rank : SD := (sSeq (sAsg (eBin ixD (eVar 0) (eCon (.int 0))) (gTp 4 (gsCons (gNm 1) (gsCons (gNm 2) (gsCons (gNm 3) (gsCons (gNm 4) gsNil)))))) (sRet (eTup (aCons (eVar 1) (aCons (eNeg (eBlt lenA (aCons (eVar 3) aNil))) (aCons (eVar 3) aNil))))))
def rn_rank : List W → Sto → R W := fun ws st => noX (runS 5 dn_rank ws st)
theorem ok_rank {P : Program} {w : World} {K : PySem.W.Frag} {mg : Str → Option Value} {base : Heap} {ct : Nat → Value} {f : Addr} {fd : FuncData} (F : Fun K "rank" "rank" s_rank f fd) (z_len : mg "len" = none) :
    FnG P w K mg base CX0 1 f fd ["kept"] (spG ⟨K, w, mg⟩ ct 1 rn_rank) := by
  refine fn_den0 F sc_rank (fun cdv A outer s H E gd hr => ?_)
  exact (dss_cons (ds_asg (de_ix (de_var 0) de_int) (dg_tup (n := 4) rfl (dgs_cons (dg_name (i := 1) sc_rank.nd) (dgs_cons (dg_name (i := 2) sc_rank.nd) (dgs_cons (dg_name (i := 3) sc_rank.nd) (dgs_cons (dg_name (i := 4) sc_rank.nd) dgs_nil)))))) (dss_one (ds_ret (de_tup (da_cons (de_var 1) (da_cons (de_neg (de_callB cb_lenA (by rfl) z_len bt_len (da_cons (de_var 3) da_nil))) (da_cons (de_var 3) da_nil)))))))
theorem sc_need_address : FnScope ["thing"] ["thing"] (defScope s_need_address) := ⟨rfl, rfl, rfl, by decide +kernel, rfl, by decide +kernel, by decide +kernel⟩
def dn_need_address : SD := (sSeq (sIf (bNot (tVal (eCall rn_is_address (aCons (eVar 0) aNil)))) sNo sNil) (sRet (eVar 0)))
def rn_need_address : List W → Sto → R W := fun ws st => noX (runS 1 dn_need_address ws st)
theorem ok_need_address {P : Program} {w : World} {K : PySem.W.Frag} {mg : Str → Option Value} {base : Heap} {ct : Nat → Value} {f : Addr} {fd : FuncData} (F : Fun K "need_address" "need_address" s_need_address f fd) (C_is_address : Cal P w K mg base ct "is_address" 1 4 rn_is_address) :
    FnG P w K mg base CX0 5 f fd ["thing"] (spG ⟨K, w, mg⟩ ct 1 rn_need_address) := by
  refine fn_den0 F sc_need_address (fun cdv A outer s H E gd hr => ?_)
  exact (dss_cons (ds_if (dt_not (dt_val (de_calC C_is_address gd (Room.mono hr (by decide)) (by rfl) (aCons_len aNil_len) (da_cons (de_var 0) da_nil)))) (dss_one ds_no) dss_nil) (dss_one (ds_ret (de_var 0))))
theorem sc_after : FnScope ["jar", "page", "found", "key", "value", "is_guarded", "places", "place", "kept"] ["jar", "page"] (defScope s_after) := ⟨rfl, rfl, rfl, by decide +kernel, rfl, by decide +kernel, by decide +kernel⟩
def dn_after : SD := (sSeq (sSet 2 (eNew (lBlt listF (aCons (eVar 0) aNil)))) (sSeq (sFor (itK (eCall rn_taken_in (aCons (eVar 1) aNil))) (gTp 3 (gsCons (gNm 3) (gsCons (gNm 4) (gsCons (gNm 5) gsNil)))) (sSeq (sSet 6 (eLst (lLcR [7, 8] (nEnum (aCons (eVar 2) aNil)) (gTp 2 (gsCons (gNm 7) (gsCons (gNm 8) gsNil))) (tVal (eBin eqD (eBin ixD (eVar 8) (eCon (.int 0))) (eVar 3))) (eVar 7)))) (sIf (tVal (eBin isD (eVar 4) (eCon .non))) (sSet 2 (eNew (lLc [8] (itE (eFrz (eVar 2))) (gNm 8) (tVal (eBin neD (eBin ixD (eVar 8) (eCon (.int 0))) (eVar 3))) (eVar 8)))) (sIf (tVal (eBin neD (eVar 6) (eLst (aLim aNil)))) (sLPut (eVar 2) (eBin ixD (eVar 6) (eCon (.int 0))) (eTup (aCons (eVar 3) (aCons (eVar 4) (aCons (eVar 5) aNil))))) (sSet 2 (eNew (lSortK rn_rank (aCons (eLst (lCat (eVar 2) (eLst (aLim (aCons (eTup (aCons (eVar 3) (aCons (eVar 4) (aCons (eVar 5) aNil)))) aNil))))) aNil)))))))) (sRet (eBlt tupleB (aCons (eVar 2) aNil)))))
def rn_after : List W → Sto → R W := fun ws st => noX (runS 9 dn_after ws st)
theorem ok_after {P : Program} {w : World} {K : PySem.W.Frag} {mg : Str → Option Value} {base : Heap} {ct : Nat → Value} {f : Addr} {fd : FuncData} (F : Fun K "after" "after" s_after f fd) (z_list : mg "list" = none) (C_taken_in : Cal P w K mg base ct "taken_in" 1 3 rn_taken_in) (z_enumerate : mg "enumerate" = none) (z_sorted : mg "sorted" = none) (C_rank : Cal P w K mg base ct "rank" 1 1 rn_rank) (z_tuple : mg "tuple" = none) :
    FnG P w K mg base CX0 4 f fd ["jar", "page"] (spG ⟨K, w, mg⟩ ct 2 rn_after) := by
  refine fn_den0 F sc_after (fun cdv A outer s H E gd hr => ?_)
  exact (dss_cons (ds_set (i := 2) sc_after.nd (de_new (df_callT cf_list (by rfl) z_list bt_list (da_cons (de_var 0) da_nil)))) (dss_cons (ds_for PassesOwn.never rfl (di_k (de_calC C_taken_in gd (Room.mono hr (by decide)) (by rfl) (aCons_len aNil_len) (da_cons (de_var 1) da_nil))) (dg_tup (n := 3) rfl (dgs_cons (dg_name (i := 3) sc_after.nd) (dgs_cons (dg_name (i := 4) sc_after.nd) (dgs_cons (dg_name (i := 5) sc_after.nd) dgs_nil)))) (dss_cons (ds_setLcR (i := 6) (own := [("place", 7), ("kept", 8)]) rfl sc_after.nd rfl rfl (sw_true rfl rfl rfl (by decide +kernel)) (dn_enum (by rfl) z_enumerate (de_var 2)) (blkOk_by (own := [("place", 7), ("kept", 8)]) (N := ["jar", "page", "found", "key", "value", "is_guarded", "places", "place", "kept"]) (sc := defScope s_after) (by decide +kernel)) (fun _ _ _ _ _ => (dg_tup (n := 2) rfl (dgs_cons (dg_name (i := 7) sc_after.nd) (dgs_cons (dg_name (i := 8) sc_after.nd) dgs_nil)))) (fun _ _ _ _ _ => (dts_one (dt_cmp (op_eqDD (hu64 hr)) (de_ix (de_var 8) de_int) (de_var 3)))) (fun _ _ _ _ _ => (de_var 7))) (dss_one (ds_if (dt_cmp op_isDD (de_var 4) de_non) (dss_one (ds_setLcN (i := 2) (own := [("kept", 8)]) rfl sc_after.nd rfl rfl (sw_true rfl rfl rfl (by decide +kernel)) (di_e (de_frz (de_var 2))) (blkOk_by (own := [("kept", 8)]) (N := ["jar", "page", "found", "key", "value", "is_guarded", "places", "place", "kept"]) (sc := defScope s_after) (by decide +kernel)) (fun _ _ _ _ _ => (dg_name (i := 8) sc_after.nd)) (fun _ _ _ _ _ => (dts_one (dt_cmp (op_neDD (hu64 hr)) (de_ix (de_var 8) de_int) (de_var 3)))) (fun _ _ _ _ _ => (de_var 8)))) (dss_one (ds_if (dt_cmp (op_neDD (hu64 hr)) (de_var 6) (de_val (df_lst da_nil))) (dss_one (ds_lput (de_var 2) (de_ix (de_var 6) de_int) (de_tup (da_cons (de_var 3) (da_cons (de_var 4) (da_cons (de_var 5) da_nil)))))) (dss_one (ds_set (i := 2) sc_after.nd (de_new (df_sortK C_rank gd (Room.mono hr (by decide)) (by rfl) z_sorted (by rfl) (de_val (df_cat (de_var 2) (de_val (df_lst (da_cons (de_tup (da_cons (de_var 3) (da_cons (de_var 4) (da_cons (de_var 5) da_nil)))) da_nil))))))))))))))) (dss_one (ds_ret (de_callT cb_tuple (by rfl) z_tuple bt_tuple (da_cons (de_var 2) da_nil))))))
theorem sc_goes : FnScope ["kept", "address", "name", "own", "folder", "is_alone", "host", "path", "is_secure"] ["kept", "address"] (defScope s_goes) := ⟨rfl, rfl, rfl, by decide +kernel, rfl, by decide +kernel, by decide +kernel⟩
def dn_goes : SD := (sSeq (sAsg (eBin ixD (eVar 0) (eCon (.int 0))) (gTp 4 (gsCons (gNm 2) (gsCons (gNm 3) (gsCons (gNm 4) (gsCons (gNm 5) gsNil)))))) (sSeq (sAsg (eVar 1) (gTp 3 (gsCons (gNm 6) (gsCons (gNm 7) (gsCons (gNm 8) gsNil))))) (sSeq (sIf (bOr (bAnd (tVal (eBin ixD (eVar 0) (eCon (.int 2)))) (bNot (tVal (eVar 8)))) (bNot (tVal (eCall rn_is_below (aCons (eVar 7) (aCons (eVar 4) aNil)))))) (sRet (eCon (.bl false))) sNil) (sRet (eOr (eBin eqD (eVar 6) (eVar 3)) (eAnd (eNot (eVar 5)) (eCall rn_is_within (aCons (eVar 6) (aCons (eVar 3) aNil)))))))))
def rn_goes : List W → Sto → R W := fun ws st => noX (runS 9 dn_goes ws st)
theorem ok_goes {P : Program} {w : World} {K : PySem.W.Frag} {mg : Str → Option Value} {base : Heap} {ct : Nat → Value} {f : Addr} {fd : FuncData} (F : Fun K "goes" "goes" s_goes f fd) (C_is_below : Cal P w K mg base ct "is_below" 2 1 rn_is_below) (C_is_within : Cal P w K mg base ct "is_within" 2 1 rn_is_within) :
    FnG P w K mg base CX0 2 f fd ["kept", "address"] (spG ⟨K, w, mg⟩ ct 2 rn_goes) := by
  refine fn_den0 F sc_goes (fun cdv A outer s H E gd hr => ?_)
  exact (dss_cons (ds_asg (de_ix (de_var 0) de_int) (dg_tup (n := 4) rfl (dgs_cons (dg_name (i := 2) sc_goes.nd) (dgs_cons (dg_name (i := 3) sc_goes.nd) (dgs_cons (dg_name (i := 4) sc_goes.nd) (dgs_cons (dg_name (i := 5) sc_goes.nd) dgs_nil)))))) (dss_cons (ds_asg (de_var 1) (dg_tup (n := 3) rfl (dgs_cons (dg_name (i := 6) sc_goes.nd) (dgs_cons (dg_name (i := 7) sc_goes.nd) (dgs_cons (dg_name (i := 8) sc_goes.nd) dgs_nil))))) (dss_cons (ds_if (PW.pt (dw_or (PW.pt (dw_and (dt_val (de_ix (de_var 0) de_int)) (dw_and1 (dt_not (dt_val (de_var 8)))))) (dw_or1 (dt_not (dt_val (de_calC C_is_below gd (Room.mono hr (by decide)) (by rfl) (aCons_len (aCons_len aNil_len)) (da_cons (de_var 7) (da_cons (de_var 4) da_nil)))))))) (dss_one (ds_ret de_bl)) dss_nil) (dss_one (ds_ret (de_or (de_cmp (op_eqDD (hu64 hr)) (de_var 6) (de_var 3)) (de_one (de_and (de_not (de_var 5)) (de_one (de_calC C_is_within gd (Room.mono hr (by decide)) (by rfl) (aCons_len (aCons_len aNil_len)) (da_cons (de_var 6) (da_cons (de_var 3) da_nil))))))))))))
theorem sc_sent_in : FnScope ["jar", "address", "kept"] ["jar", "address"] (defScope s_sent_in) := ⟨rfl, rfl, rfl, by decide +kernel, rfl, by decide +kernel, by decide +kernel⟩
def dn_sent_in : SD := (sRet (eBlt tupleB (aCons (eLst (lLc [2] (itK (eVar 0)) (gNm 2) (tVal (eCall rn_goes (aCons (eVar 2) (aCons (eVar 1) aNil)))) (eTup (aCons (eBin ixD (eBin ixD (eVar 2) (eCon (.int 0))) (eCon (.int 0))) (aCons (eBin ixD (eVar 2) (eCon (.int 1))) aNil))))) aNil)))
def rn_sent_in : List W → Sto → R W := fun ws st => noX (runS 3 dn_sent_in ws st)
theorem ok_sent_in {P : Program} {w : World} {K : PySem.W.Frag} {mg : Str → Option Value} {base : Heap} {ct : Nat → Value} {f : Addr} {fd : FuncData} (F : Fun K "sent_in" "sent_in" s_sent_in f fd) (C_goes : Cal P w K mg base ct "goes" 2 2 rn_goes) (z_tuple : mg "tuple" = none) :
    FnG P w K mg base CX0 3 f fd ["jar", "address"] (spG ⟨K, w, mg⟩ ct 2 rn_sent_in) := by
  refine fn_den0 F sc_sent_in (fun cdv A outer s H E gd hr => ?_)
  exact (dss_one (ds_ret (de_callT cb_tuple (by rfl) z_tuple bt_tuple (da_cons (de_val (df_lc (own := [("kept", 2)]) rfl sc_sent_in.nd (di_k (de_var 0)) (blkOk_by (own := [("kept", 2)]) (N := ["jar", "address", "kept"]) (sc := defScope s_sent_in) (by decide +kernel)) (fun _ _ _ _ _ => (dg_name (i := 2) sc_sent_in.nd)) (fun _ _ _ _ _ => (dts_one (dt_val (de_calC C_goes gd (Room.mono hr (by decide)) (by rfl) (aCons_len (aCons_len aNil_len)) (da_cons (de_var 2) (da_cons (de_var 1) da_nil)))))) (fun _ _ _ _ _ => (de_tup (da_cons (de_ix (de_ix (de_var 2) de_int) de_int) (da_cons (de_ix (de_var 2) de_int) da_nil)))))) da_nil))))
theorem sc_read_in : FnScope ["jar", "address", "name", "found", "own", "value"] ["jar", "address", "name"] (defScope s_read_in) := ⟨rfl, rfl, rfl, by decide +kernel, rfl, by decide +kernel, by decide +kernel⟩
def dn_read_in : SD := (sSeq (sSet 3 (eLst (lLc [4, 5] (itK (eCall rn_sent_in (aCons (eVar 0) (aCons (eVar 1) aNil)))) (gTp 2 (gsCons (gNm 4) (gsCons (gNm 5) gsNil))) (tVal (eBin eqD (eVar 4) (eVar 2))) (eVar 5)))) (sRet (eIf (tVal (eBin neD (eVar 3) (eLst (aLim aNil)))) (eBin ixD (eVar 3) (eCon (.int 0))) (eCon .non))))
def rn_read_in : List W → Sto → R W := fun ws st => noX (runS 6 dn_read_in ws st)
theorem ok_read_in {P : Program} {w : World} {K : PySem.W.Frag} {mg : Str → Option Value} {base : Heap} {ct : Nat → Value} {f : Addr} {fd : FuncData} (F : Fun K "read_in" "read_in" s_read_in f fd) (C_sent_in : Cal P w K mg base ct "sent_in" 2 3 rn_sent_in) :
    FnG P w K mg base CX0 4 f fd ["jar", "address", "name"] (spG ⟨K, w, mg⟩ ct 3 rn_read_in) := by
  refine fn_den0 F sc_read_in (fun cdv A outer s H E gd hr => ?_)
  exact (dss_cons (ds_setLc (i := 3) (own := [("own", 4), ("value", 5)]) rfl sc_read_in.nd rfl rfl (sw_true rfl rfl rfl (by decide +kernel)) (di_k (de_calC C_sent_in gd (Room.mono hr (by decide)) (by rfl) (aCons_len (aCons_len aNil_len)) (da_cons (de_var 0) (da_cons (de_var 1) da_nil)))) (blkOk_by (own := [("own", 4), ("value", 5)]) (N := ["jar", "address", "name", "found", "own", "value"]) (sc := defScope s_read_in) (by decide +kernel)) (fun _ _ _ _ _ => (dg_tup (n := 2) rfl (dgs_cons (dg_name (i := 4) sc_read_in.nd) (dgs_cons (dg_name (i := 5) sc_read_in.nd) dgs_nil)))) (fun _ _ _ _ _ => (dts_one (dt_cmp (op_eqDD (hu64 hr)) (de_var 4) (de_var 2)))) (fun _ _ _ _ _ => (de_var 5))) (dss_one (ds_ret (de_if (dt_cmp (op_neDD (hu64 hr)) (de_var 3) (de_val (df_lst da_nil))) (de_ix (de_var 3) de_int) de_non))))
end K37
end
section
namespace K37
open PySem PySem.Spec L2 PyProof.Rows Jv
theorem sc__law_mixed : FnScope ["cell", "k"] ["cell", "k"] (defScope s__law_mixed) := ⟨rfl, rfl, rfl, by decide +kernel, rfl, by decide +kernel, by decide +kernel⟩
def dn__law_mixed : SD := (sSeq (sSet 0 (eBin modD (eBlt intB (aCons (eVar 0) aNil)) (eCon (.int 2147483647)))) (sRet (eBin modD (eBin mulD (eBin modD (eBin addD (eBin addD (eBin mulD (eVar 0) (eBin addD (eCon (.int 48271)) (eBin mulD (eBin mulD (eCon (.int 2)) (eVar 1)) (eVar 1)))) (eBin mulD (eCon (.int 69621)) (eVar 1))) (eCon (.int 11))) (eCon (.int 2147483647))) (eCon (.int 69621))) (eCon (.int 2147483629)))))
def rn__law_mixed : List W → Sto → R W := fun ws st => noX (runS 2 dn__law_mixed ws st)
theorem ok__law_mixed {P : Program} {w : World} {K : PySem.W.Frag} {mg : Str → Option Value} {base : Heap} {ct : Nat → Value} {f : Addr} {fd : FuncData} (F : Fun K "_law_mixed" "_law_mixed" s__law_mixed f fd) (z_int : mg "int" = none) :
    FnG P w K mg base CX0 1 f fd ["cell", "k"] (spG ⟨K, w, mg⟩ ct 2 rn__law_mixed) := by
  refine fn_den0 F sc__law_mixed (fun cdv A outer s H E gd hr => ?_)
  exact (dss_cons (ds_set (i := 0) sc__law_mixed.nd (de_bin op_modD (de_callT cb_int (by rfl) z_int bt_int (da_cons (de_var 0) da_nil)) de_int)) (dss_one (ds_ret (de_bin op_modD (de_bin op_mulD (de_bin op_modD (de_bin op_addD (de_bin op_addD (de_bin op_mulD (de_var 0) (de_bin op_addD de_int (de_bin op_mulD (de_bin op_mulD de_int (de_var 1)) (de_var 1)))) (de_bin op_mulD de_int (de_var 1))) de_int) de_int) de_int) de_int))))
theorem sc__law_begin : FnScope ["script", "cells", "cell"] ["script"] (defScope s__law_begin) := ⟨rfl, rfl, rfl, by decide +kernel, rfl, by decide +kernel, by decide +kernel⟩
def dn__law_begin : SD := (sSeq (sSet 1 (eIf (tVal (eBin neD (eVar 0) (eLst (aLim aNil)))) (eLst (lBlt listF (aCons (eVar 0) aNil))) (eLst (aLim (aCons (eCon (.int 0)) aNil))))) (sRet (eDct (kOf [("cells", (eVar 1)), ("lefts", (eNew (lLc [2] (itK (eVar 1)) (gNm 2) bYes (eIf (tVal (eBin geD (eVar 2) (eBin powD (eCon (.int 10)) (eCon (.int 18))))) (eVar 2) (eCon (.int 0)))))), ("at", (eCon (.int 0))), ("room", (eCon (.int 0)))]))))
def rn__law_begin : List W → Sto → R W := fun ws st => noX (runS 3 dn__law_begin ws st)
theorem ok__law_begin {P : Program} {w : World} {K : PySem.W.Frag} {mg : Str → Option Value} {base : Heap} {ct : Nat → Value} {f : Addr} {fd : FuncData} (F : Fun K "_law_begin" "_law_begin" s__law_begin f fd) (z_list : mg "list" = none) :
    FnG P w K mg base CX0 1 f fd ["script"] (spG ⟨K, w, mg⟩ ct 1 rn__law_begin) := by
  refine fn_den0 F sc__law_begin (fun cdv A outer s H E gd hr => ?_)
  exact (dss_cons (ds_set (i := 1) sc__law_begin.nd (de_if (dt_cmp (op_neDD (hu64 hr)) (de_var 0) (de_val (df_lst da_nil))) (de_val (df_callT cf_list (by rfl) z_list bt_list (da_cons (de_var 0) da_nil))) (de_val (df_lst (da_cons de_int da_nil))))) (dss_one (ds_ret (de_dct (fs := [("cells", (eVar 1)), ("lefts", (eNew (lLc [2] (itK (eVar 1)) (gNm 2) bYes (eIf (tVal (eBin geD (eVar 2) (eBin powD (eCon (.int 10)) (eCon (.int 18))))) (eVar 2) (eCon (.int 0)))))), ("at", (eCon (.int 0))), ("room", (eCon (.int 0)))]) (pps_ind (de_var 1) (pps_ind (de_new (df_lc (own := [("cell", 2)]) rfl sc__law_begin.nd (di_k (de_var 1)) (blkOk_by (own := [("cell", 2)]) (N := ["script", "cells", "cell"]) (sc := defScope s__law_begin) (by decide +kernel)) (fun _ _ _ _ _ => (dg_name (i := 2) sc__law_begin.nd)) (fun _ _ _ _ _ => dts_nil) (fun _ _ _ _ _ => (de_if (dt_cmp op_geD (de_var 2) (de_bin op_powD de_int de_int)) (de_var 2) de_int)))) (pps_ind de_int (pps_ind de_int pps_nil))))))))
theorem sc__law_draw : FnScope ["state", "many", "at", "place", "left", "number"] ["state", "many"] (defScope s__law_draw) := ⟨rfl, rfl, rfl, by decide +kernel, rfl, by decide +kernel, by decide +kernel⟩
def dn__law_draw : SD := (sSeq (sSet 2 (eDGet (eVar 0) (eCon (.str "at")))) (sSeq (sDPut (eVar 0) (eCon (.str "at")) (eBin addD (eVar 2) (eCon (.int 1)))) (sSeq (sSet 3 (eBin modD (eBlt intB (aCons (eVar 2) aNil)) (eBlt lenA (aCons (eDGet (eVar 0) (eCon (.str "cells"))) aNil)))) (sSeq (sSet 4 (eBin ix2 (eDGet (eVar 0) (eCon (.str "lefts"))) (eVar 3))) (sSeq (sIf (tVal (eBin gtD (eVar 4) (eCon (.int 0)))) (sSeq (sLPut (eDGet (eVar 0) (eCon (.str "lefts"))) (eVar 3) (eBin fdivD (eVar 4) (eVar 1))) (sRet (eBin modD (eBlt intB (aCons (eVar 4) aNil)) (eVar 1)))) sNil) (sSeq (sSet 5 (eCall rn__law_mixed (aCons (eCall rn__law_mixed (aCons (eBin ix2 (eDGet (eVar 0) (eCon (.str "cells"))) (eVar 3)) (aCons (eVar 2) aNil))) (aCons (eBin addD (eCon (.int 40)) (eVar 2)) aNil)))) (sRet (eBin modD (eBin fdivD (eBlt intB (aCons (eBin addD (eBin mulD (eVar 5) (eCon (.int 2147483647))) (eCall rn__law_mixed (aCons (eVar 5) (aCons (eBin addD (eCon (.int 7)) (eVar 2)) aNil)))) aNil)) (eCon (.int 64))) (eVar 1)))))))))
def rn__law_draw : List W → Sto → R W := fun ws st => noX (runS 6 dn__law_draw ws st)
theorem ok__law_draw {P : Program} {w : World} {K : PySem.W.Frag} {mg : Str → Option Value} {base : Heap} {ct : Nat → Value} {f : Addr} {fd : FuncData} (F : Fun K "_law_draw" "_law_draw" s__law_draw f fd) (z_int : mg "int" = none) (z_len : mg "len" = none) (C__law_mixed : Cal P w K mg base ct "_law_mixed" 2 1 rn__law_mixed) :
    FnG P w K mg base CX0 2 f fd ["state", "many"] (spG ⟨K, w, mg⟩ ct 2 rn__law_draw) := by
  refine fn_den0 F sc__law_draw (fun cdv A outer s H E gd hr => ?_)
  exact (dss_cons (ds_set (i := 2) sc__law_draw.nd (de_dget (hu_of hr) (de_var 0) de_str)) (dss_cons (ds_dput (hu_of hr) (de_var 0) de_str (de_bin op_addD (de_var 2) de_int)) (dss_cons (ds_set (i := 3) sc__law_draw.nd (de_bin op_modD (de_callT cb_int (by rfl) z_int bt_int (da_cons (de_var 2) da_nil)) (de_callB cb_lenA (by rfl) z_len bt_len (da_cons (de_dget (hu_of hr) (de_var 0) de_str) da_nil)))) (dss_cons (ds_set (i := 4) sc__law_draw.nd (de_ix2 (hu65 hr) (de_dget (hu_of hr) (de_var 0) de_str) (de_var 3))) (dss_cons (ds_if (dt_cmp op_gtD (de_var 4) de_int) (dss_cons (ds_lput (de_dget (hu_of hr) (de_var 0) de_str) (de_var 3) (de_bin op_fdivD (de_var 4) (de_var 1))) (dss_one (ds_ret (de_bin op_modD (de_callT cb_int (by rfl) z_int bt_int (da_cons (de_var 4) da_nil)) (de_var 1))))) dss_nil) (dss_cons (ds_set (i := 5) sc__law_draw.nd (de_calC C__law_mixed gd (Room.mono hr (by decide)) (by rfl) (aCons_len (aCons_len aNil_len)) (da_cons (de_calC C__law_mixed gd (Room.mono hr (by decide)) (by rfl) (aCons_len (aCons_len aNil_len)) (da_cons (de_ix2 (hu65 hr) (de_dget (hu_of hr) (de_var 0) de_str) (de_var 3)) (da_cons (de_var 2) da_nil))) (da_cons (de_bin op_addD de_int (de_var 2)) da_nil)))) (dss_one (ds_ret (de_bin op_modD (de_bin op_fdivD (de_callT cb_int (by rfl) z_int bt_int (da_cons (de_bin op_addD (de_bin op_mulD (de_var 5) de_int) (de_calC C__law_mixed gd (Room.mono hr (by decide)) (by rfl) (aCons_len (aCons_len aNil_len)) (da_cons (de_var 5) (da_cons (de_bin op_addD de_int (de_var 2)) da_nil)))) da_nil)) de_int) (de_var 1))))))))))
theorem sc__law_key : FnScope ["page", "write", "writes", "name", "value", "domain", "folder", "guarded", "host", "path", "secure"] ["page", "write"] (defScope s__law_key) := ⟨rfl, rfl, rfl, by decide +kernel, rfl, by decide +kernel, by decide +kernel⟩
def dn__law_key : SD := (sSeq (sAsg (eVar 0) (gTp 2 (gsCons (gTp 3 (gsCons (gNm 8) (gsCons (gNm 9) (gsCons (gNm 10) gsNil)))) (gsCons (gNm 2) gsNil)))) (sSeq (sAsg (eVar 1) (gTp 5 (gsCons (gNm 3) (gsCons (gNm 4) (gsCons (gNm 5) (gsCons (gNm 6) (gsCons (gNm 7) gsNil))))))) (sSeq (sIf (bOr (bAnd (tVal (eVar 7)) (bNot (tVal (eVar 10)))) (bAnd (tVal (eBin isNotD (eVar 5) (eCon .non))) (tVal (eBin neD (eSlc (eVar 8) (pSo (eNeg (eBlt lenA (aCons (eVar 5) aNil)))) pNo) (eVar 5))))) (sRet (eCon .non)) sNil) (sRet (eTup (aCons (eVar 3) (aCons (eIf (tVal (eBin isD (eVar 5) (eCon .non))) (eVar 8) (eVar 5)) (aCons (eIf (tVal (eBin isD (eVar 6) (eCon .non))) (eSlc (eVar 9) pNo (pSo (eNeg (eCon (.int 1))))) (eVar 6)) (aCons (eBin isD (eVar 5) (eCon .non)) aNil)))))))))
def rn__law_key : List W → Sto → R W := fun ws st => noX (runS 11 dn__law_key ws st)
theorem ok__law_key {P : Program} {w : World} {K : PySem.W.Frag} {mg : Str → Option Value} {base : Heap} {ct : Nat → Value} {f : Addr} {fd : FuncData} (F : Fun K "_law_key" "_law_key" s__law_key f fd) (z_len : mg "len" = none) :
    FnG P w K mg base CX0 1 f fd ["page", "write"] (spG ⟨K, w, mg⟩ ct 2 rn__law_key) := by
  refine fn_den0 F sc__law_key (fun cdv A outer s H E gd hr => ?_)
  exact (dss_cons (ds_asg (de_var 0) (dg_tup (n := 2) rfl (dgs_cons (dg_tup (n := 3) rfl (dgs_cons (dg_name (i := 8) sc__law_key.nd) (dgs_cons (dg_name (i := 9) sc__law_key.nd) (dgs_cons (dg_name (i := 10) sc__law_key.nd) dgs_nil)))) (dgs_cons (dg_name (i := 2) sc__law_key.nd) dgs_nil)))) (dss_cons (ds_asg (de_var 1) (dg_tup (n := 5) rfl (dgs_cons (dg_name (i := 3) sc__law_key.nd) (dgs_cons (dg_name (i := 4) sc__law_key.nd) (dgs_cons (dg_name (i := 5) sc__law_key.nd) (dgs_cons (dg_name (i := 6) sc__law_key.nd) (dgs_cons (dg_name (i := 7) sc__law_key.nd) dgs_nil))))))) (dss_cons (ds_if (PW.pt (dw_or (PW.pt (dw_and (dt_val (de_var 7)) (dw_and1 (dt_not (dt_val (de_var 10)))))) (dw_or1 (PW.pt (dw_and (dt_cmp op_isNotDD (de_var 5) de_non) (dw_and1 (dt_cmp (op_neDD (hu64 hr)) (de_slc (de_var 8) (dp_so (de_neg (de_callB cb_lenA (by rfl) z_len bt_len (da_cons (de_var 5) da_nil)))) dp_no) (de_var 5)))))))) (dss_one (ds_ret de_non)) dss_nil) (dss_one (ds_ret (de_tup (da_cons (de_var 3) (da_cons (de_if (dt_cmp op_isDD (de_var 5) de_non) (de_var 8) (de_var 5)) (da_cons (de_if (dt_cmp op_isDD (de_var 6) de_non) (de_slc (de_var 9) dp_no (dp_so (de_neg de_int))) (de_var 6)) (da_cons (de_cmp op_isDD (de_var 5) de_non) da_nil))))))))))
theorem sc__law_visited : FnScope ["kept", "page", "found", "write", "label", "known", "one", "worth"] ["kept", "page"] (defScope s__law_visited) := ⟨rfl, rfl, rfl, by decide +kernel, rfl, by decide +kernel, by decide +kernel⟩
def dn__law_visited : SD := (sSeq (sSet 2 (eNew (lBlt listF (aCons (eVar 0) aNil)))) (sSeq (sFor (itK (eBin ixD (eVar 1) (eCon (.int 1)))) (gNm 3) (sSeq (sSet 4 (eCall rn__law_key (aCons (eVar 1) (aCons (eVar 3) aNil)))) (sSeq (sSet 5 (eLst (lLcR [6, 7] (nLst (eVar 2)) (gTp 2 (gsCons (gNm 6) (gsCons (gNm 7) gsNil))) bYes (eVar 6)))) (sSeq (sIf (bOr (tVal (eBin isD (eVar 4) (eCon .non))) (bAnd (tVal (eBin notIn3 (eVar 4) (eVar 5))) (tVal (eBin isD (eBin ixD (eVar 3) (eCon (.int 1))) (eCon .non))))) sCnt sNil) (sIf (tVal (eBin notIn3 (eVar 4) (eVar 5))) (sExpr (eApp (eVar 2) (aCons (eTup (aCons (eVar 4) (aCons (eTup (aCons (eBin ixD (eVar 3) (eCon (.int 1))) (aCons (eBin ixD (eVar 3) (eCon (.int 4))) aNil))) aNil))) aNil))) (sIf (tVal (eBin isD (eBin ixD (eVar 3) (eCon (.int 1))) (eCon .non))) (sExpr (eMeth popG (eVar 2) (aCons (eIndex (eVar 5) (aCons (eVar 4) aNil)) aNil))) (sLPut (eVar 2) (eIndex (eVar 5) (aCons (eVar 4) aNil)) (eTup (aCons (eVar 4) (aCons (eTup (aCons (eBin ixD (eVar 3) (eCon (.int 1))) (aCons (eBin ixD (eVar 3) (eCon (.int 4))) aNil))) aNil)))))))))) (sRet (eFrz (eVar 2)))))
def rn__law_visited : List W → Sto → R W := fun ws st => noX (runS 8 dn__law_visited ws st)
theorem ok__law_visited {P : Program} {w : World} {K : PySem.W.Frag} {mg : Str → Option Value} {base : Heap} {ct : Nat → Value} {f : Addr} {fd : FuncData} (F : Fun K "_law_visited" "_law_visited" s__law_visited f fd) (z_list : mg "list" = none) (C__law_key : Cal P w K mg base ct "_law_key" 2 1 rn__law_key) :
    FnG P w K mg base CX0 2 f fd ["kept", "page"] (spG ⟨K, w, mg⟩ ct 2 rn__law_visited) := by
  refine fn_den0 F sc__law_visited (fun cdv A outer s H E gd hr => ?_)
  exact (dss_cons (ds_set (i := 2) sc__law_visited.nd (de_new (df_callT cf_list (by rfl) z_list bt_list (da_cons (de_var 0) da_nil)))) (dss_cons (ds_for PassesOwn.never rfl (di_k (de_ix (de_var 1) de_int)) (dg_name (i := 3) sc__law_visited.nd) (dss_cons (ds_set (i := 4) sc__law_visited.nd (de_calC C__law_key gd (Room.mono hr (by decide)) (by rfl) (aCons_len (aCons_len aNil_len)) (da_cons (de_var 1) (da_cons (de_var 3) da_nil)))) (dss_cons (ds_setLcR (i := 5) (own := [("one", 6), ("worth", 7)]) rfl sc__law_visited.nd rfl rfl (sw_true rfl rfl rfl (by decide +kernel)) (dn_list (de_var 2)) (blkOk_by (own := [("one", 6), ("worth", 7)]) (N := ["kept", "page", "found", "write", "label", "known", "one", "worth"]) (sc := defScope s__law_visited) (by decide +kernel)) (fun _ _ _ _ _ => (dg_tup (n := 2) rfl (dgs_cons (dg_name (i := 6) sc__law_visited.nd) (dgs_cons (dg_name (i := 7) sc__law_visited.nd) dgs_nil)))) (fun _ _ _ _ _ => dts_nil) (fun _ _ _ _ _ => (de_var 6))) (dss_cons (ds_if (PW.pt (dw_or (dt_cmp op_isDD (de_var 4) de_non) (dw_or1 (PW.pt (dw_and (dt_cmp (op_notIn3 (hu65 hr)) (de_var 4) (de_var 5)) (dw_and1 (dt_cmp op_isDD (de_ix (de_var 3) de_int) de_non))))))) (dss_one ds_cnt) dss_nil) (dss_one (ds_if (dt_cmp (op_notIn3 (hu65 hr)) (de_var 4) (de_var 5)) (dss_one (ds_expr (de_app (de_var 2) (da_cons (de_tup (da_cons (de_var 4) (da_cons (de_tup (da_cons (de_ix (de_var 3) de_int) (da_cons (de_ix (de_var 3) de_int) da_nil))) da_nil))) da_nil)))) (dss_one (ds_if (dt_cmp op_isDD (de_ix (de_var 3) de_int) de_non) (dss_one (ds_expr (de_pop (de_var 2) (da_cons (de_index (hu65 hr) (de_var 5) (da_cons (de_var 4) da_nil)) da_nil)))) (dss_one (ds_lput (de_var 2) (de_index (hu65 hr) (de_var 5) (da_cons (de_var 4) da_nil)) (de_tup (da_cons (de_var 4) (da_cons (de_tup (da_cons (de_ix (de_var 3) de_int) (da_cons (de_ix (de_var 3) de_int) da_nil))) da_nil))))))))))))) (dss_one (ds_ret (de_frz (de_var 2))))))
theorem sc__law_goes : FnScope ["label", "worth", "address", "host", "path", "secure", "name", "domain", "folder", "alone"] ["label", "worth", "address"] (defScope s__law_goes) := ⟨rfl, rfl, rfl, by decide +kernel, rfl, by decide +kernel, by decide +kernel⟩
def dn__law_goes : SD := (sSeq (sAsg (eTup (aCons (eVar 2) (aCons (eVar 0) aNil))) (gTp 2 (gsCons (gTp 3 (gsCons (gNm 3) (gsCons (gNm 4) (gsCons (gNm 5) gsNil)))) (gsCons (gTp 4 (gsCons (gNm 6) (gsCons (gNm 7) (gsCons (gNm 8) (gsCons (gNm 9) gsNil))))) gsNil)))) (sSeq (sIf (bOr (bAnd (tVal (eBin ixD (eVar 1) (eCon (.int 1)))) (bNot (tVal (eVar 5)))) (tVal (eBin neD (eSlc (eVar 4) pNo (pSo (eBlt lenA (aCons (eVar 8) aNil)))) (eVar 8)))) (sRet (eCon (.bl false))) sNil) (sRet (eIf (tVal (eVar 9)) (eBin eqD (eVar 3) (eVar 7)) (eBin eqD (eSlc (eVar 3) (pSo (eNeg (eBlt lenA (aCons (eVar 7) aNil)))) pNo) (eVar 7))))))
def rn__law_goes : List W → Sto → R W := fun ws st => noX (runS 10 dn__law_goes ws st)
theorem ok__law_goes {P : Program} {w : World} {K : PySem.W.Frag} {mg : Str → Option Value} {base : Heap} {ct : Nat → Value} {f : Addr} {fd : FuncData} (F : Fun K "_law_goes" "_law_goes" s__law_goes f fd) (z_len : mg "len" = none) :
    FnG P w K mg base CX0 1 f fd ["label", "worth", "address"] (spG ⟨K, w, mg⟩ ct 3 rn__law_goes) := by
  refine fn_den0 F sc__law_goes (fun cdv A outer s H E gd hr => ?_)
  exact (dss_cons (ds_asg (de_tup (da_cons (de_var 2) (da_cons (de_var 0) da_nil))) (dg_tup (n := 2) rfl (dgs_cons (dg_tup (n := 3) rfl (dgs_cons (dg_name (i := 3) sc__law_goes.nd) (dgs_cons (dg_name (i := 4) sc__law_goes.nd) (dgs_cons (dg_name (i := 5) sc__law_goes.nd) dgs_nil)))) (dgs_cons (dg_tup (n := 4) rfl (dgs_cons (dg_name (i := 6) sc__law_goes.nd) (dgs_cons (dg_name (i := 7) sc__law_goes.nd) (dgs_cons (dg_name (i := 8) sc__law_goes.nd) (dgs_cons (dg_name (i := 9) sc__law_goes.nd) dgs_nil))))) dgs_nil)))) (dss_cons (ds_if (PW.pt (dw_or (PW.pt (dw_and (dt_val (de_ix (de_var 1) de_int)) (dw_and1 (dt_not (dt_val (de_var 5)))))) (dw_or1 (dt_cmp (op_neDD (hu64 hr)) (de_slc (de_var 4) dp_no (dp_so (de_callB cb_lenA (by rfl) z_len bt_len (da_cons (de_var 8) da_nil)))) (de_var 8))))) (dss_one (ds_ret de_bl)) dss_nil) (dss_one (ds_ret (de_if (dt_val (de_var 9)) (de_cmp (op_eqDD (hu64 hr)) (de_var 3) (de_var 7)) (de_cmp (op_eqDD (hu64 hr)) (de_slc (de_var 3) (dp_so (de_neg (de_callB cb_lenA (by rfl) z_len bt_len (da_cons (de_var 7) da_nil)))) dp_no) (de_var 7)))))))
theorem sc__law_sent : FnScope ["kept", "address", "some", "pair", "label", "worth"] ["kept", "address"] (defScope s__law_sent) := ⟨rfl, rfl, rfl, by decide +kernel, rfl, by decide +kernel, by decide +kernel⟩
def dn__law_sent : SD := (sSeq (sSet 2 (eLst (lLc [3] (itK (eVar 0)) (gNm 3) (tVal (eCall rn__law_goes (aCons (eBin ixD (eVar 3) (eCon (.int 0))) (aCons (eBin ixD (eVar 3) (eCon (.int 1))) (aCons (eVar 1) aNil))))) (eVar 3)))) (sSeq (sSet 2 (eLst (lSortL 0 ("_law_sent", none) "_law_sent.<locals>.<lambda>" (eTup (aCons (eBin ixD (eBin ixD (eVar 0) (eCon (.int 0))) (eCon (.int 0))) (aCons (eBin subD (eCon (.int 0)) (eBlt lenA (aCons (eBin ixD (eBin ixD (eVar 0) (eCon (.int 0))) (eCon (.int 2))) aNil))) (aCons (eBin ixD (eBin ixD (eVar 0) (eCon (.int 0))) (eCon (.int 2))) aNil)))) (aCons (eVar 2) aNil)))) (sRet (eBlt tupleB (aCons (eLst (lLc [4, 5] (itK (eVar 2)) (gTp 2 (gsCons (gNm 4) (gsCons (gNm 5) gsNil))) bYes (eTup (aCons (eBin ixD (eVar 4) (eCon (.int 0))) (aCons (eBin ixD (eVar 5) (eCon (.int 0))) aNil))))) aNil)))))
def rn__law_sent : List W → Sto → R W := fun ws st => noX (runS 6 dn__law_sent ws st)
theorem ok__law_sent {P : Program} {w : World} {K : PySem.W.Frag} {mg : Str → Option Value} {base : Heap} {ct : Nat → Value} {fd : FuncData} (F : Fun K "_law_sent" "_law_sent" s__law_sent (He.fAd K ("_law_sent", none)) fd) (TB : LamX.TabB base mg (He.cT K ("_law_sent", none)).1 (He.cT K ("_law_sent", none)).2) (C__law_goes : Cal P w K mg base ct "_law_goes" 3 1 rn__law_goes) (z_sorted : mg "sorted" = none) (z_len : mg "len" = none) (z_tuple : mg "tuple" = none) :
    FnG P w K mg base CX0 3 (He.fAd K ("_law_sent", none)) fd ["kept", "address"] (spG ⟨K, w, mg⟩ ct 2 rn__law_sent) := by
  refine fn_den0T F sc__law_sent (fun A outer s H E gd hr => ?_)
  exact (dss_cons (ds_setLc (i := 2) (own := [("pair", 3)]) rfl sc__law_sent.nd rfl rfl (sw_true rfl rfl rfl (by decide +kernel)) (di_k (de_var 0)) (blkOk_by (own := [("pair", 3)]) (N := ["kept", "address", "some", "pair", "label", "worth"]) (sc := defScope s__law_sent) (by decide +kernel)) (fun _ _ _ _ _ => (dg_name (i := 3) sc__law_sent.nd)) (fun _ _ _ _ _ => (dts_one (dt_val (de_calC C__law_goes gd (Room.mono hr (by decide)) (by rfl) (aCons_len (aCons_len (aCons_len aNil_len))) (da_cons (de_ix (de_var 3) de_int) (da_cons (de_ix (de_var 3) de_int) (da_cons (de_var 1) da_nil))))))) (fun _ _ _ _ _ => (de_var 3))) (dss_cons (ds_set (i := 2) sc__law_sent.nd (de_val (df_sortLam (l := 0) (pn := ("_law_sent", none)) (x := "pair") (k := 0) gd (Room.mono hr (by decide)) TB rfl (by kernel_rfl) ⟨rfl, rfl, rfl, by decide +kernel, rfl, by decide +kernel, by decide +kernel⟩ rfl (fun _ _ _ _ => rfl) (fun _ _ _ _ _ _ _ gd hr => (de_tup (da_cons (de_ix (de_ix (de_var 0) de_int) de_int) (da_cons (de_bin op_subD de_int (de_callB cb_lenA (by rfl) z_len bt_len (da_cons (de_ix (de_ix (de_var 0) de_int) de_int) da_nil))) (da_cons (de_ix (de_ix (de_var 0) de_int) de_int) da_nil))))) (by rfl) z_sorted (de_var 2)))) (dss_one (ds_ret (de_callT cb_tuple (by rfl) z_tuple bt_tuple (da_cons (de_val (df_lc (own := [("label", 4), ("worth", 5)]) rfl sc__law_sent.nd (di_k (de_var 2)) (blkOk_by (own := [("label", 4), ("worth", 5)]) (N := ["kept", "address", "some", "pair", "label", "worth"]) (sc := defScope s__law_sent) (by decide +kernel)) (fun _ _ _ _ _ => (dg_tup (n := 2) rfl (dgs_cons (dg_name (i := 4) sc__law_sent.nd) (dgs_cons (dg_name (i := 5) sc__law_sent.nd) dgs_nil)))) (fun _ _ _ _ _ => dts_nil) (fun _ _ _ _ _ => (de_tup (da_cons (de_ix (de_var 4) de_int) (da_cons (de_ix (de_var 5) de_int) da_nil)))))) da_nil))))))
theorem sc__law_jar : FnScope ["kept", "some", "label", "worth"] ["kept"] (defScope s__law_jar) := ⟨rfl, rfl, rfl, by decide +kernel, rfl, by decide +kernel, by decide +kernel⟩
def dn__law_jar : SD := (sSeq (sSet 1 (eLst (lSortL 1 ("_law_jar", none) "_law_jar.<locals>.<lambda>" (eTup (aCons (eBin ixD (eBin ixD (eVar 0) (eCon (.int 0))) (eCon (.int 0))) (aCons (eBin subD (eCon (.int 0)) (eBlt lenA (aCons (eBin ixD (eBin ixD (eVar 0) (eCon (.int 0))) (eCon (.int 2))) aNil))) (aCons (eBin ixD (eBin ixD (eVar 0) (eCon (.int 0))) (eCon (.int 2))) aNil)))) (aCons (eVar 0) aNil)))) (sRet (eBlt tupleB (aCons (eLst (lLc [2, 3] (itK (eVar 1)) (gTp 2 (gsCons (gNm 2) (gsCons (gNm 3) gsNil))) bYes (eTup (aCons (eVar 2) (aCons (eBin ixD (eVar 3) (eCon (.int 0))) (aCons (eBin ixD (eVar 3) (eCon (.int 1))) aNil)))))) aNil))))
def rn__law_jar : List W → Sto → R W := fun ws st => noX (runS 4 dn__law_jar ws st)
theorem ok__law_jar {P : Program} {w : World} {K : PySem.W.Frag} {mg : Str → Option Value} {base : Heap} {ct : Nat → Value} {fd : FuncData} (F : Fun K "_law_jar" "_law_jar" s__law_jar (He.fAd K ("_law_jar", none)) fd) (TB : LamX.TabB base mg (He.cT K ("_law_jar", none)).1 (He.cT K ("_law_jar", none)).2) (z_sorted : mg "sorted" = none) (z_len : mg "len" = none) (z_tuple : mg "tuple" = none) :
    FnG P w K mg base CX0 3 (He.fAd K ("_law_jar", none)) fd ["kept"] (spG ⟨K, w, mg⟩ ct 1 rn__law_jar) := by
  refine fn_den0T F sc__law_jar (fun A outer s H E gd hr => ?_)
  exact (dss_cons (ds_set (i := 1) sc__law_jar.nd (de_val (df_sortLam (l := 1) (pn := ("_law_jar", none)) (x := "pair") (k := 0) gd (Room.mono hr (by decide)) TB rfl (by kernel_rfl) ⟨rfl, rfl, rfl, by decide +kernel, rfl, by decide +kernel, by decide +kernel⟩ rfl (fun _ _ _ _ => rfl) (fun _ _ _ _ _ _ _ gd hr => (de_tup (da_cons (de_ix (de_ix (de_var 0) de_int) de_int) (da_cons (de_bin op_subD de_int (de_callB cb_lenA (by rfl) z_len bt_len (da_cons (de_ix (de_ix (de_var 0) de_int) de_int) da_nil))) (da_cons (de_ix (de_ix (de_var 0) de_int) de_int) da_nil))))) (by rfl) z_sorted (de_var 0)))) (dss_one (ds_ret (de_callT cb_tuple (by rfl) z_tuple bt_tuple (da_cons (de_val (df_lc (own := [("label", 2), ("worth", 3)]) rfl sc__law_jar.nd (di_k (de_var 1)) (blkOk_by (own := [("label", 2), ("worth", 3)]) (N := ["kept", "some", "label", "worth"]) (sc := defScope s__law_jar) (by decide +kernel)) (fun _ _ _ _ _ => (dg_tup (n := 2) rfl (dgs_cons (dg_name (i := 2) sc__law_jar.nd) (dgs_cons (dg_name (i := 3) sc__law_jar.nd) dgs_nil)))) (fun _ _ _ _ _ => dts_nil) (fun _ _ _ _ _ => (de_tup (da_cons (de_var 2) (da_cons (de_ix (de_var 3) de_int) (da_cons (de_ix (de_var 3) de_int) da_nil))))))) da_nil)))))
theorem sc__law_host : FnScope ["state", "some"] ["state"] (defScope s__law_host) := ⟨rfl, rfl, rfl, by decide +kernel, rfl, by decide +kernel, by decide +kernel⟩
def dn__law_host : SD := (sSeq (sSet 1 (eLst (aLim (aCons (eTup (aCons (eCon (.str "b")) (aCons (eCon (.str "c")) aNil))) (aCons (eTup (aCons (eCon (.str "a")) (aCons (eCon (.str "b")) (aCons (eCon (.str "c")) aNil)))) (aCons (eTup (aCons (eCon (.str "a")) (aCons (eCon (.str "b")) (aCons (eCon (.str "c")) aNil)))) (aCons (eTup (aCons (eCon (.str "x")) (aCons (eCon (.str "b")) (aCons (eCon (.str "c")) aNil)))) (aCons (eTup (aCons (eCon (.str "y")) (aCons (eCon (.str "a")) (aCons (eCon (.str "b")) (aCons (eCon (.str "c")) aNil))))) (aCons (eTup (aCons (eCon (.str "b")) (aCons (eCon (.str "d")) aNil))) aNil))))))))) (sRet (eBin ix2 (eVar 1) (eCall rn__law_draw (aCons (eVar 0) (aCons (eCon (.int 6)) aNil))))))
def rn__law_host : List W → Sto → R W := fun ws st => noX (runS 2 dn__law_host ws st)
theorem ok__law_host {P : Program} {w : World} {K : PySem.W.Frag} {mg : Str → Option Value} {base : Heap} {ct : Nat → Value} {f : Addr} {fd : FuncData} (F : Fun K "_law_host" "_law_host" s__law_host f fd) (C__law_draw : Cal P w K mg base ct "_law_draw" 2 2 rn__law_draw) :
    FnG P w K mg base CX0 3 f fd ["state"] (spG ⟨K, w, mg⟩ ct 1 rn__law_host) := by
  refine fn_den0 F sc__law_host (fun cdv A outer s H E gd hr => ?_)
  exact (dss_cons (ds_set (i := 1) sc__law_host.nd (de_val (df_lst (da_cons (de_tup (da_cons de_str (da_cons de_str da_nil))) (da_cons (de_tup (da_cons de_str (da_cons de_str (da_cons de_str da_nil)))) (da_cons (de_tup (da_cons de_str (da_cons de_str (da_cons de_str da_nil)))) (da_cons (de_tup (da_cons de_str (da_cons de_str (da_cons de_str da_nil)))) (da_cons (de_tup (da_cons de_str (da_cons de_str (da_cons de_str (da_cons de_str da_nil))))) (da_cons (de_tup (da_cons de_str (da_cons de_str da_nil))) da_nil))))))))) (dss_one (ds_ret (de_ix2 (hu65 hr) (de_var 1) (de_calC C__law_draw gd (Room.mono hr (by decide)) (by rfl) (aCons_len (aCons_len aNil_len)) (da_cons (de_var 0) (da_cons de_int da_nil)))))))
theorem sc__law_path : FnScope ["state"] ["state"] (defScope s__law_path) := ⟨rfl, rfl, rfl, by decide +kernel, rfl, by decide +kernel, by decide +kernel⟩
def dn__law_path : SD := (sRet (eBin ix2 (eLst (aLim (aCons (eTup aNil) (aCons (eTup (aCons (eCon (.str "p")) aNil)) (aCons (eTup (aCons (eCon (.str "p")) (aCons (eCon (.str "q")) aNil))) (aCons (eTup (aCons (eCon (.str "p")) aNil)) (aCons (eTup (aCons (eCon (.str "q")) aNil)) (aCons (eTup (aCons (eCon (.str "p")) (aCons (eCon (.str "q")) (aCons (eCon (.str "r")) aNil)))) aNil)))))))) (eCall rn__law_draw (aCons (eVar 0) (aCons (eCon (.int 6)) aNil)))))
def rn__law_path : List W → Sto → R W := fun ws st => noX (runS 1 dn__law_path ws st)
theorem ok__law_path {P : Program} {w : World} {K : PySem.W.Frag} {mg : Str → Option Value} {base : Heap} {ct : Nat → Value} {f : Addr} {fd : FuncData} (F : Fun K "_law_path" "_law_path" s__law_path f fd) (C__law_draw : Cal P w K mg base ct "_law_draw" 2 2 rn__law_draw) :
    FnG P w K mg base CX0 3 f fd ["state"] (spG ⟨K, w, mg⟩ ct 1 rn__law_path) := by
  refine fn_den0 F sc__law_path (fun cdv A outer s H E gd hr => ?_)
  exact (dss_one (ds_ret (de_ix2 (hu65 hr) (de_val (df_lst (da_cons (de_tup da_nil) (da_cons (de_tup (da_cons de_str da_nil)) (da_cons (de_tup (da_cons de_str (da_cons de_str da_nil))) (da_cons (de_tup (da_cons de_str da_nil)) (da_cons (de_tup (da_cons de_str da_nil)) (da_cons (de_tup (da_cons de_str (da_cons de_str (da_cons de_str da_nil)))) da_nil)))))))) (de_calC C__law_draw gd (Room.mono hr (by decide)) (by rfl) (aCons_len (aCons_len aNil_len)) (da_cons (de_var 0) (da_cons de_int da_nil))))))
theorem sc__law_write : FnScope ["state", "host", "name", "value", "domain", "folder"] ["state", "host"] (defScope s__law_write) := ⟨rfl, rfl, rfl, by decide +kernel, rfl, by decide +kernel, by decide +kernel⟩
def dn__law_write : SD := (sSeq (sSet 2 (eBin ix2 (eLst (aLim (aCons (eCon (.str "id")) (aCons (eCon (.str "id")) (aCons (eCon (.str "id")) (aCons (eCon (.str "k")) aNil)))))) (eCall rn__law_draw (aCons (eVar 0) (aCons (eCon (.int 4)) aNil))))) (sSeq (sSet 3 (eBin ix2 (eLst (aLim (aCons (eCon (.str "u")) (aCons (eCon (.str "v")) (aCons (eCon (.str "u")) (aCons (eCon .non) (aCons (eCon (.str "w1")) (aCons (eCon .non) aNil)))))))) (eCall rn__law_draw (aCons (eVar 0) (aCons (eCon (.int 6)) aNil))))) (sSeq (sSet 4 (eBin ix2 (eLst (aLim (aCons (eCon .non) (aCons (eSlc (eVar 1) (pSo (eNeg (eCon (.int 2)))) pNo) (aCons (eVar 1) (aCons (eCon .non) (aCons (eIf (tVal (eBin gtD (eBlt lenA (aCons (eVar 1) aNil)) (eCon (.int 2)))) (eSlc (eVar 1) (pSo (eCon (.int 1))) pNo) (eVar 1)) (aCons (eTup (aCons (eCon (.str "b")) (aCons (eCon (.str "c")) aNil))) aNil)))))))) (eCall rn__law_draw (aCons (eVar 0) (aCons (eCon (.int 6)) aNil))))) (sSeq (sSet 5 (eBin ix2 (eLst (aLim (aCons (eCon .non) (aCons (eTup aNil) (aCons (eCon .non) (aCons (eTup (aCons (eCon (.str "p")) aNil)) (aCons (eCall rn__law_path (aCons (eVar 0) aNil)) aNil))))))) (eCall rn__law_draw (aCons (eVar 0) (aCons (eCon (.int 5)) aNil))))) (sRet (eTup (aCons (eVar 2) (aCons (eVar 3) (aCons (eVar 4) (aCons (eVar 5) (aCons (eBin eqD (eCall rn__law_draw (aCons (eVar 0) (aCons (eCon (.int 6)) aNil))) (eCon (.int 0))) aNil)))))))))))
def rn__law_write : List W → Sto → R W := fun ws st => noX (runS 6 dn__law_write ws st)
theorem ok__law_write {P : Program} {w : World} {K : PySem.W.Frag} {mg : Str → Option Value} {base : Heap} {ct : Nat → Value} {f : Addr} {fd : FuncData} (F : Fun K "_law_write" "_law_write" s__law_write f fd) (C__law_draw : Cal P w K mg base ct "_law_draw" 2 2 rn__law_draw) (z_len : mg "len" = none) (C__law_path : Cal P w K mg base ct "_law_path" 1 3 rn__law_path) :
    FnG P w K mg base CX0 4 f fd ["state", "host"] (spG ⟨K, w, mg⟩ ct 2 rn__law_write) := by
  refine fn_den0 F sc__law_write (fun cdv A outer s H E gd hr => ?_)
  exact (dss_cons (ds_set (i := 2) sc__law_write.nd (de_ix2 (hu65 hr) (de_val (df_lst (da_cons de_str (da_cons de_str (da_cons de_str (da_cons de_str da_nil)))))) (de_calC C__law_draw gd (Room.mono hr (by decide)) (by rfl) (aCons_len (aCons_len aNil_len)) (da_cons (de_var 0) (da_cons de_int da_nil))))) (dss_cons (ds_set (i := 3) sc__law_write.nd (de_ix2 (hu65 hr) (de_val (df_lst (da_cons de_str (da_cons de_str (da_cons de_str (da_cons de_non (da_cons de_str (da_cons de_non da_nil)))))))) (de_calC C__law_draw gd (Room.mono hr (by decide)) (by rfl) (aCons_len (aCons_len aNil_len)) (da_cons (de_var 0) (da_cons de_int da_nil))))) (dss_cons (ds_set (i := 4) sc__law_write.nd (de_ix2 (hu65 hr) (de_val (df_lst (da_cons de_non (da_cons (de_slc (de_var 1) (dp_so (de_neg de_int)) dp_no) (da_cons (de_var 1) (da_cons de_non (da_cons (de_if (dt_cmp op_gtD (de_callB cb_lenA (by rfl) z_len bt_len (da_cons (de_var 1) da_nil)) de_int) (de_slc (de_var 1) (dp_so de_int) dp_no) (de_var 1)) (da_cons (de_tup (da_cons de_str (da_cons de_str da_nil))) da_nil)))))))) (de_calC C__law_draw gd (Room.mono hr (by decide)) (by rfl) (aCons_len (aCons_len aNil_len)) (da_cons (de_var 0) (da_cons de_int da_nil))))) (dss_cons (ds_set (i := 5) sc__law_write.nd (de_ix2 (hu65 hr) (de_val (df_lst (da_cons de_non (da_cons (de_tup da_nil) (da_cons de_non (da_cons (de_tup (da_cons de_str da_nil)) (da_cons (de_calC C__law_path gd (Room.mono hr (by decide)) (by rfl) (aCons_len aNil_len) (da_cons (de_var 0) da_nil)) da_nil))))))) (de_calC C__law_draw gd (Room.mono hr (by decide)) (by rfl) (aCons_len (aCons_len aNil_len)) (da_cons (de_var 0) (da_cons de_int da_nil))))) (dss_one (ds_ret (de_tup (da_cons (de_var 2) (da_cons (de_var 3) (da_cons (de_var 4) (da_cons (de_var 5) (da_cons (de_cmp (op_eqDD (hu64 hr)) (de_calC C__law_draw gd (Room.mono hr (by decide)) (by rfl) (aCons_len (aCons_len aNil_len)) (da_cons (de_var 0) (da_cons de_int da_nil))) de_int) da_nil))))))))))))
theorem sc__law_page : FnScope ["state", "host", "writes", "k"] ["state"] (defScope s__law_page) := ⟨rfl, rfl, rfl, by decide +kernel, rfl, by decide +kernel, by decide +kernel⟩
def dn__law_page : SD := (sSeq (sSet 1 (eCall rn__law_host (aCons (eVar 0) aNil))) (sSeq (sSet 2 (eLst (lLc [3] (itRange (aCons (eBin addD (eCon (.int 1)) (eCall rn__law_draw (aCons (eVar 0) (aCons (eCon (.int 3)) aNil)))) aNil)) (gNm 3) bYes (eCall rn__law_write (aCons (eVar 0) (aCons (eVar 1) aNil)))))) (sRet (eTup (aCons (eTup (aCons (eVar 1) (aCons (eCall rn__law_path (aCons (eVar 0) aNil)) (aCons (eBin gtD (eCall rn__law_draw (aCons (eVar 0) (aCons (eCon (.int 4)) aNil))) (eCon (.int 0))) aNil)))) (aCons (eBlt tupleB (aCons (eVar 2) aNil)) aNil))))))
def rn__law_page : List W → Sto → R W := fun ws st => noX (runS 4 dn__law_page ws st)
theorem ok__law_page {P : Program} {w : World} {K : PySem.W.Frag} {mg : Str → Option Value} {base : Heap} {ct : Nat → Value} {f : Addr} {fd : FuncData} (F : Fun K "_law_page" "_law_page" s__law_page f fd) (C__law_host : Cal P w K mg base ct "_law_host" 1 3 rn__law_host) (C__law_draw : Cal P w K mg base ct "_law_draw" 2 2 rn__law_draw) (z_range : mg "range" = none) (C__law_write : Cal P w K mg base ct "_law_write" 2 4 rn__law_write) (z_tuple : mg "tuple" = none) (C__law_path : Cal P w K mg base ct "_law_path" 1 3 rn__law_path) :
    FnG P w K mg base CX0 5 f fd ["state"] (spG ⟨K, w, mg⟩ ct 1 rn__law_page) := by
  refine fn_den0 F sc__law_page (fun cdv A outer s H E gd hr => ?_)
  exact (dss_cons (ds_set (i := 1) sc__law_page.nd (de_calC C__law_host gd (Room.mono hr (by decide)) (by rfl) (aCons_len aNil_len) (da_cons (de_var 0) da_nil))) (dss_cons (ds_setLc (i := 2) (own := [("k", 3)]) rfl sc__law_page.nd rfl rfl (sw_true rfl rfl rfl (by decide +kernel)) (di_range1 (by rfl) z_range (de_bin op_addD de_int (de_calC C__law_draw gd (Room.mono hr (by decide)) (by rfl) (aCons_len (aCons_len aNil_len)) (da_cons (de_var 0) (da_cons de_int da_nil))))) (blkOk_by (own := [("k", 3)]) (N := ["state", "host", "writes", "k"]) (sc := defScope s__law_page) (by decide +kernel)) (fun _ _ _ _ _ => (dg_name (i := 3) sc__law_page.nd)) (fun _ _ _ _ _ => dts_nil) (fun _ _ _ _ _ => (de_calC C__law_write gd (Room.mono hr (by decide)) (by rfl) (aCons_len (aCons_len aNil_len)) (da_cons (de_var 0) (da_cons (de_var 1) da_nil))))) (dss_one (ds_ret (de_tup (da_cons (de_tup (da_cons (de_var 1) (da_cons (de_calC C__law_path gd (Room.mono hr (by decide)) (by rfl) (aCons_len aNil_len) (da_cons (de_var 0) da_nil)) (da_cons (de_cmp op_gtD (de_calC C__law_draw gd (Room.mono hr (by decide)) (by rfl) (aCons_len (aCons_len aNil_len)) (da_cons (de_var 0) (da_cons de_int da_nil))) de_int) da_nil)))) (da_cons (de_callT cb_tuple (by rfl) z_tuple bt_tuple (da_cons (de_var 2) da_nil)) da_nil)))))))
theorem sc__law_keys : FnScope ["site", "found", "page", "write", "label"] ["site"] (defScope s__law_keys) := ⟨rfl, rfl, rfl, by decide +kernel, rfl, by decide +kernel, by decide +kernel⟩
def dn__law_keys : SD := (sSeq (sSet 1 eKNew) (sSeq (sFor (itK (eVar 0)) (gNm 2) (sFor (itK (eBin ixD (eVar 2) (eCon (.int 1)))) (gNm 3) (sSeq (sSet 4 (eCall rn__law_key (aCons (eVar 2) (aCons (eVar 3) aNil)))) (sIf (tVal (eBin isNotD (eVar 4) (eCon .non))) (sKPut (eVar 1) (eVar 4) (eCon (.bl true))) sNil)))) (sRet (eLst (lBlt sortF (aCons (eVar 1) aNil))))))
def rn__law_keys : List W → Sto → R W := fun ws st => noX (runS 5 dn__law_keys ws st)
theorem ok__law_keys {P : Program} {w : World} {K : PySem.W.Frag} {mg : Str → Option Value} {base : Heap} {ct : Nat → Value} {f : Addr} {fd : FuncData} (F : Fun K "_law_keys" "_law_keys" s__law_keys f fd) (C__law_key : Cal P w K mg base ct "_law_key" 2 1 rn__law_key) (z_sorted : mg "sorted" = none) :
    FnG P w K mg base CX0 2 f fd ["site"] (spG ⟨K, w, mg⟩ ct 1 rn__law_keys) := by
  refine fn_den0 F sc__law_keys (fun cdv A outer s H E gd hr => ?_)
  exact (dss_cons (ds_set (i := 1) sc__law_keys.nd de_knew) (dss_cons (ds_for PassesOwn.never rfl (di_k (de_var 0)) (dg_name (i := 2) sc__law_keys.nd) (dss_one (ds_for PassesOwn.never rfl (di_k (de_ix (de_var 2) de_int)) (dg_name (i := 3) sc__law_keys.nd) (dss_cons (ds_set (i := 4) sc__law_keys.nd (de_calC C__law_key gd (Room.mono hr (by decide)) (by rfl) (aCons_len (aCons_len aNil_len)) (da_cons (de_var 2) (da_cons (de_var 3) da_nil)))) (dss_one (ds_if (dt_cmp op_isNotDD (de_var 4) de_non) (dss_one (ds_kput (hu65 hr) (de_var 1) (de_var 4) de_bl)) dss_nil)))))) (dss_one (ds_ret (de_val (df_callB (cf_sorted rfl (hu65 hr)) (by rfl) z_sorted bt_sorted (da_cons (de_var 1) da_nil)))))))
theorem sc__law_site : FnScope ["state", "most", "found", "k", "page"] ["state", "most"] (defScope s__law_site) := ⟨rfl, rfl, rfl, by decide +kernel, rfl, by decide +kernel, by decide +kernel⟩
def dn__law_site : SD := (sSeq (sSet 2 (eNew (aLim aNil))) (sSeq (sFor (itRange (aCons (eBin addD (eCon (.int 1)) (eCall rn__law_draw (aCons (eVar 0) (aCons (eVar 1) aNil)))) aNil)) (gNm 3) (sSeq (sSet 4 (eCall rn__law_page (aCons (eVar 0) aNil))) (sIf (tVal (eBin ltD (eBlt lenA (aCons (eCall rn__law_keys (aCons (eLst (lCat (eVar 2) (eLst (aLim (aCons (eVar 4) aNil))))) aNil)) aNil)) (eCon (.int 7)))) (sExpr (eApp (eVar 2) (aCons (eVar 4) aNil))) sNil))) (sRet (eIf (tVal (eBin neD (eVar 2) (eLst (aLim aNil)))) (eBlt tupleB (aCons (eVar 2) aNil)) (eTup (aCons (eTup (aCons (eTup (aCons (eTup (aCons (eCon (.str "b")) (aCons (eCon (.str "c")) aNil))) (aCons (eTup aNil) (aCons (eCon (.bl true)) aNil)))) (aCons (eTup aNil) aNil))) aNil))))))
def rn__law_site : List W → Sto → R W := fun ws st => noX (runS 5 dn__law_site ws st)
theorem ok__law_site {P : Program} {w : World} {K : PySem.W.Frag} {mg : Str → Option Value} {base : Heap} {ct : Nat → Value} {f : Addr} {fd : FuncData} (F : Fun K "_law_site" "_law_site" s__law_site f fd) (C__law_draw : Cal P w K mg base ct "_law_draw" 2 2 rn__law_draw) (z_range : mg "range" = none) (C__law_page : Cal P w K mg base ct "_law_page" 1 5 rn__law_page) (C__law_keys : Cal P w K mg base ct "_law_keys" 1 2 rn__law_keys) (z_len : mg "len" = none) (z_tuple : mg "tuple" = none) :
    FnG P w K mg base CX0 6 f fd ["state", "most"] (spG ⟨K, w, mg⟩ ct 2 rn__law_site) := by
  refine fn_den0 F sc__law_site (fun cdv A outer s H E gd hr => ?_)
  exact (dss_cons (ds_set (i := 2) sc__law_site.nd (de_new (df_lst da_nil))) (dss_cons (ds_for PassesOwn.never rfl (di_range1 (by rfl) z_range (de_bin op_addD de_int (de_calC C__law_draw gd (Room.mono hr (by decide)) (by rfl) (aCons_len (aCons_len aNil_len)) (da_cons (de_var 0) (da_cons (de_var 1) da_nil))))) (dg_name (i := 3) sc__law_site.nd) (dss_cons (ds_set (i := 4) sc__law_site.nd (de_calC C__law_page gd (Room.mono hr (by decide)) (by rfl) (aCons_len aNil_len) (da_cons (de_var 0) da_nil))) (dss_one (ds_if (dt_cmp op_ltD (de_callB cb_lenA (by rfl) z_len bt_len (da_cons (de_calC C__law_keys gd (Room.mono hr (by decide)) (by rfl) (aCons_len aNil_len) (da_cons (de_val (df_cat (de_var 2) (de_val (df_lst (da_cons (de_var 4) da_nil))))) da_nil)) da_nil)) de_int) (dss_one (ds_expr (de_app (de_var 2) (da_cons (de_var 4) da_nil)))) dss_nil)))) (dss_one (ds_ret (de_if (dt_cmp (op_neDD (hu64 hr)) (de_var 2) (de_val (df_lst da_nil))) (de_callT cb_tuple (by rfl) z_tuple bt_tuple (da_cons (de_var 2) da_nil)) (de_tup (da_cons (de_tup (da_cons (de_tup (da_cons (de_tup (da_cons de_str (da_cons de_str da_nil))) (da_cons (de_tup da_nil) (da_cons de_bl da_nil)))) (da_cons (de_tup da_nil) da_nil))) da_nil)))))))
theorem sc__law_address : FnScope ["state"] ["state"] (defScope s__law_address) := ⟨rfl, rfl, rfl, by decide +kernel, rfl, by decide +kernel, by decide +kernel⟩
def dn__law_address : SD := (sRet (eTup (aCons (eCall rn__law_host (aCons (eVar 0) aNil)) (aCons (eCall rn__law_path (aCons (eVar 0) aNil)) (aCons (eBin gtD (eCall rn__law_draw (aCons (eVar 0) (aCons (eCon (.int 3)) aNil))) (eCon (.int 0))) aNil)))))
def rn__law_address : List W → Sto → R W := fun ws st => noX (runS 1 dn__law_address ws st)
theorem ok__law_address {P : Program} {w : World} {K : PySem.W.Frag} {mg : Str → Option Value} {base : Heap} {ct : Nat → Value} {f : Addr} {fd : FuncData} (F : Fun K "_law_address" "_law_address" s__law_address f fd) (C__law_draw : Cal P w K mg base ct "_law_draw" 2 2 rn__law_draw) (C__law_path : Cal P w K mg base ct "_law_path" 1 3 rn__law_path) (C__law_host : Cal P w K mg base ct "_law_host" 1 3 rn__law_host) :
    FnG P w K mg base CX0 4 f fd ["state"] (spG ⟨K, w, mg⟩ ct 1 rn__law_address) := by
  refine fn_den0 F sc__law_address (fun cdv A outer s H E gd hr => ?_)
  exact (dss_one (ds_ret (de_tup (da_cons (de_calC C__law_host gd (Room.mono hr (by decide)) (by rfl) (aCons_len aNil_len) (da_cons (de_var 0) da_nil)) (da_cons (de_calC C__law_path gd (Room.mono hr (by decide)) (by rfl) (aCons_len aNil_len) (da_cons (de_var 0) da_nil)) (da_cons (de_cmp op_gtD (de_calC C__law_draw gd (Room.mono hr (by decide)) (by rfl) (aCons_len (aCons_len aNil_len)) (da_cons (de_var 0) (da_cons de_int da_nil))) de_int) da_nil))))))
theorem sc_Browser_keep : FnScope ["self", "jar", "row"] ["self", "jar", "row"] (defScope s_Browser_keep) := ⟨rfl, rfl, rfl, by decide +kernel, rfl, by decide +kernel, by decide +kernel⟩
def dn_Browser_keep : SD := (sSeq (sFldI "Browser" "past" (eVar 0) (eBin addD (eFldI "Browser" "past" (eVar 0)) (eTup (aCons (eFldI "Browser" "state" (eVar 0)) aNil)))) (sFldI "Browser" "state" (eVar 0) (eTup (aCons (eVar 1) (aCons (eVar 2) aNil)))))
def rn_Browser_keep : List W → Sto → R W := fun ws st => noX (runS 3 dn_Browser_keep ws st)
theorem ok_Browser_keep {P : Program} {w : World} {K : PySem.W.Frag} {mg : Str → Option Value} {base : Heap} {ct : Nat → Value} {f : Addr} {fd : FuncData} (F : Fun K "keep" "Browser.keep" s_Browser_keep f fd) (I_Browser : ClsI K mg "Browser" ["own_site", "state", "past"]) :
    FnG P w K mg base CX0 1 f fd ["self", "jar", "row"] (spG ⟨K, w, mg⟩ ct 3 rn_Browser_keep) := by
  refine fn_den0 F sc_Browser_keep (fun cdv A outer s H E gd hr => ?_)
  exact (dss_cons (ds_fldI I_Browser (by decide) (de_var 0) (de_bin op_addD (de_fldI I_Browser (by decide) (de_var 0)) (de_tup (da_cons (de_fldI I_Browser (by decide) (de_var 0)) da_nil)))) (dss_one (ds_fldI I_Browser (by decide) (de_var 0) (de_tup (da_cons (de_var 1) (da_cons (de_var 2) da_nil))))))
theorem sc_Browser_visit : FnScope ["self", "page", "own", "found"] ["self", "page"] (defScope s_Browser_visit) := ⟨rfl, rfl, rfl, by decide +kernel, rfl, by decide +kernel, by decide +kernel⟩
def dn_Browser_visit : SD := (sSeq (sSet 2 (eBin ix2 (eFldI "Browser" "own_site" (eVar 0)) (eCall rn_need_page (aCons (eFldI "Browser" "own_site" (eVar 0)) (aCons (eVar 1) aNil))))) (sSeq (sSet 3 (eCall rn_sent_in (aCons (eBin ixD (eFldI "Browser" "state" (eVar 0)) (eCon (.int 0))) (aCons (eBin ixD (eVar 2) (eCon (.int 0))) aNil)))) (sSeq (sExpr (eMetI "Browser" "keep" rn_Browser_keep (eVar 0) (aCons (eCall rn_after (aCons (eBin ixD (eFldI "Browser" "state" (eVar 0)) (eCon (.int 0))) (aCons (eVar 2) aNil))) (aCons (eBin addD (eBin ixD (eFldI "Browser" "state" (eVar 0)) (eCon (.int 1))) (eTup (aCons (eVar 1) aNil))) aNil)))) (sRet (eVar 3)))))
def rn_Browser_visit : List W → Sto → R W := fun ws st => noX (runS 4 dn_Browser_visit ws st)
theorem ok_Browser_visit {P : Program} {w : World} {K : PySem.W.Frag} {mg : Str → Option Value} {base : Heap} {ct : Nat → Value} {f : Addr} {fd : FuncData} (F : Fun K "visit" "Browser.visit" s_Browser_visit f fd) (I_Browser : ClsI K mg "Browser" ["own_site", "state", "past"]) (C_need_page : Cal P w K mg base ct "need_page" 2 2 rn_need_page) (C_sent_in : Cal P w K mg base ct "sent_in" 2 3 rn_sent_in) (M_Browser_keep : MetI P w K mg base CX0 ct "Browser" "keep" 3 1 rn_Browser_keep) (C_after : Cal P w K mg base ct "after" 2 4 rn_after) :
    FnG P w K mg base CX0 5 f fd ["self", "page"] (spG ⟨K, w, mg⟩ ct 2 rn_Browser_visit) := by
  refine fn_den0 F sc_Browser_visit (fun cdv A outer s H E gd hr => ?_)
  exact (dss_cons (ds_set (i := 2) sc_Browser_visit.nd (de_ix2 (hu65 hr) (de_fldI I_Browser (by decide) (de_var 0)) (de_calC C_need_page gd (Room.mono hr (by decide)) (by rfl) (aCons_len (aCons_len aNil_len)) (da_cons (de_fldI I_Browser (by decide) (de_var 0)) (da_cons (de_var 1) da_nil))))) (dss_cons (ds_set (i := 3) sc_Browser_visit.nd (de_calC C_sent_in gd (Room.mono hr (by decide)) (by rfl) (aCons_len (aCons_len aNil_len)) (da_cons (de_ix (de_fldI I_Browser (by decide) (de_var 0)) de_int) (da_cons (de_ix (de_var 2) de_int) da_nil)))) (dss_cons (ds_expr (de_metI M_Browser_keep gd (Room.mono hr (by decide)) pass00 (fun env st ws st' e => congrArg (· + 1) ((aCons_len (aCons_len aNil_len)) env st ws st' e)) (de_var 0) (da_cons (de_calC C_after gd (Room.mono hr (by decide)) (by rfl) (aCons_len (aCons_len aNil_len)) (da_cons (de_ix (de_fldI I_Browser (by decide) (de_var 0)) de_int) (da_cons (de_var 2) da_nil))) (da_cons (de_bin op_addD (de_ix (de_fldI I_Browser (by decide) (de_var 0)) de_int) (de_tup (da_cons (de_var 1) da_nil))) da_nil)))) (dss_one (ds_ret (de_var 3))))))
theorem sc_Browser_clear : FnScope ["self"] ["self"] (defScope s_Browser_clear) := ⟨rfl, rfl, rfl, by decide +kernel, rfl, by decide +kernel, by decide +kernel⟩
def dn_Browser_clear : SD := (sExpr (eMetI "Browser" "keep" rn_Browser_keep (eVar 0) (aCons (eTup aNil) (aCons (eTup aNil) aNil))))
def rn_Browser_clear : List W → Sto → R W := fun ws st => noX (runS 1 dn_Browser_clear ws st)
theorem ok_Browser_clear {P : Program} {w : World} {K : PySem.W.Frag} {mg : Str → Option Value} {base : Heap} {ct : Nat → Value} {f : Addr} {fd : FuncData} (F : Fun K "clear" "Browser.clear" s_Browser_clear f fd) (M_Browser_keep : MetI P w K mg base CX0 ct "Browser" "keep" 3 1 rn_Browser_keep) :
    FnG P w K mg base CX0 2 f fd ["self"] (spG ⟨K, w, mg⟩ ct 1 rn_Browser_clear) := by
  refine fn_den0 F sc_Browser_clear (fun cdv A outer s H E gd hr => ?_)
  exact (dss_one (ds_expr (de_metI M_Browser_keep gd (Room.mono hr (by decide)) pass00 (fun env st ws st' e => congrArg (· + 1) ((aCons_len (aCons_len aNil_len)) env st ws st' e)) (de_var 0) (da_cons (de_tup da_nil) (da_cons (de_tup da_nil) da_nil)))))
theorem sc_Browser_undo : FnScope ["self"] ["self"] (defScope s_Browser_undo) := ⟨rfl, rfl, rfl, by decide +kernel, rfl, by decide +kernel, by decide +kernel⟩
def dn_Browser_undo : SD := (sSeq (sIf (tVal (eBin eqD0 (eFldI "Browser" "past" (eVar 0)) (eTup aNil))) (sRet (eCon (.bl false))) sNil) (sSeq (sFldI "Browser" "state" (eVar 0) (eBin ixD (eFldI "Browser" "past" (eVar 0)) (eNeg (eCon (.int 1))))) (sSeq (sFldI "Browser" "past" (eVar 0) (eSlc (eFldI "Browser" "past" (eVar 0)) pNo (pSo (eNeg (eCon (.int 1)))))) (sRet (eCon (.bl true))))))
def rn_Browser_undo : List W → Sto → R W := fun ws st => noX (runS 1 dn_Browser_undo ws st)
theorem ok_Browser_undo {P : Program} {w : World} {K : PySem.W.Frag} {mg : Str → Option Value} {base : Heap} {ct : Nat → Value} {f : Addr} {fd : FuncData} (F : Fun K "undo" "Browser.undo" s_Browser_undo f fd) (I_Browser : ClsI K mg "Browser" ["own_site", "state", "past"]) :
    FnG P w K mg base CX0 1 f fd ["self"] (spG ⟨K, w, mg⟩ ct 1 rn_Browser_undo) := by
  refine fn_den0 F sc_Browser_undo (fun cdv A outer s H E gd hr => ?_)
  exact (dss_cons (ds_if (dt_cmp (op_eqD0 (hu64 hr)) (de_fldI I_Browser (by decide) (de_var 0)) (de_tup da_nil)) (dss_one (ds_ret de_bl)) dss_nil) (dss_cons (ds_fldI I_Browser (by decide) (de_var 0) (de_ix (de_fldI I_Browser (by decide) (de_var 0)) (de_neg de_int))) (dss_cons (ds_fldI I_Browser (by decide) (de_var 0) (de_slc (de_fldI I_Browser (by decide) (de_var 0)) dp_no (dp_so (de_neg de_int)))) (dss_one (ds_ret de_bl)))))
theorem sc__law_turned : FnScope ["state", "browser", "m", "way", "number", "due"] ["state", "browser", "m"] (defScope s__law_turned) := ⟨rfl, rfl, rfl, by decide +kernel, rfl, by decide +kernel, by decide +kernel⟩
def dn__law_turned : SD := (sSeq (sSet 3 (eCall rn__law_draw (aCons (eVar 0) (aCons (eCon (.int 8)) aNil)))) (sSeq (sIf (tVal (eBin eqD (eVar 3) (eCon (.int 0)))) (sSeq (sSet 5 (eBin neD (eDGet (eVar 2) (eCon (.str "past"))) (eLst (aLim aNil)))) (sSeq (sIf (tVal (eVar 5)) (sDPut2 (eVar 2) (eCon (.str "kept")) (eVar 2) (eCon (.str "row")) (ePop0 (eDGet (eVar 2) (eCon (.str "past"))))) sNil) (sRet (eBin eqStr (eBlt reprB2 (aCons (eMetI "Browser" "undo" rn_Browser_undo (eVar 1) aNil) aNil)) (eBlt reprB2 (aCons (eVar 5) aNil)))))) sNil) (sSeq (sExpr (eApp (eDGet (eVar 2) (eCon (.str "past"))) (aCons (eTup (aCons (eDGet (eVar 2) (eCon (.str "kept"))) (aCons (eDGet (eVar 2) (eCon (.str "row"))) aNil))) aNil))) (sSeq (sIf (tVal (eBin eqD (eVar 3) (eCon (.int 1)))) (sSeq (sDPut2 (eVar 2) (eCon (.str "kept")) (eVar 2) (eCon (.str "row")) (eTup (aCons (eLst (aLim aNil)) (aCons (eTup aNil) aNil)))) (sRet (eBin isD (eMetI "Browser" "clear" rn_Browser_clear (eVar 1) aNil) (eCon .non)))) sNil) (sSeq (sSet 4 (eCall rn__law_draw (aCons (eVar 0) (aCons (eBlt lenA (aCons (eDGet (eVar 2) (eCon (.str "site"))) aNil)) aNil)))) (sSeq (sSet 5 (eCall rn__law_sent (aCons (eDGet (eVar 2) (eCon (.str "kept"))) (aCons (eBin ixD (eBin ix2 (eDGet (eVar 2) (eCon (.str "site"))) (eVar 4)) (eCon (.int 0))) aNil)))) (sSeq (sDPut2 (eVar 2) (eCon (.str "kept")) (eVar 2) (eCon (.str "row")) (eTup (aCons (eCall rn__law_visited (aCons (eDGet (eVar 2) (eCon (.str "kept"))) (aCons (eBin ix2 (eDGet (eVar 2) (eCon (.str "site"))) (eVar 4)) aNil))) (aCons (eBin addD (eDGet (eVar 2) (eCon (.str "row"))) (eTup (aCons (eVar 4) aNil))) aNil)))) (sRet (eBin eqD (eMetI "Browser" "visit" rn_Browser_visit (eVar 1) (aCons (eVar 4) aNil)) (eVar 5))))))))))
def rn__law_turned : List W → Sto → R W := fun ws st => noX (runS 6 dn__law_turned ws st)
theorem ok__law_turned {P : Program} {w : World} {K : PySem.W.Frag} {mg : Str → Option Value} {base : Heap} {ct : Nat → Value} {f : Addr} {fd : FuncData} (F : Fun K "_law_turned" "_law_turned" s__law_turned f fd) (C__law_draw : Cal P w K mg base ct "_law_draw" 2 2 rn__law_draw) (M_Browser_undo : MetI P w K mg base CX0 ct "Browser" "undo" 1 1 rn_Browser_undo) (z_repr : mg "repr" = none) (M_Browser_clear : MetI P w K mg base CX0 ct "Browser" "clear" 1 2 rn_Browser_clear) (z_len : mg "len" = none) (C__law_sent : Cal P w K mg base ct "_law_sent" 2 3 rn__law_sent) (C__law_visited : Cal P w K mg base ct "_law_visited" 2 2 rn__law_visited) (M_Browser_visit : MetI P w K mg base CX0 ct "Browser" "visit" 2 5 rn_Browser_visit) :
    FnG P w K mg base CX0 6 f fd ["state", "browser", "m"] (spG ⟨K, w, mg⟩ ct 3 rn__law_turned) := by
  refine fn_den0 F sc__law_turned (fun cdv A outer s H E gd hr => ?_)
  exact (dss_cons (ds_set (i := 3) sc__law_turned.nd (de_calC C__law_draw gd (Room.mono hr (by decide)) (by rfl) (aCons_len (aCons_len aNil_len)) (da_cons (de_var 0) (da_cons de_int da_nil)))) (dss_cons (ds_if (dt_cmp (op_eqDD (hu64 hr)) (de_var 3) de_int) (dss_cons (ds_set (i := 5) sc__law_turned.nd (de_cmp (op_neDD (hu64 hr)) (de_dget (hu_of hr) (de_var 2) de_str) (de_val (df_lst da_nil)))) (dss_cons (ds_if (dt_val (de_var 5)) (dss_one (ds_dput2 rfl (hu_of hr) (de_var 2) de_str (de_var 2) de_str (de_pop0 (de_dget (hu_of hr) (de_var 2) de_str)))) dss_nil) (dss_one (ds_ret (de_cmp op_eqStr (de_callB (cb_repr2 gd (hu65 hr)) (by rfl) z_repr bt_repr (da_cons (de_metI0 M_Browser_undo gd (Room.mono hr (by decide)) pass00 (de_var 1)) da_nil)) (de_callB (cb_repr2 gd (hu65 hr)) (by rfl) z_repr bt_repr (da_cons (de_var 5) da_nil))))))) dss_nil) (dss_cons (ds_expr (de_app (de_dget (hu_of hr) (de_var 2) de_str) (da_cons (de_tup (da_cons (de_dget (hu_of hr) (de_var 2) de_str) (da_cons (de_dget (hu_of hr) (de_var 2) de_str) da_nil))) da_nil))) (dss_cons (ds_if (dt_cmp (op_eqDD (hu64 hr)) (de_var 3) de_int) (dss_cons (ds_dput2 rfl (hu_of hr) (de_var 2) de_str (de_var 2) de_str (de_tup (da_cons (de_val (df_lst da_nil)) (da_cons (de_tup da_nil) da_nil)))) (dss_one (ds_ret (de_cmp op_isDD (de_metI0 M_Browser_clear gd (Room.mono hr (by decide)) pass00 (de_var 1)) de_non)))) dss_nil) (dss_cons (ds_set (i := 4) sc__law_turned.nd (de_calC C__law_draw gd (Room.mono hr (by decide)) (by rfl) (aCons_len (aCons_len aNil_len)) (da_cons (de_var 0) (da_cons (de_callB cb_lenA (by rfl) z_len bt_len (da_cons (de_dget (hu_of hr) (de_var 2) de_str) da_nil)) da_nil)))) (dss_cons (ds_set (i := 5) sc__law_turned.nd (de_calC C__law_sent gd (Room.mono hr (by decide)) (by rfl) (aCons_len (aCons_len aNil_len)) (da_cons (de_dget (hu_of hr) (de_var 2) de_str) (da_cons (de_ix (de_ix2 (hu65 hr) (de_dget (hu_of hr) (de_var 2) de_str) (de_var 4)) de_int) da_nil)))) (dss_cons (ds_dput2 rfl (hu_of hr) (de_var 2) de_str (de_var 2) de_str (de_tup (da_cons (de_calC C__law_visited gd (Room.mono hr (by decide)) (by rfl) (aCons_len (aCons_len aNil_len)) (da_cons (de_dget (hu_of hr) (de_var 2) de_str) (da_cons (de_ix2 (hu65 hr) (de_dget (hu_of hr) (de_var 2) de_str) (de_var 4)) da_nil))) (da_cons (de_bin op_addD (de_dget (hu_of hr) (de_var 2) de_str) (de_tup (da_cons (de_var 4) da_nil))) da_nil)))) (dss_one (ds_ret (de_cmp (op_eqDD (hu64 hr)) (de_metI M_Browser_visit gd (Room.mono hr (by decide)) pass00 (fun env st ws st' e => congrArg (· + 1) ((aCons_len aNil_len) env st ws st' e)) (de_var 1) (da_cons (de_var 4) da_nil)) (de_var 5)))))))))))
theorem sc_Browser_jar : FnScope ["self"] ["self"] (defScope s_Browser_jar) := ⟨rfl, rfl, rfl, by decide +kernel, rfl, by decide +kernel, by decide +kernel⟩
def dn_Browser_jar : SD := (sRet (eBin ixD (eFldI "Browser" "state" (eVar 0)) (eCon (.int 0))))
def rn_Browser_jar : List W → Sto → R W := fun ws st => noX (runS 1 dn_Browser_jar ws st)
theorem ok_Browser_jar {P : Program} {w : World} {K : PySem.W.Frag} {mg : Str → Option Value} {base : Heap} {ct : Nat → Value} {f : Addr} {fd : FuncData} (F : Fun K "jar" "Browser.jar" s_Browser_jar f fd) (I_Browser : ClsI K mg "Browser" ["own_site", "state", "past"]) :
    FnG P w K mg base CX0 1 f fd ["self"] (spG ⟨K, w, mg⟩ ct 1 rn_Browser_jar) := by
  refine fn_den0 F sc_Browser_jar (fun cdv A outer s H E gd hr => ?_)
  exact (dss_one (ds_ret (de_ix (de_fldI I_Browser (by decide) (de_var 0)) de_int)))
theorem sc_Browser_row : FnScope ["self"] ["self"] (defScope s_Browser_row) := ⟨rfl, rfl, rfl, by decide +kernel, rfl, by decide +kernel, by decide +kernel⟩
def dn_Browser_row : SD := (sRet (eBin ixD (eFldI "Browser" "state" (eVar 0)) (eCon (.int 1))))
def rn_Browser_row : List W → Sto → R W := fun ws st => noX (runS 1 dn_Browser_row ws st)
theorem ok_Browser_row {P : Program} {w : World} {K : PySem.W.Frag} {mg : Str → Option Value} {base : Heap} {ct : Nat → Value} {f : Addr} {fd : FuncData} (F : Fun K "row" "Browser.row" s_Browser_row f fd) (I_Browser : ClsI K mg "Browser" ["own_site", "state", "past"]) :
    FnG P w K mg base CX0 1 f fd ["self"] (spG ⟨K, w, mg⟩ ct 1 rn_Browser_row) := by
  refine fn_den0 F sc_Browser_row (fun cdv A outer s H E gd hr => ?_)
  exact (dss_one (ds_ret (de_ix (de_fldI I_Browser (by decide) (de_var 0)) de_int)))
theorem sc_Browser___len__ : FnScope ["self"] ["self"] (defScope s_Browser___len__) := ⟨rfl, rfl, rfl, by decide +kernel, rfl, by decide +kernel, by decide +kernel⟩
def dn_Browser___len__ : SD := (sRet (eBlt lenA (aCons (eBin ixD (eFldI "Browser" "state" (eVar 0)) (eCon (.int 0))) aNil)))
def rn_Browser___len__ : List W → Sto → R W := fun ws st => noX (runS 1 dn_Browser___len__ ws st)
theorem ok_Browser___len__ {P : Program} {w : World} {K : PySem.W.Frag} {mg : Str → Option Value} {base : Heap} {ct : Nat → Value} {f : Addr} {fd : FuncData} (F : Fun K "__len__" "Browser.__len__" s_Browser___len__ f fd) (I_Browser : ClsI K mg "Browser" ["own_site", "state", "past"]) (z_len : mg "len" = none) :
    FnG P w K mg base CX0 1 f fd ["self"] (spG ⟨K, w, mg⟩ ct 1 rn_Browser___len__) := by
  refine fn_den0 F sc_Browser___len__ (fun cdv A outer s H E gd hr => ?_)
  exact (dss_one (ds_ret (de_callB cb_lenA (by rfl) z_len bt_len (da_cons (de_ix (de_fldI I_Browser (by decide) (de_var 0)) de_int) da_nil))))
theorem sc_Browser_site : FnScope ["self"] ["self"] (defScope s_Browser_site) := ⟨rfl, rfl, rfl, by decide +kernel, rfl, by decide +kernel, by decide +kernel⟩
def dn_Browser_site : SD := (sRet (eFldI "Browser" "own_site" (eVar 0)))
def rn_Browser_site : List W → Sto → R W := fun ws st => noX (runS 1 dn_Browser_site ws st)
theorem ok_Browser_site {P : Program} {w : World} {K : PySem.W.Frag} {mg : Str → Option Value} {base : Heap} {ct : Nat → Value} {f : Addr} {fd : FuncData} (F : Fun K "site" "Browser.site" s_Browser_site f fd) (I_Browser : ClsI K mg "Browser" ["own_site", "state", "past"]) :
    FnG P w K mg base CX0 1 f fd ["self"] (spG ⟨K, w, mg⟩ ct 1 rn_Browser_site) := by
  refine fn_den0 F sc_Browser_site (fun cdv A outer s H E gd hr => ?_)
  exact (dss_one (ds_ret (de_fldI I_Browser (by decide) (de_var 0))))
theorem sc_Browser___contains__ : FnScope ["self", "key", "kept"] ["self", "key"] (defScope s_Browser___contains__) := ⟨rfl, rfl, rfl, by decide +kernel, rfl, by decide +kernel, by decide +kernel⟩
def dn_Browser___contains__ : SD := (sRet (eAnd (eCall rn_is_key (aCons (eVar 1) aNil)) (eBin in3 (eVar 1) (eLst (lLc [2] (itK (eBin ixD (eFldI "Browser" "state" (eVar 0)) (eCon (.int 0)))) (gNm 2) bYes (eBin ixD (eVar 2) (eCon (.int 0))))))))
def rn_Browser___contains__ : List W → Sto → R W := fun ws st => noX (runS 3 dn_Browser___contains__ ws st)
theorem ok_Browser___contains__ {P : Program} {w : World} {K : PySem.W.Frag} {mg : Str → Option Value} {base : Heap} {ct : Nat → Value} {f : Addr} {fd : FuncData} (F : Fun K "__contains__" "Browser.__contains__" s_Browser___contains__ f fd) (I_Browser : ClsI K mg "Browser" ["own_site", "state", "past"]) (C_is_key : Cal P w K mg base ct "is_key" 1 4 rn_is_key) :
    FnG P w K mg base CX0 5 f fd ["self", "key"] (spG ⟨K, w, mg⟩ ct 2 rn_Browser___contains__) := by
  refine fn_den0 F sc_Browser___contains__ (fun cdv A outer s H E gd hr => ?_)
  exact (dss_one (ds_ret (de_and (de_calC C_is_key gd (Room.mono hr (by decide)) (by rfl) (aCons_len aNil_len) (da_cons (de_var 1) da_nil)) (de_one (de_cmp (op_in3 (hu65 hr)) (de_var 1) (de_val (df_lc (own := [("kept", 2)]) rfl sc_Browser___contains__.nd (di_k (de_ix (de_fldI I_Browser (by decide) (de_var 0)) de_int)) (blkOk_by (own := [("kept", 2)]) (N := ["self", "key", "kept"]) (sc := defScope s_Browser___contains__) (by decide +kernel)) (fun _ _ _ _ _ => (dg_name (i := 2) sc_Browser___contains__.nd)) (fun _ _ _ _ _ => dts_nil) (fun _ _ _ _ _ => (de_ix (de_var 2) de_int)))))))))
theorem sc__law_shown : FnScope ["browser", "m", "known", "lost", "label", "worth"] ["browser", "m"] (defScope s__law_shown) := ⟨rfl, rfl, rfl, by decide +kernel, rfl, by decide +kernel, by decide +kernel⟩
def dn__law_shown : SD := (sSeq (sSet 2 (eLst (lLc [4, 5] (itK (eDGet (eVar 1) (eCon (.str "kept")))) (gTp 2 (gsCons (gNm 4) (gsCons (gNm 5) gsNil))) bYes (eVar 4)))) (sSeq (sIf (bOr (tVal (eBin neD (ePrpI "Browser" rn_Browser_jar (eVar 0)) (eCall rn__law_jar (aCons (eDGet (eVar 1) (eCon (.str "kept"))) aNil)))) (bOr (tVal (eBin neD (ePrpI "Browser" rn_Browser_row (eVar 0)) (eDGet (eVar 1) (eCon (.str "row"))))) (tVal (eBin neD (eLenI "Browser" rn_Browser___len__ (eVar 0)) (eBlt lenA (aCons (eVar 2) aNil)))))) (sRet (eCon (.bl false))) sNil) (sSeq (sSet 3 (eLst (lLc [4] (itK (eCall rn__law_keys (aCons (eDGet (eVar 1) (eCon (.str "site"))) aNil))) (gNm 4) (tVal (eBin neD (eInI "Browser" rn_Browser___contains__ (eVar 4) (eVar 0)) (eBin in3 (eVar 4) (eVar 2)))) (eVar 4)))) (sRet (eAnd (eBin eqD0 (eVar 3) (eLst (aLim aNil))) (eBin eqD (ePrpI "Browser" rn_Browser_site (eVar 0)) (eDGet (eVar 1) (eCon (.str "site")))))))))
def rn__law_shown : List W → Sto → R W := fun ws st => noX (runS 6 dn__law_shown ws st)
theorem ok__law_shown {P : Program} {w : World} {K : PySem.W.Frag} {mg : Str → Option Value} {base : Heap} {ct : Nat → Value} {f : Addr} {fd : FuncData} (F : Fun K "_law_shown" "_law_shown" s__law_shown f fd) (M_Browser___len__ : MetI P w K mg base CX0 ct "Browser" "__len__" 1 1 rn_Browser___len__) (z_len : mg "len" = none) (P_Browser_row : PrpI P w K mg base ct "Browser" "row" 1 rn_Browser_row) (P_Browser_jar : PrpI P w K mg base ct "Browser" "jar" 1 rn_Browser_jar) (C__law_jar : Cal P w K mg base ct "_law_jar" 1 3 rn__law_jar) (C__law_keys : Cal P w K mg base ct "_law_keys" 1 2 rn__law_keys) (M_Browser___contains__ : MetI P w K mg base CX0 ct "Browser" "__contains__" 2 5 rn_Browser___contains__) (P_Browser_site : PrpI P w K mg base ct "Browser" "site" 1 rn_Browser_site) :
    FnG P w K mg base CX0 6 f fd ["browser", "m"] (spG ⟨K, w, mg⟩ ct 2 rn__law_shown) := by
  refine fn_den0 F sc__law_shown (fun cdv A outer s H E gd hr => ?_)
  exact (dss_cons (ds_set (i := 2) sc__law_shown.nd (de_val (df_lc (own := [("label", 4), ("worth", 5)]) rfl sc__law_shown.nd (di_k (de_dget (hu_of hr) (de_var 1) de_str)) (blkOk_by (own := [("label", 4), ("worth", 5)]) (N := ["browser", "m", "known", "lost", "label", "worth"]) (sc := defScope s__law_shown) (by decide +kernel)) (fun _ _ _ _ _ => (dg_tup (n := 2) rfl (dgs_cons (dg_name (i := 4) sc__law_shown.nd) (dgs_cons (dg_name (i := 5) sc__law_shown.nd) dgs_nil)))) (fun _ _ _ _ _ => dts_nil) (fun _ _ _ _ _ => (de_var 4))))) (dss_cons (ds_if (PW.pt (dw_or (dt_cmp (op_neDD (hu64 hr)) (de_prpI P_Browser_jar gd (Room.mono hr (by decide)) (de_var 0)) (de_calC C__law_jar gd (Room.mono hr (by decide)) (by rfl) (aCons_len aNil_len) (da_cons (de_dget (hu_of hr) (de_var 1) de_str) da_nil))) (dw_or (dt_cmp (op_neDD (hu64 hr)) (de_prpI P_Browser_row gd (Room.mono hr (by decide)) (de_var 0)) (de_dget (hu_of hr) (de_var 1) de_str)) (dw_or1 (dt_cmp (op_neDD (hu64 hr)) (de_lenI M_Browser___len__ gd (Room.mono hr (by decide)) (by rfl) z_len (de_var 0)) (de_callB cb_lenA (by rfl) z_len bt_len (da_cons (de_var 2) da_nil))))))) (dss_one (ds_ret de_bl)) dss_nil) (dss_cons (ds_setLc (i := 3) (own := [("label", 4)]) rfl sc__law_shown.nd rfl rfl (sw_true rfl rfl rfl (by decide +kernel)) (di_k (de_calC C__law_keys gd (Room.mono hr (by decide)) (by rfl) (aCons_len aNil_len) (da_cons (de_dget (hu_of hr) (de_var 1) de_str) da_nil))) (blkOk_by (own := [("label", 4)]) (N := ["browser", "m", "known", "lost", "label", "worth"]) (sc := defScope s__law_shown) (by decide +kernel)) (fun _ _ _ _ _ => (dg_name (i := 4) sc__law_shown.nd)) (fun _ _ _ _ _ => (dts_one (dt_cmp (op_neDD (hu64 hr)) (de_inI M_Browser___contains__ gd (Room.mono hr (by decide)) (de_var 4) (de_var 0)) (de_cmp (op_in3 (hu65 hr)) (de_var 4) (de_var 2))))) (fun _ _ _ _ _ => (de_var 4))) (dss_one (ds_ret (de_and (de_cmp (op_eqD0 (hu64 hr)) (de_var 3) (de_val (df_lst da_nil))) (de_one (de_cmp (op_eqDD (hu64 hr)) (de_prpI P_Browser_site gd (Room.mono hr (by decide)) (de_var 0)) (de_dget (hu_of hr) (de_var 1) de_str)))))))))
theorem sc_Browser___init__ : FnScope ["self", "site"] ["self", "site"] (defScope s_Browser___init__) := ⟨rfl, rfl, rfl, by decide +kernel, rfl, by decide +kernel, by decide +kernel⟩
def dn_Browser___init__ : SD := (sSeq (sFldI "Browser" "own_site" (eVar 0) (eCall rn_need_site (aCons (eVar 1) aNil))) (sSeq (sFldI "Browser" "state" (eVar 0) (eTup (aCons (eTup aNil) (aCons (eTup aNil) aNil)))) (sFldI "Browser" "past" (eVar 0) (eTup aNil))))
def rn_Browser___init__ : List W → Sto → R W := fun ws st => noX (runS 2 dn_Browser___init__ ws st)
theorem ok_Browser___init__ {P : Program} {w : World} {K : PySem.W.Frag} {mg : Str → Option Value} {base : Heap} {ct : Nat → Value} {f : Addr} {fd : FuncData} (F : Fun K "__init__" "Browser.__init__" s_Browser___init__ f fd) (I_Browser : ClsI K mg "Browser" ["own_site", "state", "past"]) (C_need_site : Cal P w K mg base ct "need_site" 1 5 rn_need_site) :
    FnG P w K mg base CX0 6 f fd ["self", "site"] (spG ⟨K, w, mg⟩ ct 2 rn_Browser___init__) := by
  refine fn_den0 F sc_Browser___init__ (fun cdv A outer s H E gd hr => ?_)
  exact (dss_cons (ds_fldI I_Browser (by decide) (de_var 0) (de_calC C_need_site gd (Room.mono hr (by decide)) (by rfl) (aCons_len aNil_len) (da_cons (de_var 1) da_nil))) (dss_cons (ds_fldI I_Browser (by decide) (de_var 0) (de_tup (da_cons (de_tup da_nil) (da_cons (de_tup da_nil) da_nil)))) (dss_one (ds_fldI I_Browser (by decide) (de_var 0) (de_tup da_nil)))))
theorem sc__law_new : FnScope ["state", "most", "site"] ["state", "most"] (defScope s__law_new) := ⟨rfl, rfl, rfl, by decide +kernel, rfl, by decide +kernel, by decide +kernel⟩
def dn__law_new : SD := (sSeq (sSet 2 (eCall rn__law_site (aCons (eVar 0) (aCons (eVar 1) aNil)))) (sRet (eTupW (aCons (eMakI "Browser" rn_Browser___init__ (aCons (eVar 2) aNil)) (aCons (eDct (kOf [("site", (eVar 2)), ("kept", (eLst (aLim aNil))), ("row", (eTup aNil)), ("past", (eNew (aLim aNil)))])) aNil)))))
def rn__law_new : List W → Sto → R W := fun ws st => noX (runS 3 dn__law_new ws st)
theorem ok__law_new {P : Program} {w : World} {K : PySem.W.Frag} {mg : Str → Option Value} {base : Heap} {ct : Nat → Value} {f : Addr} {fd : FuncData} (F : Fun K "_law_new" "_law_new" s__law_new f fd) (C__law_site : Cal P w K mg base ct "_law_site" 2 6 rn__law_site) (K_Browser : MakI P w K mg base CX0 ct "Browser" 2 6 rn_Browser___init__) :
    FnG P w K mg base CX0 8 f fd ["state", "most"] (spG ⟨K, w, mg⟩ ct 2 rn__law_new) := by
  refine fn_den0 F sc__law_new (fun cdv A outer s H E gd hr => ?_)
  exact (dss_cons (ds_set (i := 2) sc__law_new.nd (de_calC C__law_site gd (Room.mono hr (by decide)) (by rfl) (aCons_len (aCons_len aNil_len)) (da_cons (de_var 0) (da_cons (de_var 1) da_nil)))) (dss_one (ds_ret (de_tupW (da_cons (de_makI K_Browser gd (Room.mono hr (by decide)) (fun _ _ _ _ _ _ _ _ h => h.elim) (by rfl) (fun env st ws st' e => congrArg (· + 1) ((aCons_len aNil_len) env st ws st' e)) (da_cons (de_var 2) da_nil)) (da_cons (de_dct (fs := [("site", (eVar 2)), ("kept", (eLst (aLim aNil))), ("row", (eTup aNil)), ("past", (eNew (aLim aNil)))]) (pps_ind (de_var 2) (pps_ind (de_val (df_lst da_nil)) (pps_ind (de_tup da_nil) (pps_ind (de_new (df_lst da_nil)) pps_nil))))) da_nil))))))
theorem sc_Browser_sent : FnScope ["self", "address"] ["self", "address"] (defScope s_Browser_sent) := ⟨rfl, rfl, rfl, by decide +kernel, rfl, by decide +kernel, by decide +kernel⟩
def dn_Browser_sent : SD := (sRet (eCall rn_sent_in (aCons (eBin ixD (eFldI "Browser" "state" (eVar 0)) (eCon (.int 0))) (aCons (eCall rn_need_address (aCons (eVar 1) aNil)) aNil))))
def rn_Browser_sent : List W → Sto → R W := fun ws st => noX (runS 2 dn_Browser_sent ws st)
theorem ok_Browser_sent {P : Program} {w : World} {K : PySem.W.Frag} {mg : Str → Option Value} {base : Heap} {ct : Nat → Value} {f : Addr} {fd : FuncData} (F : Fun K "sent" "Browser.sent" s_Browser_sent f fd) (C_need_address : Cal P w K mg base ct "need_address" 1 5 rn_need_address) (I_Browser : ClsI K mg "Browser" ["own_site", "state", "past"]) (C_sent_in : Cal P w K mg base ct "sent_in" 2 3 rn_sent_in) :
    FnG P w K mg base CX0 6 f fd ["self", "address"] (spG ⟨K, w, mg⟩ ct 2 rn_Browser_sent) := by
  refine fn_den0 F sc_Browser_sent (fun cdv A outer s H E gd hr => ?_)
  exact (dss_one (ds_ret (de_calC C_sent_in gd (Room.mono hr (by decide)) (by rfl) (aCons_len (aCons_len aNil_len)) (da_cons (de_ix (de_fldI I_Browser (by decide) (de_var 0)) de_int) (da_cons (de_calC C_need_address gd (Room.mono hr (by decide)) (by rfl) (aCons_len aNil_len) (da_cons (de_var 1) da_nil)) da_nil)))))
theorem sc_Browser_read : FnScope ["self", "address", "name"] ["self", "address", "name"] (defScope s_Browser_read) := ⟨rfl, rfl, rfl, by decide +kernel, rfl, by decide +kernel, by decide +kernel⟩
def dn_Browser_read : SD := (sSeq (sExpr (eCall rn_need_address (aCons (eVar 1) aNil))) (sRet (eCall rn_read_in (aCons (eBin ixD (eFldI "Browser" "state" (eVar 0)) (eCon (.int 0))) (aCons (eVar 1) (aCons (eCall rn_need_name (aCons (eVar 2) aNil)) aNil))))))
def rn_Browser_read : List W → Sto → R W := fun ws st => noX (runS 3 dn_Browser_read ws st)
theorem ok_Browser_read {P : Program} {w : World} {K : PySem.W.Frag} {mg : Str → Option Value} {base : Heap} {ct : Nat → Value} {f : Addr} {fd : FuncData} (F : Fun K "read" "Browser.read" s_Browser_read f fd) (C_need_address : Cal P w K mg base ct "need_address" 1 5 rn_need_address) (C_need_name : Cal P w K mg base ct "need_name" 1 3 rn_need_name) (I_Browser : ClsI K mg "Browser" ["own_site", "state", "past"]) (C_read_in : Cal P w K mg base ct "read_in" 3 4 rn_read_in) :
    FnG P w K mg base CX0 6 f fd ["self", "address", "name"] (spG ⟨K, w, mg⟩ ct 3 rn_Browser_read) := by
  refine fn_den0 F sc_Browser_read (fun cdv A outer s H E gd hr => ?_)
  exact (dss_cons (ds_expr (de_calC C_need_address gd (Room.mono hr (by decide)) (by rfl) (aCons_len aNil_len) (da_cons (de_var 1) da_nil))) (dss_one (ds_ret (de_calC C_read_in gd (Room.mono hr (by decide)) (by rfl) (aCons_len (aCons_len (aCons_len aNil_len))) (da_cons (de_ix (de_fldI I_Browser (by decide) (de_var 0)) de_int) (da_cons (de_var 1) (da_cons (de_calC C_need_name gd (Room.mono hr (by decide)) (by rfl) (aCons_len aNil_len) (da_cons (de_var 2) da_nil)) da_nil)))))))
theorem sc__law_asked_right : FnScope ["state", "browser", "m", "address", "due", "name", "some", "own", "value"] ["state", "browser", "m"] (defScope s__law_asked_right) := ⟨rfl, rfl, rfl, by decide +kernel, rfl, by decide +kernel, by decide +kernel⟩
def dn__law_asked_right : SD := (sSeq (sSet 3 (eCall rn__law_address (aCons (eVar 0) aNil))) (sSeq (sSet 4 (eCall rn__law_sent (aCons (eDGet (eVar 2) (eCon (.str "kept"))) (aCons (eVar 3) aNil)))) (sSeq (sIf (tVal (eBin neD (eMetI "Browser" "sent" rn_Browser_sent (eVar 1) (aCons (eVar 3) aNil)) (eVar 4))) (sRet (eCon (.bl false))) sNil) (sSeq (sFor (itK (eTup (aCons (eCon (.str "id")) (aCons (eCon (.str "k")) (aCons (eCon (.str "other")) aNil))))) (gNm 5) (sSeq (sSet 6 (eLst (lLc [7, 8] (itK (eVar 4)) (gTp 2 (gsCons (gNm 7) (gsCons (gNm 8) gsNil))) (tVal (eBin eqD (eVar 7) (eVar 5))) (eVar 8)))) (sIf (tVal (eRNe (eMetI "Browser" "read" rn_Browser_read (eVar 1) (aCons (eVar 3) (aCons (eVar 5) aNil))) (eIf (tVal (eBin neD (eVar 6) (eLst (aLim aNil)))) (eBin ixD (eVar 6) (eCon (.int 0))) (eCon .non)))) (sRet (eCon (.bl false))) sNil))) (sRet (eCon (.bl true)))))))
def rn__law_asked_right : List W → Sto → R W := fun ws st => noX (runS 9 dn__law_asked_right ws st)
theorem ok__law_asked_right {P : Program} {w : World} {K : PySem.W.Frag} {mg : Str → Option Value} {base : Heap} {ct : Nat → Value} {f : Addr} {fd : FuncData} (F : Fun K "_law_asked_right" "_law_asked_right" s__law_asked_right f fd) (C__law_address : Cal P w K mg base ct "_law_address" 1 4 rn__law_address) (C__law_sent : Cal P w K mg base ct "_law_sent" 2 3 rn__law_sent) (M_Browser_sent : MetI P w K mg base CX0 ct "Browser" "sent" 2 6 rn_Browser_sent) (M_Browser_read : MetI P w K mg base CX0 ct "Browser" "read" 3 6 rn_Browser_read) (z_repr : mg "repr" = none) :
    FnG P w K mg base CX0 7 f fd ["state", "browser", "m"] (spG ⟨K, w, mg⟩ ct 3 rn__law_asked_right) := by
  refine fn_den0 F sc__law_asked_right (fun cdv A outer s H E gd hr => ?_)
  exact (dss_cons (ds_set (i := 3) sc__law_asked_right.nd (de_calC C__law_address gd (Room.mono hr (by decide)) (by rfl) (aCons_len aNil_len) (da_cons (de_var 0) da_nil))) (dss_cons (ds_set (i := 4) sc__law_asked_right.nd (de_calC C__law_sent gd (Room.mono hr (by decide)) (by rfl) (aCons_len (aCons_len aNil_len)) (da_cons (de_dget (hu_of hr) (de_var 2) de_str) (da_cons (de_var 3) da_nil)))) (dss_cons (ds_if (dt_cmp (op_neDD (hu64 hr)) (de_metI M_Browser_sent gd (Room.mono hr (by decide)) pass00 (fun env st ws st' e => congrArg (· + 1) ((aCons_len aNil_len) env st ws st' e)) (de_var 1) (da_cons (de_var 3) da_nil)) (de_var 4)) (dss_one (ds_ret de_bl)) dss_nil) (dss_cons (ds_for PassesOwn.never rfl (di_k (de_tup (da_cons de_str (da_cons de_str (da_cons de_str da_nil))))) (dg_name (i := 5) sc__law_asked_right.nd) (dss_cons (ds_setLc (i := 6) (own := [("own", 7), ("value", 8)]) rfl sc__law_asked_right.nd rfl rfl (sw_true rfl rfl rfl (by decide +kernel)) (di_k (de_var 4)) (blkOk_by (own := [("own", 7), ("value", 8)]) (N := ["state", "browser", "m", "address", "due", "name", "some", "own", "value"]) (sc := defScope s__law_asked_right) (by decide +kernel)) (fun _ _ _ _ _ => (dg_tup (n := 2) rfl (dgs_cons (dg_name (i := 7) sc__law_asked_right.nd) (dgs_cons (dg_name (i := 8) sc__law_asked_right.nd) dgs_nil)))) (fun _ _ _ _ _ => (dts_one (dt_cmp (op_eqDD (hu64 hr)) (de_var 7) (de_var 5)))) (fun _ _ _ _ _ => (de_var 8))) (dss_one (ds_if (dt_rne gd (hu65 hr) (by rfl) z_repr (de_metI M_Browser_read gd (Room.mono hr (by decide)) pass00 (fun env st ws st' e => congrArg (· + 1) ((aCons_len (aCons_len aNil_len)) env st ws st' e)) (de_var 1) (da_cons (de_var 3) (da_cons (de_var 5) da_nil))) (de_if (dt_cmp (op_neDD (hu64 hr)) (de_var 6) (de_val (df_lst da_nil))) (de_ix (de_var 6) de_int) de_non)) (dss_one (ds_ret de_bl)) dss_nil)))) (dss_one (ds_ret de_bl))))))
theorem sc_law : FnScope ["script", "state", "turn", "k", "browser", "m"] ["script"] (defScope s_law) := ⟨rfl, rfl, rfl, by decide +kernel, rfl, by decide +kernel, by decide +kernel⟩
def dn_law : SD := (sSeq (sSet 1 (eCall rn__law_begin (aCons (eVar 0) aNil))) (sSeq (sFor (itRange (aCons (eBin addD (eCon (.int 2)) (eBlt minB (aCons (eCon (.int 3)) (aCons (eBlt lenA (aCons (eVar 0) aNil)) aNil)))) aNil)) (gNm 2) (sCut (sSeq (sUnp 4 5 (eCall rn__law_new (aCons (eVar 1) (aCons (eCon (.int 4)) aNil)))) (sSeq (sIf (bNot (tVal (eCall rn__law_shown (aCons (eVar 4) (aCons (eVar 5) aNil))))) (sRet (eCon (.bl false))) sNil) (sFor (itRange (aCons (eCon (.int 16)) aNil)) (gNm 3) (sSeq (sIf (bOr (bNot (tVal (eCall rn__law_turned (aCons (eVar 1) (aCons (eVar 4) (aCons (eVar 5) aNil)))))) (bNot (tVal (eCall rn__law_shown (aCons (eVar 4) (aCons (eVar 5) aNil)))))) (sRet (eCon (.bl false))) sNil) (sIf (bNot (tVal (eCall rn__law_asked_right (aCons (eVar 1) (aCons (eVar 4) (aCons (eVar 5) aNil)))))) (sRet (eCon (.bl false))) sNil))))))) (sRet (eCon (.bl true)))))
def rn_law : List W → Sto → R W := fun ws st => noX (runS 6 dn_law ws st)
theorem ok_law {P : Program} {w : World} {K : PySem.W.Frag} {mg : Str → Option Value} {base : Heap} {ct : Nat → Value} {f : Addr} {fd : FuncData} (F : Fun K "law" "law" s_law f fd) (C__law_begin : Cal P w K mg base ct "_law_begin" 1 1 rn__law_begin) (z_len : mg "len" = none) (z_min : mg "min" = none) (z_range : mg "range" = none) (C__law_new : Cal P w K mg base ct "_law_new" 2 8 rn__law_new) (C__law_shown : Cal P w K mg base ct "_law_shown" 2 6 rn__law_shown) (C__law_turned : Cal P w K mg base ct "_law_turned" 3 6 rn__law_turned) (C__law_asked_right : Cal P w K mg base ct "_law_asked_right" 3 7 rn__law_asked_right) :
    FnG P w K mg base CX0 9 f fd ["script"] (spG ⟨K, w, mg⟩ ct 1 rn_law) := by
  refine fn_den0 F sc_law (fun cdv A outer s H E gd hr => ?_)
  exact (dss_cons (ds_set (i := 1) sc_law.nd (de_calC C__law_begin gd (Room.mono hr (by decide)) (by rfl) (aCons_len aNil_len) (da_cons (de_var 0) da_nil))) (dss_cons (ds_for PassesOwn.never rfl (di_range1 (by rfl) z_range (de_bin op_addD de_int (de_callB (cb_min rfl) (by rfl) z_min bt_min (da_cons de_int (da_cons (de_callB cb_lenA (by rfl) z_len bt_len (da_cons (de_var 0) da_nil)) da_nil))))) (dg_name (i := 2) sc_law.nd) (dss_cut (dss_cons (ds_unp (i := 4) (j := 5) rfl sc_law.nd (de_calC C__law_new gd (Room.mono hr (by decide)) (by rfl) (aCons_len (aCons_len aNil_len)) (da_cons (de_var 1) (da_cons de_int da_nil)))) (dss_cons (ds_if (dt_not (dt_val (de_calC C__law_shown gd (Room.mono hr (by decide)) (by rfl) (aCons_len (aCons_len aNil_len)) (da_cons (de_var 4) (da_cons (de_var 5) da_nil))))) (dss_one (ds_ret de_bl)) dss_nil) (dss_one (ds_for PassesOwn.never rfl (di_range1 (by rfl) z_range de_int) (dg_name (i := 3) sc_law.nd) (dss_cons (ds_if (PW.pt (dw_or (dt_not (dt_val (de_calC C__law_turned gd (Room.mono hr (by decide)) (by rfl) (aCons_len (aCons_len (aCons_len aNil_len))) (da_cons (de_var 1) (da_cons (de_var 4) (da_cons (de_var 5) da_nil)))))) (dw_or1 (dt_not (dt_val (de_calC C__law_shown gd (Room.mono hr (by decide)) (by rfl) (aCons_len (aCons_len aNil_len)) (da_cons (de_var 4) (da_cons (de_var 5) da_nil)))))))) (dss_one (ds_ret de_bl)) dss_nil) (dss_one (ds_if (dt_not (dt_val (de_calC C__law_asked_right gd (Room.mono hr (by decide)) (by rfl) (aCons_len (aCons_len (aCons_len aNil_len))) (da_cons (de_var 1) (da_cons (de_var 4) (da_cons (de_var 5) da_nil)))))) (dss_one (ds_ret de_bl)) dss_nil))))))))) (dss_one (ds_ret de_bl))))
end K37
end
section
namespace K37
open PySem Jv
abbrev T (xs : List D) : D := .tup xs
abbrev tt (st : Sto) : R W := .ok (.v (.bl true)) st
theorem neS (st : Sto) (d : D) (h : SeqAt.shaped d.py = true) : neD st (.v d) (.v d) = some (.bl false) := by
  have e : PyData.eqv d.py d.py = true := SeqAt.eqv_refl d.py (SeqAt.canLay_of_shaped h)
  simp [neD, deref, h, e]
theorem eqS (st : Sto) (d : D) (h : SeqAt.shaped d.py = true) : eqD st (.v d) (.v d) = some (.bl true) := by
  have e : PyData.eqv d.py d.py = true := SeqAt.eqv_refl d.py (SeqAt.canLay_of_shaped h)
  simp [eqD, deref, h, e]
/-! what is drawn -/
theorem lg64 {i : Int} (h : i.natAbs < 18446744073709551616) : i.natAbs.log2 < 64 := by
  by_cases z : i.natAbs = 0
  · rw [z]; decide
  · exact (Nat.log2_lt z).mpr h
theorem mul_ok {i j : Int} (st : Sto) (h1 : i.natAbs < 18446744073709551616) (h2 : j.natAbs < 18446744073709551616) : mulD st (.v (.int i)) (.v (.int j)) = some (.int (i * j)) := by
  have a := lg64 h1
  have b := lg64 h2
  show mulT (.int i) (.int j) = _
  simp only [mulT]
  rw [if_pos (by omega)]
theorem mod_ok {i j : Int} (st : Sto) (h : 0 < j) : modD st (.v (.int i)) (.v (.int j)) = some (.int (i % j)) := by
  simp [onV, int2, h]
theorem fdiv_ok {i j : Int} (st : Sto) (h : 0 < j) (h2 : j < 1073741824) : fdivD st (.v (.int i)) (.v (.int j)) = some (.int (i / j)) := by
  simp [onV, int2, h, h2]
theorem add_ok {i j : Int} (st : Sto) : addD st (.v (.int i)) (.v (.int j)) = some (.int (i + j)) := rfl
theorem int_ok {i : Int} (st : Sto) : intB st [.v (.int i)] = some (.int i) := rfl
theorem gt_ok {i j : Int} (st : Sto) : gtD st (.v (.int i)) (.v (.int j)) = some (.bl (decide (j < i))) := rfl
theorem mixed_ok (c k : Int) (h0 : 0 ≤ k) (h1 : k ≤ 1000000) (st : Sto) : ∃ m : Int, 0 ≤ m ∧ m < 2147483629 ∧ rn__law_mixed [.v (.int c), .v (.int k)] st = .ok (.v (.int m)) st := by
  have c0 : 0 ≤ c % 2147483647 := Int.emod_nonneg _ (by decide)
  have c1 : c % 2147483647 < 2147483647 := Int.emod_lt_of_pos _ (by decide)
  have kk : 2 * k * k ≤ 2000000 * 1000000 := Int.mul_le_mul (by omega) h1 h0 (by decide)
  have kk0 : 0 ≤ 2 * k * k := Int.mul_nonneg (by omega) h0
  generalize e1 : c % 2147483647 = c' at *
  have m1 := mul_ok (i := 2) (j := k) st (by decide) (by omega)
  have m2 := mul_ok (i := 2 * k) (j := k) st (by omega) (by omega)
  have m3 := mul_ok (i := c') (j := 48271 + 2 * k * k) st (by omega) (by omega)
  have m4 := mul_ok (i := 69621) (j := k) st (by decide) (by omega)
  have d0 : 0 ≤ (c' * (48271 + 2 * k * k) + 69621 * k + 11) % 2147483647 := Int.emod_nonneg _ (by decide)
  have d1 : (c' * (48271 + 2 * k * k) + 69621 * k + 11) % 2147483647 < 2147483647 := Int.emod_lt_of_pos _ (by decide)
  have m5 := mul_ok (i := (c' * (48271 + 2 * k * k) + 69621 * k + 11) % 2147483647) (j := 69621) st (by omega) (by decide)
  have q1 := mod_ok (i := c) (j := 2147483647) st (by decide)
  have q2 := mod_ok (i := c' * (48271 + 2 * k * k) + 69621 * k + 11) (j := 2147483647) st (by decide)
  have q3 := mod_ok (i := (c' * (48271 + 2 * k * k) + 69621 * k + 11) % 2147483647 * 69621) (j := 2147483629) st (by decide)
  rw [e1] at q1
  refine ⟨(c' * (48271 + 2 * k * k) + 69621 * k + 11) % 2147483647 * 69621 % 2147483629, Int.emod_nonneg _ (by decide), Int.emod_lt_of_pos _ (by decide), ?_⟩
  simp [runS, Jv.envOf, fin, noX, sSeq, sAsg, sIf, sPar, sSet, sRet, sNil, sExpr, sNo, tVal, bOr, bNot, bAnd, bYes, eAnd, eOr, eNot, eIf, eBin, eCall, eTup, eCon, eVar, eBlt, eLst, eNeg, eChain, aCons, aNil, aLim, itK, itemsK, gTp, gNm, gsCons, gsNil, allV, ofOp, R.thenS, R.bind, List.replicate, rn__law_mixed, dn__law_mixed, int_ok, add_ok, m1, m2, m3, m4, m5, q1, q2, q3]
abbrev tbs : Sto := [.tab ("_law_sent", none) "_law_sent.<locals>.<lambda>", .tab ("_law_jar", none) "_law_jar.<locals>.<lambda>"]
def stA (rest : Sto) (ls cs : List Int) (at' : Int) : Sto := .tab ("_law_sent", none) "_law_sent.<locals>.<lambda>" :: .tab ("_law_jar", none) "_law_jar.<locals>.<lambda>" :: .lst (ls.map .int) :: .dct [("cells", .v (.lst (cs.map .int))), ("lefts", .r 2), ("at", .v (.int at')), ("room", .v (.int 0))] :: rest
theorem at_nat {α : Type} {xs : List α} {i : Int} (h0 : 0 ≤ i) (h1 : i < xs.length) : L2.ixN xs.length i = some i.toNat := by
  unfold L2.ixN
  rw [if_pos h0, if_pos h1]
theorem at_int {xs : List Int} {i : Int} (h0 : 0 ≤ i) (h1 : i < xs.length) : ∃ v : Int, xs[i.toNat]? = some v ∧ L2.atI (xs.map D.int) i = some (.int v) := by
  have hl : i.toNat < xs.length := by omega
  refine ⟨xs[i.toNat], List.getElem?_eq_getElem hl, ?_⟩
  unfold L2.atI
  rw [at_nat h0 (by simpa using h1)]
  simp [hl]
theorem draw_ok (rest : Sto) {ls cs : List Int} {a m : Int} (hn : cs.length = ls.length) (hp : 0 < ls.length) (h0 : 0 ≤ a) (h1 : a ≤ 900000) (hm : 0 < m) (hm2 : m < 1073741824) :
    ∃ r ls', 0 ≤ r ∧ r < m ∧ ls'.length = ls.length ∧ rn__law_draw [.r 3, .v (.int m)] (stA rest ls cs a) = .ok (.v (.int r)) (stA rest ls' cs (a + 1)) := by
  have i0 : 0 ≤ a % (ls.length : Int) := Int.emod_nonneg _ (by omega)
  have i1 : a % (ls.length : Int) < ls.length := Int.emod_lt_of_pos _ (by omega)
  have g1 : dGet (stA rest ls cs a) (.r 3) (.v (.str "at")) = .ok (.v (.int a)) (stA rest ls cs a) := by kernel_rfl
  have g2 : ∀ env, dPut (.r 3) (.v (.str "at")) (.v (.int (a + 1))) env (stA rest ls cs a) = .nx env (stA rest ls cs (a + 1)) := fun env => by kernel_rfl
  have g3 : dGet (stA rest ls cs (a + 1)) (.r 3) (.v (.str "cells")) = .ok (.v (.lst (cs.map .int))) (stA rest ls cs (a + 1)) := by kernel_rfl
  have g4 : dGet (stA rest ls cs (a + 1)) (.r 3) (.v (.str "lefts")) = .ok (.r 2) (stA rest ls cs (a + 1)) := by kernel_rfl
  have g5 : lenA (stA rest ls cs (a + 1)) [.v (.lst (cs.map .int))] = some (.int ls.length) := by simp [lenA, lenB, asLst, hn]
  have g6 := mod_ok (i := a) (j := (ls.length : Int)) (stA rest ls cs (a + 1)) (by omega)
  obtain ⟨lv, e1, e2⟩ := at_int i0 i1
  obtain ⟨cv, _, c2⟩ := at_int (xs := cs) i0 (by rw [hn]; exact i1)
  generalize hi : a % (ls.length : Int) = i at *
  have g7 : ixD (stA rest ls cs (a + 1)) (.r 2) (.v (.int i)) = some (.int lv) := by
    have : asLst (stA rest ls cs (a + 1)) (.r 2) = some (ls.map .int) := rfl
    simp [ixD, this, e2]
  have g7' : ix2 (stA rest ls cs (a + 1)) (.r 2) (.v (.int i)) = some (.int lv) := by simp [orO, g7]
  have g8 : ixD (stA rest ls cs (a + 1)) (.v (.lst (cs.map .int))) (.v (.int i)) = some (.int cv) := by
    simp [ixD, asLst, c2]
  have g8' : ix2 (stA rest ls cs (a + 1)) (.v (.lst (cs.map .int))) (.v (.int i)) = some (.int cv) := by simp [orO, g8]
  have g9 := gt_ok (i := lv) (j := 0) (stA rest ls cs (a + 1))
  have tk : ∀ ls', List.take (List.length (stA rest ls cs a)) (stA rest ls' cs (a + 1)) = stA rest ls' cs (a + 1) := fun _ => List.take_of_length_le (by simp [stA])
  by_cases hl : 0 < lv
  · have q1 := fdiv_ok (i := lv) (j := m) (stA rest ls cs (a + 1)) hm hm2
    have q2 : ∀ env, lPut (.r 2) (.v (.int i)) (.v (.int (lv / m))) env (stA rest ls cs (a + 1)) = .nx env (stA rest (ls.set i.toNat (lv / m)) cs (a + 1)) := fun env => by
      have hx : L2.ixN (ls.map D.int).length i = some i.toNat := at_nat i0 (by simpa using i1)
      simp only [lPut, stA, List.getElem?_cons_zero, List.getElem?_cons_succ, hx, List.set_cons_zero, List.set_cons_succ, List.map_set]
    have q3 := mod_ok (i := lv) (j := m) (stA rest (ls.set i.toNat (lv / m)) cs (a + 1)) hm
    refine ⟨lv % m, ls.set i.toNat (lv / m), Int.emod_nonneg _ (by omega), Int.emod_lt_of_pos _ hm, by simp, ?_⟩
    simp [runS, Jv.envOf, fin, noX, sSeq, sAsg, sIf, sPar, sSet, sRet, sNil, sExpr, sNo, tVal, bOr, bNot, bAnd, bYes, eAnd, eOr, eNot, eIf, eBin, eCall, eTup, eCon, eVar, eBlt, eLst, eNeg, eChain, aCons, aNil, aLim, itK, itemsK, gTp, gNm, gsCons, gsNil, allV, ofOp, R.thenS, R.bind, List.replicate, rn__law_draw, dn__law_draw, eDGet, sDPut, sLPut, g1, g2, g3, g4, g5, g6, g7', g8', g9, hl, int_ok, add_ok, q1, q2, q3, tk]
  · obtain ⟨n1, n10, n11, n1e⟩ := mixed_ok cv a h0 (by omega) (stA rest ls cs (a + 1))
    obtain ⟨n2, n20, n21, n2e⟩ := mixed_ok n1 (40 + a) (by omega) (by omega) (stA rest ls cs (a + 1))
    obtain ⟨n3, n30, n31, n3e⟩ := mixed_ok n2 (7 + a) (by omega) (by omega) (stA rest ls cs (a + 1))
    have q1 := mul_ok (i := n2) (j := 2147483647) (stA rest ls cs (a + 1)) (by omega) (by decide)
    have q2 := fdiv_ok (i := n2 * 2147483647 + n3) (j := 64) (stA rest ls cs (a + 1)) (by decide) (by decide)
    have q3 := mod_ok (i := (n2 * 2147483647 + n3) / 64) (j := m) (stA rest ls cs (a + 1)) hm
    refine ⟨(n2 * 2147483647 + n3) / 64 % m, ls, Int.emod_nonneg _ (by omega), Int.emod_lt_of_pos _ hm, rfl, ?_⟩
    simp [runS, Jv.envOf, fin, noX, sSeq, sAsg, sIf, sPar, sSet, sRet, sNil, sExpr, sNo, tVal, bOr, bNot, bAnd, bYes, eAnd, eOr, eNot, eIf, eBin, eCall, eTup, eCon, eVar, eBlt, eLst, eNeg, eChain, aCons, aNil, aLim, itK, itemsK, gTp, gNm, gsCons, gsNil, allV, ofOp, R.thenS, R.bind, List.replicate, rn__law_draw, dn__law_draw, eDGet, sDPut, sLPut, g1, g2, g3, g4, g5, g6, g7', g8', g9, hl, int_ok, add_ok, n1e, n2e, n3e, q1, q2, q3, tk]
theorem ints_lay : ∀ ns : List Int, PyData.canLayAll0 (D.pyL (ns.map D.int)) = true ∧ PyData.depthAll (D.pyL (ns.map D.int)) = 0
  | [] => ⟨rfl, rfl⟩
  | n :: r => by
    have h := ints_lay r
    simp [D.pyL, D.py, PyData.canLayAll0, PyData.depthAll, PyData.canLay0, PyData.depth, h.1, h.2]
theorem ints_shaped (ns : List Int) : SeqAt.shaped (D.lst (ns.map D.int)).py = true := by
  have h := ints_lay ns
  simp [SeqAt.shaped, D.py, PyData.canLay0, PyData.depth, h.1, h.2]
theorem lc_lefts {env : Jv.Env} {st : Sto} {g : GD} {e : ED} (he : ∀ c : Int, ∃ env1, g (.v (.int c)) env = some env1 ∧ ∃ l : Int, e env1 st = .ok (.v (.int l)) st) : ∀ (cs : List Int) (acc : List D), ∃ ls : List Int, ls.length = cs.length ∧ lcGo g bYes e env (cs.map D.int) st acc = .ok (acc ++ ls.map D.int) st
  | [], acc => ⟨[], rfl, by simp [lcGo]⟩
  | c :: r, acc => by
    obtain ⟨env1, e1, l, e2⟩ := he c
    obtain ⟨ls, h1, h2⟩ := lc_lefts he r (acc ++ [.int l])
    refine ⟨l :: ls, by simp [h1], ?_⟩
    simp only [List.map_cons, lcGo, e1, bYes, noX_ok, R.bind_ok, if_true, e2, h2]
    simp
theorem begin_ok (ns : List Int) (hl : ns.length ≤ 63) : ∃ ls cs : List Int, cs.length = ls.length ∧ 0 < ls.length ∧ rn__law_begin [.v (.lst (ns.map .int))] tbs = .ok (.r 3) (stA [] ls cs 0) := by
  have pw : ∀ st : Sto, powD st (.v (.int 10)) (.v (.int 18)) = some (.int 1000000000000000000) := fun st => by kernel_rfl
  have lf : ∀ (x : D) (cs : List Int), ∃ ls : List Int, ls.length = cs.length ∧ lcGo (gNm 2) bYes (eIf (tVal (eBin geD (eVar 2) (eBin powD (eCon (.int 10)) (eCon (.int 18))))) (eVar 2) (eCon (.int 0))) [some (.v x), some (.v (.lst (cs.map .int))), none] (cs.map D.int) tbs [] = .ok (ls.map D.int) tbs := by
    intro x cs
    obtain ⟨ls, h1, h2⟩ := lc_lefts (env := [some (.v x), some (.v (.lst (cs.map .int))), none]) (st := tbs) (g := gNm 2) (e := eIf (tVal (eBin geD (eVar 2) (eBin powD (eCon (.int 10)) (eCon (.int 18))))) (eVar 2) (eCon (.int 0))) (fun c => by
      refine ⟨_, rfl, if 1000000000000000000 ≤ c then c else 0, ?_⟩
      by_cases h : (1000000000000000000 : Int) ≤ c
      · simp [runS, Jv.envOf, fin, noX, sSeq, sAsg, sIf, sPar, sSet, sRet, sNil, sExpr, sNo, tVal, bOr, bNot, bAnd, bYes, eAnd, eOr, eNot, eIf, eBin, eCall, eTup, eCon, eVar, eBlt, eLst, eNeg, eChain, aCons, aNil, aLim, itK, itemsK, gTp, gNm, gsCons, gsNil, allV, ofOp, R.thenS, R.bind, List.replicate, pw, onV, int2, h]
      · simp [runS, Jv.envOf, fin, noX, sSeq, sAsg, sIf, sPar, sSet, sRet, sNil, sExpr, sNo, tVal, bOr, bNot, bAnd, bYes, eAnd, eOr, eNot, eIf, eBin, eCall, eTup, eCon, eVar, eBlt, eLst, eNeg, eChain, aCons, aNil, aLim, itK, itemsK, gTp, gNm, gsCons, gsNil, allV, ofOp, R.thenS, R.bind, List.replicate, pw, onV, int2, h]) cs []
    exact ⟨ls, h1, by simpa using h2⟩
  have nd : ∀ x y z u : W, nodupK [("cells", x), ("lefts", y), ("at", z), ("room", u)] = true := fun x y z u => by kernel_rfl
  cases ns with
  | nil =>
    obtain ⟨ls, h1, h2⟩ := lf (.lst []) [0]
    refine ⟨ls, [0], h1.symm, by rw [h1]; decide, ?_⟩
    have ne := neS tbs (.lst []) (by kernel_rfl)
    simp only [List.map_cons, List.map_nil] at h2
    simp [runS, Jv.envOf, fin, noX, sSeq, sAsg, sIf, sPar, sSet, sRet, sNil, sExpr, sNo, tVal, bOr, bNot, bAnd, bYes, eAnd, eOr, eNot, eIf, eBin, eCall, eTup, eCon, eVar, eBlt, eLst, eNeg, eChain, aCons, aNil, aLim, itK, itemsK, gTp, gNm, gsCons, gsNil, allV, ofOp, R.thenS, R.bind, List.replicate, rn__law_begin, dn__law_begin, ne, eDct, kOf, kCons, kNil, eNew, lLc, itE, items, wipeE, h2, nd, stA, tbs]
  | cons n r =>
    obtain ⟨ls, h1, h2⟩ := lf (.lst ((n :: r).map .int)) (n :: r)
    refine ⟨ls, n :: r, h1.symm, by rw [h1]; simp, ?_⟩
    have ne : neD tbs (.v (.lst (.int n :: r.map .int))) (.v (.lst [])) = some (.bl true) := by
      have e0 := ints_shaped (n :: r)
      have e : PyData.eqv (D.lst (.int n :: r.map .int)).py (D.lst []).py = false := by simp [D.py, D.pyL, PyData.eqv, PyData.eqvAll]
      have e2 : SeqAt.shaped (D.lst []).py = true := by kernel_rfl
      simp only [List.map_cons] at e0
      simp [neD, deref, e0, e, e2]
    have hl' : r.length + 1 ≤ 100000 := by simp at hl; omega
    simp only [List.map_cons] at h2
    simp [runS, Jv.envOf, fin, noX, sSeq, sAsg, sIf, sPar, sSet, sRet, sNil, sExpr, sNo, tVal, bOr, bNot, bAnd, bYes, eAnd, eOr, eNot, eIf, eBin, eCall, eTup, eCon, eVar, eBlt, eLst, eNeg, eChain, aCons, aNil, aLim, itK, itemsK, gTp, gNm, gsCons, gsNil, allV, ofOp, R.thenS, R.bind, List.replicate, rn__law_begin, dn__law_begin, ne, eDct, kOf, kCons, kNil, eNew, lLc, lBlt, listF, asLst, itE, items, wipeE, h2, nd, stA, tbs, hl']
theorem few6 {r : Int} (h0 : 0 ≤ r) (h1 : r < 6) : r = 0 ∨ r = 1 ∨ r = 2 ∨ r = 3 ∨ r = 4 ∨ r = 5 := by omega
end K37
end
section
namespace K37
open PySem Jv
abbrev LET : Str := "abcdefghijklmnopqrstuvwxyz"
abbrev SIG : Str := "abcdefghijklmnopqrstuvwxyz0123456789"
/-- a word of the signs s -/
def wordB (s x : Str) : Bool := decide (1 ≤ x.cps.size) && decide (x.cps.size ≤ 6) && x.cps.toList.all fun c => decide (c ∈ s.cps.toList)
theorem lcGo_all {g : GD} {t : BD} {e : ED} {env : Jv.Env} {st : Sto} : ∀ (ds : List D) (acc : List D), (∀ d ∈ ds, ∃ env1, g (.v d) env = some env1 ∧ t env1 st = .ok true st ∧ e env1 st = tt st) → lcGo g t e env ds st acc = .ok (acc ++ List.replicate ds.length (.bl true)) st
  | [], acc, _ => by simp [lcGo]
  | d :: r, acc, h => by
    obtain ⟨env1, h1, h2, h3⟩ := h d List.mem_cons_self
    simp only [lcGo, h1, h2, h3, tt, noX_ok, R.bind_ok, if_true]
    rw [lcGo_all r _ fun x hx => h x (List.mem_cons_of_mem _ hx)]
    simp [List.replicate_succ]
theorem allBl_rep : ∀ n : Nat, allBl (List.replicate n (D.bl true)) = some (List.replicate n true)
  | 0 => rfl
  | n + 1 => by simp [List.replicate_succ, allBl, allBl_rep n]
theorem allB_rep (st : Sto) (n : Nat) : allB st [.v (.lst (List.replicate n (D.bl true)))] = some (.bl true) := by
  simp [allB, asLst, allBl_rep]
theorem is_of_ok {s x : Str} (h : wordB s x = true) (st : Sto) : rn_is_of [.v (.str x), .v (.str s)] st = tt st := by
  simp only [wordB, Bool.and_eq_true, decide_eq_true_eq, List.all_eq_true] at h
  obtain ⟨⟨h1, h2⟩, h3⟩ := h
  have l1 : x.length = x.cps.size := rfl
  have lc := lcGo_all (g := gNm 2) (t := bYes) (e := eBin in3 (eVar 2) (eVar 1)) (env := [some (.v (.str x)), some (.v (.str s)), none]) (st := st) (signs x) [] (by
    intro d hd
    obtain ⟨c, hc, rfl⟩ := List.mem_map.mp hd
    refine ⟨_, rfl, rfl, ?_⟩
    simp [runS, Jv.envOf, fin, noX, sSeq, sAsg, sIf, sPar, sSet, sRet, sNil, sExpr, sNo, tVal, bOr, bNot, bAnd, bYes, eAnd, eOr, eNot, eIf, eBin, eCall, eTup, eCon, eVar, eBlt, eLst, eNeg, eChain, aCons, aNil, aLim, itK, itemsK, gTp, gNm, gsCons, gsNil, allV, ofOp, R.thenS, R.bind, List.replicate, in3, in2, orO, inD]
    simpa using h3 c hc)
  have hl : (signs x).length ≤ 100000 := by simp [signs]; omega
  have h6 : ((x.cps.size : Nat) : Int) ≤ 6 := by omega
  have h1' : (1 : Int) ≤ ((x.cps.size : Nat) : Int) := by omega
  have h5 : x.cps.size ≤ 100000 := by omega
  have iy : isSub "str" "str" = some true := by kernel_rfl
  simp [runS, Jv.envOf, fin, noX, sSeq, sAsg, sIf, sPar, sSet, sRet, sNil, sExpr, sNo, tVal, bOr, bNot, bAnd, bYes, eAnd, eOr, eNot, eIf, eBin, eCall, eTup, eCon, eVar, eBlt, eLst, eNeg, eChain, aCons, aNil, aLim, itK, itemsK, gTp, gNm, gsCons, gsNil, allV, ofOp, R.thenS, R.bind, List.replicate, rn_is_of, dn_is_of, isiB, tyN, iy, lenA, lenB, l1, h5, onV, int2, h6, h1', lLc, itE, items, wipeE, hl]
  have lc' : lcGo (gNm 2) bYes (eBin in3 (eVar 2) (eVar 1)) [some (.v (.str x)), some (.v (.str s)), none] (signs x) st [] = .ok (List.replicate (signs x).length (.bl true)) st := by simpa using lc
  rw [lc']
  simp [allB_rep]
def wordD : D → Bool
  | .str x => wordB SIG x
  | _ => false
def nameB : D → Bool
  | .str x => wordB LET x
  | _ => false
def wordsB (lo hi : Nat) : D → Bool
  | .tup ws => ws.all wordD && decide (lo ≤ ws.length) && decide (ws.length ≤ hi)
  | _ => false
theorem wordD_is {d : D} (h : wordD d = true) : ∃ x, d = .str x ∧ wordB SIG x = true := by
  cases d <;> first | exact ⟨_, rfl, h⟩ | cases h
theorem nameB_is {d : D} (h : nameB d = true) : ∃ x, d = .str x ∧ wordB LET x = true := by
  cases d <;> first | exact ⟨_, rfl, h⟩ | cases h
theorem wordsB_is {lo hi : Nat} {d : D} (h : wordsB lo hi d = true) : ∃ ws, d = .tup ws ∧ (∀ x ∈ ws, wordD x = true) ∧ lo ≤ ws.length ∧ ws.length ≤ hi := by
  cases d <;> first | cases h | skip
  simp only [wordsB, Bool.and_eq_true, decide_eq_true_eq, List.all_eq_true] at h
  exact ⟨_, rfl, h.1.1, h.1.2, h.2⟩
theorem is_name_ok {d : D} (h : nameB d = true) (st : Sto) : rn_is_name [.v d] st = tt st := by
  obtain ⟨x, rfl, hx⟩ := nameB_is h
  have q := is_of_ok hx st
  simp [runS, Jv.envOf, fin, noX, sSeq, sAsg, sIf, sPar, sSet, sRet, sNil, sExpr, sNo, tVal, bOr, bNot, bAnd, bYes, eAnd, eOr, eNot, eIf, eBin, eCall, eTup, eCon, eVar, eBlt, eLst, eNeg, eChain, aCons, aNil, aLim, itK, itemsK, gTp, gNm, gsCons, gsNil, allV, ofOp, R.thenS, R.bind, List.replicate, rn_is_name, dn_is_name, q]
theorem is_value_ok {x : Str} (h : wordB SIG x = true) (st : Sto) : rn_is_value [.v (.str x)] st = tt st := by
  have q := is_of_ok h st
  simp [runS, Jv.envOf, fin, noX, sSeq, sAsg, sIf, sPar, sSet, sRet, sNil, sExpr, sNo, tVal, bOr, bNot, bAnd, bYes, eAnd, eOr, eNot, eIf, eBin, eCall, eTup, eCon, eVar, eBlt, eLst, eNeg, eChain, aCons, aNil, aLim, itK, itemsK, gTp, gNm, gsCons, gsNil, allV, ofOp, R.thenS, R.bind, List.replicate, rn_is_value, dn_is_value, q]
theorem are_words_ok {lo hi : Nat} {d : D} (h : wordsB lo hi d = true) (hh : hi ≤ 1000) (st : Sto) : rn_are_words [.v d, .v (.int lo), .v (.int hi)] st = tt st := by
  obtain ⟨ws, rfl, h1, h2, h3⟩ := wordsB_is h
  have lc := lcGo_all (g := gNm 3) (t := bYes) (e := eCall rn_is_of (aCons (eVar 3) (aCons (eCon (.str SIG)) aNil))) (env := [some (.v (.tup ws)), some (.v (.int lo)), some (.v (.int hi)), none]) (st := st) ws [] (by
    intro d hd
    obtain ⟨x, rfl, hx⟩ := wordD_is (h1 d hd)
    have q := is_of_ok hx st
    refine ⟨_, rfl, rfl, ?_⟩
    simp [runS, Jv.envOf, fin, noX, sSeq, sAsg, sIf, sPar, sSet, sRet, sNil, sExpr, sNo, tVal, bOr, bNot, bAnd, bYes, eAnd, eOr, eNot, eIf, eBin, eCall, eTup, eCon, eVar, eBlt, eLst, eNeg, eChain, aCons, aNil, aLim, itK, itemsK, gTp, gNm, gsCons, gsNil, allV, ofOp, R.thenS, R.bind, List.replicate, q])
  have lc' : lcGo (gNm 3) bYes (eCall rn_is_of (aCons (eVar 3) (aCons (eCon (.str SIG)) aNil))) [some (.v (.tup ws)), some (.v (.int lo)), some (.v (.int hi)), none] ws st [] = .ok (List.replicate ws.length (.bl true)) st := by simpa using lc
  have hl : ws.length ≤ 100000 := by omega
  have i1 : ((lo : Nat) : Int) ≤ ((ws.length : Nat) : Int) := by omega
  have i2 : ((ws.length : Nat) : Int) ≤ ((hi : Nat) : Int) := by omega
  have iy : isSub "tuple" "tuple" = some true := by kernel_rfl
  simp [runS, Jv.envOf, fin, noX, sSeq, sAsg, sIf, sPar, sSet, sRet, sNil, sExpr, sNo, tVal, bOr, bNot, bAnd, bYes, eAnd, eOr, eNot, eIf, eBin, eCall, eTup, eCon, eVar, eBlt, eLst, eNeg, eChain, aCons, aNil, aLim, itK, itemsK, gTp, gNm, gsCons, gsNil, allV, ofOp, R.thenS, R.bind, List.replicate, rn_are_words, dn_are_words, isiB, tyN, iy, lenA, lenB, onV, int2, i1, i2, lLc, itE, items, wipeE, hl]
  have : (String.toList "abcdefghijklmnopqrstuvwxyz0123456789") = String.toList "abcdefghijklmnopqrstuvwxyz0123456789" := rfl
  rw [lc']
  simp [allB_rep]
abbrev hostB := wordsB 2 5
abbrev pathB := wordsB 0 4
theorem is_host_ok {d : D} (h : hostB d = true) (st : Sto) : rn_is_host [.v d] st = tt st := by
  have q := are_words_ok h (by decide) st
  simp [runS, Jv.envOf, fin, noX, sSeq, sAsg, sIf, sPar, sSet, sRet, sNil, sExpr, sNo, tVal, bOr, bNot, bAnd, bYes, eAnd, eOr, eNot, eIf, eBin, eCall, eTup, eCon, eVar, eBlt, eLst, eNeg, eChain, aCons, aNil, aLim, itK, itemsK, gTp, gNm, gsCons, gsNil, allV, ofOp, R.thenS, R.bind, List.replicate, rn_is_host, dn_is_host]
  simp at q
  simp [q]
theorem is_path_ok {d : D} (h : pathB d = true) (st : Sto) : rn_is_path [.v d] st = tt st := by
  have q := are_words_ok h (by decide) st
  simp [runS, Jv.envOf, fin, noX, sSeq, sAsg, sIf, sPar, sSet, sRet, sNil, sExpr, sNo, tVal, bOr, bNot, bAnd, bYes, eAnd, eOr, eNot, eIf, eBin, eCall, eTup, eCon, eVar, eBlt, eLst, eNeg, eChain, aCons, aNil, aLim, itK, itemsK, gTp, gNm, gsCons, gsNil, allV, ofOp, R.thenS, R.bind, List.replicate, rn_is_path, dn_is_path]
  simp at q
  simp [q]
def boolB : D → Bool
  | .bl _ => true
  | _ => false
theorem boolB_is {d : D} (h : boolB d = true) : ∃ b, d = .bl b := by
  cases d <;> first | exact ⟨_, rfl⟩ | cases h
theorem neI (st : Sto) (n : Int) : neD st (.v (.int n)) (.v (.int n)) = some (.bl false) := by
  unfold neD
  have e1 : SeqAt.shaped (deref st (.v (.int n))).py = true := by kernel_rfl
  rw [e1]
  have e2 : PyData.eqv (deref st (.v (.int n))).py (deref st (.v (.int n))).py = true := by
    show PyData.eqv (.int n) (.int n) = true
    simp [PyData.eqv]
  rw [e2]
  rfl
def addrB : D → Bool
  | .tup [h, p, b] => hostB h && pathB p && boolB b
  | _ => false
theorem addrB_is {d : D} (h : addrB d = true) : ∃ a p b, d = .tup [a, p, .bl b] ∧ hostB a = true ∧ pathB p = true := by
  unfold addrB at h
  split at h
  · simp only [Bool.and_eq_true] at h
    obtain ⟨b, rfl⟩ := boolB_is h.2
    exact ⟨_, _, b, rfl, h.1.1, h.1.2⟩
  · cases h
theorem at0 {α : Type} (a : α) (r : List α) : L2.atI (a :: r) 0 = some a := by
  simp [L2.atI, L2.ixN]
theorem at1 {α : Type} (a b : α) (r : List α) : L2.atI (a :: b :: r) 1 = some b := by
  simp [L2.atI, L2.ixN]
  rw [if_pos (by omega)]
  rfl
theorem at2 {α : Type} (a b c : α) (r : List α) : L2.atI (a :: b :: c :: r) 2 = some c := by
  simp [L2.atI, L2.ixN]
  rw [if_pos (by omega)]
  rfl
theorem at3 {α : Type} (a b c d : α) (r : List α) : L2.atI (a :: b :: c :: d :: r) 3 = some d := by
  simp [L2.atI, L2.ixN]
  rw [if_pos (by omega)]
  rfl
theorem at4 {α : Type} (a b c d e : α) (r : List α) : L2.atI (a :: b :: c :: d :: e :: r) 4 = some e := by
  simp [L2.atI, L2.ixN]
  rw [if_pos (by omega)]
  rfl
theorem is_address_ok {d : D} (h : addrB d = true) (st : Sto) : rn_is_address [.v d] st = tt st := by
  obtain ⟨a, p, b, rfl, h1, h2⟩ := addrB_is h
  have q1 := is_host_ok h1 st
  have q2 := is_path_ok h2 st
  have iy : isSub "tuple" "tuple" = some true := by kernel_rfl
  have iz : isSub "bool" "bool" = some true := by kernel_rfl
  have n3 := neI st 3
  simp [runS, Jv.envOf, fin, noX, sSeq, sAsg, sIf, sPar, sSet, sRet, sNil, sExpr, sNo, tVal, bOr, bNot, bAnd, bYes, eAnd, eOr, eNot, eIf, eBin, eCall, eTup, eCon, eVar, eBlt, eLst, eNeg, eChain, aCons, aNil, aLim, itK, itemsK, gTp, gNm, gsCons, gsNil, allV, ofOp, R.thenS, R.bind, List.replicate, rn_is_address, dn_is_address, isiB, tyN, iy, iz, lenA, lenB, ixD, at0, at1, at2, q1, q2, n3]
def optB (p : D → Bool) : D → Bool
  | .non => true
  | .tup xs => p (.tup xs)
  | _ => false
def valS : D → Bool
  | .non => true
  | .str _ => true
  | _ => false
def valL : D → List Str
  | .str x => [x]
  | _ => []
def writeB : D → Bool
  | .tup [n, v, h, p, b] => nameB n && valS v && optB hostB h && optB pathB p && boolB b
  | _ => false
def writeL : D → List Str
  | .tup [_, v, _, _, _] => valL v
  | _ => []
theorem isN_non (st : Sto) : isNotD st (.v .non) (.v .non) = some (.bl false) := rfl
theorem isN_str (st : Sto) (x : Str) : isNotD st (.v (.str x)) (.v .non) = some (.bl true) := rfl
theorem isN_tup (st : Sto) (x : List D) : isNotD st (.v (.tup x)) (.v .non) = some (.bl true) := rfl
theorem is_write_ok {d : D} (h : writeB d = true) (hv : ∀ x ∈ writeL d, wordB SIG x = true) (st : Sto) : rn_is_write [.v d] st = tt st := by
  unfold writeB at h
  split at h
  rotate_left
  · cases h
  rename_i n v hh pp bb
  simp only [Bool.and_eq_true] at h
  obtain ⟨⟨⟨⟨h1, h2⟩, h3⟩, h4⟩, h5⟩ := h
  obtain ⟨b, rfl⟩ := boolB_is h5
  have q1 := is_name_ok h1 st
  have iy : isSub "tuple" "tuple" = some true := by kernel_rfl
  have iz : isSub "bool" "bool" = some true := by kernel_rfl
  have n5 := neI st 5
  have hV : v = .non ∨ ∃ x, v = .str x ∧ rn_is_value [.v (.str x)] st = tt st := by
    cases v <;> first | exact .inl rfl | exact .inr ⟨_, rfl, is_value_ok (hv _ (by simp [writeL, valL])) st⟩ | cases h2
  have hH : hh = .non ∨ ∃ x, hh = .tup x ∧ rn_is_host [.v (.tup x)] st = tt st := by
    cases hh <;> first | exact .inl rfl | exact .inr ⟨_, rfl, is_host_ok (d := .tup _) h3 st⟩ | cases h3
  have hP : pp = .non ∨ ∃ x, pp = .tup x ∧ rn_is_path [.v (.tup x)] st = tt st := by
    cases pp <;> first | exact .inl rfl | exact .inr ⟨_, rfl, is_path_ok (d := .tup _) h4 st⟩ | cases h4
  rcases hV with rfl | ⟨x, rfl, qv⟩ <;> rcases hH with rfl | ⟨y, rfl, qh⟩ <;> rcases hP with rfl | ⟨z, rfl, qp⟩ <;>
    simp [runS, Jv.envOf, fin, noX, sSeq, sAsg, sIf, sPar, sSet, sRet, sNil, sExpr, sNo, tVal, bOr, bNot, bAnd, bYes, eAnd, eOr, eNot, eIf, eBin, eCall, eTup, eCon, eVar, eBlt, eLst, eNeg, eChain, aCons, aNil, aLim, itK, itemsK, gTp, gNm, gsCons, gsNil, allV, ofOp, R.thenS, R.bind, List.replicate, rn_is_write, dn_is_write, isiB, tyN, iy, iz, lenA, lenB, ixD, at0, at1, at2, at3, at4, n5, isN_non, isN_str, isN_tup, *]
/-! need_site -/
theorem forGo_nx {g : GD} {body : SD} {st : Sto} (P : Jv.Env → Prop) : ∀ (ds : List D) (env : Jv.Env), P env → (∀ d ∈ ds, ∀ env, P env → ∃ env1, g (.v d) env = some env1 ∧ ∃ env2, body env1 st = .nx env2 st ∧ P env2) → ∃ env2, forGo g body ds env st = .nx env2 st ∧ P env2
  | [], env, h, _ => ⟨env, rfl, h⟩
  | d :: r, env, h, f => by
    obtain ⟨env1, h1, env2, h2, h3⟩ := f d List.mem_cons_self env h
    simp only [forGo, h1, h2]
    exact forGo_nx P r env2 h3 fun x hx => f x (List.mem_cons_of_mem _ hx)
theorem enumF_mem : ∀ {ds : List D} {k : Nat} {d : D}, d ∈ enumF k ds → ∃ i x, d = .tup [.int i, x] ∧ x ∈ ds
  | [], _, _, h => nomatch h
  | x :: r, k, d, h => by
    rcases List.mem_cons.mp h with rfl | h
    · exact ⟨_, x, rfl, List.mem_cons_self⟩
    · obtain ⟨i, y, e, hy⟩ := enumF_mem h
      exact ⟨i, y, e, List.mem_cons_of_mem _ hy⟩
def pageB : D → Bool
  | .tup [a, .tup ws] => addrB a && decide (ws.length ≤ 5) && ws.all writeB
  | _ => false
def pageL : D → List Str
  | .tup [_, .tup ws] => ws.flatMap writeL
  | _ => []
def siteB : D → Bool
  | .tup ps => decide (1 ≤ ps.length) && decide (ps.length ≤ 5) && ps.all pageB
  | _ => false
def siteL : D → List Str
  | .tup ps => ps.flatMap pageL
  | _ => []
theorem need_site_ok {d : D} (h : siteB d = true) (hv : ∀ x ∈ siteL d, wordB SIG x = true) (st : Sto) : rn_need_site [.v d] st = .ok (.v d) st := by
  unfold siteB at h
  split at h
  rotate_left
  · cases h
  rename_i ps
  simp only [Bool.and_eq_true, decide_eq_true_eq, List.all_eq_true] at h
  obtain ⟨⟨h1, h2⟩, h3⟩ := h
  have iy : isSub "tuple" "tuple" = some true := by kernel_rfl
  have i1 : (1 : Int) ≤ ((ps.length : Nat) : Int) := by omega
  have i2 : ((ps.length : Nat) : Int) ≤ 5 := by omega
  have n2 := neI st 2
  have inner : ∀ (ws : List D) (env : Jv.Env), (∀ x ∈ ws, rn_is_write [.v x] st = tt st) → (∃ a b c e, env = [some (.v (.tup ps)), a, b, c, e]) →
      ∃ env2, forGo (gTp 2 (gsCons (gNm 3) (gsCons (gNm 4) gsNil))) (sIf (bNot (tVal (eCall rn_is_write (aCons (eVar 4) aNil)))) sNo sNil) (enumF 0 ws) env st = .nx env2 st ∧ ∃ a b c e, env2 = [some (.v (.tup ps)), a, b, c, e] := by
    intro ws env hw he
    refine forGo_nx (fun env => ∃ a b c e, env = [some (.v (.tup ps)), a, b, c, e]) _ env he ?_
    rintro d hd env ⟨a, b, c, e, rfl⟩
    obtain ⟨i, x, rfl, hx⟩ := enumF_mem hd
    have q := hw x hx
    refine ⟨_, rfl, [some (.v (.tup ps)), a, b, some (.v (.int i)), some (.v x)], ?_, _, _, _, _, rfl⟩
    simp [runS, Jv.envOf, fin, noX, sSeq, sAsg, sIf, sPar, sSet, sRet, sNil, sExpr, sNo, tVal, bOr, bNot, bAnd, bYes, eAnd, eOr, eNot, eIf, eBin, eCall, eTup, eCon, eVar, eBlt, eLst, eNeg, eChain, aCons, aNil, aLim, itK, itemsK, gTp, gNm, gsCons, gsNil, allV, ofOp, R.thenS, R.bind, List.replicate, q]
  obtain ⟨env2, e1, a, b, c, e, rfl⟩ := forGo_nx (g := gTp 2 (gsCons (gNm 1) (gsCons (gNm 2) gsNil))) (body := (sSeq (sIf (bOr (bNot (tVal (eBlt isiB (aCons (eVar 2) (aCons (eCon (.ty "tuple")) aNil))))) (bOr (tVal (eBin neD (eBlt lenA (aCons (eVar 2) aNil)) (eCon (.int 2)))) (bNot (tVal (eCall rn_is_address (aCons (eBin ixD (eVar 2) (eCon (.int 0))) aNil)))))) sNo sNil) (sSeq (sIf (bOr (bNot (tVal (eBlt isiB (aCons (eBin ixD (eVar 2) (eCon (.int 1))) (aCons (eCon (.ty "tuple")) aNil))))) (tVal (eBin gtD (eBlt lenA (aCons (eBin ixD (eVar 2) (eCon (.int 1))) aNil)) (eCon (.int 5))))) sNo sNil) (sFor (itEnum (aCons (eBin ixD (eVar 2) (eCon (.int 1))) aNil)) (gTp 2 (gsCons (gNm 3) (gsCons (gNm 4) gsNil))) (sIf (bNot (tVal (eCall rn_is_write (aCons (eVar 4) aNil)))) sNo sNil))))) (st := st) (fun env => ∃ a b c e, env = [some (.v (.tup ps)), a, b, c, e]) (enumF 0 ps) [some (.v (.tup ps)), none, none, none, none] ⟨_, _, _, _, rfl⟩ (by
    rintro d hd env ⟨a, b, c, e, rfl⟩
    obtain ⟨i, x, rfl, hx⟩ := enumF_mem hd
    have px := h3 x hx
    unfold pageB at px
    split at px
    rotate_left
    · cases px
    rename_i ad ws
    simp only [Bool.and_eq_true, decide_eq_true_eq, List.all_eq_true] at px
    obtain ⟨⟨p1, p2⟩, p3⟩ := px
    have q1 := is_address_ok p1 st
    have i5 : ¬ ((5 : Int) < ((ws.length : Nat) : Int)) := by omega
    obtain ⟨env2, e1, ex⟩ := inner ws [some (.v (.tup ps)), some (.v (.int i)), some (.v (.tup [ad, .tup ws])), c, e] (fun y hy => is_write_ok (p3 y hy) (fun z hz => hv z (by
      simp only [siteL, List.mem_flatMap]
      exact ⟨_, hx, by simp only [pageL, List.mem_flatMap]; exact ⟨y, hy, hz⟩⟩)) st) ⟨_, _, _, _, rfl⟩
    refine ⟨_, rfl, env2, ?_, ex⟩
    simp [runS, Jv.envOf, fin, noX, sSeq, sAsg, sIf, sPar, sSet, sRet, sNil, sExpr, sNo, tVal, bOr, bNot, bAnd, bYes, eAnd, eOr, eNot, eIf, eBin, eCall, eTup, eCon, eVar, eBlt, eLst, eNeg, eChain, aCons, aNil, aLim, itK, itemsK, gTp, gNm, gsCons, gsNil, allV, ofOp, R.thenS, R.bind, List.replicate, isiB, tyN, iy, lenA, lenB, onV, int2, ixD, at0, at1, n2, q1, i5, sFor, itEnum, enums, e1])
  simp [runS, Jv.envOf, fin, noX, sSeq, sAsg, sIf, sPar, sSet, sRet, sNil, sExpr, sNo, tVal, bOr, bNot, bAnd, bYes, eAnd, eOr, eNot, eIf, eBin, eCall, eTup, eCon, eVar, eBlt, eLst, eNeg, eChain, aCons, aNil, aLim, itK, itemsK, gTp, gNm, gsCons, gsNil, allV, ofOp, R.thenS, R.bind, List.replicate, rn_need_site, dn_need_site, isiB, tyN, iy, lenA, lenB, onV, int2, i1, i2, sFor, itEnum, enums, e1]
def okS (d : D) : Bool := siteB d && (siteL d).all (wordB SIG)
theorem site_ok {d : D} (h : okS d = true) (st : Sto) : rn_need_site [.v d] st = .ok (.v d) st := by
  simp only [okS, Bool.and_eq_true, List.all_eq_true] at h
  exact need_site_ok h.1 h.2 st
end K37
end
section
/-! the law's own keys of a site -/
namespace K37
open PySem Jv Rf
theorem law_key_ok {a : Adr} {ws : Jv.D} {w : Wr} (ha : adrG a = true) (hw : wrG w = true) (st : Sto) : rn__law_key [.v (.tup [eAdr a, ws]), .v (eWr w)] st = .ok (.v (eO eKy (keyOf a w))) st := by
  obtain ⟨host, path, sec⟩ := a
  obtain ⟨name, value, dom, fol, gd⟩ := w
  simp only [adrG, wrG, Bool.and_eq_true] at ha hw
  obtain ⟨⟨⟨g1, g2⟩, g3⟩, g4⟩ := hw
  have tk : List.take st.length st = st := List.take_length
  have pd : slcD st (.v (eSs path)) none (some (-1)) = some (eSs path.dropLast) := by rw [slc_ss, cut_init]
  cases dom with
  | none =>
    cases fol <;> cases gd <;> cases sec <;>
      simp [runS, Jv.envOf, fin, noX, sSeq, sAsg, sIf, sPar, sSet, sRet, sNil, sExpr, sNo, tVal, bOr, bNot, bAnd, bYes, eAnd, eOr, eNot, eIf, eBin, eCall, eTup, eCon, eVar, eBlt, eLst, eNeg, eChain, aCons, aNil, aLim, itK, itemsK, gTp, gNm, gsCons, gsNil, allV, ofOp, R.thenS, R.bind, List.replicate, rn__law_key, dn__law_key, eWr, eAdr, eO, keyOf, eKy, isNot_non, is_non, isNot_ss, is_ss, eSlc, pNo, pSo, pd, tk]
  | some d =>
    have hd : 2 ≤ d.length := by
      simp only [optG, hostG, Bool.and_eq_true, decide_eq_true_eq] at g3
      exact g3.1.2
    have s1 : slcD st (.v (eSs host)) (some (-(d.length : Int))) none = some (eSs (host.drop (host.length - d.length))) := by rw [slc_ss, cut_tail host (by omega)]
    have hh := strsOk_host ha.1
    have hd2 := strsOk_host (h := d) g3
    have hdr : strsOk (host.drop (host.length - d.length)) = true := List.all_eq_true.mpr fun x hx => List.all_eq_true.mp hh x (List.drop_subset _ _ hx)
    have n1 := neD_ss hdr hd2 st
    rw [tail_is] at n1
    have ln := len_ss st d
    cases hb : isWithin host d <;> rw [hb] at n1 <;> cases fol <;> cases gd <;> cases sec <;>
      simp [runS, Jv.envOf, fin, noX, sSeq, sAsg, sIf, sPar, sSet, sRet, sNil, sExpr, sNo, tVal, bOr, bNot, bAnd, bYes, eAnd, eOr, eNot, eIf, eBin, eCall, eTup, eCon, eVar, eBlt, eLst, eNeg, eChain, aCons, aNil, aLim, itK, itemsK, gTp, gNm, gsCons, gsNil, allV, ofOp, R.thenS, R.bind, List.replicate, rn__law_key, dn__law_key, eWr, eAdr, eO, keyOf, eKy, isNot_non, is_non, isNot_ss, is_ss, eSlc, pNo, pSo, pd, s1, n1, ln, hb, tk]
def lkB : SD := sSeq (sSet 4 (eCall rn__law_key (aCons (eVar 2) (aCons (eVar 3) aNil)))) (sIf (tVal (eBin isNotD (eVar 4) (eCon .non))) (sKPut (eVar 1) (eVar 4) (eCon (.bl true))) sNil)
theorem dn__law_keys_eq : dn__law_keys = sSeq (sSet 1 eKNew) (sSeq (sFor (itK (eVar 0)) (gNm 2) (sFor (itK (eBin ixD (eVar 2) (eCon (.int 1)))) (gNm 3) lkB)) (sRet (eLst (lBlt sortF (aCons (eVar 1) aNil))))) := rfl
theorem lk_one {v0 c b4 : Option W} {p : Pg} {w : Wr} {ks : List Ky} (hp : adrG p.adr = true) (hw : wrG w = true) (hl : ks.length ≤ 900) (st : Sto) :
    ∃ b, lkB [v0, some (.r st.length), some (.v (ePg p)), some (.v (eWr w)), b4] (st ++ [.kd (eKs ks)]) = .nx [v0, some (.r st.length), some (.v (ePg p)), some (.v (eWr w)), b] (st ++ [.kd (eKs ([w].filterMap (keyOf p.adr) |>.foldl addKy ks))]) := by
  have q := law_key_ok (ws := .tup (p.ws.map eWr)) hp hw (st ++ [.kd (eKs ks)])
  have e : ePg p = .tup [eAdr p.adr, .tup (p.ws.map eWr)] := rfl
  rw [← e] at q
  cases hk : keyOf p.adr w with
  | none =>
    rw [hk] at q
    simp only [eO] at q
    refine ⟨some (.v .non), ?_⟩
    simp [runS, Jv.envOf, fin, noX, sSeq, sAsg, sIf, sPar, sSet, sRet, sNil, sExpr, sNo, tVal, bOr, bNot, bAnd, bYes, eAnd, eOr, eNot, eIf, eBin, eCall, eTup, eCon, eVar, eBlt, eLst, eNeg, eChain, aCons, aNil, aLim, itK, itemsK, gTp, gNm, gsCons, gsNil, allV, ofOp, R.thenS, R.bind, List.replicate, lkB, q, isNot_non, hk]
  | some k =>
    rw [hk] at q
    simp only [eO] at q
    refine ⟨some (.v (eKy k)), ?_⟩
    have pt : ∀ env, kPut (.r st.length) (.v (eKy k)) (.v (.bl true)) env (st ++ [.kd (eKs ks)]) = .nx env (st ++ [.kd (eKs (addKy ks k))]) := fun env => by
      have o := okK_ky k
      have l : (eKs ks).length ≤ 16000000 := by simp [eKs]; omega
      have s := eKs_put ks k
      have ek : eKy k = .tup [.str k.name, eSs k.dom, eSs k.fol, .bl k.alone] := rfl
      rw [ek] at o s ⊢
      simp [kPut, o, l, s]
    simp [runS, Jv.envOf, fin, noX, sSeq, sAsg, sIf, sPar, sSet, sRet, sNil, sExpr, sNo, tVal, bOr, bNot, bAnd, bYes, eAnd, eOr, eNot, eIf, eBin, eCall, eTup, eCon, eVar, eBlt, eLst, eNeg, eChain, aCons, aNil, aLim, itK, itemsK, gTp, gNm, gsCons, gsNil, allV, ofOp, R.thenS, R.bind, List.replicate, lkB, q, isNot_ky, hk, sKPut, pt]
theorem law_keys_ok {s : List Pg} (hs : ∀ p ∈ s, pgG p = true) (hl : s.length ≤ 100) {w : W} (st : Sto) (hw : ∀ st', itemsK w st' = .ok (s.map ePg) st') : rn__law_keys [w] st = .ok (.v (.lst ((keysS s).map eKy))) st := by
  have lp := forGo_pre (g := gNm 2) (body := sFor (itK (eBin ixD (eVar 2) (eCon (.int 1)))) (gNm 3) lkB) ePg (fun ys env st' => (∃ a b c, env = [some w, some (.r st.length), a, b, c]) ∧ st' = st ++ [.kd (eKs (keysRaw ys))]) (xs := s) (env := [some w, some (.r st.length), none, none, none]) (st := st ++ [.kd (eKs [])]) ⟨⟨_, _, _, rfl⟩, rfl⟩ (by
    rintro ys p zs env st' e ⟨⟨a, b, c, rfl⟩, rfl⟩
    have hp : p ∈ s := by rw [e]; simp
    obtain ⟨g1, g2, g3⟩ := pg_of (hs p hp)
    refine ⟨_, rfl, ?_⟩
    have hys : (keysRaw ys).length ≤ 5 * ys.length := keysRaw_len fun q hq => hs q (by rw [e]; exact List.mem_append_left _ hq)
    have hyl : ys.length ≤ 100 := by have := congrArg List.length e; simp at this; omega
    have inn := forGo_pre (g := gNm 3) (body := lkB) eWr (fun ws env st' => (∃ b c, env = [some w, some (.r st.length), some (.v (ePg p)), b, c]) ∧ st' = st ++ [.kd (eKs ((ws.filterMap (keyOf p.adr)).foldl addKy (keysRaw ys)))]) (xs := p.ws) (env := [some w, some (.r st.length), some (.v (ePg p)), b, c]) (st := st ++ [.kd (eKs (keysRaw ys))]) ⟨⟨_, _, rfl⟩, rfl⟩ (by
      rintro vs x us env st' e2 ⟨⟨b, c, rfl⟩, rfl⟩
      have hx : x ∈ p.ws := by rw [e2]; simp
      refine ⟨_, rfl, ?_⟩
      have l1 := addKys_len (vs.filterMap (keyOf p.adr)) (keysRaw ys)
      have l2 := List.length_filterMap_le (keyOf p.adr) vs
      have l3 : vs.length ≤ 5 := by have := congrArg List.length e2; simp at this; omega
      obtain ⟨b2, h⟩ := lk_one (v0 := some w) (c := b) (b4 := c) g1 (g3 x hx) (ks := (vs.filterMap (keyOf p.adr)).foldl addKy (keysRaw ys)) (by omega) st
      refine ⟨_, _, .inl h, ⟨_, _, rfl⟩, ?_⟩
      rw [List.filterMap_append, List.foldl_append])
    obtain ⟨env2, st2, e2, ⟨b2, c2, rfl⟩, rfl⟩ := inn
    refine ⟨[some w, some (.r st.length), some (.v (ePg p)), b2, c2], st ++ [.kd (eKs ((p.ws.filterMap (keyOf p.adr)).foldl addKy (keysRaw ys)))], .inl ?_, ⟨_, _, _, rfl⟩, ?_⟩
    · have i1 : ∀ st' : Sto, ixD st' (.v (ePg p)) (.v (.int 1)) = some (.tup (p.ws.map eWr)) := fun st' => by simp [ePg, ixD, at1]
      simp only [List.set_cons_succ, List.set_cons_zero, List.set] at e2 ⊢
      simp [runS, Jv.envOf, fin, noX, sSeq, sAsg, sIf, sPar, sSet, sRet, sNil, sExpr, sNo, tVal, bOr, bNot, bAnd, bYes, eAnd, eOr, eNot, eIf, eBin, eCall, eTup, eCon, eVar, eBlt, eLst, eNeg, eChain, aCons, aNil, aLim, itK, itemsK, gTp, gNm, gsCons, gsNil, allV, ofOp, R.thenS, R.bind, List.replicate, sFor, itK, itemsK, items, i1, e2]
    · simp only [keysRaw, List.foldl_append, List.foldl_cons, List.foldl_nil, keysPg])
  obtain ⟨env2, st2, e2, ⟨a, b, c, rfl⟩, rfl⟩ := lp
  have so : sortF (st ++ [.kd (eKs (keysRaw s))]) [.r st.length] = some ((keysS s).map eKy) := by
    have e : (eKs (keysRaw s)).map (·.1) = (keysRaw s).map eKy := by simp [eKs, Function.comp_def]
    have k1 := keysOk2_ky (l := keysRaw s) (fun k hk => kyOk_of (keysRaw_good hs hk)) (by have := keysRaw_len hs; omega)
    simp only [sortF, sortSrc, List.getElem?_append_right (Nat.le_refl _), Nat.sub_self, List.getElem?_cons_zero, Option.bind_some, e, k1, Bool.true_and, Bool.not_false, Bool.true_or, if_true, sortL_ky, keysS]
  unfold rn__law_keys
  rw [dn__law_keys_eq]
  have tk : List.take st.length (st ++ [.kd (eKs (keysRaw s))]) = st := by simp
  have ih := hw (st ++ [.kd (eKs [])])
  have e0 : eKs [] = [] := rfl
  rw [e0] at ih e2
  unfold itemsK at ih
  simp [runS, Jv.envOf, fin, noX, sSeq, sAsg, sIf, sPar, sSet, sRet, sNil, sExpr, sNo, tVal, bOr, bNot, bAnd, bYes, eAnd, eOr, eNot, eIf, eBin, eCall, eTup, eCon, eVar, eBlt, eLst, eNeg, eChain, aCons, aNil, aLim, itK, itemsK, gTp, gNm, gsCons, gsNil, allV, ofOp, R.thenS, R.bind, List.replicate, eKNew, sFor, itK, ih, e2, lBlt, so, tk]
end K37
end
section
/-! the drawn sites -/
namespace K37
open PySem Jv Rf
def hostsD : List (List Str) := [["b", "c"], ["a", "b", "c"], ["a", "b", "c"], ["x", "b", "c"], ["y", "a", "b", "c"], ["b", "d"]]
def pathsD : List (List Str) := [[], ["p"], ["p", "q"], ["p"], ["q"], ["p", "q", "r"]]
theorem few4 {r : Int} (h0 : 0 ≤ r) (h1 : r < 4) : r = 0 ∨ r = 1 ∨ r = 2 ∨ r = 3 := by omega
theorem few5 {r : Int} (h0 : 0 ≤ r) (h1 : r < 5) : r = 0 ∨ r = 1 ∨ r = 2 ∨ r = 3 ∨ r = 4 := by omega
theorem takeA (rest : Sto) (ls ls' cs : List Int) (a a' : Int) : List.take (List.length (stA rest ls cs a)) (stA rest ls' cs a') = stA rest ls' cs a' := List.take_of_length_le (by simp [stA])
section
variable (rest : Sto) {ls cs : List Int} {a : Int} (hn : cs.length = ls.length) (hp : 0 < ls.length) (h0 : 0 ≤ a)
include hn hp h0
theorem law_host_ok (h1 : a ≤ 800000) : ∃ (h : List Str) (ls' : List Int), h ∈ hostsD ∧ ls'.length = ls.length ∧ rn__law_host [.r 3] (stA rest ls cs a) = .ok (.v (eSs h)) (stA rest ls' cs (a + 1)) := by
  obtain ⟨r, ls', r0, r1, hl, e⟩ := draw_ok rest (m := 6) hn hp h0 (by omega) (by decide) (by decide)
  have tk := fun ls' a' => takeA rest ls ls' cs a a'
  have go : ∀ (i : Int) (h : List Str), ix2 (stA rest ls' cs (a + 1)) (.v (.lst (hostsD.map eSs))) (.v (.int i)) = some (eSs h) → r = i → rn__law_host [.r 3] (stA rest ls cs a) = .ok (.v (eSs h)) (stA rest ls' cs (a + 1)) := fun i x hx hr => by
    subst hr
    simp only [hostsD, List.map_cons, List.map_nil, eSs] at hx ⊢
    simp [runS, Jv.envOf, fin, noX, sSeq, sAsg, sIf, sPar, sSet, sRet, sNil, sExpr, sNo, tVal, bOr, bNot, bAnd, bYes, eAnd, eOr, eNot, eIf, eBin, eCall, eTup, eCon, eVar, eBlt, eLst, eNeg, eChain, aCons, aNil, aLim, itK, itemsK, gTp, gNm, gsCons, gsNil, allV, ofOp, R.thenS, R.bind, List.replicate, rn__law_host, dn__law_host, e, hx, tk]
  rcases few6 r0 r1 with h | h | h | h | h | h
  · exact ⟨["b", "c"], ls', by simp [hostsD], hl, go 0 _ (by kernel_rfl) h⟩
  · exact ⟨["a", "b", "c"], ls', by simp [hostsD], hl, go 1 _ (by kernel_rfl) h⟩
  · exact ⟨["a", "b", "c"], ls', by simp [hostsD], hl, go 2 _ (by kernel_rfl) h⟩
  · exact ⟨["x", "b", "c"], ls', by simp [hostsD], hl, go 3 _ (by kernel_rfl) h⟩
  · exact ⟨["y", "a", "b", "c"], ls', by simp [hostsD], hl, go 4 _ (by kernel_rfl) h⟩
  · exact ⟨["b", "d"], ls', by simp [hostsD], hl, go 5 _ (by kernel_rfl) h⟩
theorem law_path_ok (h1 : a ≤ 800000) : ∃ (h : List Str) (ls' : List Int), h ∈ pathsD ∧ ls'.length = ls.length ∧ rn__law_path [.r 3] (stA rest ls cs a) = .ok (.v (eSs h)) (stA rest ls' cs (a + 1)) := by
  obtain ⟨r, ls', r0, r1, hl, e⟩ := draw_ok rest (m := 6) hn hp h0 (by omega) (by decide) (by decide)
  have tk := fun ls' a' => takeA rest ls ls' cs a a'
  have go : ∀ (i : Int) (h : List Str), ix2 (stA rest ls' cs (a + 1)) (.v (.lst (pathsD.map eSs))) (.v (.int i)) = some (eSs h) → r = i → rn__law_path [.r 3] (stA rest ls cs a) = .ok (.v (eSs h)) (stA rest ls' cs (a + 1)) := fun i x hx hr => by
    subst hr
    simp only [pathsD, List.map_cons, List.map_nil, eSs] at hx ⊢
    simp [runS, Jv.envOf, fin, noX, sSeq, sAsg, sIf, sPar, sSet, sRet, sNil, sExpr, sNo, tVal, bOr, bNot, bAnd, bYes, eAnd, eOr, eNot, eIf, eBin, eCall, eTup, eCon, eVar, eBlt, eLst, eNeg, eChain, aCons, aNil, aLim, itK, itemsK, gTp, gNm, gsCons, gsNil, allV, ofOp, R.thenS, R.bind, List.replicate, rn__law_path, dn__law_path, e, hx, tk]
  rcases few6 r0 r1 with h | h | h | h | h | h
  · exact ⟨[], ls', by simp [pathsD], hl, go 0 _ (by kernel_rfl) h⟩
  · exact ⟨["p"], ls', by simp [pathsD], hl, go 1 _ (by kernel_rfl) h⟩
  · exact ⟨["p", "q"], ls', by simp [pathsD], hl, go 2 _ (by kernel_rfl) h⟩
  · exact ⟨["p"], ls', by simp [pathsD], hl, go 3 _ (by kernel_rfl) h⟩
  · exact ⟨["q"], ls', by simp [pathsD], hl, go 4 _ (by kernel_rfl) h⟩
  · exact ⟨["p", "q", "r"], ls', by simp [pathsD], hl, go 5 _ (by kernel_rfl) h⟩
end
theorem hostsD_good : ∀ h ∈ hostsD, hostG h = true := by decide +kernel
theorem pathsD_good : ∀ h ∈ pathsD, pathG h = true := by decide +kernel
/-- what a drawn write is like -/
def namesD : List Str := ["id", "k"]
def valsD : List (Option Str) := [some "u", some "v", none, some "w1"]
theorem vals_good : ∀ v ∈ valsD, optG (wordB SIG) v = true := by decide +kernel
theorem names_good : ∀ v ∈ namesD, wordB LET v = true := by decide +kernel
theorem law_write_ok (rest : Sto) {ls cs : List Int} {a : Int} (hn : cs.length = ls.length) (hp : 0 < ls.length) (h0 : 0 ≤ a) (h1 : a ≤ 700000) {h : List Str} (hh : hostG h = true) : ∃ (w : Wr) (ls' : List Int), wrG w = true ∧ w.name ∈ namesD ∧ w.value ∈ valsD ∧ ls'.length = ls.length ∧
    rn__law_write [.r 3, .v (eSs h)] (stA rest ls cs a) = .ok (.v (eWr w)) (stA rest ls' cs (a + 6)) := by
  obtain ⟨r1, ls1, r10, r11, l1, e1⟩ := draw_ok rest (m := 4) hn hp h0 (by omega) (by decide) (by decide)
  obtain ⟨r2, ls2, r20, r21, l2, e2⟩ := draw_ok rest (ls := ls1) (cs := cs) (a := a + 1) (m := 6) (by omega) (by omega) (by omega) (by omega) (by decide) (by decide)
  obtain ⟨r3, ls3, r30, r31, l3, e3⟩ := draw_ok rest (ls := ls2) (cs := cs) (a := a + 1 + 1) (m := 6) (by omega) (by omega) (by omega) (by omega) (by decide) (by decide)
  obtain ⟨p, ls4, hpd, l4, e4⟩ := law_path_ok rest (ls := ls3) (cs := cs) (a := a + 1 + 1 + 1) (by omega) (by omega) (by omega) (by omega)
  obtain ⟨r5, ls5, r50, r51, l5, e5⟩ := draw_ok rest (ls := ls4) (cs := cs) (a := a + 1 + 1 + 1 + 1) (m := 5) (by omega) (by omega) (by omega) (by omega) (by decide) (by decide)
  obtain ⟨r6, ls6, r60, r61, l6, e6⟩ := draw_ok rest (ls := ls5) (cs := cs) (a := a + 1 + 1 + 1 + 1 + 1) (m := 6) (by omega) (by omega) (by omega) (by omega) (by decide) (by decide)
  rw [show a + 1 + 1 + 1 + 1 + 1 + 1 = a + 6 by omega] at e6
  have pg := pathsD_good p hpd
  have hl : 2 ≤ h.length := by simp only [hostG, Bool.and_eq_true, decide_eq_true_eq] at hh; exact hh.1.2
  have hl5 : h.length ≤ 5 := by simp only [hostG, Bool.and_eq_true, decide_eq_true_eq] at hh; exact hh.2
  -- the parts
  obtain ⟨n, nm, ne⟩ : ∃ n : Str, n ∈ namesD ∧ ∀ st : Sto, ix2 st (.v (.lst [.str "id", .str "id", .str "id", .str "k"])) (.v (.int r1)) = some (.str n) := by
    rcases few4 r10 r11 with rfl | rfl | rfl | rfl
    · exact ⟨"id", by simp [namesD], fun st => by kernel_rfl⟩
    · exact ⟨"id", by simp [namesD], fun st => by kernel_rfl⟩
    · exact ⟨"id", by simp [namesD], fun st => by kernel_rfl⟩
    · exact ⟨"k", by simp [namesD], fun st => by kernel_rfl⟩
  obtain ⟨v, vm, ve⟩ : ∃ v : Option Str, v ∈ valsD ∧ ∀ st : Sto, ix2 st (.v (.lst [.str "u", .str "v", .str "u", .non, .str "w1", .non])) (.v (.int r2)) = some (eO .str v) := by
    rcases few6 r20 r21 with rfl | rfl | rfl | rfl | rfl | rfl
    · exact ⟨some "u", by simp [valsD], fun st => by kernel_rfl⟩
    · exact ⟨some "v", by simp [valsD], fun st => by kernel_rfl⟩
    · exact ⟨some "u", by simp [valsD], fun st => by kernel_rfl⟩
    · exact ⟨none, by simp [valsD], fun st => by kernel_rfl⟩
    · exact ⟨some "w1", by simp [valsD], fun st => by kernel_rfl⟩
    · exact ⟨none, by simp [valsD], fun st => by kernel_rfl⟩
  have h2 : hostG (h.drop (h.length - 2)) = true := host_suf hh (by omega) hl
  obtain ⟨c, cg, ce⟩ : ∃ c : List Str, hostG c = true ∧ ∀ (env : Jv.Env) (st : Sto), env[1]? = some (some (.v (eSs h))) → (eIf (tVal (eBin gtD (eBlt lenA (aCons (eVar 1) aNil)) (eCon (.int 2)))) (eSlc (eVar 1) (pSo (eCon (.int 1))) pNo) (eVar 1)) env st = .ok (.v (eSs c)) st := by
    by_cases hc : 2 < h.length
    · refine ⟨h.drop 1, ?_, fun env st he => ?_⟩
      · have := host_suf hh (n := h.length - 1) (by omega) (by omega)
        rwa [show h.length - (h.length - 1) = 1 by omega] at this
      · have g := gt_ok (i := (h.length : Int)) (j := 2) st
        have s1 : slcD st (.v (eSs h)) (some 1) none = some (eSs (h.drop 1)) := by rw [slc_ss, show (1 : Int) = ((1 : Nat) : Int) from rfl, cut_from]
        have g2 : decide ((2 : Int) < (h.length : Int)) = true := decide_eq_true (by omega)
        rw [g2] at g
        simp [runS, Jv.envOf, fin, noX, sSeq, sAsg, sIf, sPar, sSet, sRet, sNil, sExpr, sNo, tVal, bOr, bNot, bAnd, bYes, eAnd, eOr, eNot, eIf, eBin, eCall, eTup, eCon, eVar, eBlt, eLst, eNeg, eChain, aCons, aNil, aLim, itK, itemsK, gTp, gNm, gsCons, gsNil, allV, ofOp, R.thenS, R.bind, List.replicate, he, len_ss, g, eSlc, pSo, pNo, s1]
    · refine ⟨h, hh, fun env st he => ?_⟩
      have g := gt_ok (i := (h.length : Int)) (j := 2) st
      have g2 : decide ((2 : Int) < (h.length : Int)) = false := decide_eq_false (by omega)
      rw [g2] at g
      simp [runS, Jv.envOf, fin, noX, sSeq, sAsg, sIf, sPar, sSet, sRet, sNil, sExpr, sNo, tVal, bOr, bNot, bAnd, bYes, eAnd, eOr, eNot, eIf, eBin, eCall, eTup, eCon, eVar, eBlt, eLst, eNeg, eChain, aCons, aNil, aLim, itK, itemsK, gTp, gNm, gsCons, gsNil, allV, ofOp, R.thenS, R.bind, List.replicate, he, len_ss, g]
  obtain ⟨d, dg, de⟩ : ∃ d : Option (List Str), optG hostG d = true ∧ ∀ st : Sto, ix2 st (.v (.lst [.non, eSs (h.drop (h.length - 2)), eSs h, .non, eSs c, eSs ["b", "c"]])) (.v (.int r3)) = some (eO eSs d) := by
    rcases few6 r30 r31 with rfl | rfl | rfl | rfl | rfl | rfl
    · exact ⟨none, rfl, fun st => by kernel_rfl⟩
    · exact ⟨some (h.drop (h.length - 2)), h2, fun st => by kernel_rfl⟩
    · exact ⟨some h, hh, fun st => by kernel_rfl⟩
    · exact ⟨none, rfl, fun st => by kernel_rfl⟩
    · exact ⟨some c, cg, fun st => by kernel_rfl⟩
    · exact ⟨some ["b", "c"], by decide +kernel, fun st => by kernel_rfl⟩
  obtain ⟨f, fg, fe⟩ : ∃ f : Option (List Str), optG pathG f = true ∧ ∀ st : Sto, ix2 st (.v (.lst [.non, eSs [], .non, eSs ["p"], eSs p])) (.v (.int r5)) = some (eO eSs f) := by
    rcases few5 r50 r51 with rfl | rfl | rfl | rfl | rfl
    · exact ⟨none, rfl, fun st => by kernel_rfl⟩
    · exact ⟨some [], by decide +kernel, fun st => by kernel_rfl⟩
    · exact ⟨none, rfl, fun st => by kernel_rfl⟩
    · exact ⟨some ["p"], by decide +kernel, fun st => by kernel_rfl⟩
    · exact ⟨some p, pg, fun st => by kernel_rfl⟩
  refine ⟨⟨n, v, d, f, decide (r6 = 0)⟩, ls6, ?_, nm, vm, by omega, ?_⟩
  · simp only [wrG, Bool.and_eq_true]
    exact ⟨⟨⟨names_good n nm, vals_good v vm⟩, dg⟩, fg⟩
  · have s2 : ∀ st, slcD st (.v (eSs h)) (some (-2)) none = some (eSs (h.drop (h.length - 2))) := fun st => by rw [slc_ss, show (-2 : Int) = -((2 : Nat) : Int) from rfl, cut_tail h (by decide)]
    have q := eqD_int (stA rest ls6 cs (a + 6)) r6 0
    have tk := fun ls' a' => takeA rest ls ls' cs a a'
    have ebc : (Jv.D.tup [.str "b", .str "c"]) = eSs ["b", "c"] := rfl
    have ep : (Jv.D.tup [.str "p"]) = eSs ["p"] := rfl
    have e0 : (Jv.D.tup []) = eSs [] := rfl
    unfold rn__law_write
    have dn : dn__law_write = sSeq (sSet 2 (eBin ix2 (eLst (aLim (aCons (eCon (.str "id")) (aCons (eCon (.str "id")) (aCons (eCon (.str "id")) (aCons (eCon (.str "k")) aNil)))))) (eCall rn__law_draw (aCons (eVar 0) (aCons (eCon (.int 4)) aNil))))) (sSeq (sSet 3 (eBin ix2 (eLst (aLim (aCons (eCon (.str "u")) (aCons (eCon (.str "v")) (aCons (eCon (.str "u")) (aCons (eCon .non) (aCons (eCon (.str "w1")) (aCons (eCon .non) aNil)))))))) (eCall rn__law_draw (aCons (eVar 0) (aCons (eCon (.int 6)) aNil))))) (sSeq (sSet 4 (eBin ix2 (eLst (aLim (aCons (eCon .non) (aCons (eSlc (eVar 1) (pSo (eNeg (eCon (.int 2)))) pNo) (aCons (eVar 1) (aCons (eCon .non) (aCons (eIf (tVal (eBin gtD (eBlt lenA (aCons (eVar 1) aNil)) (eCon (.int 2)))) (eSlc (eVar 1) (pSo (eCon (.int 1))) pNo) (eVar 1)) (aCons (eTup (aCons (eCon (.str "b")) (aCons (eCon (.str "c")) aNil))) aNil)))))))) (eCall rn__law_draw (aCons (eVar 0) (aCons (eCon (.int 6)) aNil)))))
      (sSeq (sSet 5 (eBin ix2 (eLst (aLim (aCons (eCon .non) (aCons (eTup aNil) (aCons (eCon .non) (aCons (eTup (aCons (eCon (.str "p")) aNil)) (aCons (eCall rn__law_path (aCons (eVar 0) aNil)) aNil))))))) (eCall rn__law_draw (aCons (eVar 0) (aCons (eCon (.int 5)) aNil))))) (sRet (eTup (aCons (eVar 2) (aCons (eVar 3) (aCons (eVar 4) (aCons (eVar 5) (aCons (eBin eqD (eCall rn__law_draw (aCons (eVar 0) (aCons (eCon (.int 6)) aNil))) (eCon (.int 0))) aNil)))))))))) := rfl
    rw [dn]
    generalize (eIf (tVal (eBin gtD (eBlt lenA (aCons (eVar 1) aNil)) (eCon (.int 2)))) (eSlc (eVar 1) (pSo (eCon (.int 1))) pNo) (eVar 1)) = C at ce ⊢
    have c1 := ce [some (.r 3), some (.v (eSs h)), some (.v (.str n)), some (.v (eO .str v)), none, none] (stA rest ls2 cs (a + 1 + 1)) rfl
    simp [runS, Jv.envOf, fin, noX, sSeq, sAsg, sIf, sPar, sSet, sRet, sNil, sExpr, sNo, tVal, bOr, bNot, bAnd, bYes, eAnd, eOr, eNot, eIf, eBin, eCall, eTup, eCon, eVar, eBlt, eLst, eNeg, eChain, aCons, aNil, aLim, itK, itemsK, gTp, gNm, gsCons, gsNil, allV, ofOp, R.thenS, R.bind, List.replicate, e1, ne, e2, ve, eSlc, pSo, pNo, s2, c1, ebc, e3, de, ep, e0, e4, e5, fe, e6, q, tk, eWr]
/-- a drawn write, a drawn page -/
def wrD (w : Wr) : Prop := wrG w = true ∧ w.name ∈ namesD ∧ w.value ∈ valsD
def pgD (p : Pg) : Prop := pgG p = true ∧ p.adr.host ∈ hostsD ∧ p.adr.path ∈ pathsD ∧ (∀ w ∈ p.ws, wrD w) ∧ p.ws.length ≤ 3
theorem law_page_ok (rest : Sto) {ls cs : List Int} {a : Int} (hn : cs.length = ls.length) (hp : 0 < ls.length) (h0 : 0 ≤ a) (h1 : a ≤ 600000) : ∃ (p : Pg) (ls' : List Int) (a' : Int), pgD p ∧ ls'.length = ls.length ∧ a ≤ a' ∧ a' ≤ a + 30 ∧
    rn__law_page [.r 3] (stA rest ls cs a) = .ok (.v (ePg p)) (stA rest ls' cs a') := by
  obtain ⟨h, ls1, hh, l1, e1⟩ := law_host_ok rest hn hp h0 (by omega)
  obtain ⟨r2, ls2, r20, r21, l2, e2⟩ := draw_ok rest (ls := ls1) (cs := cs) (a := a + 1) (m := 3) (by omega) (by omega) (by omega) (by omega) (by decide) (by decide)
  have hg := hostsD_good h hh
  obtain ⟨ws, st3, lw, gw, ew, ls3, l3, rfl⟩ := lcGo_map (α := Nat) (g := gNm 3) (e := eCall rn__law_write (aCons (eVar 0) (aCons (eVar 1) aNil))) (env := [some (.r 3), some (.v (eSs h)), none, none]) (fun i => .int ((0 + i : Nat) : Int)) eWr
    (fun n st => ∃ ls3, ls3.length = ls.length ∧ st = stA rest ls3 cs (a + 1 + 1 + 6 * n)) wrD 3 (List.range (1 + r2).toNat) 0 (stA rest ls2 cs (a + 1 + 1)) [] (by simp; omega) ⟨ls2, by omega, by simp⟩ (by
      rintro n x st hx hn3 ⟨ls3, l3, rfl⟩
      obtain ⟨w, ls4, g1, g2, g3, l4, e4⟩ := law_write_ok rest (ls := ls3) (cs := cs) (a := a + 1 + 1 + 6 * n) (by omega) (by omega) (by omega) (by omega) hg
      rw [show a + 1 + 1 + 6 * (n : Int) + 6 = a + 1 + 1 + 6 * ((n + 1 : Nat) : Int) by omega] at e4
      refine ⟨_, rfl, w, stA rest ls4 cs (a + 1 + 1 + 6 * ((n + 1 : Nat) : Int)), ⟨g1, g2, g3⟩, ?_, ls4, by omega, rfl⟩
      simp [runS, Jv.envOf, fin, noX, sSeq, sAsg, sIf, sPar, sSet, sRet, sNil, sExpr, sNo, tVal, bOr, bNot, bAnd, bYes, eAnd, eOr, eNot, eIf, eBin, eCall, eTup, eCon, eVar, eBlt, eLst, eNeg, eChain, aCons, aNil, aLim, itK, itemsK, gTp, gNm, gsCons, gsNil, allV, ofOp, R.thenS, R.bind, List.replicate, e4])
  rw [List.length_range] at lw ew
  obtain ⟨p, ls4, hpd, l4, e4⟩ := law_path_ok rest (ls := ls3) (cs := cs) (a := a + 1 + 1 + 6 * ((0 + (List.range (1 + r2).toNat).length : Nat) : Int)) (by omega) (by omega) (by omega) (by simp; omega)
  obtain ⟨r5, ls5, r50, r51, l5, e5⟩ := draw_ok rest (ls := ls4) (cs := cs) (a := a + 1 + 1 + 6 * ((0 + (List.range (1 + r2).toNat).length : Nat) : Int) + 1) (m := 4) (by omega) (by omega) (by omega) (by simp; omega) (by decide) (by decide)
  rw [List.length_range] at e4 e5
  have pg := pathsD_good p hpd
  have rg : ranges [.v (.int (1 + r2))] (stA rest ls2 cs (a + 1 + 1)) = .ok (rangeL 0 (1 + r2).toNat) (stA rest ls2 cs (a + 1 + 1)) := by
    simp only [ranges]
    rw [if_pos (by omega)]
  have ll : (rangeL 0 (1 + r2).toNat).length ≤ 100000 := by simp [rangeL]; omega
  have ew2 : lcGo (gNm 3) bYes (eCall rn__law_write (aCons (eVar 0) (aCons (eVar 1) aNil))) [some (.r 3), some (.v (eSs h)), none, none] (rangeL 0 (1 + r2).toNat) (stA rest ls2 cs (a + 1 + 1)) [] = _ := ew
  refine ⟨⟨⟨h, p, decide (0 < r5)⟩, ws⟩, ls5, a + 1 + 1 + 6 * ((0 + (1 + r2).toNat : Nat) : Int) + 1 + 1, ⟨?_, hh, hpd, gw, by simp only [lw]; omega⟩, by omega, by omega, by omega, ?_⟩
  · simp only [pgG, adrG, Bool.and_eq_true, decide_eq_true_eq, List.all_eq_true]
    exact ⟨⟨⟨hg, pg⟩, by omega⟩, fun w hw => (gw w hw).1⟩
  · have g := gt_ok (i := r5) (j := 0) (stA rest ls5 cs (a + 1 + 1 + 6 * ((0 + (1 + r2).toNat : Nat) : Int) + 1 + 1))
    have tk := fun ls' a' => takeA rest ls ls' cs a a'
    have tb : ∀ st : Sto, tupleB st [.v (.lst (ws.map eWr))] = some (.tup (ws.map eWr)) := fun st => rfl
    generalize a + 1 + 1 + 6 * ((0 + (1 + r2).toNat : Nat) : Int) = a6 at *
    simp [runS, Jv.envOf, fin, noX, sSeq, sAsg, sIf, sPar, sSet, sRet, sNil, sExpr, sNo, tVal, bOr, bNot, bAnd, bYes, eAnd, eOr, eNot, eIf, eBin, eCall, eTup, eCon, eVar, eBlt, eLst, eNeg, eChain, aCons, aNil, aLim, itK, itemsK, gTp, gNm, gsCons, gsNil, allV, ofOp, R.thenS, R.bind, List.replicate, rn__law_page, dn__law_page, e1, e2, add_ok, itRange, rg, lLc, ll, wipeE, ew2, e4, e5, g, tb, tk, ePg, eAdr]
def lsB : SD := sSeq (sSet 4 (eCall rn__law_page (aCons (eVar 0) aNil))) (sIf (tVal (eBin ltD (eBlt lenA (aCons (eCall rn__law_keys (aCons (eLst (lCat (eVar 2) (eLst (aLim (aCons (eVar 4) aNil))))) aNil)) aNil)) (eCon (.int 7)))) (sExpr (eApp (eVar 2) (aCons (eVar 4) aNil))) sNil)
theorem dn__law_site_eq : dn__law_site = sSeq (sSet 2 (eNew (aLim aNil))) (sSeq (sFor (itRange (aCons (eBin addD (eCon (.int 1)) (eCall rn__law_draw (aCons (eVar 0) (aCons (eVar 1) aNil)))) aNil)) (gNm 3) lsB) (sRet (eIf (tVal (eBin neD (eVar 2) (eLst (aLim aNil)))) (eBlt tupleB (aCons (eVar 2) aNil)) (eTup (aCons (eTup (aCons (eTup (aCons (eTup (aCons (eCon (.str "b")) (aCons (eCon (.str "c")) aNil))) (aCons (eTup aNil) (aCons (eCon (.bl true)) aNil)))) (aCons (eTup aNil) aNil))) aNil))))) := rfl
theorem stA_get (rest : Sto) (X : Ob) (ls ls0 cs : List Int) (a a0 : Int) : (stA (rest ++ [X]) ls cs a)[(stA rest ls0 cs a0).length]? = some X := by simp [stA]
theorem stA_set (rest : Sto) (X Y : Ob) (ls ls0 cs : List Int) (a a0 : Int) : (stA (rest ++ [X]) ls cs a).set (stA rest ls0 cs a0).length Y = stA (rest ++ [Y]) ls cs a := by simp [stA]
theorem stA_app (rest : Sto) (X : Ob) (ls cs : List Int) (a : Int) : stA rest ls cs a ++ [X] = stA (rest ++ [X]) ls cs a := by simp [stA]
theorem stA_take (rest more : Sto) (ls ls0 cs : List Int) (a a0 : Int) : List.take (stA rest ls0 cs a0).length (stA (rest ++ more) ls cs a) = stA rest ls cs a := by simp [stA]
theorem pgD_good {s : List Pg} (h : ∀ p ∈ s, pgD p) : ∀ p ∈ s, pgG p = true := fun p hp => (h p hp).1
theorem ls_one (rest : Sto) {ls ls0 cs : List Int} {a a0 : Int} (hn : cs.length = ls.length) (hp : 0 < ls.length) (h0 : 0 ≤ a) (h1 : a ≤ 500000) {ps : List Pg} (hps : ∀ p ∈ ps, pgD p) (hl : ps.length ≤ 10) (hk : (keysRaw ps).length ≤ 6) (m x y : Option W) :
    ∃ (ps' : List Pg) (ls' : List Int) (a' : Int) (z : Option W), (∀ p ∈ ps', pgD p) ∧ ps'.length ≤ ps.length + 1 ∧ (keysRaw ps').length ≤ 6 ∧ ls'.length = ls.length ∧ a ≤ a' ∧ a' ≤ a + 30 ∧
      lsB [some (.r 3), m, some (.r (stA rest ls0 cs a0).length), x, y] (stA (rest ++ [.lst (ps.map ePg)]) ls cs a) = .nx [some (.r 3), m, some (.r (stA rest ls0 cs a0).length), x, z] (stA (rest ++ [.lst (ps'.map ePg)]) ls' cs a') := by
  obtain ⟨p, ls', a', gp, l', b1, b2, e⟩ := law_page_ok (rest ++ [.lst (ps.map ePg)]) hn hp h0 (by omega)
  have gps : ∀ q ∈ ps ++ [p], pgD q := fun q hq => (List.mem_append.mp hq).elim (hps q) fun h => by rw [List.mem_singleton.mp h]; exact gp
  have gt := stA_get rest (.lst (ps.map ePg)) ls' ls0 cs a' a0
  have stt := fun Y => stA_set rest (.lst (ps.map ePg)) Y ls' ls0 cs a' a0
  have as : asLst (stA (rest ++ [.lst (ps.map ePg)]) ls' cs a') (.r (stA rest ls0 cs a0).length) = some (ps.map ePg) := by simp only [asLst, gt]
  have as2 : asLst (stA (rest ++ [.lst (ps.map ePg)]) ls' cs a') (.v (.lst [ePg p])) = some [ePg p] := rfl
  have isl : isLst (stA (rest ++ [.lst (ps.map ePg)]) ls' cs a') (.r (stA rest ls0 cs a0).length) = true := by simp only [isLst, gt]
  have q := law_keys_ok (s := ps ++ [p]) (pgD_good gps) (by simp; omega) (w := .v (.lst ((ps ++ [p]).map ePg))) (stA (rest ++ [.lst (ps.map ePg)]) ls' cs a') (fun st' => by simp [itemsK, items])
  rw [List.map_append, List.map_singleton] at q
  have lk : (keysS (ps ++ [p])).length = (keysRaw (ps ++ [p])).length := (isort_perm _ _).length_eq
  have ln : lenA (stA (rest ++ [.lst (ps.map ePg)]) ls' cs a') [.v (.lst ((keysS (ps ++ [p])).map eKy))] = some (.int (keysRaw (ps ++ [p])).length) := by
    simp [lenA, lenB, asLst, lk]
  have lt : ltD (stA (rest ++ [.lst (ps.map ePg)]) ls' cs a') (.v (.int (keysRaw (ps ++ [p])).length)) (.v (.int 7)) = some (.bl (decide (((keysRaw (ps ++ [p])).length : Int) < 7))) := rfl
  have c1 : ps.length ≤ 99999 := by omega
  have c2 : (ps.map ePg).length < 16000000 := by simp; omega
  have sg := stA_set rest (.lst (ps.map ePg)) (.lst (ps.map ePg ++ [ePg p])) ls' ls0 cs a' a0
  generalize hK : (stA rest ls0 cs a0).length = K at *
  by_cases hc : (keysRaw (ps ++ [p])).length ≤ 6
  · have d : decide (((keysRaw (ps ++ [p])).length : Int) < 7) = true := decide_eq_true (by omega)
    rw [d] at lt
    have ap : appG (.r K) [.v (ePg p)] (stA (rest ++ [.lst (ps.map ePg)]) ls' cs a') = .ok (.v .non) (stA (rest ++ [.lst (ps.map ePg ++ [ePg p])]) ls' cs a') := by
      simp only [appG, gt]
      rw [if_pos c2, sg]
    refine ⟨ps ++ [p], ls', a', some (.v (ePg p)), gps, by simp, hc, by omega, b1, b2, ?_⟩
    rw [List.map_append, List.map_singleton]
    simp [runS, Jv.envOf, fin, noX, sSeq, sAsg, sIf, sPar, sSet, sRet, sNil, sExpr, sNo, tVal, bOr, bNot, bAnd, bYes, eAnd, eOr, eNot, eIf, eBin, eCall, eTup, eCon, eVar, eBlt, eLst, eNeg, eChain, aCons, aNil, aLim, itK, itemsK, gTp, gNm, gsCons, gsNil, allV, ofOp, R.thenS, R.bind, List.replicate, lsB, e, lCat, as, as2, c1, q, ln, lt, eApp, isl, ap]
  · have d : decide (((keysRaw (ps ++ [p])).length : Int) < 7) = false := decide_eq_false (by omega)
    rw [d] at lt
    refine ⟨ps, ls', a', some (.v (ePg p)), hps, by omega, hk, by omega, b1, b2, ?_⟩
    simp [runS, Jv.envOf, fin, noX, sSeq, sAsg, sIf, sPar, sSet, sRet, sNil, sExpr, sNo, tVal, bOr, bNot, bAnd, bYes, eAnd, eOr, eNot, eIf, eBin, eCall, eTup, eCon, eVar, eBlt, eLst, eNeg, eChain, aCons, aNil, aLim, itK, itemsK, gTp, gNm, gsCons, gsNil, allV, ofOp, R.thenS, R.bind, List.replicate, lsB, e, lCat, as, as2, c1, q, ln, lt]
def siteD (s : List Pg) : Prop := siteG s = true ∧ (keysRaw s).length ≤ 6 ∧ (∀ p ∈ s, ∀ w ∈ p.ws, wrD w) ∧ (∀ p ∈ s, p.adr.host ∈ hostsD ∧ p.adr.path ∈ pathsD)
theorem neD_pgs (st : Sto) (K : Nat) {ps : List Pg} (h : ∀ p ∈ ps, pgG p = true) (hg : st[K]? = some (.lst (ps.map ePg))) : neD st (.r K) (.v (.lst [])) = some (.bl (!ps.isEmpty)) := by
  have h1 := (sh_pgs h).1
  have h2 : SeqAt.shaped (D.lst []).py = true := by kernel_rfl
  simp only [neD, deref, hg, h1, h2, Bool.and_self, if_true]
  cases ps <;> simp [D.py, D.pyL, PyData.eqv, PyData.eqvAll]
theorem law_site_ok (rest : Sto) {ls cs : List Int} {a : Int} (hn : cs.length = ls.length) (hp : 0 < ls.length) (h0 : 0 ≤ a) (h1 : a ≤ 400000) {m : Nat} (hm : 1 ≤ m) (hm5 : m ≤ 5) : ∃ (s : List Pg) (ls' : List Int) (a' : Int), siteD s ∧ s.length ≤ m ∧ ls'.length = ls.length ∧ a ≤ a' ∧ a' ≤ a + 160 ∧
    rn__law_site [.r 3, .v (.int m)] (stA rest ls cs a) = .ok (.v (eSite s)) (stA rest ls' cs a') := by
  obtain ⟨r, ls1, r0, r1, l1, e1⟩ := draw_ok (rest ++ [.lst []]) (ls := ls) (cs := cs) (a := a) (m := (m : Int)) (by omega) (by omega) (by omega) (by omega) (by omega) (by omega)
  have rg : ranges [.v (.int (1 + r))] (stA (rest ++ [.lst []]) ls1 cs (a + 1)) = .ok (rangeL 0 (1 + r).toNat) (stA (rest ++ [.lst []]) ls1 cs (a + 1)) := by
    simp only [ranges]
    rw [if_pos (by omega)]
  obtain ⟨env2, st2, e2, ps, ls2, a2, x, y, g1, g2, g3, g4, g5, g6, rfl, rfl⟩ := forGo_pre (α := Nat) (g := gNm 3) (body := lsB) (fun i => .int ((0 + i : Nat) : Int)) (fun ys env st' => ∃ (ps : List Pg) (ls2 : List Int) (a2 : Int) (x y : Option W), (∀ p ∈ ps, pgD p) ∧ ps.length ≤ ys.length ∧ (keysRaw ps).length ≤ 6 ∧ ls2.length = ls.length ∧ a ≤ a2 ∧ a2 ≤ a + 1 + 30 * ys.length ∧
      env = [some (.r 3), some (.v (.int m)), some (.r (stA rest ls cs a).length), x, y] ∧ st' = stA (rest ++ [.lst (ps.map ePg)]) ls2 cs a2) (xs := List.range (1 + r).toNat) (env := [some (.r 3), some (.v (.int m)), some (.r (stA rest ls cs a).length), none, none]) (st := stA (rest ++ [.lst []]) ls1 cs (a + 1)) ⟨[], ls1, a + 1, none, none, by simp, by simp, by simp [keysRaw], by omega, by omega, by simp, rfl, rfl⟩ (by
    rintro ys i zs env st' e ⟨ps, ls2, a2, x, y, g1, g2, g3, g4, g5, g6, rfl, rfl⟩
    have hlen : ys.length + 1 ≤ 5 := by
      have := congrArg List.length e
      simp only [List.length_range, List.length_append, List.length_cons] at this
      omega
    obtain ⟨ps', ls', a', z, k1, k2, k3, k4, k5, k6, k7⟩ := ls_one rest (ls := ls2) (ls0 := ls) (cs := cs) (a := a2) (a0 := a) (by omega) (by omega) (by omega) (by omega) g1 (by omega) g3 (some (.v (.int m))) (some (.v (.int ((0 + i : Nat) : Int)))) y
    refine ⟨_, rfl, _, _, .inl k7, ps', ls', a', _, z, k1, by rw [List.length_append, List.length_singleton]; omega, k3, by omega, by omega, by rw [List.length_append, List.length_singleton]; omega, rfl, rfl⟩)
  rw [List.length_range] at g2 g6
  have e2' : forGo (gNm 3) lsB (rangeL 0 (1 + r).toNat) [some (.r 3), some (.v (.int m)), some (.r (stA rest ls cs a).length), none, none] (stA (rest ++ [.lst []]) ls1 cs (a + 1)) = _ := e2
  have ge := stA_get rest (.lst (ps.map ePg)) ls2 ls cs a2 a
  have ne := neD_pgs _ _ (pgD_good g1) ge
  have tk := stA_take rest [.lst (ps.map ePg)] ls2 ls cs a2 a
  have ap := stA_app rest (.lst []) ls cs a
  have tb : tupleB (stA (rest ++ [.lst (ps.map ePg)]) ls2 cs a2) [.r (stA rest ls cs a).length] = some (.tup (ps.map ePg)) := by
    simp only [tupleB, asLst, ge, Option.map_some]
  unfold rn__law_site
  rw [dn__law_site_eq]
  generalize hK : (stA rest ls cs a).length = K at *
  cases hps : ps with
  | nil =>
    subst hps
    refine ⟨[⟨⟨["b", "c"], [], true⟩, []⟩], ls2, a2, ⟨by decide +kernel, by decide +kernel, by simp, by decide +kernel⟩, by simp; omega, by omega, by omega, by omega, ?_⟩
    have ne' : neD (stA (rest ++ [.lst []]) ls2 cs a2) (.r K) (.v (.lst [])) = some (.bl false) := ne
    have es : eSite [⟨⟨["b", "c"], [], true⟩, []⟩] = .tup [.tup [.tup [.tup [.str "b", .str "c"], .tup [], .bl true], .tup []]] := rfl
    simp only [List.map_nil] at e2' tk ne'
    rw [es]
    simp [runS, Jv.envOf, fin, noX, sSeq, sAsg, sIf, sPar, sSet, sRet, sNil, sExpr, sNo, tVal, bOr, bNot, bAnd, bYes, eAnd, eOr, eNot, eIf, eBin, eCall, eTup, eCon, eVar, eBlt, eLst, eNeg, eChain, aCons, aNil, aLim, itK, itemsK, gTp, gNm, gsCons, gsNil, allV, ofOp, R.thenS, R.bind, List.replicate, eNew, hK, ap, e1, add_ok, itRange, rg, sFor, e2', ne', tk]
  | cons p0 pr =>
    refine ⟨ps, ls2, a2, ⟨?_, g3, fun p hp w hw => (g1 p hp).2.2.2.1 w hw, fun p hp => ⟨(g1 p hp).2.1, (g1 p hp).2.2.1⟩⟩, by omega, by omega, by omega, by omega, ?_⟩
    · simp only [siteG, Bool.and_eq_true, decide_eq_true_eq, List.all_eq_true]
      exact ⟨⟨by rw [hps]; simp, by omega⟩, pgD_good g1⟩
    · have ne' : neD (stA (rest ++ [.lst (ps.map ePg)]) ls2 cs a2) (.r K) (.v (.lst [])) = some (.bl true) := by rw [ne, hps]; rfl
      simp [runS, Jv.envOf, fin, noX, sSeq, sAsg, sIf, sPar, sSet, sRet, sNil, sExpr, sNo, tVal, bOr, bNot, bAnd, bYes, eAnd, eOr, eNot, eIf, eBin, eCall, eTup, eCon, eVar, eBlt, eLst, eNeg, eChain, aCons, aNil, aLim, itK, itemsK, gTp, gNm, gsCons, gsNil, allV, ofOp, R.thenS, R.bind, List.replicate, eNew, hK, ap, e1, add_ok, itRange, rg, sFor, e2', ne', tb, tk, eSite]
end K37
end
section
/-! the program's keys of a site -/
namespace K37
open PySem Jv Rf
theorem is_within_ok {h d : List Str} (hh : strsOk h = true) (hd : strsOk d = true) (st : Sto) : rn_is_within [.v (eSs h), .v (eSs d)] st = .ok (.v (.bl (isWithin h d))) st := by
  have tk : List.take st.length st = st := List.take_length
  have l1 := len_ss st h
  have l2 := len_ss st d
  by_cases c : d.length ≤ h.length
  · have e1 : leD st (.v (.int d.length)) (.v (.int h.length)) = some (.bl true) := by
      simp only [onV, int2, if_true]
      rw [decide_eq_true (by omega : (d.length : Int) ≤ (h.length : Int))]
    have e2 : subD st (.v (.int h.length)) (.v (.int d.length)) = some (.int ((h.length - d.length : Nat) : Int)) := by
      simp only [onV, int2, if_true]
      congr 2
      omega
    have e3 : slcD st (.v (eSs h)) (some ((h.length - d.length : Nat) : Int)) none = some (eSs (h.drop (h.length - d.length))) := by rw [slc_ss, cut_from]
    have hdr : strsOk (h.drop (h.length - d.length)) = true := List.all_eq_true.mpr fun x hx => List.all_eq_true.mp hh x (List.drop_subset _ _ hx)
    have e4 := eqD_ss hdr hd st
    rw [tail_is] at e4
    simp [runS, Jv.envOf, fin, noX, sSeq, sAsg, sIf, sPar, sSet, sRet, sNil, sExpr, sNo, tVal, bOr, bNot, bAnd, bYes, eAnd, eOr, eNot, eIf, eBin, eCall, eTup, eCon, eVar, eBlt, eLst, eNeg, eChain, aCons, aNil, aLim, itK, itemsK, gTp, gNm, gsCons, gsNil, allV, ofOp, R.thenS, R.bind, List.replicate, rn_is_within, dn_is_within, l1, l2, e1, eSlc, pSo, pNo, e2, e3, e4, tk]
  · have e1 : leD st (.v (.int d.length)) (.v (.int h.length)) = some (.bl false) := by
      simp only [onV, int2, if_true]
      rw [decide_eq_false (by omega : ¬ (d.length : Int) ≤ (h.length : Int))]
    have e2 : isWithin h d = false := by
      unfold isWithin
      rw [Bool.eq_false_iff]
      intro z
      have := (List.isSuffixOf_iff_suffix.mp z).length_le
      omega
    simp [runS, Jv.envOf, fin, noX, sSeq, sAsg, sIf, sPar, sSet, sRet, sNil, sExpr, sNo, tVal, bOr, bNot, bAnd, bYes, eAnd, eOr, eNot, eIf, eBin, eCall, eTup, eCon, eVar, eBlt, eLst, eNeg, eChain, aCons, aNil, aLim, itK, itemsK, gTp, gNm, gsCons, gsNil, allV, ofOp, R.thenS, R.bind, List.replicate, rn_is_within, dn_is_within, l1, l2, e1, e2, tk]
theorem key_in_ok {a : Adr} {w : Wr} (ha : adrG a = true) (hw : wrG w = true) (st : Sto) : rn_key_in [.v (eAdr a), .v (eWr w)] st = .ok (.v (eO eKy (keyOf a w))) st := by
  obtain ⟨host, path, sec⟩ := a
  obtain ⟨name, value, dom, fol, gd⟩ := w
  simp only [adrG, wrG, Bool.and_eq_true] at ha hw
  obtain ⟨⟨⟨g1, g2⟩, g3⟩, g4⟩ := hw
  have tk : List.take st.length st = st := List.take_length
  have pd : slcD st (.v (eSs path)) none (some (-1)) = some (eSs path.dropLast) := by rw [slc_ss, cut_init]
  cases dom with
  | none =>
    cases fol <;> cases gd <;> cases sec <;>
      simp [runS, Jv.envOf, fin, noX, sSeq, sAsg, sIf, sPar, sSet, sRet, sNil, sExpr, sNo, tVal, bOr, bNot, bAnd, bYes, eAnd, eOr, eNot, eIf, eBin, eCall, eTup, eCon, eVar, eBlt, eLst, eNeg, eChain, aCons, aNil, aLim, itK, itemsK, gTp, gNm, gsCons, gsNil, allV, ofOp, R.thenS, R.bind, List.replicate, rn_key_in, dn_key_in, eWr, eAdr, eO, keyOf, eKy, isNot_non, is_non, isNot_ss, is_ss, eSlc, pNo, pSo, pd, tk]
  | some d =>
    have n1 := is_within_ok (strsOk_host ha.1) (strsOk_host (h := d) g3) st
    cases hb : isWithin host d <;> rw [hb] at n1 <;> cases fol <;> cases gd <;> cases sec <;>
      simp [runS, Jv.envOf, fin, noX, sSeq, sAsg, sIf, sPar, sSet, sRet, sNil, sExpr, sNo, tVal, bOr, bNot, bAnd, bYes, eAnd, eOr, eNot, eIf, eBin, eCall, eTup, eCon, eVar, eBlt, eLst, eNeg, eChain, aCons, aNil, aLim, itK, itemsK, gTp, gNm, gsCons, gsNil, allV, ofOp, R.thenS, R.bind, List.replicate, rn_key_in, dn_key_in, eWr, eAdr, eO, keyOf, eKy, isNot_non, is_non, isNot_ss, is_ss, eSlc, pNo, pSo, pd, n1, hb, tk]
def tiB : SD := sSeq (sSet 3 (eCall rn_key_in (aCons (eBin ixD (eVar 0) (eCon (.int 0))) (aCons (eVar 2) aNil)))) (sIf (tVal (eBin isNotD (eVar 3) (eCon .non))) (sExpr (eApp (eVar 1) (aCons (eTup (aCons (eVar 3) (aCons (eBin ixD (eVar 2) (eCon (.int 1))) (aCons (eBin ixD (eVar 2) (eCon (.int 4))) aNil)))) aNil))) sNil)
theorem dn_taken_in_eq : dn_taken_in = sSeq (sSet 1 (eNew (aLim aNil))) (sSeq (sFor (itK (eBin ixD (eVar 0) (eCon (.int 1)))) (gNm 2) tiB) (sRet (eFrz (eVar 1)))) := rfl
theorem taken_in_ok {p : Pg} (h : pgG p = true) (st : Sto) : rn_taken_in [.v (ePg p)] st = .ok (.v (.lst ((takenOf p).map eTk))) st := by
  obtain ⟨g1, g2, g3⟩ := pg_of h
  have x0 : ∀ st' : Sto, ixD st' (.v (ePg p)) (.v (.int 0)) = some (eAdr p.adr) := fun st' => by simp [ePg, ixD, at0]
  have x1 : ∀ st' : Sto, ixD st' (.v (ePg p)) (.v (.int 1)) = some (.tup (p.ws.map eWr)) := fun st' => by simp [ePg, ixD, at1]
  have lp := forGo_pre (g := gNm 2) (body := tiB) eWr (fun ws env st' => (∃ a b, env = [some (.v (ePg p)), some (.r st.length), a, b]) ∧ st' = st ++ [.lst ((ws.filterMap fun w => (keyOf p.adr w).map fun k => ((k, w.value, w.gd) : Tk)).map eTk)]) (xs := p.ws) (env := [some (.v (ePg p)), some (.r st.length), none, none]) (st := st ++ [.lst []]) ⟨⟨_, _, rfl⟩, rfl⟩ (by
    rintro vs w us env st' e ⟨⟨a, b, rfl⟩, rfl⟩
    have hw : wrG w = true := g3 w (by rw [e]; simp)
    have hv : vs.length ≤ 5 := by have := congrArg List.length e; simp at this; omega
    have q := key_in_ok g1 hw (st ++ [.lst ((vs.filterMap fun w => (keyOf p.adr w).map fun k => ((k, w.value, w.gd) : Tk)).map eTk)])
    have w1 : ∀ st' : Sto, ixD st' (.v (eWr w)) (.v (.int 1)) = some (eO .str w.value) := fun st' => by simp [eWr, ixD, at1]
    have w4 : ∀ st' : Sto, ixD st' (.v (eWr w)) (.v (.int 4)) = some (.bl w.gd) := fun st' => by simp [eWr, ixD, at4]
    have hx0 := x0 (st ++ [.lst ((vs.filterMap fun w => (keyOf p.adr w).map fun k => ((k, w.value, w.gd) : Tk)).map eTk)])
    have ll := List.length_filterMap_le (fun w => (keyOf p.adr w).map fun k => ((k, w.value, w.gd) : Tk)) vs
    refine ⟨_, rfl, ?_⟩
    rw [List.filterMap_append, List.map_append]
    generalize (vs.filterMap fun w => (keyOf p.adr w).map fun k => ((k, w.value, w.gd) : Tk)) = L at *
    cases hk : keyOf p.adr w with
    | none =>
      rw [hk] at q
      simp only [eO] at q
      refine ⟨[some (.v (ePg p)), some (.r st.length), some (.v (eWr w)), some (.v .non)], st ++ [.lst (L.map eTk)], .inl ?_, ⟨_, _, rfl⟩, by simp [hk]⟩
      simp [runS, Jv.envOf, fin, noX, sSeq, sAsg, sIf, sPar, sSet, sRet, sNil, sExpr, sNo, tVal, bOr, bNot, bAnd, bYes, eAnd, eOr, eNot, eIf, eBin, eCall, eTup, eCon, eVar, eBlt, eLst, eNeg, eChain, aCons, aNil, aLim, itK, itemsK, gTp, gNm, gsCons, gsNil, allV, ofOp, R.thenS, R.bind, List.replicate, tiB, x0, q, isNot_non]
    | some k =>
      rw [hk] at q
      simp only [eO] at q
      refine ⟨[some (.v (ePg p)), some (.r st.length), some (.v (eWr w)), some (.v (eKy k))], st ++ [.lst (L.map eTk ++ [eTk (k, w.value, w.gd)])], .inl ?_, ⟨_, _, rfl⟩, by simp [hk]⟩
      have gt : (st ++ [Ob.lst (L.map eTk)])[st.length]? = some (.lst (L.map eTk)) := by simp
      have isl : isLst (st ++ [.lst (L.map eTk)]) (.r st.length) = true := by simp only [isLst, gt]
      have ap : appG (.r st.length) [.v (eTk (k, w.value, w.gd))] (st ++ [.lst (L.map eTk)]) = .ok (.v .non) (st ++ [.lst (L.map eTk ++ [eTk (k, w.value, w.gd)])]) := by
        simp only [appG, gt]
        rw [if_pos (by rw [List.length_map]; omega)]
        simp
      simp only [eTk] at ap ⊢
      simp [runS, Jv.envOf, fin, noX, sSeq, sAsg, sIf, sPar, sSet, sRet, sNil, sExpr, sNo, tVal, bOr, bNot, bAnd, bYes, eAnd, eOr, eNot, eIf, eBin, eCall, eTup, eCon, eVar, eBlt, eLst, eNeg, eChain, aCons, aNil, aLim, itK, itemsK, gTp, gNm, gsCons, gsNil, allV, ofOp, R.thenS, R.bind, List.replicate, tiB, x0, q, isNot_ky, w1, w4, eApp, isl, ap])
  obtain ⟨env2, st2, e2, ⟨a, b, rfl⟩, rfl⟩ := lp
  have et : (p.ws.filterMap fun w => (keyOf p.adr w).map fun k => ((k, w.value, w.gd) : Tk)) = takenOf p := rfl
  rw [et] at e2
  have gt : (st ++ [Ob.lst ((takenOf p).map eTk)])[st.length]? = some (.lst ((takenOf p).map eTk)) := by simp
  have fz : frz (.r st.length) (st ++ [.lst ((takenOf p).map eTk)]) = .ok (.v (.lst ((takenOf p).map eTk))) (st ++ [.dead]) := by
    simp only [frz, gt]
    simp
  have tk : List.take st.length (st ++ [Ob.dead]) = st := by simp
  unfold rn_taken_in
  rw [dn_taken_in_eq]
  simp [runS, Jv.envOf, fin, noX, sSeq, sAsg, sIf, sPar, sSet, sRet, sNil, sExpr, sNo, tVal, bOr, bNot, bAnd, bYes, eAnd, eOr, eNot, eIf, eBin, eCall, eTup, eCon, eVar, eBlt, eLst, eNeg, eChain, aCons, aNil, aLim, itK, itemsK, gTp, gNm, gsCons, gsNil, allV, ofOp, R.thenS, R.bind, List.replicate, eNew, sFor, itK, itemsK, items, x1, e2, eFrz, fz, tk]
end K37
end
section
/-! good sites by the program's own looks -/
namespace K37
open PySem Jv Rf
theorem words_of {xs : List Str} {lo hi : Nat} (h : xs.all (Rf.wordB SIG) = true) (h1 : lo ≤ xs.length) (h2 : xs.length ≤ hi) : wordsB lo hi (eSs xs) = true := by
  simp only [wordsB, eSs, Bool.and_eq_true, decide_eq_true_eq, List.all_map, List.length_map]
  exact ⟨⟨List.all_eq_true.mpr fun x hx => List.all_eq_true.mp h x hx, h1⟩, h2⟩
theorem hostB_of {xs : List Str} (h : hostG xs = true) : hostB (eSs xs) = true := by
  simp only [hostG, Bool.and_eq_true, decide_eq_true_eq] at h
  exact words_of h.1.1 h.1.2 h.2
theorem pathB_of {xs : List Str} (h : pathG xs = true) : pathB (eSs xs) = true := by
  simp only [pathG, Bool.and_eq_true, decide_eq_true_eq] at h
  exact words_of h.1 (Nat.zero_le _) h.2
theorem writeB_of {w : Wr} (h : wrG w = true) : writeB (eWr w) = true ∧ ∀ x ∈ writeL (eWr w), wordB SIG x = true := by
  obtain ⟨name, value, dom, fol, gd⟩ := w
  simp only [wrG, Bool.and_eq_true] at h
  obtain ⟨⟨⟨h1, h2⟩, h3⟩, h4⟩ := h
  constructor
  · simp only [writeB, eWr, Bool.and_eq_true]
    refine ⟨⟨⟨⟨h1, ?_⟩, ?_⟩, ?_⟩, rfl⟩
    · cases value <;> rfl
    · cases dom with
      | none => rfl
      | some d => exact hostB_of h3
    · cases fol with
      | none => rfl
      | some d => exact pathB_of h4
  · intro x hx
    cases value with
    | none => simp [writeL, eWr, eO, valL] at hx
    | some v =>
      simp only [writeL, eWr, eO, valL, List.mem_singleton] at hx
      subst hx
      exact h2
theorem siteB_of {s : List Pg} (h : siteG s = true) : okS (eSite s) = true := by
  simp only [siteG, Bool.and_eq_true, decide_eq_true_eq, List.all_eq_true] at h
  obtain ⟨⟨h1, h2⟩, h3⟩ := h
  simp only [okS, siteB, eSite, Bool.and_eq_true, decide_eq_true_eq, List.length_map, List.all_eq_true]
  refine ⟨⟨⟨h1, h2⟩, ?_⟩, ?_⟩
  · intro d hd
    obtain ⟨p, hp, rfl⟩ := List.mem_map.mp hd
    obtain ⟨g1, g2, g3⟩ := pg_of (h3 p hp)
    simp only [adrG, Bool.and_eq_true] at g1
    simp only [pageB, ePg, addrB, eAdr, Bool.and_eq_true, decide_eq_true_eq, List.length_map, List.all_eq_true]
    refine ⟨⟨⟨⟨hostB_of g1.1, pathB_of g1.2⟩, rfl⟩, g2⟩, fun w hw => ?_⟩
    obtain ⟨v, hv, rfl⟩ := List.mem_map.mp hw
    exact (writeB_of (g3 v hv)).1
  · intro x hx
    simp only [siteL, List.mem_flatMap] at hx
    obtain ⟨d, hd, hx⟩ := hx
    obtain ⟨p, hp, rfl⟩ := List.mem_map.mp hd
    obtain ⟨g1, g2, g3⟩ := pg_of (h3 p hp)
    simp only [pageL, ePg, List.mem_flatMap] at hx
    obtain ⟨w, hw, hx⟩ := hx
    obtain ⟨v, hv, rfl⟩ := List.mem_map.mp hw
    exact (writeB_of (g3 v hv)).2 x hx
theorem site_need {s : List Pg} (h : siteG s = true) (st : Sto) : rn_need_site [.v (eSite s)] st = .ok (.v (eSite s)) st := site_ok (siteB_of h) st
end K37
end
section
/-! the law's own browser -/
namespace K37
open PySem Jv Rf
def vdB : SD := (sSeq (sSet 4 (eCall rn__law_key (aCons (eVar 1) (aCons (eVar 3) aNil)))) (sSeq (sSet 5 (eLst (lLcR [6, 7] (nLst (eVar 2)) (gTp 2 (gsCons (gNm 6) (gsCons (gNm 7) gsNil))) bYes (eVar 6)))) (sSeq (sIf (bOr (tVal (eBin isD (eVar 4) (eCon .non))) (bAnd (tVal (eBin notIn3 (eVar 4) (eVar 5))) (tVal (eBin isD (eBin ixD (eVar 3) (eCon (.int 1))) (eCon .non))))) sCnt sNil) (sIf (tVal (eBin notIn3 (eVar 4) (eVar 5))) (sExpr (eApp (eVar 2) (aCons (eTup (aCons (eVar 4) (aCons (eTup (aCons (eBin ixD (eVar 3) (eCon (.int 1))) (aCons (eBin ixD (eVar 3) (eCon (.int 4))) aNil))) aNil))) aNil))) (sIf (tVal (eBin isD (eBin ixD (eVar 3) (eCon (.int 1))) (eCon .non))) (sExpr (eMeth popG (eVar 2) (aCons (eIndex (eVar 5) (aCons (eVar 4) aNil)) aNil))) (sLPut (eVar 2) (eIndex (eVar 5) (aCons (eVar 4) aNil)) (eTup (aCons (eVar 4) (aCons (eTup (aCons (eBin ixD (eVar 3) (eCon (.int 1))) (aCons (eBin ixD (eVar 3) (eCon (.int 4))) aNil))) aNil)))))))))
theorem dn__law_visited_eq : dn__law_visited = (sSeq (sSet 2 (eNew (lBlt listF (aCons (eVar 0) aNil)))) (sSeq (sFor (itK (eBin ixD (eVar 1) (eCon (.int 1)))) (gNm 3) vdB) (sRet (eFrz (eVar 2))))) := rfl
theorem lcN_kd (K : Nat) {l : List Kd} {st : Sto} (hst : st[K]? = some (.lst (l.map eKd))) (v0 v1 v2 v3 v4 v5 : Option W) : ∀ (t : List Kd) (i n : Nat) (acc : List Jv.D), l.drop i = t → t.length < n →
    lcN (nthL K) (gTp 2 (gsCons (gNm 6) (gsCons (gNm 7) gsNil))) bYes (eVar 6) [v0, v1, v2, v3, v4, v5, none, none] n i st acc = .ok (acc ++ t.map fun p => eKy p.1) st := by
  intro t
  induction t with
  | nil =>
    intro i n acc e hn
    obtain ⟨m, rfl⟩ : ∃ m, n = m + 1 := ⟨n - 1, by omega⟩
    have h0 : l[i]? = none := by
      have := congrArg (·[0]?) e
      simpa using this
    have h1 : (l.map eKd)[i]? = none := by simp [h0]
    simp only [lcN, nthL, hst, h1, List.map_nil, List.append_nil]
  | cons p r ih =>
    intro i n acc e hn
    obtain ⟨m, rfl⟩ : ∃ m, n = m + 1 := ⟨n - 1, by omega⟩
    have h0 : l[i]? = some p := by
      have := congrArg (·[0]?) e
      simpa using this
    have h1 : (l.map eKd)[i]? = some (eKd p) := by simp [h0]
    have h2 : l.drop (i + 1) = r := by
      have := congrArg (List.drop 1) e
      simpa [List.drop_drop, Nat.add_comm] using this
    have g : gTp 2 (gsCons (gNm 6) (gsCons (gNm 7) gsNil)) (.v (eKd p)) [v0, v1, v2, v3, v4, v5, none, none] = some [v0, v1, v2, v3, v4, v5, some (.v (eKy p.1)), some (.v (.tup [.str p.2.1, .bl p.2.2]))] := rfl
    have x := ih (i + 1) m (acc ++ [eKy p.1]) h2 (by rw [List.length_cons] at hn; omega)
    simp only [lcN, nthL, hst, h1, g, bYes, noX_ok, R.bind_ok, if_true, eVar, List.getElem?_cons_succ, List.getElem?_cons_zero]
    rw [x]
    simp
theorem erase_map {α β : Type} (f : α → β) : ∀ (l : List α) (j : Nat), (l.map f).eraseIdx j = (l.eraseIdx j).map f
  | [], j => by simp
  | x :: r, 0 => rfl
  | x :: r, j + 1 => by simp only [List.map_cons, List.eraseIdx_cons_succ, erase_map f r j]
theorem idx_ky (k : Ky) : ∀ ks : List Ky, (D.pyL (ks.map eKy)).findIdx? (fun z => PyData.eqv z (eKy k).py) = ks.findIdx? fun x => decide (x = k)
  | [] => rfl
  | x :: r => by
    simp only [List.map_cons, D.pyL, List.findIdx?_cons, eqv_ky, idx_ky k r]
theorem idx_at {α : Type} (k : Ky) (v : α) : ∀ l : List (Ky × α), (l.map (·.1)).Nodup → k ∈ l.map (·.1) → ∃ j, (l.map (·.1)).findIdx? (fun x => decide (x = k)) = some j ∧ j < l.length ∧ l.eraseIdx j = l.filter (fun p => decide (p.1 ≠ k)) ∧ l.set j (k, v) = l.map (fun p => if p.1 = k then (p.1, v) else p)
  | [], _, h => nomatch h
  | p :: r, nd, h => by
    rw [List.map_cons, List.nodup_cons] at nd
    by_cases c : p.1 = k
    · have nk : ∀ q ∈ r, ¬ q.1 = k := fun q hq z => nd.1 (by rw [c, ← z]; exact List.mem_map.mpr ⟨q, hq, rfl⟩)
      refine ⟨0, by simp [List.findIdx?_cons, c], by simp, ?_, ?_⟩
      · rw [List.filter_cons, if_neg (by simp [c])]
        exact (List.filter_eq_self.mpr fun q hq => by simpa using nk q hq).symm
      · rw [List.map_cons, if_pos c, List.set_cons_zero, c]
        congr 1
        exact ((List.map_congr_left fun q hq => if_neg (nk q hq)).trans (List.map_id' r)).symm
    · have h' : k ∈ r.map (·.1) := by
        rcases List.mem_cons.mp h with e | e
        · exact absurd e.symm c
        · exact e
      obtain ⟨j, e1, e2, e3, e4⟩ := idx_at k v r nd.2 h'
      refine ⟨j + 1, by simp [List.findIdx?_cons, c, e1], by rw [List.length_cons]; omega, ?_, ?_⟩
      · rw [List.eraseIdx_cons_succ, e3, List.filter_cons, if_pos (by simp [c])]
      · rw [List.set_cons_succ, e4, List.map_cons, if_neg c]
theorem visW_good {a : Adr} (ha : adrG a = true) {l : List Kd} (h : kdG l) {w : Wr} (hw : wrG w = true) : kdG (visW a l w) := by
  unfold visW
  cases hk : keyOf a w with
  | none => exact h
  | some k =>
    have gk := keyOf_good ha hw hk
    cases hv : w.value with
    | none => exact fun p hp => h p (List.mem_filter.mp hp).1
    | some v =>
      simp only [putA]
      split
      · intro p hp
        obtain ⟨q, hq, rfl⟩ := List.mem_map.mp hp
        split
        · exact h q hq
        · exact h q hq
      · intro p hp
        rcases List.mem_append.mp hp with q | q
        · exact h p q
        · rw [List.mem_singleton.mp q]; exact gk
theorem visW_len (a : Adr) (l : List Kd) (w : Wr) : (visW a l w).length ≤ l.length + 1 := by
  unfold visW
  split
  · omega
  · split
    · exact Nat.le_succ_of_le (List.length_filter_le _ _)
    · exact putA_len _ _ _
/-- one write -/
theorem vd_one (st : Sto) {a : Adr} {ws : Jv.D} (ha : adrG a = true) {w : Wr} (hw : wrG w = true) {l : List Kd} (hl : l.length ≤ 1000) (hk : KdOk l) (hg : kdG l) (v0 v4 v5 : Option W) :
    ∃ e2 : Jv.Env, e2 = [v0, some (.v (.tup [eAdr a, ws])), some (.r st.length), some (.v (eWr w)), some (.v (eO eKy (keyOf a w))), some (.v (.lst ((l.map (·.1)).map eKy))), none, none] ∧
      (vdB [v0, some (.v (.tup [eAdr a, ws])), some (.r st.length), some (.v (eWr w)), v4, v5, none, none] (st ++ [.lst (l.map eKd)]) = .nx e2 (st ++ [.lst ((visW a l w).map eKd)]) ∨
      vdB [v0, some (.v (.tup [eAdr a, ws])), some (.r st.length), some (.v (eWr w)), v4, v5, none, none] (st ++ [.lst (l.map eKd)]) = .ct e2 (st ++ [.lst ((visW a l w).map eKd)])) := by
  have gt : (st ++ [Ob.lst (l.map eKd)])[st.length]? = some (.lst (l.map eKd)) := by simp
  have isl : isLst (st ++ [.lst (l.map eKd)]) (.r st.length) = true := by simp only [isLst, gt]
  have q := law_key_ok (ws := ws) ha hw (st ++ [.lst (l.map eKd)])
  have lc := fun v => lcN_kd st.length gt v0 (some (.v (.tup [eAdr a, ws]))) (some (.r st.length)) (some (.v (eWr w))) v v5 l 0 100001 [] (by simp) (by omega)
  have ln : listsN (.r st.length) (st ++ [.lst (l.map eKd)]) = .ok (nthL st.length) (st ++ [.lst (l.map eKd)]) := by simp only [listsN, gt]
  have w1 : ixD (st ++ [.lst (l.map eKd)]) (.v (eWr w)) (.v (.int 1)) = some (eO .str w.value) := by simp [eWr, ixD, at1]
  have w4 : ixD (st ++ [.lst (l.map eKd)]) (.v (eWr w)) (.v (.int 4)) = some (.bl w.gd) := by simp [eWr, ixD, at4]
  have km : l.map (fun p => eKy p.1) = (l.map (·.1)).map eKy := by simp
  have kg : ∀ k ∈ l.map (·.1), kyOk k = true := fun k hk => by
    obtain ⟨p, hp, rfl⟩ := List.mem_map.mp hk
    exact kyOk_of (hg p hp)
  rw [List.nil_append, km] at lc
  refine ⟨_, rfl, ?_⟩
  cases hkey : keyOf a w with
  | none =>
    have vw : visW a l w = l := by unfold visW; rw [hkey]
    rw [hkey] at q
    simp only [eO] at q ⊢
    refine .inr ?_
    rw [vw]
    generalize (l.map (·.1)).map eKy = KS at *
    simp [runS, Jv.envOf, fin, noX, sSeq, sAsg, sIf, sPar, sSet, sRet, sNil, sExpr, sNo, tVal, bOr, bNot, bAnd, bYes, eAnd, eOr, eNot, eIf, eBin, eCall, eTup, eCon, eVar, eBlt, eLst, eNeg, eChain, aCons, aNil, aLim, itK, itemsK, gTp, gNm, gsCons, gsNil, allV, ofOp, R.thenS, R.bind, List.replicate, vdB, q, lLcR, nLst, ln, wipeE, lc, is_non, sCnt]
  | some k =>
    have gk := kyOk_of (keyOf_good ha hw hkey)
    rw [hkey] at q
    simp only [eO] at q ⊢
    have ni := notIn_ky kg gk (st ++ [.lst (l.map eKd)])
    have ln2 : (l.map (·.1)).length ≤ 1000 := by simpa using hl
    have isk := is_ky (st ++ [.lst (l.map eKd)]) k
    by_cases c : k ∈ l.map (·.1)
    · rw [decide_eq_true c] at ni
      obtain ⟨j, e1, e2, e3, e4⟩ := idx_at k ((w.value.getD ""), w.gd) l hk c
      have ix : indexO (st ++ [.lst (l.map eKd)]) (.v (.lst ((l.map (·.1)).map eKy))) [.v (eKy k)] = some (.int (j : Nat)) := by
        have s1 := sh_ky gk
        have s2 := sh_keys kg
        have s3 := idx_ky k (l.map (·.1))
        simp only [indexO, asLst, s1, s2, s3, e1, Bool.and_self, if_true]
      have al : asLst (st ++ [.lst (l.map eKd)]) (.v (.lst ((l.map (·.1)).map eKy))) = some ((l.map (·.1)).map eKy) := rfl
      refine .inl ?_
      cases hv : w.value with
      | none =>
        have vw : visW a l w = l.eraseIdx j := by unfold visW; rw [hkey, hv, e3]
        rw [hv] at w1
        simp only [eO] at w1
        have pp : popG (.r st.length) [.v (.int (j : Nat))] (st ++ [.lst (l.map eKd)]) = .ok (.v (eKd l[j])) (st ++ [.lst ((l.eraseIdx j).map eKd)]) := by
          have sx : seqIndex? (j : Nat) (l.map eKd).length = some j := by
            unfold seqIndex?
            rw [List.length_map]
            simp only [show ¬ ((j : Nat) : Int) < 0 from by omega, if_false]
            rw [if_pos (by simp; omega)]
            simp
          have gj : (l.map eKd)[j]? = some (eKd l[j]) := by simp [e2]
          simp only [popG, gt, sx, gj]
          rw [if_pos (by omega)]
          simp [erase_map]
        rw [vw]
        generalize (l.map (·.1)).map eKy = KS at *
        simp [runS, Jv.envOf, fin, noX, sSeq, sAsg, sIf, sPar, sSet, sRet, sNil, sExpr, sNo, tVal, bOr, bNot, bAnd, bYes, eAnd, eOr, eNot, eIf, eBin, eCall, eTup, eCon, eVar, eBlt, eLst, eNeg, eChain, aCons, aNil, aLim, itK, itemsK, gTp, gNm, gsCons, gsNil, allV, ofOp, R.thenS, R.bind, List.replicate, vdB, q, lLcR, nLst, ln, wipeE, lc, is_non, sCnt, isk, ni, w1, eMeth, isl, eIndex, al, ix, pp]
      | some v =>
        have vw : visW a l w = l.set j (k, (v, w.gd)) := by
          rw [hv] at e4
          have h : hasA l k = true := by
            unfold hasA
            obtain ⟨p, hp, e⟩ := List.mem_map.mp c
            exact List.any_eq_true.mpr ⟨p, hp, decide_eq_true e⟩
          unfold visW putA
          rw [hkey, hv]
          simp only [h, if_true]
          exact e4.symm
        rw [hv] at w1
        simp only [eO] at w1
        have pp : ∀ env, lPut (.r st.length) (.v (.int (j : Nat))) (.v (eKd (k, (v, w.gd)))) env (st ++ [.lst (l.map eKd)]) = .nx env (st ++ [.lst ((l.set j (k, (v, w.gd))).map eKd)]) := fun env => by
          have hx : L2.ixN (l.map eKd).length (j : Nat) = some j := by
            have := at_nat (xs := l.map eKd) (i := ((j : Nat) : Int)) (by omega) (by simp; omega)
            simpa using this
          simp only [lPut, gt, hx]
          simp [List.map_set]
        have is := is_str (st ++ [.lst (l.map eKd)]) v
        rw [vw]
        have ekd : eKd (k, (v, w.gd)) = .tup [eKy k, .tup [.str v, .bl w.gd]] := rfl
        rw [ekd] at pp
        generalize (l.map (·.1)).map eKy = KS at *
        simp [runS, Jv.envOf, fin, noX, sSeq, sAsg, sIf, sPar, sSet, sRet, sNil, sExpr, sNo, tVal, bOr, bNot, bAnd, bYes, eAnd, eOr, eNot, eIf, eBin, eCall, eTup, eCon, eVar, eBlt, eLst, eNeg, eChain, aCons, aNil, aLim, itK, itemsK, gTp, gNm, gsCons, gsNil, allV, ofOp, R.thenS, R.bind, List.replicate, vdB, q, lLcR, nLst, ln, wipeE, lc, is_non, sCnt, isk, ni, w1, w4, is, eIndex, al, ix, sLPut, pp]
    · rw [decide_eq_false c] at ni
      cases hv : w.value with
      | none =>
        have vw : visW a l w = l := by
          unfold visW
          rw [hkey, hv]
          exact List.filter_eq_self.mpr fun p hp => by
            simp only [ne_eq, decide_not, Bool.not_eq_true', decide_eq_false_iff_not]
            exact fun z => c (List.mem_map.mpr ⟨p, hp, z⟩)
        rw [hv] at w1
        simp only [eO] at w1
        refine .inr ?_
        rw [vw]
        generalize (l.map (·.1)).map eKy = KS at *
        simp [runS, Jv.envOf, fin, noX, sSeq, sAsg, sIf, sPar, sSet, sRet, sNil, sExpr, sNo, tVal, bOr, bNot, bAnd, bYes, eAnd, eOr, eNot, eIf, eBin, eCall, eTup, eCon, eVar, eBlt, eLst, eNeg, eChain, aCons, aNil, aLim, itK, itemsK, gTp, gNm, gsCons, gsNil, allV, ofOp, R.thenS, R.bind, List.replicate, vdB, q, lLcR, nLst, ln, wipeE, lc, is_non, sCnt, isk, ni, w1]
      | some v =>
        have vw : visW a l w = l ++ [(k, (v, w.gd))] := by
          have h : hasA l k = false := by
            unfold hasA
            rw [List.any_eq_false]
            exact fun p hp => by simpa using fun z => c (List.mem_map.mpr ⟨p, hp, z⟩)
          unfold visW putA
          rw [hkey, hv]
          simp only [h, Bool.false_eq_true, if_false]
        rw [hv] at w1
        simp only [eO] at w1
        have is := is_str (st ++ [.lst (l.map eKd)]) v
        have ap : appG (.r st.length) [.v (eKd (k, (v, w.gd)))] (st ++ [.lst (l.map eKd)]) = .ok (.v .non) (st ++ [.lst ((l ++ [(k, (v, w.gd))]).map eKd)]) := by
          simp only [appG, gt]
          rw [if_pos (by rw [List.length_map]; omega)]
          simp
        have ekd : eKd (k, (v, w.gd)) = .tup [eKy k, .tup [.str v, .bl w.gd]] := rfl
        rw [ekd] at ap
        refine .inl ?_
        rw [vw]
        generalize (l.map (·.1)).map eKy = KS at *
        simp [runS, Jv.envOf, fin, noX, sSeq, sAsg, sIf, sPar, sSet, sRet, sNil, sExpr, sNo, tVal, bOr, bNot, bAnd, bYes, eAnd, eOr, eNot, eIf, eBin, eCall, eTup, eCon, eVar, eBlt, eLst, eNeg, eChain, aCons, aNil, aLim, itK, itemsK, gTp, gNm, gsCons, gsNil, allV, ofOp, R.thenS, R.bind, List.replicate, vdB, q, lLcR, nLst, ln, wipeE, lc, is_non, sCnt, isk, ni, w1, w4, is, eApp, isl, ap]
theorem visWs_len (a : Adr) : ∀ (ws : List Wr) (l : List Kd), (ws.foldl (visW a) l).length ≤ l.length + ws.length
  | [], l => by simp
  | w :: r, l => by
    have h1 := visW_len a l w
    have h2 := visWs_len a r (visW a l w)
    simp only [List.foldl_cons, List.length_cons]
    omega
theorem visWs_good {a : Adr} (ha : adrG a = true) : ∀ (ws : List Wr) {l : List Kd}, kdG l → (∀ w ∈ ws, wrG w = true) → kdG (ws.foldl (visW a) l)
  | [], l, h, _ => h
  | w :: r, l, h, g => visWs_good ha r (visW_good ha h (g w List.mem_cons_self)) fun x hx => g x (List.mem_cons_of_mem _ hx)
theorem visWs_ok (a : Adr) : ∀ (ws : List Wr) {l : List Kd}, KdOk l → KdOk (ws.foldl (visW a) l)
  | [], l, h => h
  | w :: r, l, h => visWs_ok a r (visW_ok h w)
theorem law_visited_ok {p : Pg} (hp : pgG p = true) {l : List Kd} (hl : l.length ≤ 900) (hk : KdOk l) (hg : kdG l) (st : Sto) : rn__law_visited [.v (.lst (l.map eKd)), .v (ePg p)] st = .ok (.v (.lst ((visPg l p).map eKd))) st := by
  obtain ⟨g1, g2, g3⟩ := pg_of hp
  obtain ⟨env2, st2, e2, ⟨c3, c4, c5, rfl, rfl⟩⟩ := forGo_pre (g := gNm 3) (body := vdB) eWr (fun ys env st' => ∃ c3 c4 c5 : Option W,
      env = [some (.v (.lst (l.map eKd))), some (.v (ePg p)), some (.r st.length), c3, c4, c5, none, none] ∧ st' = st ++ [.lst ((ys.foldl (visW p.adr) l).map eKd)]) (xs := p.ws)
      (env := [some (.v (.lst (l.map eKd))), some (.v (ePg p)), some (.r st.length), none, none, none, none, none]) (st := st ++ [.lst (l.map eKd)]) ⟨none, none, none, rfl, rfl⟩ (by
    rintro ys w zs env st' e ⟨c3, c4, c5, rfl, rfl⟩
    have hw : wrG w = true := g3 w (by rw [e]; simp)
    have hys : ∀ w ∈ ys, wrG w = true := fun x hx => g3 x (by rw [e]; exact List.mem_append_left _ hx)
    have hyl : ys.length ≤ 5 := by have := congrArg List.length e; simp at this; omega
    have h1 := visWs_len p.adr ys l
    obtain ⟨e3, rfl, h⟩ := vd_one st (ws := .tup (p.ws.map eWr)) g1 hw (l := ys.foldl (visW p.adr) l) (by omega) (visWs_ok p.adr ys hk) (visWs_good g1 ys hg hys) (some (.v (.lst (l.map eKd)))) c4 c5
    refine ⟨_, rfl, _, _, h, _, _, _, rfl, ?_⟩
    rw [List.foldl_append, List.foldl_cons, List.foldl_nil])
  have ls : listF st [.v (.lst (l.map eKd))] = some (l.map eKd) := rfl
  have x1 : ∀ st' : Sto, ixD st' (.v (ePg p)) (.v (.int 1)) = some (.tup (p.ws.map eWr)) := fun st' => by simp [ePg, ixD, at1]
  have fz : frz (.r st.length) (st ++ [.lst ((visPg l p).map eKd)]) = .ok (.v (.lst ((visPg l p).map eKd))) (st ++ [.dead]) := by
    have gt : (st ++ [Ob.lst ((visPg l p).map eKd)])[st.length]? = some (.lst ((visPg l p).map eKd)) := by simp
    simp only [frz, gt]
    simp
  have tk : List.take st.length (st ++ [Ob.dead]) = st := by simp
  have ev : (p.ws.foldl (visW p.adr) l) = visPg l p := rfl
  rw [ev] at e2
  unfold rn__law_visited
  rw [dn__law_visited_eq]
  simp [runS, Jv.envOf, fin, noX, sSeq, sAsg, sIf, sPar, sSet, sRet, sNil, sExpr, sNo, tVal, bOr, bNot, bAnd, bYes, eAnd, eOr, eNot, eIf, eBin, eCall, eTup, eCon, eVar, eBlt, eLst, eNeg, eChain, aCons, aNil, aLim, itK, itemsK, gTp, gNm, gsCons, gsNil, allV, ofOp, R.thenS, R.bind, List.replicate, eNew, lBlt, ls, sFor, items, x1, e2, eFrz, fz, tk]
end K37
end
section
/-! the program: visits of jars -/
namespace K37
open PySem Jv Rf
theorem rank_ok (p : Kd) (st : Sto) : rn_rank [.v (eKq p)] st = .ok (.v (skQ p)) st := by
  have tk : List.take st.length st = st := List.take_length
  obtain ⟨x0, _, _⟩ := kq_ix p st
  have l1 := len_ss st p.1.fol
  have ng : (eNeg (eBlt lenA (aCons (eVar 3) aNil)) : ED) [some (.v (eKq p)), some (.v (.str p.1.name)), some (.v (eSs p.1.dom)), some (.v (eSs p.1.fol)), some (.v (.bl p.1.alone))] st = .ok (.v (.int (0 - (p.1.fol.length : Int)))) st := by
    rw [Int.zero_sub]
    simp [eNeg, eBlt, aCons, aNil, eVar, l1, ofOp]
  have ek : eKy p.1 = .tup [.str p.1.name, eSs p.1.dom, eSs p.1.fol, .bl p.1.alone] := rfl
  rw [ek] at x0
  unfold rn_rank dn_rank skQ
  generalize (eNeg (eBlt lenA (aCons (eVar 3) aNil))) = NG at *
  generalize (0 - (p.1.fol.length : Int)) = m at *
  generalize eSs p.1.fol = F at *
  generalize eSs p.1.dom = DM at *
  generalize eKq p = KQ at *
  simp [runS, Jv.envOf, fin, noX, sSeq, sAsg, sIf, sPar, sSet, sRet, sNil, sExpr, sNo, tVal, bOr, bNot, bAnd, bYes, eAnd, eOr, eNot, eIf, eBin, eCall, eTup, eCon, eVar, eBlt, eLst, eNeg, eChain, aCons, aNil, aLim, itK, itemsK, gTp, gNm, gsCons, gsNil, allV, ofOp, R.thenS, R.bind, List.replicate, x0, ng, tk]
def afP : LD := lLcR [7, 8] (nEnum (aCons (eVar 2) aNil)) (gTp 2 (gsCons (gNm 7) (gsCons (gNm 8) gsNil))) (tVal (eBin eqD (eBin ixD (eVar 8) (eCon (.int 0))) (eVar 3))) (eVar 7)
def afF : LD := lLc [8] (itE (eFrz (eVar 2))) (gNm 8) (tVal (eBin neD (eBin ixD (eVar 8) (eCon (.int 0))) (eVar 3))) (eVar 8)
def afS : LD := lSortK rn_rank (aCons (eLst (lCat (eVar 2) (eLst (aLim (aCons (eTup (aCons (eVar 3) (aCons (eVar 4) (aCons (eVar 5) aNil)))) aNil))))) aNil)
def afB : SD := sSeq (sSet 6 (eLst afP)) (sIf (tVal (eBin isD (eVar 4) (eCon .non))) (sSet 2 (eNew afF)) (sIf (tVal (eBin neD (eVar 6) (eLst (aLim aNil)))) (sLPut (eVar 2) (eBin ixD (eVar 6) (eCon (.int 0))) (eTup (aCons (eVar 3) (aCons (eVar 4) (aCons (eVar 5) aNil))))) (sSet 2 (eNew afS))))
theorem dn_after_eq : dn_after = sSeq (sSet 2 (eNew (lBlt listF (aCons (eVar 0) aNil)))) (sSeq (sFor (itK (eCall rn_taken_in (aCons (eVar 1) aNil))) (gTp 3 (gsCons (gNm 3) (gsCons (gNm 4) (gsCons (gNm 5) gsNil)))) afB) (sRet (eBlt tupleB (aCons (eVar 2) aNil)))) := rfl
theorem afP_ok {m : Nat} {L : List Kd} {st : Sto} (hm : st[m]? = some (.lst (L.map eKq))) (hl : L.length ≤ 1000) (hg : kdG L) {k : Ky} (hk : kyG k = true) (v0 v1 c4 c5 c6 : Option W) :
    afP [v0, v1, some (.r m), some (.v (eKy k)), c4, c5, c6, none, none] st = .ok (((L.zipIdx 0).filter fun z => decide (z.1.1 = k)).map fun z => .int ((z.2 : Nat) : Int)) st := by
  have lc := lcN_pure (nth := nthEnum m) (g := gTp 2 (gsCons (gNm 7) (gsCons (gNm 8) gsNil))) (t := tVal (eBin eqD (eBin ixD (eVar 8) (eCon (.int 0))) (eVar 3))) (e := eVar 7) (env := [v0, v1, some (.r m), some (.v (eKy k)), c4, c5, c6, none, none]) (st := st) (xs := L)
    (fun i p => .tup [.int (i : Nat), eKq p]) (fun _ p => decide (p.1 = k)) (fun i _ => .int ((i : Nat) : Int)) (fun i => by simp only [nthEnum, hm, List.getElem?_map, Option.map_map]; rfl) (fun i p hp => by
      obtain ⟨x0, _, _⟩ := kq_ix p st
      have e := eqD_ky (kyOk_of (hg p hp)) (kyOk_of hk) st
      refine ⟨[v0, v1, some (.r m), some (.v (eKy k)), c4, c5, c6, some (.v (.int (i : Nat))), some (.v (eKq p))], rfl, ?_, fun _ => rfl⟩
      generalize eKq p = KQ at *
      generalize eKy k = KK at *
      generalize eKy p.1 = KP at *
      simp [runS, Jv.envOf, fin, noX, sSeq, sAsg, sIf, sPar, sSet, sRet, sNil, sExpr, sNo, tVal, bOr, bNot, bAnd, bYes, eAnd, eOr, eNot, eIf, eBin, eCall, eTup, eCon, eVar, eBlt, eLst, eNeg, eChain, aCons, aNil, aLim, itK, itemsK, gTp, gNm, gsCons, gsNil, allV, ofOp, R.thenS, R.bind, List.replicate, x0, e]) L 0 100001 [] rfl (by omega)
  rw [List.nil_append] at lc
  have en : enumsN [.r m] st = .ok (nthEnum m) st := by simp only [enumsN, hm]
  simp only [afP, lLcR, nEnum, aCons, aNil, eVar, List.getElem?_cons_succ, List.getElem?_cons_zero, R.bind_ok, en, wipeE, List.set_cons_succ, List.set_cons_zero]
  exact lc
theorem afF_ok {m : Nat} {L : List Kd} {st : Sto} (hm : st[m]? = some (.lst (L.map eKq))) (hl : L.length ≤ 1000) (hg : kdG L) {k : Ky} (hk : kyG k = true) (v0 v1 c4 c5 c6 : Option W) :
    afF [v0, v1, some (.r m), some (.v (eKy k)), c4, c5, c6, none, none] st = .ok ((L.filter fun p => decide (p.1 ≠ k)).map eKq) (st.set m .dead) := by
  have lc := lcGo_pure (g := gNm 8) (t := tVal (eBin neD (eBin ixD (eVar 8) (eCon (.int 0))) (eVar 3))) (e := eVar 8) (env := [v0, v1, some (.r m), some (.v (eKy k)), c4, c5, c6, none, none]) eKq (fun p => decide (p.1 ≠ k)) eKq (st := st.set m .dead) L [] (fun p hp => by
    obtain ⟨x0, _, _⟩ := kq_ix p (st.set m .dead)
    have e := neD_ky (kyOk_of (hg p hp)) (kyOk_of hk) (st.set m .dead)
    refine ⟨[v0, v1, some (.r m), some (.v (eKy k)), c4, c5, c6, none, some (.v (eKq p))], rfl, ?_, fun _ => rfl⟩
    have d : (!decide (p.1 = k)) = decide (p.1 ≠ k) := by simp
    rw [← d]
    generalize eKq p = KQ at *
    generalize eKy k = KK at *
    generalize eKy p.1 = KP at *
    simp [runS, Jv.envOf, fin, noX, sSeq, sAsg, sIf, sPar, sSet, sRet, sNil, sExpr, sNo, tVal, bOr, bNot, bAnd, bYes, eAnd, eOr, eNot, eIf, eBin, eCall, eTup, eCon, eVar, eBlt, eLst, eNeg, eChain, aCons, aNil, aLim, itK, itemsK, gTp, gNm, gsCons, gsNil, allV, ofOp, R.thenS, R.bind, List.replicate, x0, e])
  rw [List.nil_append] at lc
  have fz : frz (.r m) st = .ok (.v (.lst (L.map eKq))) (st.set m .dead) := by simp only [frz, hm]
  have c1 : (L.map eKq).length ≤ 100000 := by rw [List.length_map]; omega
  simp only [afF, lLc, itE, eFrz, eVar, List.getElem?_cons_succ, List.getElem?_cons_zero, R.bind_ok, fz, items, if_pos c1, wipeE, List.set_cons_succ, List.set_cons_zero]
  exact lc
theorem afS_ok {m : Nat} {L : List Kd} {st : Sto} (hm : st[m]? = some (.lst (L.map eKq))) (hl : L.length ≤ 1000) (hg : kdG L) {k : Ky} (hk : kyG k = true) (v : Str) (b : Bool) (v0 v1 c6 : Option W) :
    afS [v0, v1, some (.r m), some (.v (eKy k)), some (.v (.str v)), some (.v (.bl b)), c6, none, none] st = .ok ((sortR (L ++ [(k, (v, b))])).map eKq) st := by
  have so := sortK_rank (run := rn_rank) (enc := eKq) (xs := L ++ [(k, (v, b))]) (st := st) (fun p _ => rank_ok p st) (fun p hp => by
    rcases List.mem_append.mp hp with h | h
    · exact hg p h
    · rw [List.mem_singleton.mp h]; exact hk) (by rw [List.length_append, List.length_singleton]; omega)
  have al : asLst st (.r m) = some (L.map eKq) := by simp only [asLst, hm]
  have al2 : ∀ l : List Jv.D, asLst st (.v (.lst l)) = some l := fun l => rfl
  have c1 : (L.map eKq).length + 1 ≤ 100000 := by rw [List.length_map]; omega
  have ek : eKq (k, (v, b)) = .tup [eKy k, .str v, .bl b] := rfl
  rw [List.map_append, List.map_cons, List.map_nil, ek] at so
  generalize L.map eKq = LK at *
  generalize eKy k = KK at *
  simp [runS, Jv.envOf, fin, noX, sSeq, sAsg, sIf, sPar, sSet, sRet, sNil, sExpr, sNo, tVal, bOr, bNot, bAnd, bYes, eAnd, eOr, eNot, eIf, eBin, eCall, eTup, eCon, eVar, eBlt, eLst, eNeg, eChain, aCons, aNil, aLim, itK, itemsK, gTp, gNm, gsCons, gsNil, allV, ofOp, R.thenS, R.bind, List.replicate, afS, lSortK, lCat, al, al2, c1, so]
theorem af_one (st : Sto) {L : List Kd} (hl : L.length ≤ 1000) (hk : KdOk L) (hg : kdG L) {t : Tk} (ht : kyG t.1 = true) {m : Nat} {st' : Sto} (h1 : st.length ≤ m) (h2 : st'[m]? = some (.lst (L.map eKq))) (h3 : st'.take st.length = st) (v0 v1 c6 : Option W) :
    ∃ (m2 : Nat) (st2 : Sto) (d6 : Option W), st.length ≤ m2 ∧ st2[m2]? = some (.lst ((aftT L t).map eKq)) ∧ st2.take st.length = st ∧
      afB [v0, v1, some (.r m), some (.v (eKy t.1)), some (.v (eO .str t.2.1)), some (.v (.bl t.2.2)), c6, none, none] st' = .nx [v0, v1, some (.r m2), some (.v (eKy t.1)), some (.v (eO .str t.2.1)), some (.v (.bl t.2.2)), d6, none, none] st2 := by
  obtain ⟨k, v, b⟩ := t
  simp only at ht ⊢
  have hm : m < st'.length := (List.getElem?_eq_some_iff.mp h2).1
  have p1 := afP_ok h2 hl hg ht v0 v1 (some (.v (eO .str v))) (some (.v (.bl b))) c6
  cases v with
  | none =>
    have f1 := fun c6 => afF_ok h2 hl hg ht v0 v1 (some (.v .non)) (some (.v (.bl b))) c6
    refine ⟨(st'.set m .dead).length, (st'.set m .dead) ++ [.lst ((L.filter fun p => decide (p.1 ≠ k)).map eKq)], some (.v (.lst (((L.zipIdx 0).filter fun z => decide (z.1.1 = k)).map fun z => .int ((z.2 : Nat) : Int)))), by rw [List.length_set]; omega, by simp [aftT], ?_, ?_⟩
    · rw [List.take_append_of_le_length (by rw [List.length_set]; omega), List.take_set_of_le (by omega), h3]
    · simp only [eO] at p1 ⊢
      unfold afB
      generalize afP = AP at *
      generalize afF = AF at *
      generalize ((L.zipIdx 0).filter fun z => decide (z.1.1 = k)).map (fun z => Jv.D.int ((z.2 : Nat) : Int)) = PL at *
      generalize (L.filter fun p => decide (p.1 ≠ k)).map eKq = FL at *
      generalize eKy k = KK at *
      simp [runS, Jv.envOf, fin, noX, sSeq, sAsg, sIf, sPar, sSet, sRet, sNil, sExpr, sNo, tVal, bOr, bNot, bAnd, bYes, eAnd, eOr, eNot, eIf, eBin, eCall, eTup, eCon, eVar, eBlt, eLst, eNeg, eChain, aCons, aNil, aLim, itK, itemsK, gTp, gNm, gsCons, gsNil, allV, ofOp, R.thenS, R.bind, List.replicate, p1, is_non, eNew, f1]
  | some x =>
    have is := is_str st' x
    cases hh : hasA L k with
    | true =>
      obtain ⟨j, hj, e1, e2⟩ := places_one (x, b) hk hh 0
      have pl : ((L.zipIdx 0).filter fun z => decide (z.1.1 = k)).map (fun z => Jv.D.int ((z.2 : Nat) : Int)) = [.int ((j : Nat) : Int)] := by
        have := congrArg (List.map fun n : Nat => Jv.D.int (n : Int)) e1
        rw [List.map_map] at this
        simpa [Function.comp_def] using this
      rw [pl] at p1
      have ne : neD st' (.v (.lst [.int ((j : Nat) : Int)])) (.v (.lst [])) = some (.bl true) := by
        have s1 : SeqAt.shaped (D.lst [.int ((j : Nat) : Int)]).py = true := by simp [SeqAt.shaped, D.py, D.pyL, PyData.canLay0, PyData.canLayAll0, PyData.depth, PyData.depthAll]
        have s2 : SeqAt.shaped (D.lst []).py = true := by kernel_rfl
        simp only [neD, deref, s1, s2, Bool.and_self, if_true]
        simp [D.py, D.pyL, PyData.eqv, PyData.eqvAll]
      have x0 : ixD st' (.v (.lst [.int ((j : Nat) : Int)])) (.v (.int 0)) = some (.int ((j : Nat) : Int)) := by simp [ixD, asLst, iat0]
      have pp : ∀ env, lPut (.r m) (.v (.int (j : Nat))) (.v (.tup [eKy k, .str x, .bl b])) env st' = .nx env (st'.set m (.lst ((L.set j (k, (x, b))).map eKq))) := fun env => by
        have hx : L2.ixN (L.map eKq).length (j : Nat) = some j := by
          have := at_nat (xs := L.map eKq) (i := ((j : Nat) : Int)) (by omega) (by simp; omega)
          simpa using this
        simp only [lPut, h2, hx]
        simp [List.map_set, eKq]
      have af : aftT L (k, some x, b) = L.set j (k, (x, b)) := by
        simp only [aftT, hh, if_true]
        exact e2.symm
      refine ⟨m, st'.set m (.lst ((L.set j (k, (x, b))).map eKq)), some (.v (.lst [.int ((j : Nat) : Int)])), h1, by rw [af]; simp [hm], ?_, ?_⟩
      · rw [List.take_set_of_le (by omega), h3]
      · simp only [eO] at p1 ⊢
        unfold afB
        generalize afP = AP at *
        generalize (L.set j (k, (x, b))).map eKq = SL at *
        generalize eKy k = KK at *
        generalize ((j : Nat) : Int) = jj at *
        simp [runS, Jv.envOf, fin, noX, sSeq, sAsg, sIf, sPar, sSet, sRet, sNil, sExpr, sNo, tVal, bOr, bNot, bAnd, bYes, eAnd, eOr, eNot, eIf, eBin, eCall, eTup, eCon, eVar, eBlt, eLst, eNeg, eChain, aCons, aNil, aLim, itK, itemsK, gTp, gNm, gsCons, gsNil, allV, ofOp, R.thenS, R.bind, List.replicate, p1, is, ne, x0, sLPut, pp]
    | false =>
      have pl : ((L.zipIdx 0).filter fun z => decide (z.1.1 = k)).map (fun z => Jv.D.int ((z.2 : Nat) : Int)) = [] := by rw [places_none hh]; rfl
      rw [pl] at p1
      have ne : neD st' (.v (.lst [])) (.v (.lst [])) = some (.bl false) := by kernel_rfl
      have s1 := fun c6 => afS_ok h2 hl hg ht x b v0 v1 c6
      have af : aftT L (k, some x, b) = sortR (L ++ [(k, (x, b))]) := by
        simp only [aftT, hh, Bool.false_eq_true, if_false]
      refine ⟨st'.length, st' ++ [.lst ((sortR (L ++ [(k, (x, b))])).map eKq)], some (.v (.lst [])), by omega, by rw [af]; simp, ?_, ?_⟩
      · rw [List.take_append_of_le_length (by omega), h3]
      · simp only [eO] at p1 ⊢
        unfold afB
        generalize afP = AP at *
        generalize afS = AS at *
        generalize (sortR (L ++ [(k, (x, b))])).map eKq = SL at *
        generalize eKy k = KK at *
        simp [runS, Jv.envOf, fin, noX, sSeq, sAsg, sIf, sPar, sSet, sRet, sNil, sExpr, sNo, tVal, bOr, bNot, bAnd, bYes, eAnd, eOr, eNot, eIf, eBin, eCall, eTup, eCon, eVar, eBlt, eLst, eNeg, eChain, aCons, aNil, aLim, itK, itemsK, gTp, gNm, gsCons, gsNil, allV, ofOp, R.thenS, R.bind, List.replicate, p1, is, ne, eNew, s1]
theorem after_ok {p : Pg} (hp : pgG p = true) {L : List Kd} (hl : L.length ≤ 900) (hk : KdOk L) (hg : kdG L) (st : Sto) : rn_after [.v (eJr L), .v (ePg p)] st = .ok (.v (eJr (aftPg L p))) st := by
  have q := taken_in_ok hp (st ++ [.lst (L.map eKq)])
  have tl : (takenOf p).length ≤ 5 := Nat.le_trans (taken_len p) (pg_of hp).2.1
  obtain ⟨env2, st2, e2, ⟨m, c3, c4, c5, c6, rfl, h1, h2, h3⟩⟩ := forGo_pre (g := gTp 3 (gsCons (gNm 3) (gsCons (gNm 4) (gsCons (gNm 5) gsNil)))) (body := afB) eTk (fun ys env st' => ∃ (m : Nat) (c3 c4 c5 c6 : Option W),
      env = [some (.v (eJr L)), some (.v (ePg p)), some (.r m), c3, c4, c5, c6, none, none] ∧ st.length ≤ m ∧ st'[m]? = some (.lst ((ys.foldl aftT L).map eKq)) ∧ st'.take st.length = st) (xs := takenOf p)
      (env := [some (.v (eJr L)), some (.v (ePg p)), some (.r st.length), none, none, none, none, none, none]) (st := st ++ [.lst (L.map eKq)]) ⟨st.length, none, none, none, none, rfl, Nat.le_refl _, by simp, by simp⟩ (by
    rintro ys t zs env st' e ⟨m, c3, c4, c5, c6, rfl, h1, h2, h3⟩
    have mt : t ∈ takenOf p := by rw [e]; simp
    have hys : ys.length ≤ 5 := by have := congrArg List.length e; simp at this; omega
    have l1 := aftTs_len ys L
    obtain ⟨m2, st2, d6, a1, a2, a3, a4⟩ := af_one st (L := ys.foldl aftT L) (by omega) (aftTs_ok ys hk) (aftTs_good ys hg fun x hx => taken_good hp (by rw [e]; exact List.mem_append_left _ hx)) (taken_good hp mt) h1 h2 h3 (some (.v (eJr L))) (some (.v (ePg p))) c6
    refine ⟨_, rfl, _, _, .inl a4, m2, _, _, _, d6, rfl, a1, ?_, a3⟩
    rw [List.foldl_append, List.foldl_cons, List.foldl_nil]
    exact a2)
  have ls : listF st [.v (eJr L)] = some (L.map eKq) := rfl
  rw [← aftPg_taken] at h2
  have tb : tupleB st2 [.r m] = some (eJr (aftPg L p)) := by
    simp only [tupleB, asLst, h2, Option.map_some]
    rfl
  unfold rn_after
  rw [dn_after_eq]
  generalize eJr (aftPg L p) = RES at *
  generalize L.map eKq = LK at *
  generalize eJr L = JL at *
  generalize ePg p = PP at *
  generalize afB = B at *
  generalize (takenOf p).map eTk = TT at *
  simp [runS, Jv.envOf, fin, noX, sSeq, sAsg, sIf, sPar, sSet, sRet, sNil, sExpr, sNo, tVal, bOr, bNot, bAnd, bYes, eAnd, eOr, eNot, eIf, eBin, eCall, eTup, eCon, eVar, eBlt, eLst, eNeg, eChain, aCons, aNil, aLim, itK, itemsK, gTp, gNm, gsCons, gsNil, allV, ofOp, R.thenS, R.bind, List.replicate, eNew, lBlt, ls, sFor, q, items, e2, tb, h3]
end K37
end
section
/-! the program: pages that sign names out -/
namespace K37
open PySem Jv Rf
theorem is_whole_ok {i : Nat} {m : Int} (h : (i : Int) ≤ m) (st : Sto) : rn_is_whole [.v (.int (i : Int)), .v (.int 0), .v (.int m)] st = tt st := by
  have tk : List.take st.length st = st := List.take_length
  have iy : isSub "int" "int" = some true := by kernel_rfl
  have iz : isSub "int" "bool" = some false := by kernel_rfl
  have l1 : leD st (.v (.int 0)) (.v (.int (i : Int))) = some (.bl true) := by
    show some (Jv.D.bl (decide ((0 : Int) ≤ (i : Int)))) = _
    rw [decide_eq_true (by omega)]
  have l2 : leD st (.v (.int (i : Int))) (.v (.int m)) = some (.bl true) := by
    show some (Jv.D.bl (decide ((i : Int) ≤ m))) = _
    rw [decide_eq_true h]
  generalize (i : Int) = n at *
  simp [runS, Jv.envOf, fin, noX, sSeq, sAsg, sIf, sPar, sSet, sRet, sNil, sExpr, sNo, tVal, bOr, bNot, bAnd, bYes, eAnd, eOr, eNot, eIf, eBin, eCall, eTup, eCon, eVar, eBlt, eLst, eNeg, eChain, aCons, aNil, aLim, itK, itemsK, gTp, gNm, gsCons, gsNil, allV, ofOp, R.thenS, R.bind, List.replicate, rn_is_whole, dn_is_whole, isiB, tyN, iy, iz, l1, l2, tk]
theorem need_page_ok {s : List Pg} {i : Nat} (h : i < s.length) (st : Sto) : rn_need_page [.v (eSite s), .v (.int (i : Int))] st = .ok (.v (.int (i : Int))) st := by
  have tk : List.take st.length st = st := List.take_length
  have ln : lenA st [.v (eSite s)] = some (.int (s.length : Int)) := by simp [eSite, lenA, lenB]
  have sb : subD st (.v (.int (s.length : Int))) (.v (.int 1)) = some (.int ((s.length : Int) - 1)) := rfl
  have q := is_whole_ok (i := i) (m := (s.length : Int) - 1) (by omega) st
  generalize (i : Int) = n at *
  generalize (s.length : Int) = m at *
  generalize eSite s = ES at *
  simp [runS, Jv.envOf, fin, noX, sSeq, sAsg, sIf, sPar, sSet, sRet, sNil, sExpr, sNo, tVal, bOr, bNot, bAnd, bYes, eAnd, eOr, eNot, eIf, eBin, eCall, eTup, eCon, eVar, eBlt, eLst, eNeg, eChain, aCons, aNil, aLim, itK, itemsK, gTp, gNm, gsCons, gsNil, allV, ofOp, R.thenS, R.bind, List.replicate, rn_need_page, dn_need_page, ln, sb, q, tk]
theorem need_name_ok {n : Str} (h : Rf.wordB LET n = true) (st : Sto) : rn_need_name [.v (.str n)] st = .ok (.v (.str n)) st := by
  have tk : List.take st.length st = st := List.take_length
  have q := is_name_ok (d := .str n) h st
  simp [runS, Jv.envOf, fin, noX, sSeq, sAsg, sIf, sPar, sSet, sRet, sNil, sExpr, sNo, tVal, bOr, bNot, bAnd, bYes, eAnd, eOr, eNot, eIf, eBin, eCall, eTup, eCon, eVar, eBlt, eLst, eNeg, eChain, aCons, aNil, aLim, itK, itemsK, gTp, gNm, gsCons, gsNil, allV, ofOp, R.thenS, R.bind, List.replicate, rn_need_name, dn_need_name, q, tk]
end K37
end
section
/-! where values go -/
namespace K37
open PySem Jv Rf
def eAd (h path : List Str) (sec : Bool) : Jv.D := .tup [eSs h, eSs path, .bl sec]
def goesB (k : Ky) (g : Bool) (h path : List Str) (sec : Bool) : Bool := !(g && !sec) && decide (path.take k.fol.length = k.fol) && (if k.alone then decide (h = k.dom) else isWithin h k.dom)
theorem law_goes_ok {k : Ky} (hk : kyG k = true) (v : Str) (g : Bool) {h path : List Str} (hh : strsOk h = true) (hp : strsOk path = true) (sec : Bool) (st : Sto) :
    rn__law_goes [.v (eKy k), .v (.tup [.str v, .bl g]), .v (eAd h path sec)] st = .ok (.v (.bl (goesB k g h path sec))) st := by
  have tk : List.take st.length st = st := List.take_length
  simp only [kyG, Bool.and_eq_true] at hk
  have hd := strsOk_host hk.1.2
  have hf := strsOk_path hk.2
  have h2 : 2 ≤ k.dom.length := by
    have := hk.1.2
    simp only [hostG, Bool.and_eq_true, decide_eq_true_eq] at this
    exact this.1.2
  have l1 := len_ss st k.fol
  have l2 := len_ss st k.dom
  have s1 : slcD st (.v (eSs path)) none (some (k.fol.length : Int)) = some (eSs (path.take k.fol.length)) := by rw [slc_ss, cut_upto]
  have s2 : slcD st (.v (eSs h)) (some (-(k.dom.length : Int))) none = some (eSs (h.drop (h.length - k.dom.length))) := by rw [slc_ss, cut_tail h (by omega)]
  have ht : strsOk (path.take k.fol.length) = true := List.all_eq_true.mpr fun x hx => List.all_eq_true.mp hp x (List.take_subset _ _ hx)
  have hdr : strsOk (h.drop (h.length - k.dom.length)) = true := List.all_eq_true.mpr fun x hx => List.all_eq_true.mp hh x (List.drop_subset _ _ hx)
  have n1 := neD_ss ht hf st
  have e1 := eqD_ss hh hd st
  have e2 := eqD_ss hdr hd st
  rw [tail_is] at e2
  obtain ⟨name, dom, fol, alone⟩ := k
  simp only at *
  have ek : eKy ⟨name, dom, fol, alone⟩ = .tup [.str name, eSs dom, eSs fol, .bl alone] := rfl
  unfold goesB
  simp only
  generalize (fol.length : Int) = fl at *
  generalize (dom.length : Int) = dl at *
  generalize decide (path.take fol.length = fol) = b1 at *
  generalize decide (h = dom) = b2 at *
  generalize isWithin h dom = b3 at *
  have x1 : ixD st (.v (.tup [.str v, .bl g])) (.v (.int 1)) = some (.bl g) := by simp [ixD, at1]
  cases g <;> cases sec <;> cases alone <;> cases b1 <;> simp [runS, Jv.envOf, fin, noX, sSeq, sAsg, sIf, sPar, sSet, sRet, sNil, sExpr, sNo, tVal, bOr, bNot, bAnd, bYes, eAnd, eOr, eNot, eIf, eBin, eCall, eTup, eCon, eVar, eBlt, eLst, eNeg, eChain, aCons, aNil, aLim, itK, itemsK, gTp, gNm, gsCons, gsNil, allV, ofOp, R.thenS, R.bind, List.replicate, rn__law_goes, dn__law_goes, ek, eAd, x1, eSlc, pSo, pNo, l1, l2, s1, s2, n1, e1, e2, tk]
end K37
end
section
/-! what is sent -/
namespace K37
open PySem Jv Rf
def skD (p : Kd) : Jv.D := .tup [.str p.1.name, .int (0 - (p.1.fol.length : Int)), eSs p.1.fol]
def seK : ED := eTup (aCons (eBin ixD (eBin ixD (eVar 0) (eCon (.int 0))) (eCon (.int 0))) (aCons (eBin subD (eCon (.int 0)) (eBlt lenA (aCons (eBin ixD (eBin ixD (eVar 0) (eCon (.int 0))) (eCon (.int 2))) aNil))) (aCons (eBin ixD (eBin ixD (eVar 0) (eCon (.int 0))) (eCon (.int 2))) aNil)))
def seF : LD := lLc [3] (itK (eVar 0)) (gNm 3) (tVal (eCall rn__law_goes (aCons (eBin ixD (eVar 3) (eCon (.int 0))) (aCons (eBin ixD (eVar 3) (eCon (.int 1))) (aCons (eVar 1) aNil))))) (eVar 3)
def seO : LD := lLc [4, 5] (itK (eVar 2)) (gTp 2 (gsCons (gNm 4) (gsCons (gNm 5) gsNil))) bYes (eTup (aCons (eBin ixD (eVar 4) (eCon (.int 0))) (aCons (eBin ixD (eVar 5) (eCon (.int 0))) aNil)))
theorem dn__law_sent_eq : dn__law_sent = sSeq (sSet 2 (eLst seF)) (sSeq (sSet 2 (eLst (lSortL 0 ("_law_sent", none) "_law_sent.<locals>.<lambda>" seK (aCons (eVar 2) aNil)))) (sRet (eBlt tupleB (aCons (eLst seO) aNil)))) := rfl
theorem kd_ix (p : Kd) (st : Sto) : ixD st (.v (eKd p)) (.v (.int 0)) = some (eKy p.1) ∧ ixD st (.v (eKd p)) (.v (.int 1)) = some (.tup [.str p.2.1, .bl p.2.2]) := by
  constructor <;> simp [eKd, ixD, at0, at1]
theorem seK_ok (p : Kd) (st : Sto) : runL seK [.v (eKd p)] st = .ok (.v (skD p)) st := by
  have tk : List.take st.length st = st := List.take_length
  obtain ⟨k0, _⟩ := kd_ix p st
  obtain ⟨x0, _, x2, _⟩ := ky_ix p.1 st
  have l1 := len_ss st p.1.fol
  have sb : subD st (.v (.int 0)) (.v (.int (p.1.fol.length : Int))) = some (.int (0 - (p.1.fol.length : Int))) := rfl
  unfold skD
  generalize (p.1.fol.length : Int) = n at *
  generalize 0 - n = m at *
  simp [runS, Jv.envOf, fin, noX, sSeq, sAsg, sIf, sPar, sSet, sRet, sNil, sExpr, sNo, tVal, bOr, bNot, bAnd, bYes, eAnd, eOr, eNot, eIf, eBin, eCall, eTup, eCon, eVar, eBlt, eLst, eNeg, eChain, aCons, aNil, aLim, itK, itemsK, gTp, gNm, gsCons, gsNil, allV, ofOp, R.thenS, R.bind, List.replicate, runL, seK, k0, x0, x2, l1, sb, tk]
theorem keys_sent : ∀ (xs : List Kd) (st : Sto), keysOf (runL seK) (xs.map eKd) st = .ok (xs.map skD) st
  | [], st => rfl
  | p :: r, st => by
    simp only [List.map_cons, keysOf, seK_ok, noX_ok, R.bind_ok, keys_sent r st]
theorem sk_py (p : Kd) : (skD p).py = .tuple [.str p.1.name, .int (0 - (p.1.fol.length : Int)), .tuple (p.1.fol.map PyData.str)] := by
  simp only [skD, D.py, D.pyL, py_ss]
theorem sk_alike (a b : Kd) : PySem.W.alike (skD a).py (skD b).py = true := by
  rw [sk_py, sk_py]
  simp [PySem.W.alike, PySem.W.alikeAll, alike_strs]
theorem sk_ok {xs : List Kd} (h : kdG xs) : keysOk (xs.map skD) = true := by
  unfold keysOk
  simp only [Bool.and_eq_true]
  refine ⟨⟨?_, ?_⟩, ?_⟩
  · unfold alikes
    simp only [List.all_eq_true, List.mem_map]
    rintro _ ⟨_, ⟨a, _, rfl⟩, rfl⟩ _ ⟨_, ⟨b, _, rfl⟩, rfl⟩
    exact sk_alike a b
  · simp only [List.all_eq_true, List.mem_map]
    rintro _ ⟨_, ⟨a, _, rfl⟩, rfl⟩
    rw [sk_py]; rfl
  · simp only [List.all_eq_true, List.mem_map]
    rintro _ ⟨a, ha, rfl⟩
    have g := kyOk_of (h a ha)
    simp only [kyOk, Bool.and_eq_true] at g
    rw [sk_py]
    simp [PyData.depth, PyData.depthAll, dep_strs, PyData.canLay0, PyData.canLayAll0, g.1.1, lay_strs g.2]
def sentL (xs : List Kd) : List Kd := isort (fun a b => PySem.W.dataLe false (fun p : Jv.D × Jv.D => p.2.py) (eKd a, skD a) (eKd b, skD b)) xs
theorem sent_sort {xs : List Kd} (h : kdG xs) (hl : xs.length ≤ 1000) (st : Sto) : sortK (runL seK) (xs.map eKd) st = .ok ((sentL xs).map eKd) st := by
  have z : (xs.map eKd).zip (xs.map skD) = xs.map fun p => (eKd p, skD p) := by
    rw [List.zip_map']
  have so : sortD (xs.map eKd) (xs.map skD) = (sentL xs).map eKd := by
    unfold sortD sentL
    rw [z, isort_map (le := fun a b => PySem.W.dataLe false (fun p : Jv.D × Jv.D => p.2.py) (eKd a, skD a) (eKd b, skD b)) (fun p => (eKd p, skD p)) (fun _ _ => rfl), List.map_map]
    rfl
  have k := sk_ok h
  have c : decide ((xs.map eKd).length ≤ 100000) = true := decide_eq_true (by rw [List.length_map]; omega)
  simp only [sortK, keys_sent, R.bind_ok, sortFin, k, c, Bool.and_self, if_true, so]
def sentOf (L : List Kd) (h path : List Str) (sec : Bool) : List Kd := sentL (L.filter fun p => goesB p.1 p.2.2 h path sec)
theorem law_sent_ok {L : List Kd} (hL : kdG L) (hl : L.length ≤ 1000) {h path : List Str} (hh : strsOk h = true) (hp : strsOk path = true) (sec : Bool) {st : Sto} (ht : tabAt st 0 ("_law_sent", none) "_law_sent.<locals>.<lambda>" = true) :
    rn__law_sent [.v (.lst (L.map eKd)), .v (eAd h path sec)] st = .ok (.v (.tup ((sentOf L h path sec).map fun p => .tup [.str p.1.name, .str p.2.1]))) st := by
  have tk : List.take st.length st = st := List.take_length
  have lc := lcGo_pure (g := gNm 3) (t := tVal (eCall rn__law_goes (aCons (eBin ixD (eVar 3) (eCon (.int 0))) (aCons (eBin ixD (eVar 3) (eCon (.int 1))) (aCons (eVar 1) aNil))))) (e := eVar 3) (env := [some (.v (.lst (L.map eKd))), some (.v (eAd h path sec)), none, none, none, none]) eKd (fun p => goesB p.1 p.2.2 h path sec) eKd (st := st) L [] (fun p hp' => by
    obtain ⟨k0, k1⟩ := kd_ix p st
    have q := law_goes_ok (hL p hp') p.2.1 p.2.2 hh hp sec st
    refine ⟨_, rfl, ?_, fun _ => rfl⟩
    generalize eAd h path sec = AD at *
    simp [runS, Jv.envOf, fin, noX, sSeq, sAsg, sIf, sPar, sSet, sRet, sNil, sExpr, sNo, tVal, bOr, bNot, bAnd, bYes, eAnd, eOr, eNot, eIf, eBin, eCall, eTup, eCon, eVar, eBlt, eLst, eNeg, eChain, aCons, aNil, aLim, itK, itemsK, gTp, gNm, gsCons, gsNil, allV, ofOp, R.thenS, R.bind, List.replicate, k0, k1, q])
  rw [List.nil_append] at lc
  have gF : kdG (L.filter fun p => goesB p.1 p.2.2 h path sec) := fun p hp => hL p (List.mem_filter.mp hp).1
  have lF := List.length_filter_le (fun p : Kd => goesB p.1 p.2.2 h path sec) L
  have so := sent_sort gF (by omega) st
  have e0 : sentL (L.filter fun p => goesB p.1 p.2.2 h path sec) = sentOf L h path sec := rfl
  rw [e0] at so
  have lc2 := lcGo_pure (g := gTp 2 (gsCons (gNm 4) (gsCons (gNm 5) gsNil))) (t := bYes) (e := eTup (aCons (eBin ixD (eVar 4) (eCon (.int 0))) (aCons (eBin ixD (eVar 5) (eCon (.int 0))) aNil))) (env := [some (.v (.lst (L.map eKd))), some (.v (eAd h path sec)), some (.v (.lst ((sentOf L h path sec).map eKd))), none, none, none]) eKd (fun _ => true) (fun p => .tup [.str p.1.name, .str p.2.1]) (st := st) (sentOf L h path sec) [] (fun p _ => by
    obtain ⟨x0, _⟩ := ky_ix p.1 st
    have y0 : ixD st (.v (.tup [.str p.2.1, .bl p.2.2])) (.v (.int 0)) = some (.str p.2.1) := by simp [ixD, at0]
    refine ⟨[some (.v (.lst (L.map eKd))), some (.v (eAd h path sec)), some (.v (.lst ((sentOf L h path sec).map eKd))), none, some (.v (eKy p.1)), some (.v (.tup [.str p.2.1, .bl p.2.2]))], rfl, rfl, fun _ => ?_⟩
    simp [runS, Jv.envOf, fin, noX, sSeq, sAsg, sIf, sPar, sSet, sRet, sNil, sExpr, sNo, tVal, bOr, bNot, bAnd, bYes, eAnd, eOr, eNot, eIf, eBin, eCall, eTup, eCon, eVar, eBlt, eLst, eNeg, eChain, aCons, aNil, aLim, itK, itemsK, gTp, gNm, gsCons, gsNil, allV, ofOp, R.thenS, R.bind, List.replicate, x0, y0])
  rw [filter_yes, List.nil_append] at lc2
  have sl : (sentOf L h path sec).length ≤ 1000 := by
    unfold sentOf sentL
    rw [(isort_perm _ _).length_eq]
    omega
  have c1 : (L.map eKd).length ≤ 100000 := by rw [List.length_map]; omega
  have c2 : ((sentOf L h path sec).map eKd).length ≤ 100000 := by rw [List.length_map]; omega
  have tb : ∀ l : List Jv.D, tupleB st [.v (.lst l)] = some (.tup l) := fun l => rfl
  have al : ∀ l : List Jv.D, asLst st (.v (.lst l)) = some l := fun l => rfl
  have f1 : seF [some (.v (.lst (L.map eKd))), some (.v (eAd h path sec)), none, none, none, none] st = .ok ((L.filter fun p => goesB p.1 p.2.2 h path sec).map eKd) st := by
    simp only [seF, lLc, itK, itemsK, items, eVar, List.getElem?_cons_succ, List.getElem?_cons_zero, R.bind_ok, if_pos c1, wipeE, List.set_cons_succ, List.set_cons_zero, lc]
  have f2 : seO [some (.v (.lst (L.map eKd))), some (.v (eAd h path sec)), some (.v (.lst ((sentOf L h path sec).map eKd))), none, none, none] st = .ok ((sentOf L h path sec).map fun p => .tup [.str p.1.name, .str p.2.1]) st := by
    simp only [seO, lLc, itK, itemsK, items, eVar, List.getElem?_cons_succ, List.getElem?_cons_zero, R.bind_ok, if_pos c2, wipeE, List.set_cons_succ, List.set_cons_zero, lc2]
  unfold rn__law_sent
  rw [dn__law_sent_eq]
  generalize seF = SF at *
  generalize seO = SO at *
  generalize seK = SK at *
  generalize (sentOf L h path sec).map eKd = MK at *
  generalize (L.filter fun p => goesB p.1 p.2.2 h path sec).map eKd = FK at *
  generalize L.map eKd = LK at *
  generalize eAd h path sec = AD at *
  simp [runS, Jv.envOf, fin, noX, sSeq, sAsg, sIf, sPar, sSet, sRet, sNil, sExpr, sNo, tVal, bOr, bNot, bAnd, bYes, eAnd, eOr, eNot, eIf, eBin, eCall, eTup, eCon, eVar, eBlt, eLst, eNeg, eChain, aCons, aNil, aLim, itK, itemsK, gTp, gNm, gsCons, gsNil, allV, ofOp, R.thenS, R.bind, List.replicate, f1, lSortL, al, ht, so, f2, tb, tk]
end K37
end
section
/-! the program's: where kept things go, what is sent, what is read -/
namespace K37
open PySem Jv Rf
theorem need_address_ok {h path : List Str} {sec : Bool} (ha : addrB (eAd h path sec) = true) (st : Sto) : rn_need_address [.v (eAd h path sec)] st = .ok (.v (eAd h path sec)) st := by
  have q := is_address_ok ha st
  have tk : List.take st.length st = st := List.take_length
  generalize eAd h path sec = A at *
  simp [runS, Jv.envOf, fin, noX, sSeq, sAsg, sIf, sPar, sSet, sRet, sNil, sExpr, sNo, tVal, bOr, bNot, bAnd, bYes, eAnd, eOr, eNot, eIf, eBin, eCall, eTup, eCon, eVar, eBlt, eLst, eNeg, eChain, aCons, aNil, aLim, itK, itemsK, gTp, gNm, gsCons, gsNil, allV, ofOp, R.thenS, R.bind, List.replicate, rn_need_address, dn_need_address, q, tk]
theorem is_below_ok {p f : List Str} (hp : strsOk p = true) (hf : strsOk f = true) (st : Sto) : rn_is_below [.v (eSs p), .v (eSs f)] st = .ok (.v (.bl (decide (p.take f.length = f)))) st := by
  have tk : List.take st.length st = st := List.take_length
  have l1 := len_ss st f
  have s1 : slcD st (.v (eSs p)) none (some (f.length : Int)) = some (eSs (p.take f.length)) := by rw [slc_ss, cut_upto]
  have ht : strsOk (p.take f.length) = true := List.all_eq_true.mpr fun x hx => List.all_eq_true.mp hp x (List.take_subset _ _ hx)
  have e1 := eqD_ss ht hf st
  generalize decide (p.take f.length = f) = b at *
  generalize eSs (p.take f.length) = PT at *
  generalize (f.length : Int) = fl at *
  simp [runS, Jv.envOf, fin, noX, sSeq, sAsg, sIf, sPar, sSet, sRet, sNil, sExpr, sNo, tVal, bOr, bNot, bAnd, bYes, eAnd, eOr, eNot, eIf, eBin, eCall, eTup, eCon, eVar, eBlt, eLst, eNeg, eChain, aCons, aNil, aLim, itK, itemsK, gTp, gNm, gsCons, gsNil, allV, ofOp, R.thenS, R.bind, List.replicate, rn_is_below, dn_is_below, l1, eSlc, pSo, pNo, s1, e1, tk]
theorem within_self (h : List Str) : isWithin h h = true := by
  unfold isWithin
  simp
theorem goes_ok {p : Kd} (hk : kyG p.1 = true) {h path : List Str} (hh : strsOk h = true) (hp : strsOk path = true) (sec : Bool) (st : Sto) :
    rn_goes [.v (eKq p), .v (eAd h path sec)] st = .ok (.v (.bl (goesB p.1 p.2.2 h path sec))) st := by
  have tk : List.take st.length st = st := List.take_length
  simp only [kyG, Bool.and_eq_true] at hk
  have hd := strsOk_host hk.1.2
  have hf := strsOk_path hk.2
  have b1 := is_below_ok hp hf st
  have b2 := is_within_ok hh hd st
  have e1 := eqD_ss hh hd st
  have sf := within_self h
  obtain ⟨⟨name, dom, fol, alone⟩, v, g⟩ := p
  simp only at *
  have x0 : ixD st (.v (eKq (⟨name, dom, fol, alone⟩, v, g))) (.v (.int 0)) = some (.tup [.str name, eSs dom, eSs fol, .bl alone]) := by simp [eKq, eKy, ixD, at0]
  have x2 : ixD st (.v (eKq (⟨name, dom, fol, alone⟩, v, g))) (.v (.int 2)) = some (.bl g) := by simp [eKq, ixD, at2]
  unfold goesB
  simp only
  by_cases c : h = dom
  · subst c
    rw [decide_eq_true rfl] at e1 ⊢
    rw [sf] at b2 ⊢
    generalize decide (path.take fol.length = fol) = b1' at *
    generalize eKq (⟨name, h, fol, alone⟩, v, g) = KQ at *
    cases g <;> cases sec <;> cases alone <;> cases b1' <;> simp [runS, Jv.envOf, fin, noX, sSeq, sAsg, sIf, sPar, sSet, sRet, sNil, sExpr, sNo, tVal, bOr, bNot, bAnd, bYes, eAnd, eOr, eNot, eIf, eBin, eCall, eTup, eCon, eVar, eBlt, eLst, eNeg, eChain, aCons, aNil, aLim, itK, itemsK, gTp, gNm, gsCons, gsNil, allV, ofOp, R.thenS, R.bind, List.replicate, rn_goes, dn_goes, eAd, x0, x2, b1, b2, e1, tk]
  · rw [decide_eq_false c] at e1 ⊢
    generalize isWithin h dom = b3 at *
    generalize decide (path.take fol.length = fol) = b1' at *
    generalize eKq (⟨name, dom, fol, alone⟩, v, g) = KQ at *
    cases g <;> cases sec <;> cases alone <;> cases b1' <;> simp [runS, Jv.envOf, fin, noX, sSeq, sAsg, sIf, sPar, sSet, sRet, sNil, sExpr, sNo, tVal, bOr, bNot, bAnd, bYes, eAnd, eOr, eNot, eIf, eBin, eCall, eTup, eCon, eVar, eBlt, eLst, eNeg, eChain, aCons, aNil, aLim, itK, itemsK, gTp, gNm, gsCons, gsNil, allV, ofOp, R.thenS, R.bind, List.replicate, rn_goes, dn_goes, eAd, x0, x2, b1, b2, e1, tk]
/-- name and value -/
def eNv (p : Kd) : Jv.D := .tup [.str p.1.name, .str p.2.1]
theorem sent_in_ok {J : List Kd} (g : kdG J) (hl : J.length ≤ 1000) {h path : List Str} (hh : strsOk h = true) (hp : strsOk path = true) (sec : Bool) (st : Sto) :
    rn_sent_in [.v (eJr J), .v (eAd h path sec)] st = .ok (.v (.tup ((J.filter fun p => goesB p.1 p.2.2 h path sec).map eNv))) st := by
  have tk : List.take st.length st = st := List.take_length
  have c := lLc_pure (vs := [2]) (it := itK (eVar 0)) (g := gNm 2) (t := tVal (eCall rn_goes (aCons (eVar 2) (aCons (eVar 1) aNil)))) (e := eTup (aCons (eBin ixD (eBin ixD (eVar 2) (eCon (.int 0))) (eCon (.int 0))) (aCons (eBin ixD (eVar 2) (eCon (.int 1))) aNil))) (env := [some (.v (eJr J)), some (.v (eAd h path sec)), none]) (st := st) eKq (fun p => goesB p.1 p.2.2 h path sec) eNv (xs := J) rfl (by omega) (fun p hpm => by
    have q := goes_ok (p := p) (g p hpm) hh hp sec st
    have x0 : ixD st (.v (eKq p)) (.v (.int 0)) = some (eKy p.1) := by simp [eKq, ixD, at0]
    have x1 : ixD st (.v (eKq p)) (.v (.int 1)) = some (.str p.2.1) := by simp [eKq, ixD, at1]
    have k0 : ixD st (.v (eKy p.1)) (.v (.int 0)) = some (.str p.1.name) := by simp [eKy, ixD, at0]
    refine ⟨[some (.v (eJr J)), some (.v (eAd h path sec)), some (.v (eKq p))], rfl, ?_, fun _ => ?_⟩
    · generalize eJr J = JJ at *
      generalize eAd h path sec = A at *
      generalize eKq p = KQ at *
      simp [runS, Jv.envOf, fin, noX, sSeq, sAsg, sIf, sPar, sSet, sRet, sNil, sExpr, sNo, tVal, bOr, bNot, bAnd, bYes, eAnd, eOr, eNot, eIf, eBin, eCall, eTup, eCon, eVar, eBlt, eLst, eNeg, eChain, aCons, aNil, aLim, itK, itemsK, gTp, gNm, gsCons, gsNil, allV, ofOp, R.thenS, R.bind, List.replicate, q]
    · unfold eNv
      generalize eJr J = JJ at *
      generalize eAd h path sec = A at *
      generalize eKy p.1 = KK at *
      generalize eKq p = KQ at *
      simp [runS, Jv.envOf, fin, noX, sSeq, sAsg, sIf, sPar, sSet, sRet, sNil, sExpr, sNo, tVal, bOr, bNot, bAnd, bYes, eAnd, eOr, eNot, eIf, eBin, eCall, eTup, eCon, eVar, eBlt, eLst, eNeg, eChain, aCons, aNil, aLim, itK, itemsK, gTp, gNm, gsCons, gsNil, allV, ofOp, R.thenS, R.bind, List.replicate, x0, x1, k0])
  unfold rn_sent_in dn_sent_in
  generalize (lLc [2] (itK (eVar 0)) (gNm 2) (tVal (eCall rn_goes (aCons (eVar 2) (aCons (eVar 1) aNil)))) (eTup (aCons (eBin ixD (eBin ixD (eVar 2) (eCon (.int 0))) (eCon (.int 0))) (aCons (eBin ixD (eVar 2) (eCon (.int 1))) aNil)))) = LC at *
  generalize (J.filter fun p => goesB p.1 p.2.2 h path sec).map eNv = RM at *
  generalize eJr J = JJ at *
  generalize eAd h path sec = A at *
  simp [runS, Jv.envOf, fin, noX, sSeq, sAsg, sIf, sPar, sSet, sRet, sNil, sExpr, sNo, tVal, bOr, bNot, bAnd, bYes, eAnd, eOr, eNot, eIf, eBin, eCall, eTup, eCon, eVar, eBlt, eLst, eNeg, eChain, aCons, aNil, aLim, itK, itemsK, gTp, gNm, gsCons, gsNil, allV, ofOp, R.thenS, R.bind, List.replicate, c, tupleB, asLst, tk]
end K37
end
section
/-! what is read -/
namespace K37
open PySem Jv Rf
theorem ne_strs {a : List Str} (h : strsOk a = true) (st : Sto) : neD st (.v (.lst (a.map .str))) (.v (.lst [])) = some (.bl (!a.isEmpty)) := by
  have h1 : SeqAt.shaped (D.lst (a.map .str)).py = true := by
    simp [SeqAt.shaped, D.py, pyL_strs, PyData.canLay0, lay_strs h, PyData.depth, dep_strs]
  have h2 : SeqAt.shaped (D.lst []).py = true := by kernel_rfl
  simp only [neD, deref, h1, h2, Bool.and_self, if_true]
  cases a <;> simp [D.py, D.pyL, PyData.eqv, PyData.eqvAll]
def readG (J : List Kd) (h path : List Str) (sec : Bool) (n : Str) : Option Str := (((J.filter fun p => goesB p.1 p.2.2 h path sec).filter fun p => decide (p.1.name = n)).map fun p => p.2.1).head?
def riC : LD := lLc [4, 5] (itK (eCall rn_sent_in (aCons (eVar 0) (aCons (eVar 1) aNil)))) (gTp 2 (gsCons (gNm 4) (gsCons (gNm 5) gsNil))) (tVal (eBin eqD (eVar 4) (eVar 2))) (eVar 5)
theorem dn_read_in_eq : dn_read_in = sSeq (sSet 3 (eLst riC)) (sRet (eIf (tVal (eBin neD (eVar 3) (eLst (aLim aNil)))) (eBin ixD (eVar 3) (eCon (.int 0))) (eCon .non))) := rfl
theorem read_in_ok {J : List Kd} (g : kdG J) (gv : kdV J) (hl : J.length ≤ 1000) {h path : List Str} (hh : strsOk h = true) (hp : strsOk path = true) (sec : Bool) {n : Str} (hn : PyData.strOk n = true) (st : Sto) :
    rn_read_in [.v (eJr J), .v (eAd h path sec), .v (.str n)] st = .ok (.v ((readG J h path sec n).elim .non .str)) st := by
  have tk : List.take st.length st = st := List.take_length
  have q := sent_in_ok g hl hh hp sec st
  obtain ⟨S, hS⟩ : ∃ S, S = J.filter fun p => goesB p.1 p.2.2 h path sec := ⟨_, rfl⟩
  have hm : ∀ p ∈ S, p ∈ J := fun p hp' => by rw [hS] at hp'; exact (List.mem_filter.mp hp').1
  have sl : S.length ≤ J.length := by rw [hS]; exact List.length_filter_le _ _
  rw [← hS] at q
  have c := lLc_pure (vs := [4, 5]) (it := itK (eCall rn_sent_in (aCons (eVar 0) (aCons (eVar 1) aNil)))) (g := gTp 2 (gsCons (gNm 4) (gsCons (gNm 5) gsNil))) (t := tVal (eBin eqD (eVar 4) (eVar 2))) (e := eVar 5) (env := [some (.v (eJr J)), some (.v (eAd h path sec)), some (.v (.str n)), none, none, none]) (st := st) eNv (fun p => decide (p.1.name = n)) (fun p => .str p.2.1) (xs := S) (by
      generalize S.map eNv = SM at *
      generalize eJr J = JJ at *
      generalize eAd h path sec = A at *
      simp [runS, Jv.envOf, fin, noX, sSeq, sAsg, sIf, sPar, sSet, sRet, sNil, sExpr, sNo, tVal, bOr, bNot, bAnd, bYes, eAnd, eOr, eNot, eIf, eBin, eCall, eTup, eCon, eVar, eBlt, eLst, eNeg, eChain, aCons, aNil, aLim, itK, itemsK, gTp, gNm, gsCons, gsNil, allV, ofOp, R.thenS, R.bind, List.replicate, q, items]) (by omega) (fun p hpm => by
    have kg := kyOk_of (g p (hm p hpm))
    simp only [kyOk, Bool.and_eq_true] at kg
    have e := eq_str kg.1.1 hn st
    refine ⟨[some (.v (eJr J)), some (.v (eAd h path sec)), some (.v (.str n)), none, some (.v (.str p.1.name)), some (.v (.str p.2.1))], rfl, ?_, fun _ => rfl⟩
    generalize eJr J = JJ at *
    generalize eAd h path sec = A at *
    simp [runS, Jv.envOf, fin, noX, sSeq, sAsg, sIf, sPar, sSet, sRet, sNil, sExpr, sNo, tVal, bOr, bNot, bAnd, bYes, eAnd, eOr, eNot, eIf, eBin, eCall, eTup, eCon, eVar, eBlt, eLst, eNeg, eChain, aCons, aNil, aLim, itK, itemsK, gTp, gNm, gsCons, gsNil, allV, ofOp, R.thenS, R.bind, List.replicate, e])
  have vs : Rf.strsOk ((S.filter fun p => decide (p.1.name = n)).map fun p => p.2.1) = true := by
    unfold Rf.strsOk
    rw [List.all_eq_true]
    intro x hx
    obtain ⟨p, hp', rfl⟩ := List.mem_map.mp hx
    exact strOk_sig (gv p (hm p (List.mem_filter.mp hp').1))
  have ne := ne_strs vs st
  have c' : riC [some (.v (eJr J)), some (.v (eAd h path sec)), some (.v (.str n)), none, none, none] st = .ok (((S.filter fun p => decide (p.1.name = n)).map fun p => p.2.1).map .str) st := by
    rw [List.map_map]; exact c
  unfold rn_read_in readG
  rw [dn_read_in_eq, ← hS]
  generalize ((S.filter fun p => decide (p.1.name = n)).map fun p => p.2.1) = VL at *
  generalize riC = RC at *
  generalize eJr J = JJ at *
  generalize eAd h path sec = A at *
  cases VL with
  | nil =>
    simp only [List.map_nil, List.isEmpty_nil, List.head?_nil] at c' ne ⊢
    simp [runS, Jv.envOf, fin, noX, sSeq, sAsg, sIf, sPar, sSet, sRet, sNil, sExpr, sNo, tVal, bOr, bNot, bAnd, bYes, eAnd, eOr, eNot, eIf, eBin, eCall, eTup, eCon, eVar, eBlt, eLst, eNeg, eChain, aCons, aNil, aLim, itK, itemsK, gTp, gNm, gsCons, gsNil, allV, ofOp, R.thenS, R.bind, List.replicate, c', ne, tk]
  | cons x r =>
    have ix : ixD st (.v (.lst ((x :: r).map .str))) (.v (.int 0)) = some (.str x) := by
      show ixD st (.v (.lst ((x :: r).map .str))) (.v (.int ((0 : Nat) : Int))) = _
      simp only [ixD, asLst, Option.bind_some, atI_nat, List.map_cons, List.getElem?_cons_zero]
    simp only [List.isEmpty_cons, List.head?_cons] at ne ⊢
    generalize (x :: r).map Jv.D.str = XL at *
    simp [runS, Jv.envOf, fin, noX, sSeq, sAsg, sIf, sPar, sSet, sRet, sNil, sExpr, sNo, tVal, bOr, bNot, bAnd, bYes, eAnd, eOr, eNot, eIf, eBin, eCall, eTup, eCon, eVar, eBlt, eLst, eNeg, eChain, aCons, aNil, aLim, itK, itemsK, gTp, gNm, gsCons, gsNil, allV, ofOp, R.thenS, R.bind, List.replicate, c', ne, ix, tk]
end K37
end
section
/-! the law's own jars -/
namespace K37
open PySem Jv Rf
def ljK : ED := eTup (aCons (eBin ixD (eBin ixD (eVar 0) (eCon (.int 0))) (eCon (.int 0))) (aCons (eBin subD (eCon (.int 0)) (eBlt lenA (aCons (eBin ixD (eBin ixD (eVar 0) (eCon (.int 0))) (eCon (.int 2))) aNil))) (aCons (eBin ixD (eBin ixD (eVar 0) (eCon (.int 0))) (eCon (.int 2))) aNil)))
def ljO : LD := lLc [2, 3] (itK (eVar 1)) (gTp 2 (gsCons (gNm 2) (gsCons (gNm 3) gsNil))) bYes (eTup (aCons (eVar 2) (aCons (eBin ixD (eVar 3) (eCon (.int 0))) (aCons (eBin ixD (eVar 3) (eCon (.int 1))) aNil))))
theorem dn__law_jar_eq : dn__law_jar = sSeq (sSet 1 (eLst (lSortL 1 ("_law_jar", none) "_law_jar.<locals>.<lambda>" ljK (aCons (eVar 0) aNil)))) (sRet (eBlt tupleB (aCons (eLst ljO) aNil))) := rfl
theorem ljK_ok (p : Kd) (st : Sto) : runL ljK [.v (eKd p)] st = .ok (.v (skQ p)) st := by
  have tk : List.take st.length st = st := List.take_length
  obtain ⟨k0, _⟩ := kd_ix p st
  obtain ⟨x0, _, x2, _⟩ := ky_ix p.1 st
  have l1 := len_ss st p.1.fol
  have sb : subD st (.v (.int 0)) (.v (.int (p.1.fol.length : Int))) = some (.int (0 - (p.1.fol.length : Int))) := rfl
  unfold skQ
  generalize (p.1.fol.length : Int) = n at *
  generalize 0 - n = m at *
  simp [runS, Jv.envOf, fin, noX, sSeq, sAsg, sIf, sPar, sSet, sRet, sNil, sExpr, sNo, tVal, bOr, bNot, bAnd, bYes, eAnd, eOr, eNot, eIf, eBin, eCall, eTup, eCon, eVar, eBlt, eLst, eNeg, eChain, aCons, aNil, aLim, itK, itemsK, gTp, gNm, gsCons, gsNil, allV, ofOp, R.thenS, R.bind, List.replicate, runL, ljK, k0, x0, x2, l1, sb, tk]
theorem law_jar_ok {L : List Kd} (hL : kdG L) (hl : L.length ≤ 1000) {st : Sto} (ht : tabAt st 1 ("_law_jar", none) "_law_jar.<locals>.<lambda>" = true) : rn__law_jar [.v (.lst (L.map eKd))] st = .ok (.v (eJr (sortR L))) st := by
  have tk : List.take st.length st = st := List.take_length
  have so := sortK_rank (run := runL ljK) (enc := eKd) (xs := L) (st := st) (fun p _ => ljK_ok p st) hL (by omega)
  have sl : (sortR L).length ≤ 1000 := by rw [(sortR_perm L).length_eq]; omega
  have o := lLc_all (vs := [2, 3]) (it := itK (eVar 1)) (g := gTp 2 (gsCons (gNm 2) (gsCons (gNm 3) gsNil))) (e := eTup (aCons (eVar 2) (aCons (eBin ixD (eVar 3) (eCon (.int 0))) (aCons (eBin ixD (eVar 3) (eCon (.int 1))) aNil)))) (env := [some (.v (.lst (L.map eKd))), some (.v (.lst ((sortR L).map eKd))), none, none]) (st := st) eKd eKq (xs := sortR L) rfl (by omega) (fun p hp => by
    have y0 : ixD st (.v (.tup [.str p.2.1, .bl p.2.2])) (.v (.int 0)) = some (.str p.2.1) := by simp [ixD, at0]
    have y1 : ixD st (.v (.tup [.str p.2.1, .bl p.2.2])) (.v (.int 1)) = some (.bl p.2.2) := by simp [ixD, at1]
    refine ⟨[some (.v (.lst (L.map eKd))), some (.v (.lst ((sortR L).map eKd))), some (.v (eKy p.1)), some (.v (.tup [.str p.2.1, .bl p.2.2]))], rfl, ?_⟩
    unfold eKq
    generalize eKy p.1 = KK at *
    simp [runS, Jv.envOf, fin, noX, sSeq, sAsg, sIf, sPar, sSet, sRet, sNil, sExpr, sNo, tVal, bOr, bNot, bAnd, bYes, eAnd, eOr, eNot, eIf, eBin, eCall, eTup, eCon, eVar, eBlt, eLst, eNeg, eChain, aCons, aNil, aLim, itK, itemsK, gTp, gNm, gsCons, gsNil, allV, ofOp, R.thenS, R.bind, List.replicate, y0, y1])
  have al : ∀ l : List Jv.D, asLst st (.v (.lst l)) = some l := fun l => rfl
  have tb : tupleB st [.v (.lst ((sortR L).map eKq))] = some (eJr (sortR L)) := rfl
  have o' : ljO [some (.v (.lst (L.map eKd))), some (.v (.lst ((sortR L).map eKd))), none, none] st = .ok ((sortR L).map eKq) st := o
  unfold rn__law_jar
  rw [dn__law_jar_eq]
  generalize ljO = LO at *
  generalize ljK = LK at *
  generalize eJr (sortR L) = RES at *
  generalize (sortR L).map eKq = QS at *
  generalize (sortR L).map eKd = DS at *
  generalize L.map eKd = LS at *
  simp [runS, Jv.envOf, fin, noX, sSeq, sAsg, sIf, sPar, sSet, sRet, sNil, sExpr, sNo, tVal, bOr, bNot, bAnd, bYes, eAnd, eOr, eNot, eIf, eBin, eCall, eTup, eCon, eVar, eBlt, eLst, eNeg, eChain, aCons, aNil, aLim, itK, itemsK, gTp, gNm, gsCons, gsNil, allV, ofOp, R.thenS, R.bind, List.replicate, lSortL, al, ht, so, o', tb, tk]
/-! ### the law's own search -/
end K37
end
section
/-! keys, worths, wishes by the program's own looks -/
namespace K37
open PySem Jv Rf
theorem is_key_ok {k : Ky} (h : kyG k = true) (st : Sto) : rn_is_key [.v (eKy k)] st = tt st := by
  simp only [kyG, Bool.and_eq_true] at h
  have q0 := is_name_ok (d := .str k.name) h.1.1 st
  have q1 := is_host_ok (hostB_of h.1.2) st
  have q2 := is_path_ok (pathB_of h.2) st
  have iy : isSub "tuple" "tuple" = some true := by kernel_rfl
  have iz : isSub "bool" "bool" = some true := by kernel_rfl
  have n4 := neI st 4
  simp [runS, Jv.envOf, fin, noX, sSeq, sAsg, sIf, sPar, sSet, sRet, sNil, sExpr, sNo, tVal, bOr, bNot, bAnd, bYes, eAnd, eOr, eNot, eIf, eBin, eCall, eTup, eCon, eVar, eBlt, eLst, eNeg, eChain, aCons, aNil, aLim, itK, itemsK, gTp, gNm, gsCons, gsNil, allV, ofOp, R.thenS, R.bind, List.replicate, rn_is_key, dn_is_key, eKy, isiB, tyN, iy, iz, lenA, lenB, ixD, at0, at1, at2, at3, q0, q1, q2, n4]
end K37
end
section
namespace K37
open PySem Jv Rf
theorem tk9 (st : Sto) : List.take st.length st = st := List.take_length
theorem tkS (st : Sto) (l : Nat) (o : Ob) : List.take st.length (st.set l o) = st.set l o := List.take_of_length_le (by simp)
theorem add_t {xs ys : List Jv.D} (h : xs.length + ys.length ≤ 100000) (st : Sto) : addD st (.v (.tup xs)) (.v (.tup ys)) = some (.tup (xs ++ ys)) := by
  show (if xs.length + ys.length ≤ 100000 then some (Jv.D.tup (xs ++ ys)) else none) = _
  rw [if_pos h]
theorem site_ix {s : List Pg} {i : Nat} (hi : i < s.length) (st : Sto) : ix2 st (.v (eSite s)) (.v (.int (i : Int))) = some (ePg s[i]) := by
  unfold eSite
  simp only [orO, ixD, atI_nat, List.getElem?_map, List.getElem?_eq_getElem hi, Option.map_some]
theorem site_len (s : List Pg) (st : Sto) : lenA st [.v (eSite s)] = some (.int (s.length : Int)) := by
  unfold eSite
  simp [lenA, lenB, asLst]
/-! ### the instance's fields -/
theorem ins_at {St : Sto} {l : Nat} {n : Str} {fs : List (Str × W)} (h : St[l]? = some (.ins n fs)) : insF n St (.r l) = some fs := by simp [insF, h]
theorem fld_at {St : Sto} {l : Nat} {n f : Str} {fs : List (Str × W)} {w : W} (h : St[l]? = some (.ins n fs)) (e : fs.lookup f = some w) : fldI n f (.r l) St = .ok w St := by simp [fldI, insF, h, e]
theorem put_at {St : Sto} {l : Nat} {n f : Str} {fs : List (Str × W)} (h : St[l]? = some (.ins n fs)) (hl : fs.length < 1000) (v : Jv.D) (env : Jv.Env) : putFI n f (.v v) (.r l) env St = .nx env (St.set l (.ins n (putI f (.v v) fs))) := by
  simp [putFI, insF, h, W.undB, hl]
/-- the browser: its site, its jar and row, those that were -/
def bB (es J rw : Jv.D) (ps : List Jv.D) : Ob := .ins "Browser" [("own_site", .v es), ("state", .v (.tup [J, rw])), ("past", .v (.tup ps))]
section
variable {St : Sto} {l : Nat} {es J rw : Jv.D} {ps : List Jv.D} (h : St[l]? = some (bB es J rw ps))
include h
theorem b_own : fldI "Browser" "own_site" (.r l) St = .ok (.v es) St := fld_at h rfl
theorem b_state : fldI "Browser" "state" (.r l) St = .ok (.v (.tup [J, rw])) St := fld_at h rfl
theorem b_past : fldI "Browser" "past" (.r l) St = .ok (.v (.tup ps)) St := fld_at h rfl
theorem b_len : l < St.length := (List.getElem?_eq_some_iff.mp h).1
theorem b_set (o : Ob) : (St.set l o)[l]? = some o := List.getElem?_set_self (b_len h)
theorem jar_get : rn_Browser_jar [.r l] St = .ok (.v J) St := by
  have f := b_state h
  have x0 : ixD St (.v (.tup [J, rw])) (.v (.int 0)) = some J := by simp [ixD, at0]
  have tk := tk9 St
  simp [runS, Jv.envOf, fin, noX, sSeq, sAsg, sIf, sPar, sSet, sRet, sNil, sExpr, sNo, tVal, bOr, bNot, bAnd, bYes, eAnd, eOr, eNot, eIf, eBin, eCall, eTup, eCon, eVar, eBlt, eLst, eNeg, eChain, aCons, aNil, aLim, itK, itemsK, gTp, gNm, gsCons, gsNil, allV, ofOp, R.thenS, R.bind, List.replicate, rn_Browser_jar, dn_Browser_jar, eFldI, f, x0, tk]
theorem row_get : rn_Browser_row [.r l] St = .ok (.v rw) St := by
  have f := b_state h
  have x0 : ixD St (.v (.tup [J, rw])) (.v (.int 1)) = some rw := by simp [ixD, at1]
  have tk := tk9 St
  simp [runS, Jv.envOf, fin, noX, sSeq, sAsg, sIf, sPar, sSet, sRet, sNil, sExpr, sNo, tVal, bOr, bNot, bAnd, bYes, eAnd, eOr, eNot, eIf, eBin, eCall, eTup, eCon, eVar, eBlt, eLst, eNeg, eChain, aCons, aNil, aLim, itK, itemsK, gTp, gNm, gsCons, gsNil, allV, ofOp, R.thenS, R.bind, List.replicate, rn_Browser_row, dn_Browser_row, eFldI, f, x0, tk]
theorem site_get : rn_Browser_site [.r l] St = .ok (.v es) St := by
  have f := b_own h
  have tk := tk9 St
  simp [runS, Jv.envOf, fin, noX, sSeq, sAsg, sIf, sPar, sSet, sRet, sNil, sExpr, sNo, tVal, bOr, bNot, bAnd, bYes, eAnd, eOr, eNot, eIf, eBin, eCall, eTup, eCon, eVar, eBlt, eLst, eNeg, eChain, aCons, aNil, aLim, itK, itemsK, gTp, gNm, gsCons, gsNil, allV, ofOp, R.thenS, R.bind, List.replicate, rn_Browser_site, dn_Browser_site, eFldI, f, tk]
theorem len_get {xs : List Jv.D} (hJ : J = .tup xs) : rn_Browser___len__ [.r l] St = .ok (.v (.int (xs.length : Int))) St := by
  have f := b_state h
  have x0 : ixD St (.v (.tup [J, rw])) (.v (.int 0)) = some J := by simp [ixD, at0]
  have ln : lenA St [.v J] = some (.int (xs.length : Int)) := by rw [hJ]; simp [lenA, lenB]
  have tk := tk9 St
  clear hJ
  generalize (xs.length : Int) = n at *
  simp [runS, Jv.envOf, fin, noX, sSeq, sAsg, sIf, sPar, sSet, sRet, sNil, sExpr, sNo, tVal, bOr, bNot, bAnd, bYes, eAnd, eOr, eNot, eIf, eBin, eCall, eTup, eCon, eVar, eBlt, eLst, eNeg, eChain, aCons, aNil, aLim, itK, itemsK, gTp, gNm, gsCons, gsNil, allV, ofOp, R.thenS, R.bind, List.replicate, rn_Browser___len__, dn_Browser___len__, eFldI, f, x0, ln, tk]
theorem keep_ok (hp : ps.length ≤ 1000) (J' rw' : Jv.D) : rn_Browser_keep [.r l, .v J', .v rw'] St = .ok (.v .non) (St.set l (bB es J' rw' (ps ++ [.tup [J, rw]]))) := by
  have f1 := b_past h
  have f2 := b_state h
  have ad := add_t (xs := ps) (ys := [.tup [J, rw]]) (by simp; omega) St
  have p1 := fun env => put_at (f := "past") h (by show 3 < 1000; decide) (.tup (ps ++ [.tup [J, rw]])) env
  have e1 : Ob.ins "Browser" (putI "past" (.v (.tup (ps ++ [.tup [J, rw]]))) [("own_site", .v es), ("state", .v (.tup [J, rw])), ("past", .v (.tup ps))]) = bB es J rw (ps ++ [.tup [J, rw]]) := rfl
  simp only [e1] at p1
  have h2 := b_set h (bB es J rw (ps ++ [.tup [J, rw]]))
  have p2 := fun env => put_at (f := "state") h2 (by show 3 < 1000; decide) (.tup [J', rw']) env
  have e2 : Ob.ins "Browser" (putI "state" (.v (.tup [J', rw'])) [("own_site", .v es), ("state", .v (.tup [J, rw])), ("past", .v (.tup (ps ++ [.tup [J, rw]])))]) = bB es J' rw' (ps ++ [.tup [J, rw]]) := rfl
  simp only [e2, List.set_set] at p2
  have tk := tkS St l (bB es J' rw' (ps ++ [.tup [J, rw]]))
  generalize bB es J' rw' (ps ++ [.tup [J, rw]]) = B2 at *
  generalize bB es J rw (ps ++ [.tup [J, rw]]) = B1 at *
  simp [runS, Jv.envOf, fin, noX, sSeq, sAsg, sIf, sPar, sSet, sRet, sNil, sExpr, sNo, tVal, bOr, bNot, bAnd, bYes, eAnd, eOr, eNot, eIf, eBin, eCall, eTup, eCon, eVar, eBlt, eLst, eNeg, eChain, aCons, aNil, aLim, itK, itemsK, gTp, gNm, gsCons, gsNil, allV, ofOp, R.thenS, R.bind, List.replicate, rn_Browser_keep, dn_Browser_keep, sFldI, eFldI, f1, f2, ad, p1, p2, tk]
theorem clear_ok (hp : ps.length ≤ 1000) : rn_Browser_clear [.r l] St = .ok (.v .non) (St.set l (bB es (.tup []) (.tup []) (ps ++ [.tup [J, rw]]))) := by
  have k := keep_ok h hp (.tup []) (.tup [])
  obtain ⟨FS, hFS⟩ : ∃ FS : List (Str × W), FS = [(("own_site" : Str), W.v es), (("state" : Str), W.v (.tup [J, rw])), (("past" : Str), W.v (.tup ps))] := ⟨_, rfl⟩
  have i : insF "Browser" St (.r l) = some FS := by rw [hFS]; exact ins_at h
  have lk : (FS.lookup ("keep" : Str)).isNone = true := by rw [hFS]; kernel_rfl
  have tk := tkS St l (bB es (.tup []) (.tup []) (ps ++ [.tup [J, rw]]))
  clear hFS
  generalize bB es (.tup []) (.tup []) (ps ++ [.tup [J, rw]]) = B2 at *
  simp [runS, Jv.envOf, fin, noX, sSeq, sAsg, sIf, sPar, sSet, sRet, sNil, sExpr, sNo, tVal, bOr, bNot, bAnd, bYes, eAnd, eOr, eNot, eIf, eBin, eCall, eTup, eCon, eVar, eBlt, eLst, eNeg, eChain, aCons, aNil, aLim, itK, itemsK, gTp, gNm, gsCons, gsNil, allV, ofOp, R.thenS, R.bind, List.replicate, rn_Browser_clear, dn_Browser_clear, eMetI, i, lk, k, tk]
end
theorem undo_none {St : Sto} {l : Nat} {es J rw : Jv.D} (h : St[l]? = some (bB es J rw [])) : rn_Browser_undo [.r l] St = .ok (.v (.bl false)) St := by
  have f1 := b_past h
  have e0 : eqD0 St (.v (.tup [])) (.v (.tup [])) = some (.bl true) := rfl
  have tk := tk9 St
  simp [runS, Jv.envOf, fin, noX, sSeq, sAsg, sIf, sPar, sSet, sRet, sNil, sExpr, sNo, tVal, bOr, bNot, bAnd, bYes, eAnd, eOr, eNot, eIf, eBin, eCall, eTup, eCon, eVar, eBlt, eLst, eNeg, eChain, aCons, aNil, aLim, itK, itemsK, gTp, gNm, gsCons, gsNil, allV, ofOp, R.thenS, R.bind, List.replicate, rn_Browser_undo, dn_Browser_undo, eFldI, f1, e0, tk]
theorem undo_some {St : Sto} {l : Nat} {es J rw J0 rw0 : Jv.D} {ps : List Jv.D} (h : St[l]? = some (bB es J rw (ps ++ [.tup [J0, rw0]]))) (hp : ps.length ≤ 1000) : rn_Browser_undo [.r l] St = .ok (.v (.bl true)) (St.set l (bB es J0 rw0 ps)) := by
  have f1 := b_past h
  have e0 : eqD0 St (.v (.tup (ps ++ [.tup [J0, rw0]]))) (.v (.tup [])) = some (.bl false) := by
    have e2 : eq0 St (.v (.tup (ps ++ [.tup [J0, rw0]]))) (.v (.tup [])) = some (.bl false) := by simp [eq0]
    simp only [orO]
    cases e1 : eqD St (.v (.tup (ps ++ [.tup [J0, rw0]]))) (.v (.tup [])) with
    | none => exact e2
    | some d =>
      simp only [eqD] at e1
      split at e1
      · have : PyData.eqv (deref St (.v (.tup (ps ++ [.tup [J0, rw0]])))).py (deref St (.v (.tup []))).py = false := by
          cases ps <;> simp [deref, D.py, D.pyL, PyData.eqv, PyData.eqvAll]
        rw [this] at e1
        exact e1.symm
      · cases e1
  have x1 : ixD St (.v (.tup (ps ++ [.tup [J0, rw0]]))) (.v (.int (-1))) = some (.tup [J0, rw0]) := by
    have e : L2.ixN (ps ++ [Jv.D.tup [J0, rw0]]).length (-1) = some ps.length := by
      unfold L2.ixN
      rw [if_neg (by decide), if_pos (by simp; omega)]
      congr 1
      simp
      omega
    simp only [ixD, L2.atI, e, Option.bind_some]
    simp
  have p1 := fun env => put_at (f := "state") h (by show 3 < 1000; decide) (.tup [J0, rw0]) env
  have e1 : Ob.ins "Browser" (putI "state" (.v (.tup [J0, rw0])) [("own_site", .v es), ("state", .v (.tup [J, rw])), ("past", .v (.tup (ps ++ [.tup [J0, rw0]])))]) = bB es J0 rw0 (ps ++ [.tup [J0, rw0]]) := rfl
  simp only [e1] at p1
  have h2 := b_set h (bB es J0 rw0 (ps ++ [.tup [J0, rw0]]))
  have f2 := b_past h2
  have sl : slcD (St.set l (bB es J0 rw0 (ps ++ [.tup [J0, rw0]]))) (.v (.tup (ps ++ [.tup [J0, rw0]]))) none (some (-1)) = some (.tup ps) := by
    have : cutD (ps ++ [Jv.D.tup [J0, rw0]]) none (some (-1)) = ps := by
      have h1 : HT.sIx (ps ++ [Jv.D.tup [J0, rw0]]).length 0 none = 0 := rfl
      have h2 : HT.sIx (ps ++ [Jv.D.tup [J0, rw0]]).length (ps ++ [Jv.D.tup [J0, rw0]]).length (some (-1)) = ps.length := by
        unfold HT.sIx
        simp only
        rw [if_pos (by decide)]
        simp
        omega
      unfold cutD
      rw [h1, h2]
      simp
    show some (Jv.D.tup (cutD _ _ _)) = _
    rw [this]
  have p2 := fun env => put_at (f := "past") h2 (by show 3 < 1000; decide) (.tup ps) env
  have e2 : Ob.ins "Browser" (putI "past" (.v (.tup ps)) [("own_site", .v es), ("state", .v (.tup [J0, rw0])), ("past", .v (.tup (ps ++ [.tup [J0, rw0]])))]) = bB es J0 rw0 ps := rfl
  simp only [e2, List.set_set] at p2
  have tk := tkS St l (bB es J0 rw0 ps)
  generalize bB es J0 rw0 ps = B2 at *
  generalize bB es J0 rw0 (ps ++ [.tup [J0, rw0]]) = B1 at *
  generalize ps ++ [.tup [J0, rw0]] = PS at *
  simp [runS, Jv.envOf, fin, noX, sSeq, sAsg, sIf, sPar, sSet, sRet, sNil, sExpr, sNo, tVal, bOr, bNot, bAnd, bYes, eAnd, eOr, eNot, eIf, eBin, eCall, eTup, eCon, eVar, eBlt, eLst, eNeg, eChain, aCons, aNil, aLim, itK, itemsK, gTp, gNm, gsCons, gsNil, allV, ofOp, R.thenS, R.bind, List.replicate, rn_Browser_undo, dn_Browser_undo, sFldI, eFldI, eSlc, pNo, pSo, f1, f2, e0, x1, sl, p1, p2, tk]
end K37
end
section
namespace K37
open PySem Jv Rf
theorem ad_eq (a : Adr) : eAdr a = eAd a.host a.path a.sec := rfl
/-- what a jar sends to an address -/
def snD (J : List Kd) (h path : List Str) (sec : Bool) : Jv.D := .tup ((J.filter fun p => goesB p.1 p.2.2 h path sec).map eNv)
/-- the jar behind a row -/
theorem jar_facts {s : List Pg} (hs : ∀ p ∈ s, pgG p = true) (hl : s.length ≤ 5) (row : List Nat) : kdG (jarOf s row) ∧ Rf.KdOk (jarOf s row) ∧ kdV (jarOf s row) ∧ (jarOf s row).length ≤ 1000 := by
  have g := jarG_of hs hl row
  exact ⟨g.good, g.ok, g.val, g.len⟩
theorem row_add (Z : List Nat) (i : Nat) (h : Z.length ≤ 1000) (st : Sto) : addD st (.v (eRow Z)) (.v (.tup [.int (i : Int)])) = some (eRow (Z ++ [i])) := by
  have := add_t (xs := Z.map fun i : Nat => Jv.D.int (i : Int)) (ys := [.int (i : Int)]) (by simp; omega) st
  unfold eRow
  rw [this, List.map_append]
  rfl
section
variable {St : Sto} {l : Nat} {s : List Pg} {Z : List Nat} {ps : List Jv.D} (hg : siteG s = true) (h : St[l]? = some (bB (eSite s) (eJr (jarOf s Z)) (eRow Z) ps))
include hg h
theorem visit_ok {i : Nat} (hi : i < s.length) (hR : Z.length ≤ 1000) (hp : ps.length ≤ 1000) : rn_Browser_visit [.r l, .v (.int (i : Int))] St = .ok (.v (snD (jarOf s Z) s[i].adr.host s[i].adr.path s[i].adr.sec)) (St.set l (bB (eSite s) (eJr (jarOf s (Z ++ [i]))) (eRow (Z ++ [i])) (ps ++ [.tup [eJr (jarOf s Z), eRow Z]]))) := by
  obtain ⟨hs, h15, h5⟩ := site_parts hg
  have gp := hs s[i] (List.getElem_mem hi)
  obtain ⟨g1, g2, g3, g4⟩ := jar_facts hs h5 Z
  have ga := (pg_of gp).1
  have hh : strsOk s[i].adr.host = true ∧ strsOk s[i].adr.path = true := by
    simp only [adrG, Bool.and_eq_true] at ga
    exact ⟨strsOk_host ga.1, strsOk_path ga.2⟩
  have np := need_page_ok hi St
  have ix := site_ix hi St
  have f1 := b_own h
  have f2 := b_state h
  have x0 : ixD St (.v (.tup [eJr (jarOf s Z), eRow Z])) (.v (.int 0)) = some (eJr (jarOf s Z)) := by simp [ixD, at0]
  have x1 : ixD St (.v (.tup [eJr (jarOf s Z), eRow Z])) (.v (.int 1)) = some (eRow Z) := by simp [ixD, at1]
  have y0 : ixD St (.v (ePg s[i])) (.v (.int 0)) = some (eAd s[i].adr.host s[i].adr.path s[i].adr.sec) := by simp [ePg, ixD, at0, ad_eq]
  have si := sent_in_ok g1 g4 hh.1 hh.2 s[i].adr.sec St
  have si' : rn_sent_in [.v (eJr (jarOf s Z)), .v (eAd s[i].adr.host s[i].adr.path s[i].adr.sec)] St = .ok (.v (snD (jarOf s Z) s[i].adr.host s[i].adr.path s[i].adr.sec)) St := si
  have af := after_ok gp (L := jarOf s Z) (by have := jar_few s Z; have := keysRaw_len hs; omega) g2 g1 St
  have gi : s[i]? = some s[i] := List.getElem?_eq_getElem hi
  rw [← jarOf_snoc s Z i gi] at af
  have ra := row_add Z i hR St
  have k := keep_ok h hp (eJr (jarOf s (Z ++ [i]))) (eRow (Z ++ [i]))
  obtain ⟨FS, hFS⟩ : ∃ FS : List (Str × W), FS = [(("own_site" : Str), W.v (eSite s)), (("state" : Str), W.v (.tup [eJr (jarOf s Z), eRow Z])), (("past" : Str), W.v (.tup ps))] := ⟨_, rfl⟩
  have io : insF "Browser" St (.r l) = some FS := by rw [hFS]; exact ins_at h
  have lk : (FS.lookup ("keep" : Str)).isNone = true := by rw [hFS]; kernel_rfl
  clear hFS
  have tk := tkS St l (bB (eSite s) (eJr (jarOf s (Z ++ [i]))) (eRow (Z ++ [i])) (ps ++ [.tup [eJr (jarOf s Z), eRow Z]]))
  clear si h hh g1 g2 g3 g4 ga gp
  generalize bB (eSite s) (eJr (jarOf s (Z ++ [i]))) (eRow (Z ++ [i])) (ps ++ [.tup [eJr (jarOf s Z), eRow Z]]) = B2 at *
  generalize snD (jarOf s Z) s[i].adr.host s[i].adr.path s[i].adr.sec = SN at *
  generalize eAd s[i].adr.host s[i].adr.path s[i].adr.sec = AD at *
  generalize ePg s[i] = PG at *
  generalize eJr (jarOf s (Z ++ [i])) = J2 at *
  generalize eRow (Z ++ [i]) = R2 at *
  generalize eJr (jarOf s Z) = J1 at *
  generalize eRow Z = R1 at *
  generalize eSite s = ES at *
  simp [runS, Jv.envOf, fin, noX, sSeq, sAsg, sIf, sPar, sSet, sRet, sNil, sExpr, sNo, tVal, bOr, bNot, bAnd, bYes, eAnd, eOr, eNot, eIf, eBin, eCall, eTup, eCon, eVar, eBlt, eLst, eNeg, eChain, aCons, aNil, aLim, itK, itemsK, gTp, gNm, gsCons, gsNil, allV, ofOp, R.thenS, R.bind, List.replicate, rn_Browser_visit, dn_Browser_visit, eFldI, eMetI, f1, f2, np, ix, x0, x1, y0, si', af, ra, io, lk, k, tk]
theorem sent_ok {hh path : List Str} {sec : Bool} (ha : addrB (eAd hh path sec) = true) (h1 : strsOk hh = true) (h2 : strsOk path = true) : rn_Browser_sent [.r l, .v (eAd hh path sec)] St = .ok (.v (snD (jarOf s Z) hh path sec)) St := by
  obtain ⟨hs, h15, h5⟩ := site_parts hg
  obtain ⟨g1, g2, g3, g4⟩ := jar_facts hs h5 Z
  have f2 := b_state h
  have x0 : ixD St (.v (.tup [eJr (jarOf s Z), eRow Z])) (.v (.int 0)) = some (eJr (jarOf s Z)) := by simp [ixD, at0]
  have si : rn_sent_in [.v (eJr (jarOf s Z)), .v (eAd hh path sec)] St = .ok (.v (snD (jarOf s Z) hh path sec)) St := sent_in_ok g1 g4 h1 h2 sec St
  have na := need_address_ok ha St
  have tk := tk9 St
  clear ha h
  generalize snD (jarOf s Z) hh path sec = SN at *
  generalize eAd hh path sec = AD at *
  generalize eJr (jarOf s Z) = J1 at *
  generalize eRow Z = R1 at *
  simp [runS, Jv.envOf, fin, noX, sSeq, sAsg, sIf, sPar, sSet, sRet, sNil, sExpr, sNo, tVal, bOr, bNot, bAnd, bYes, eAnd, eOr, eNot, eIf, eBin, eCall, eTup, eCon, eVar, eBlt, eLst, eNeg, eChain, aCons, aNil, aLim, itK, itemsK, gTp, gNm, gsCons, gsNil, allV, ofOp, R.thenS, R.bind, List.replicate, rn_Browser_sent, dn_Browser_sent, eFldI, f2, x0, si, na, tk]
theorem read_ok {hh path : List Str} {sec : Bool} (ha : addrB (eAd hh path sec) = true) (h1 : strsOk hh = true) (h2 : strsOk path = true) {n : Str} (hn : Rf.wordB LET n = true) (hn2 : PyData.strOk n = true) : rn_Browser_read [.r l, .v (eAd hh path sec), .v (.str n)] St = .ok (.v ((readG (jarOf s Z) hh path sec n).elim .non .str)) St := by
  obtain ⟨hs, h15, h5⟩ := site_parts hg
  obtain ⟨g1, g2, g3, g4⟩ := jar_facts hs h5 Z
  have f2 := b_state h
  have x0 : ixD St (.v (.tup [eJr (jarOf s Z), eRow Z])) (.v (.int 0)) = some (eJr (jarOf s Z)) := by simp [ixD, at0]
  have ri := read_in_ok g1 g3 g4 h1 h2 sec hn2 St
  have na := need_address_ok ha St
  have nn := need_name_ok hn St
  have tk := tk9 St
  clear ha h
  generalize (readG (jarOf s Z) hh path sec n).elim Jv.D.non .str = RD at *
  generalize eAd hh path sec = AD at *
  generalize eJr (jarOf s Z) = J1 at *
  generalize eRow Z = R1 at *
  simp [runS, Jv.envOf, fin, noX, sSeq, sAsg, sIf, sPar, sSet, sRet, sNil, sExpr, sNo, tVal, bOr, bNot, bAnd, bYes, eAnd, eOr, eNot, eIf, eBin, eCall, eTup, eCon, eVar, eBlt, eLst, eNeg, eChain, aCons, aNil, aLim, itK, itemsK, gTp, gNm, gsCons, gsNil, allV, ofOp, R.thenS, R.bind, List.replicate, rn_Browser_read, dn_Browser_read, eFldI, f2, x0, ri, na, nn, tk]
theorem contains_ok {k : Ky} (hk : kyG k = true) : rn_Browser___contains__ [.r l, .v (eKy k)] St = .ok (.v (.bl (decide (k ∈ (jarOf s Z).map (·.1))))) St := by
  obtain ⟨hs, h15, h5⟩ := site_parts hg
  obtain ⟨g1, g2, g3, g4⟩ := jar_facts hs h5 Z
  have f2 := b_state h
  have x0 : ixD St (.v (.tup [eJr (jarOf s Z), eRow Z])) (.v (.int 0)) = some (eJr (jarOf s Z)) := by simp [ixD, at0]
  have ik := is_key_ok hk St
  have c := lLc_all (vs := [2]) (it := itK (eBin ixD (eFldI "Browser" "state" (eVar 0)) (eCon (.int 0)))) (g := gNm 2) (e := eBin ixD (eVar 2) (eCon (.int 0))) (env := [some (.r l), some (.v (eKy k)), none]) (st := St) eKq (fun p => eKy p.1) (xs := jarOf s Z) (by
      have it : itemsK (.v (eJr (jarOf s Z))) St = .ok ((jarOf s Z).map eKq) St := rfl
      generalize (jarOf s Z).map eKq = M at *
      generalize eJr (jarOf s Z) = J1 at *
      generalize eRow Z = R1 at *
      simp only [itemsK] at it
      simp [runS, Jv.envOf, fin, noX, sSeq, sAsg, sIf, sPar, sSet, sRet, sNil, sExpr, sNo, tVal, bOr, bNot, bAnd, bYes, eAnd, eOr, eNot, eIf, eBin, eCall, eTup, eCon, eVar, eBlt, eLst, eNeg, eChain, aCons, aNil, aLim, itK, itemsK, gTp, gNm, gsCons, gsNil, allV, ofOp, R.thenS, R.bind, List.replicate, eFldI, f2, x0, it]) (by omega) (fun p hp => by
    have y0 : ixD St (.v (eKq p)) (.v (.int 0)) = some (eKy p.1) := by simp [eKq, ixD, at0]
    refine ⟨[some (.r l), some (.v (eKy k)), some (.v (eKq p))], rfl, ?_⟩
    generalize eKq p = Q at *
    generalize eKy p.1 = KK at *
    simp [runS, Jv.envOf, fin, noX, sSeq, sAsg, sIf, sPar, sSet, sRet, sNil, sExpr, sNo, tVal, bOr, bNot, bAnd, bYes, eAnd, eOr, eNot, eIf, eBin, eCall, eTup, eCon, eVar, eBlt, eLst, eNeg, eChain, aCons, aNil, aLim, itK, itemsK, gTp, gNm, gsCons, gsNil, allV, ofOp, R.thenS, R.bind, List.replicate, y0])
  have m := in_ky (ks := (jarOf s Z).map (·.1)) (k := k) (fun x hx => by
    obtain ⟨p, hp, rfl⟩ := List.mem_map.mp hx
    exact kyOk_of (g1 p hp)) (kyOk_of hk) St
  rw [List.map_map] at m
  have m' : in3 St (.v (eKy k)) (.v (.lst ((jarOf s Z).map fun p => eKy p.1))) = some (.bl (decide (k ∈ (jarOf s Z).map (·.1)))) := m
  have tk := tk9 St
  clear h m f2 x0
  have dn : dn_Browser___contains__ = sRet (eAnd (eCall rn_is_key (aCons (eVar 1) aNil)) (eBin in3 (eVar 1) (eLst (lLc [2] (itK (eBin ixD (eFldI "Browser" "state" (eVar 0)) (eCon (.int 0)))) (gNm 2) bYes (eBin ixD (eVar 2) (eCon (.int 0))))))) := rfl
  unfold rn_Browser___contains__
  rw [dn]
  generalize lLc [2] (itK (eBin ixD (eFldI "Browser" "state" (eVar 0)) (eCon (.int 0)))) (gNm 2) bYes (eBin ixD (eVar 2) (eCon (.int 0))) = LC at *
  generalize decide (k ∈ (jarOf s Z).map (·.1)) = b at *
  generalize ((jarOf s Z).map fun p => eKy p.1) = M at *
  generalize eKy k = KK at *
  simp [runS, Jv.envOf, fin, noX, sSeq, sAsg, sIf, sPar, sSet, sRet, sNil, sExpr, sNo, tVal, bOr, bNot, bAnd, bYes, eAnd, eOr, eNot, eIf, eBin, eCall, eTup, eCon, eVar, eBlt, eLst, eNeg, eChain, aCons, aNil, aLim, itK, itemsK, gTp, gNm, gsCons, gsNil, allV, ofOp, R.thenS, R.bind, List.replicate, ik, c, m', tk]
end
theorem init_ok {St : Sto} {l : Nat} {s : List Pg} (hg : siteG s = true) (h : St[l]? = some (.ins "Browser" [])) : rn_Browser___init__ [.r l, .v (eSite s)] St = .ok (.v .non) (St.set l (bB (eSite s) (.tup []) (.tup []) [])) := by
  have q := site_need hg St
  have hl : l < St.length := (List.getElem?_eq_some_iff.mp h).1
  have p1 := fun env => put_at (f := "own_site") h (by show 0 < 1000; decide) (eSite s) env
  have h2 : (St.set l (.ins "Browser" (putI "own_site" (.v (eSite s)) [])))[l]? = some (.ins "Browser" (putI "own_site" (.v (eSite s)) [])) := List.getElem?_set_self hl
  have p2 := fun env => put_at (f := "state") h2 (by show 1 < 1000; decide) (.tup [.tup [], .tup []]) env
  have h3 : (St.set l (.ins "Browser" (putI "state" (.v (.tup [.tup [], .tup []])) (putI "own_site" (.v (eSite s)) []))))[l]? = some (.ins "Browser" (putI "state" (.v (.tup [.tup [], .tup []])) (putI "own_site" (.v (eSite s)) []))) := List.getElem?_set_self hl
  have p3 := fun env => put_at (f := "past") h3 (by show 2 < 1000; decide) (.tup []) env
  have e3 : Ob.ins "Browser" (putI "past" (.v (.tup [])) (putI "state" (.v (.tup [.tup [], .tup []])) (putI "own_site" (.v (eSite s)) []))) = bB (eSite s) (.tup []) (.tup []) [] := rfl
  simp only [List.set_set] at p2 p3
  rw [e3] at p3
  have tk := tkS St l (bB (eSite s) (.tup []) (.tup []) [])
  generalize bB (eSite s) (.tup []) (.tup []) [] = B3 at *
  generalize Ob.ins "Browser" (putI "state" (.v (.tup [.tup [], .tup []])) (putI "own_site" (.v (eSite s)) [])) = B2 at *
  generalize Ob.ins "Browser" (putI "own_site" (.v (eSite s)) []) = B1 at *
  generalize eSite s = ES at *
  simp [runS, Jv.envOf, fin, noX, sSeq, sAsg, sIf, sPar, sSet, sRet, sNil, sExpr, sNo, tVal, bOr, bNot, bAnd, bYes, eAnd, eOr, eNot, eIf, eBin, eCall, eTup, eCon, eVar, eBlt, eLst, eNeg, eChain, aCons, aNil, aLim, itK, itemsK, gTp, gNm, gsCons, gsNil, allV, ofOp, R.thenS, R.bind, List.replicate, rn_Browser___init__, dn_Browser___init__, sFldI, q, p1, p2, p3, tk]
end K37
end
section
namespace K37
open PySem Jv Rf
/-- the pair of jar and row behind a row; as the law keeps it -/
def eJp (s : List Pg) (r : List Nat) : Jv.D := .tup [eJr (jarOf s r), eRow r]
def eKp (s : List Pg) (r : List Nat) : Jv.D := .tup [.lst ((behindOf s r).map eKd), eRow r]
def mO (s : List Pg) (Z : List Nat) : Ob := .dct [("site", .v (eSite s)), ("kept", .v (.lst ((behindOf s Z).map eKd))), ("row", .v (eRow Z)), ("past", .r 5)]
/-- what a turn keeps: the browser, the law's past, the law's own, their pair -/
def stB (s : List Pg) (P : List (List Nat)) (Z : List Nat) : Sto := [bB (eSite s) (eJr (jarOf s Z)) (eRow Z) (P.map (eJp s)), .lst (P.map (eKp s)), mO s Z, .pr [.r 4, .r 6]]
theorem law_new_ok {ls cs : List Int} {a : Int} (hn : cs.length = ls.length) (hp : 0 < ls.length) (h0 : 0 ≤ a) (h1 : a ≤ 400000) {m : Nat} (hm : 1 ≤ m) (hm5 : m ≤ 5) : ∃ (s : List Pg) (ls' : List Int) (a' : Int), siteD s ∧ s.length ≤ m ∧ ls'.length = ls.length ∧ a ≤ a' ∧ a' ≤ a + 160 ∧
    rn__law_new [.r 3, .v (.int (m : Int))] (stA [] ls cs a) = .ok (.r 7) (stA (stB s [] []) ls' cs a') := by
  obtain ⟨s, ls1, a1, sd, sl, l1, b1, b2, e1⟩ := law_site_ok [] (ls := ls) (cs := cs) (a := a) hn hp h0 h1 hm hm5
  refine ⟨s, ls1, a1, sd, sl, l1, b1, b2, ?_⟩
  have hl0 : (stA [] ls cs a).length = 4 := rfl
  have hl1 : (stA [] ls1 cs a1).length = 4 := rfl
  have ini := init_ok (St := stA [] ls1 cs a1 ++ [Ob.ins "Browser" []]) (l := 4) sd.1 rfl
  have es : (stA [] ls1 cs a1 ++ [Ob.ins "Browser" []]).set 4 (bB (eSite s) (.tup []) (.tup []) []) = stA [] ls1 cs a1 ++ [bB (eSite s) (.tup []) (.tup []) []] := rfl
  rw [es] at ini
  have fi : stA (stB s [] []) ls1 cs a1 = stA [] ls1 cs a1 ++ [bB (eSite s) (.tup []) (.tup []) [], .lst [], .dct [("site", .v (eSite s)), ("kept", .v (.lst [])), ("row", .v (.tup [])), ("past", .r 5)], .pr [.r 4, .r 6]] := rfl
  rw [fi]
  have nd : nodupK [(("site" : Str), W.v (eSite s)), (("kept" : Str), W.v (.lst [])), (("row" : Str), W.v (.tup [])), (("past" : Str), W.r 5)] = true := by kernel_rfl
  clear es fi
  generalize bB (eSite s) (.tup []) (.tup []) [] = B at *
  generalize eSite s = ES at *
  generalize stA [] ls cs a = S0 at *
  generalize stA [] ls1 cs a1 = S1 at *
  simp [runS, Jv.envOf, fin, noX, sSeq, sAsg, sIf, sPar, sSet, sRet, sNil, sExpr, sNo, tVal, bOr, bNot, bAnd, bYes, eAnd, eOr, eNot, eIf, eBin, eCall, eTup, eCon, eVar, eBlt, eLst, eNeg, eChain, aCons, aNil, aLim, itK, itemsK, gTp, gNm, gsCons, gsNil, allV, ofOp, R.thenS, R.bind, List.replicate, rn__law_new, dn__law_new, e1, eTupW, eMakI, eDct, kOf, kCons, kNil, eNew, ini, hl0, hl1, nd, W.undB]
theorem lenOut_ok {n : Int} (h : 0 ≤ n ∧ n < 2 ^ 63) (St : Sto) : lenOut (.v (.int n)) St = .ok (.v (.int n)) St := if_pos h
section
variable {St : Sto} {s : List Pg} {Z : List Nat} {ps : List Jv.D} (hg : siteG s = true) (h : St[4]? = some (bB (eSite s) (eJr (jarOf s Z)) (eRow Z) ps)) (d1 : dGet St (.r 6) (.v (.str "kept")) = .ok (.v (.lst ((behindOf s Z).map eKd))) St) (d2 : dGet St (.r 6) (.v (.str "row")) = .ok (.v (eRow Z)) St)
  (d3 : dGet St (.r 6) (.v (.str "site")) = .ok (.v (eSite s)) St) (ht : tabAt St 1 ("_law_jar", none) "_law_jar.<locals>.<lambda>" = true)
include hg h d1 d2 d3 ht
def shK : LD := lLc [4, 5] (itK (eDGet (eVar 1) (eCon (.str "kept")))) (gTp 2 (gsCons (gNm 4) (gsCons (gNm 5) gsNil))) bYes (eVar 4)
def shL : LD := lLc [4] (itK (eCall rn__law_keys (aCons (eDGet (eVar 1) (eCon (.str "site"))) aNil))) (gNm 4) (tVal (eBin neD (eInI "Browser" rn_Browser___contains__ (eVar 4) (eVar 0)) (eBin in3 (eVar 4) (eVar 2)))) (eVar 4)
theorem shown_ok : rn__law_shown [.r 4, .r 6] St = tt St := by
  obtain ⟨hs, h15, h5⟩ := site_parts hg
  obtain ⟨g1, g2, g3, g4⟩ := jar_facts hs h5 Z
  have pm := sortR_perm (behindOf s Z)
  have lenE : (jarOf s Z).length = (behindOf s Z).length := by rw [jarOf_eq]; exact pm.length_eq
  have kg : kdG (behindOf s Z) := fun p hp => g1 p (by rw [jarOf_eq]; exact pm.mem_iff.mpr hp)
  have lj := law_jar_ok kg (by omega) (st := St) ht
  rw [← jarOf_eq] at lj
  have jg := jar_get h
  have rg := row_get h
  have sg := site_get h
  have lg := len_get h (xs := (jarOf s Z).map eKq) rfl
  rw [List.length_map] at lg
  have tk := tk9 St
  have n1 : neD St (.v (eJr (jarOf s Z))) (.v (eJr (jarOf s Z))) = some (.bl false) := neS St _ (by
    obtain ⟨a, b⟩ := sh_jr g1 g3
    unfold SeqAt.shaped
    rw [a, Bool.true_and]
    exact decide_eq_true (by omega))
  have n2 : neD St (.v (eRow Z)) (.v (eRow Z)) = some (.bl false) := neS St _ (row_sh Z)
  have n4 : eqD St (.v (eSite s)) (.v (eSite s)) = some (.bl true) := eqS St _ (sh_pgs hs).2
  -- the keys that the law knows
  have c1 : shK [some (.r 4), some (.r 6), none, none, none, none] St = .ok ((behindOf s Z).map fun p => eKy p.1) St := by
    refine lLc_all (vs := [4, 5]) eKd (fun p : Kd => eKy p.1) (xs := behindOf s Z) ?_ (by omega) (fun p hp => ⟨[some (.r 4), some (.r 6), none, none, some (.v (eKy p.1)), some (.v (.tup [.str p.2.1, .bl p.2.2]))], rfl, rfl⟩)
    have it : itemsK (.v (.lst ((behindOf s Z).map eKd))) St = .ok ((behindOf s Z).map eKd) St := rfl
    clear h jg rg sg lg lj
    generalize (behindOf s Z).map eKd = M at *
    simp only [itemsK] at it
    simp [runS, Jv.envOf, fin, noX, sSeq, sAsg, sIf, sPar, sSet, sRet, sNil, sExpr, sNo, tVal, bOr, bNot, bAnd, bYes, eAnd, eOr, eNot, eIf, eBin, eCall, eTup, eCon, eVar, eBlt, eLst, eNeg, eChain, aCons, aNil, aLim, itK, itemsK, gTp, gNm, gsCons, gsNil, allV, ofOp, R.thenS, R.bind, List.replicate, eDGet, d1, it]
  have lk : lenA St [.v (.lst ((behindOf s Z).map fun p => eKy p.1))] = some (.int ((jarOf s Z).length : Int)) := by simp [lenA, lenB, asLst, lenE]
  have lo : lenOut (.v (.int ((jarOf s Z).length : Int))) St = .ok (.v (.int ((jarOf s Z).length : Int))) St := lenOut_ok ⟨by omega, by omega⟩ St
  have n3 := neI St ((jarOf s Z).length : Int)
  obtain ⟨FS, io⟩ : ∃ FS, insF "Browser" St (.r 4) = some FS := ⟨_, ins_at h⟩
  -- the keys that are told otherwise: none
  have c2 : shL [some (.r 4), some (.r 6), some (.v (.lst ((behindOf s Z).map fun p => eKy p.1))), none, none, none] St = .ok [] St := by
    have := lLc_pure (vs := [4]) (it := itK (eCall rn__law_keys (aCons (eDGet (eVar 1) (eCon (.str "site"))) aNil))) (g := gNm 4) (t := tVal (eBin neD (eInI "Browser" rn_Browser___contains__ (eVar 4) (eVar 0)) (eBin in3 (eVar 4) (eVar 2)))) (e := eVar 4) (env := [some (.r 4), some (.r 6), some (.v (.lst ((behindOf s Z).map fun p => eKy p.1))), none, none, none]) (st := St) eKy (fun _ => false) eKy (xs := keysS s) (by
        have kk := law_keys_ok hs (by omega) (w := .v (eSite s)) St (fun st' => rfl)
        have it : items (.v (.lst ((keysS s).map eKy))) St = .ok ((keysS s).map eKy) St := rfl
        clear h jg rg sg lg lj c1 n4
        generalize (keysS s).map eKy = M at *
        generalize eSite s = ES at *
        generalize ((behindOf s Z).map fun p => eKy p.1) = M2 at *
        simp [runS, Jv.envOf, fin, noX, sSeq, sAsg, sIf, sPar, sSet, sRet, sNil, sExpr, sNo, tVal, bOr, bNot, bAnd, bYes, eAnd, eOr, eNot, eIf, eBin, eCall, eTup, eCon, eVar, eBlt, eLst, eNeg, eChain, aCons, aNil, aLim, itK, itemsK, gTp, gNm, gsCons, gsNil, allV, ofOp, R.thenS, R.bind, List.replicate, eDGet, d3, kk, it]) (by
        have h1 : (keysS s).length = (keysRaw s).length := by unfold keysS; rw [sortKy_len]
        have h3 := keysRaw_len hs
        omega) (fun k hk => by
      have gk : kyG k = true := keysRaw_good hs (keysOf_mem.mp hk)
      have m := in_ky (ks := (behindOf s Z).map (·.1)) (k := k) (fun x hx => by
        obtain ⟨p, hp, rfl⟩ := List.mem_map.mp hx
        exact kyOk_of (kg p hp)) (kyOk_of gk) St
      rw [List.map_map] at m
      have m' : in3 St (.v (eKy k)) (.v (.lst ((behindOf s Z).map fun p => eKy p.1))) = some (.bl (decide (k ∈ (behindOf s Z).map (·.1)))) := m
      have iff : (k ∈ (jarOf s Z).map (·.1)) ↔ k ∈ (behindOf s Z).map (·.1) := by
        rw [jarOf_eq]
        exact (pm.map _).mem_iff
      have de : decide (k ∈ (jarOf s Z).map (·.1)) = decide (k ∈ (behindOf s Z).map (·.1)) := decide_eq_decide.mpr iff
      have co : rn_Browser___contains__ [.r 4, .v (eKy k)] St = .ok (.v (.bl (decide (k ∈ (behindOf s Z).map (·.1))))) St := by
        rw [← de]; exact contains_ok hg h gk
      refine ⟨[some (.r 4), some (.r 6), some (.v (.lst ((behindOf s Z).map fun p => eKy p.1))), none, some (.v (eKy k)), none], rfl, ?_, fun z => by cases z⟩
      have nb : ∀ b : Bool, neD St (.v (.bl b)) (.v (.bl b)) = some (.bl false) := fun b => by cases b <;> kernel_rfl
      have nb' := nb (decide (k ∈ (behindOf s Z).map (·.1)))
      clear m h jg rg sg lg lj c1 n4 nb iff de
      generalize decide (k ∈ (behindOf s Z).map (·.1)) = b at *
      generalize ((behindOf s Z).map fun p => eKy p.1) = M at *
      generalize eKy k = KK at *
      simp [runS, Jv.envOf, fin, noX, sSeq, sAsg, sIf, sPar, sSet, sRet, sNil, sExpr, sNo, tVal, bOr, bNot, bAnd, bYes, eAnd, eOr, eNot, eIf, eBin, eCall, eTup, eCon, eVar, eBlt, eLst, eNeg, eChain, aCons, aNil, aLim, itK, itemsK, gTp, gNm, gsCons, gsNil, allV, ofOp, R.thenS, R.bind, List.replicate, eInI, io, co, inOut, m', nb'])
    rw [show (keysS s).filter (fun _ => false) = [] from by simp] at this
    exact this
  have z0 : eqD0 St (.v (.lst [])) (.v (.lst [])) = some (.bl true) := rfl
  have dn : dn__law_shown = sSeq (sSet 2 (eLst shK)) (sSeq (sIf (bOr (tVal (eBin neD (ePrpI "Browser" rn_Browser_jar (eVar 0)) (eCall rn__law_jar (aCons (eDGet (eVar 1) (eCon (.str "kept"))) aNil)))) (bOr (tVal (eBin neD (ePrpI "Browser" rn_Browser_row (eVar 0)) (eDGet (eVar 1) (eCon (.str "row"))))) (tVal (eBin neD (eLenI "Browser" rn_Browser___len__ (eVar 0)) (eBlt lenA (aCons (eVar 2) aNil)))))) (sRet (eCon (.bl false))) sNil) (sSeq (sSet 3 (eLst shL)) (sRet (eAnd (eBin eqD0 (eVar 3) (eLst (aLim aNil))) (eBin eqD (ePrpI "Browser" rn_Browser_site (eVar 0)) (eDGet (eVar 1) (eCon (.str "site")))))))) := rfl
  unfold rn__law_shown
  rw [dn]
  clear h ht
  generalize shK = K1 at *
  generalize shL = L1 at *
  generalize ((jarOf s Z).length : Int) = n at *
  generalize ((behindOf s Z).map fun p => eKy p.1) = M at *
  generalize (behindOf s Z).map eKd = M2 at *
  generalize eJr (jarOf s Z) = J1 at *
  generalize eRow Z = R1 at *
  generalize eSite s = ES at *
  simp [runS, Jv.envOf, fin, noX, sSeq, sAsg, sIf, sPar, sSet, sRet, sNil, sExpr, sNo, tVal, bOr, bNot, bAnd, bYes, eAnd, eOr, eNot, eIf, eBin, eCall, eTup, eCon, eVar, eBlt, eLst, eNeg, eChain, aCons, aNil, aLim, itK, itemsK, gTp, gNm, gsCons, gsNil, allV, ofOp, R.thenS, R.bind, List.replicate, ePrpI, eLenI, eDGet, io, d1, d2, d3, jg, rg, sg, lg, lj, lo, c1, c2, lk, n1, n2, n3, n4, z0, tk]
end
end K37
end
section
namespace K37
open PySem Jv Rf
def aq0 : SD := (sSet 3 (eCall rn__law_address (aCons (eVar 0) aNil)))
def aq1 : SD := (sSet 4 (eCall rn__law_sent (aCons (eDGet (eVar 2) (eCon (.str "kept"))) (aCons (eVar 3) aNil))))
def aq2 : SD := (sIf (tVal (eBin neD (eMetI "Browser" "sent" rn_Browser_sent (eVar 1) (aCons (eVar 3) aNil)) (eVar 4))) (sRet (eCon (.bl false))) sNil)
def aq3B : SD := (sSeq (sSet 6 (eLst (lLc [7, 8] (itK (eVar 4)) (gTp 2 (gsCons (gNm 7) (gsCons (gNm 8) gsNil))) (tVal (eBin eqD (eVar 7) (eVar 5))) (eVar 8)))) (sIf (tVal (eRNe (eMetI "Browser" "read" rn_Browser_read (eVar 1) (aCons (eVar 3) (aCons (eVar 5) aNil))) (eIf (tVal (eBin neD (eVar 6) (eLst (aLim aNil)))) (eBin ixD (eVar 6) (eCon (.int 0))) (eCon .non)))) (sRet (eCon (.bl false))) sNil))
def aq3 : SD := (sFor (itK (eTup (aCons (eCon (.str "id")) (aCons (eCon (.str "k")) (aCons (eCon (.str "other")) aNil))))) (gNm 5) aq3B)
def aq4 : SD := (sRet (eCon (.bl true)))
theorem dn__law_asked_right_eq : dn__law_asked_right = sSeq aq0 (sSeq aq1 (sSeq aq2 (sSeq aq3 (aq4)))) := rfl
theorem sentL_sortR (xs : List Kd) : sentL xs = sortR xs := by
  unfold sentL sortR
  congr 1
  funext a b
  show (!PySem.W.dataLt (skD b).py (skD a).py) = _
  rw [rkLe_eq]
  have e : ∀ p : Kd, (skD p).py = rkD p := fun p => skQ_py p
  rw [e, e]
theorem kg_of {s : List Pg} (hs : ∀ p ∈ s, pgG p = true) (hl : s.length ≤ 5) (Z : List Nat) : kdG (behindOf s Z) ∧ (behindOf s Z).length ≤ 1000 := by
  obtain ⟨g1, g2, g3, g4⟩ := jar_facts hs hl Z
  have pm := sortR_perm (behindOf s Z)
  rw [jarOf_eq] at g1 g4
  exact ⟨fun p hp => g1 p (pm.mem_iff.mpr hp), by rw [← pm.length_eq]; exact g4⟩
/-- what the law's own browser sends is what the jar sends -/
theorem sent_both {s : List Pg} (hs : ∀ p ∈ s, pgG p = true) (hl : s.length ≤ 5) (Z : List Nat) {h path : List Str} (hh : strsOk h = true) (hp : strsOk path = true) (sec : Bool) {st : Sto} (ht : tabAt st 0 ("_law_sent", none) "_law_sent.<locals>.<lambda>" = true) :
    rn__law_sent [.v (.lst ((behindOf s Z).map eKd)), .v (eAd h path sec)] st = .ok (.v (snD (jarOf s Z) h path sec)) st := by
  obtain ⟨g, l⟩ := kg_of hs hl Z
  have q := law_sent_ok g l hh hp sec ht
  have e : snD (jarOf s Z) h path sec = .tup ((sentOf (behindOf s Z) h path sec).map fun p => .tup [.str p.1.name, .str p.2.1]) := by
    unfold snD sentOf
    rw [sentL_sortR, jarOf_eq, sortR_filter]
    rfl
  rw [e]
  exact q
theorem strs_sn {J : List Kd} (g : kdG J) (gv : kdV J) : ∀ p ∈ J, PyData.strOk p.1.name = true ∧ PyData.strOk p.2.1 = true := fun p hp => by
  have k := kyOk_of (g p hp)
  simp only [kyOk, Bool.and_eq_true] at k
  exact ⟨k.1.1, strOk_sig (gv p hp)⟩
theorem sh_sn {J : List Kd} (g : kdG J) (gv : kdV J) (h path : List Str) (sec : Bool) : SeqAt.shaped (snD J h path sec).py = true := by
  have one : ∀ L : List Kd, (∀ p ∈ L, PyData.strOk p.1.name = true ∧ PyData.strOk p.2.1 = true) → PyData.canLayAll0 (D.pyL (L.map eNv)) = true ∧ PyData.depthAll (D.pyL (L.map eNv)) ≤ 2 := by
    intro L
    induction L with
    | nil => exact fun _ => ⟨rfl, by simp [D.pyL, PyData.depthAll]⟩
    | cons p r ih =>
      intro hL
      obtain ⟨a, b⟩ := ih fun q hq => hL q (List.mem_cons_of_mem _ hq)
      obtain ⟨c, d⟩ := hL p List.mem_cons_self
      constructor
      · simp [eNv, D.pyL, D.py, PyData.canLayAll0, PyData.canLay0, a, c, d]
      · simp only [List.map_cons, eNv, D.pyL, D.py, PyData.depthAll, PyData.depth]
        omega
  obtain ⟨a, b⟩ := one (J.filter fun p => goesB p.1 p.2.2 h path sec) fun p hp => strs_sn g gv p (List.mem_filter.mp hp).1
  unfold snD SeqAt.shaped
  simp only [D.py, PyData.canLay0, PyData.depth]
  rw [Bool.and_eq_true]
  exact ⟨a, decide_eq_true (by omega)⟩
theorem law_address_ok (rest : Sto) {ls cs : List Int} {a : Int} (hn : cs.length = ls.length) (hp : 0 < ls.length) (h0 : 0 ≤ a) (h1 : a ≤ 600000) : ∃ (h path : List Str) (sec : Bool) (ls' : List Int), h ∈ hostsD ∧ path ∈ pathsD ∧ ls'.length = ls.length ∧
    rn__law_address [.r 3] (stA rest ls cs a) = .ok (.v (eAd h path sec)) (stA rest ls' cs (a + 1 + 1 + 1)) := by
  obtain ⟨h, ls1, hh, l1, e1⟩ := law_host_ok rest hn hp h0 (by omega)
  obtain ⟨p, ls2, hpd, l2, e2⟩ := law_path_ok rest (ls := ls1) (cs := cs) (a := a + 1) (by omega) (by omega) (by omega) (by omega)
  obtain ⟨r, ls3, r0, r1, l3, e3⟩ := draw_ok rest (ls := ls2) (cs := cs) (a := a + 1 + 1) (m := 3) (by omega) (by omega) (by omega) (by omega) (by decide) (by decide)
  refine ⟨h, p, decide (0 < r), ls3, hh, hpd, by omega, ?_⟩
  have g := gt_ok (i := r) (j := 0) (stA rest ls3 cs (a + 1 + 1 + 1))
  have tk := takeA rest ls ls3 cs a (a + 1 + 1 + 1)
  generalize decide (0 < r) = b at *
  simp [runS, Jv.envOf, fin, noX, sSeq, sAsg, sIf, sPar, sSet, sRet, sNil, sExpr, sNo, tVal, bOr, bNot, bAnd, bYes, eAnd, eOr, eNot, eIf, eBin, eCall, eTup, eCon, eVar, eBlt, eLst, eNeg, eChain, aCons, aNil, aLim, itK, itemsK, gTp, gNm, gsCons, gsNil, allV, ofOp, R.thenS, R.bind, List.replicate, rn__law_address, dn__law_address, e1, e2, e3, g, tk, eAd]
theorem rne_same {f g : ED} {env : Jv.Env} {st st' : Sto} {d : Jv.D} (h1 : f env st = .ok (.v d) st') (h2 : g env st' = .ok (.v d) st') (h : okRepr d.py = true) : eRNe f g env st = .ok (.v (.bl false)) st' := by
  simp [eRNe, h1, h2, R.bind, deref, h, rne_eq]
abbrev G9 (c3 c4 c5 c6 c7 c8 : Option W) : Jv.Env := [some (.r 3), some (.r 4), some (.r 6), c3, c4, c5, c6, c7, c8]
section
variable {St : Sto} {s : List Pg} {Z : List Nat} {ps : List Jv.D} (hg : siteG s = true) (h : St[4]? = some (bB (eSite s) (eJr (jarOf s Z)) (eRow Z) ps)) {hh path : List Str} {sec : Bool} (h1 : hostG hh = true) (h2 : pathG path = true)
include hg h h1 h2
theorem aq3B_ok {n : Str} (hn : Rf.wordB LET n = true) (hn2 : PyData.strOk n = true) (c6 c7 c8 : Option W) : ∃ d6 : Option W, aq3B (G9 (some (.v (eAd hh path sec))) (some (.v (snD (jarOf s Z) hh path sec))) (some (.v (.str n))) c6 c7 c8) St = .nx (G9 (some (.v (eAd hh path sec))) (some (.v (snD (jarOf s Z) hh path sec))) (some (.v (.str n))) d6 c7 c8) St := by
  obtain ⟨hs, h15, h5⟩ := site_parts hg
  obtain ⟨g1, g2, g3, g4⟩ := jar_facts hs h5 Z
  have ha : addrB (eAd hh path sec) = true := by
    have a1 := hostB_of h1
    have a2 := pathB_of h2
    unfold eAd
    generalize eSs hh = H1 at *
    generalize eSs path = H2 at *
    simp [addrB, a1, a2, boolB]
  have rd := read_ok hg h ha (strsOk_host h1) (strsOk_path h2) hn hn2
  obtain ⟨S, hS⟩ : ∃ S, S = (jarOf s Z).filter fun p => goesB p.1 p.2.2 hh path sec := ⟨_, rfl⟩
  have hm : ∀ p ∈ S, p ∈ jarOf s Z := fun p hp' => by rw [hS] at hp'; exact (List.mem_filter.mp hp').1
  have sl : S.length ≤ (jarOf s Z).length := by rw [hS]; exact List.length_filter_le _ _
  have sn : snD (jarOf s Z) hh path sec = .tup (S.map eNv) := by rw [hS]; rfl
  have rg : readG (jarOf s Z) hh path sec n = ((S.filter fun p => decide (p.1.name = n)).map fun p => p.2.1).head? := by unfold readG; rw [← hS]
  rw [sn]
  have c := lLc_pure (vs := [7, 8]) (it := itK (eVar 4)) (g := gTp 2 (gsCons (gNm 7) (gsCons (gNm 8) gsNil))) (t := tVal (eBin eqD (eVar 7) (eVar 5))) (e := eVar 8) (env := G9 (some (.v (eAd hh path sec))) (some (.v (.tup (S.map eNv)))) (some (.v (.str n))) c6 c7 c8) (st := St) eNv (fun p => decide (p.1.name = n)) (fun p => .str p.2.1) (xs := S) rfl (by omega) (fun p hpm => by
    obtain ⟨k1, _⟩ := strs_sn g1 g3 p (hm p hpm)
    have e := eq_str k1 hn2 St
    refine ⟨G9 (some (.v (eAd hh path sec))) (some (.v (.tup (S.map eNv)))) (some (.v (.str n))) c6 (some (.v (.str p.1.name))) (some (.v (.str p.2.1))), rfl, ?_, fun _ => rfl⟩
    generalize S.map eNv = M at *
    generalize eAd hh path sec = A at *
    simp [runS, Jv.envOf, fin, noX, sSeq, sAsg, sIf, sPar, sSet, sRet, sNil, sExpr, sNo, tVal, bOr, bNot, bAnd, bYes, eAnd, eOr, eNot, eIf, eBin, eCall, eTup, eCon, eVar, eBlt, eLst, eNeg, eChain, aCons, aNil, aLim, itK, itemsK, gTp, gNm, gsCons, gsNil, allV, ofOp, R.thenS, R.bind, List.replicate, e])
  obtain ⟨vals, hv⟩ : ∃ vals : List Str, vals = (S.filter fun p => decide (p.1.name = n)).map fun p => p.2.1 := ⟨_, rfl⟩
  have vs : Rf.strsOk vals = true := by
    rw [hv]
    unfold Rf.strsOk
    rw [List.all_eq_true]
    intro x hx
    obtain ⟨p, hp, rfl⟩ := List.mem_map.mp hx
    exact (strs_sn g1 g3 p (hm p (List.mem_filter.mp hp).1)).2
  have vw : ∀ x ∈ vals, Rf.wordB SIG x = true := fun x hx => by
    rw [hv] at hx
    obtain ⟨p, hp, rfl⟩ := List.mem_map.mp hx
    exact g3 p (hm p (List.mem_filter.mp hp).1)
  have cv : ((S.filter fun p => decide (p.1.name = n)).map fun p => Jv.D.str p.2.1) = vals.map .str := by rw [hv, List.map_map]; rfl
  rw [cv] at c
  rw [rg, ← hv] at rd
  have nv := ne_strs vs St
  obtain ⟨FS, hFS⟩ : ∃ FS : List (Str × W), FS = [(("own_site" : Str), W.v (eSite s)), (("state" : Str), W.v (.tup [eJr (jarOf s Z), eRow Z])), (("past" : Str), W.v (.tup ps))] := ⟨_, rfl⟩
  have io : insF "Browser" St (.r 4) = some FS := by rw [hFS]; exact ins_at h
  have lk : (FS.lookup ("read" : Str)).isNone = true := by rw [hFS]; kernel_rfl
  clear hFS h
  refine ⟨some (.v (.lst (vals.map .str))), ?_⟩
  have f : eMetI "Browser" "read" rn_Browser_read (eVar 1) (aCons (eVar 3) (aCons (eVar 5) aNil)) (G9 (some (.v (eAd hh path sec))) (some (.v (.tup (S.map eNv)))) (some (.v (.str n))) (some (.v (.lst (vals.map .str)))) c7 c8) St = .ok (.v (vals.head?.elim .non .str)) St := by
    clear c
    generalize S.map eNv = M at *
    generalize eAd hh path sec = A at *
    simp [runS, Jv.envOf, fin, noX, sSeq, sAsg, sIf, sPar, sSet, sRet, sNil, sExpr, sNo, tVal, bOr, bNot, bAnd, bYes, eAnd, eOr, eNot, eIf, eBin, eCall, eTup, eCon, eVar, eBlt, eLst, eNeg, eChain, aCons, aNil, aLim, itK, itemsK, gTp, gNm, gsCons, gsNil, allV, ofOp, R.thenS, R.bind, List.replicate, eMetI, io, lk, rd]
  have g : eIf (tVal (eBin neD (eVar 6) (eLst (aLim aNil)))) (eBin ixD (eVar 6) (eCon (.int 0))) (eCon .non) (G9 (some (.v (eAd hh path sec))) (some (.v (.tup (S.map eNv)))) (some (.v (.str n))) (some (.v (.lst (vals.map .str)))) c7 c8) St = .ok (.v (vals.head?.elim .non .str)) St := by
    clear c f rd
    generalize S.map eNv = M at *
    generalize eAd hh path sec = A at *
    cases vals with
    | nil =>
      have nv0 : neD St (.v (.lst [])) (.v (.lst [])) = some (.bl false) := nv
      simp [runS, Jv.envOf, fin, noX, sSeq, sAsg, sIf, sPar, sSet, sRet, sNil, sExpr, sNo, tVal, bOr, bNot, bAnd, bYes, eAnd, eOr, eNot, eIf, eBin, eCall, eTup, eCon, eVar, eBlt, eLst, eNeg, eChain, aCons, aNil, aLim, itK, itemsK, gTp, gNm, gsCons, gsNil, allV, ofOp, R.thenS, R.bind, List.replicate, nv0]
    | cons x r =>
      have x0 : ixD St (.v (.lst ((x :: r).map .str))) (.v (.int 0)) = some (.str x) := by simp [ixD, asLst, at0]
      generalize (x :: r).map Jv.D.str = V at *
      simp [runS, Jv.envOf, fin, noX, sSeq, sAsg, sIf, sPar, sSet, sRet, sNil, sExpr, sNo, tVal, bOr, bNot, bAnd, bYes, eAnd, eOr, eNot, eIf, eBin, eCall, eTup, eCon, eVar, eBlt, eLst, eNeg, eChain, aCons, aNil, aLim, itK, itemsK, gTp, gNm, gsCons, gsNil, allV, ofOp, R.thenS, R.bind, List.replicate, nv, x0]
  have ok : okRepr (vals.head?.elim Jv.D.non .str).py = true := by
    cases vals with
    | nil => kernel_rfl
    | cons x r => exact (okT_str (strOk_sig (vw x List.mem_cons_self)) (word_size (vw x List.mem_cons_self))).repr
  have ne := rne_same f g ok
  have tt0 : sIf (tVal (eRNe (eMetI "Browser" "read" rn_Browser_read (eVar 1) (aCons (eVar 3) (aCons (eVar 5) aNil))) (eIf (tVal (eBin neD (eVar 6) (eLst (aLim aNil)))) (eBin ixD (eVar 6) (eCon (.int 0))) (eCon .non)))) (sRet (eCon (.bl false))) sNil (G9 (some (.v (eAd hh path sec))) (some (.v (.tup (S.map eNv)))) (some (.v (.str n))) (some (.v (.lst (vals.map .str)))) c7 c8) St = .nx (G9 (some (.v (eAd hh path sec))) (some (.v (.tup (S.map eNv)))) (some (.v (.str n))) (some (.v (.lst (vals.map .str)))) c7 c8) St := by
    clear f g c
    generalize eRNe (eMetI "Browser" "read" rn_Browser_read (eVar 1) (aCons (eVar 3) (aCons (eVar 5) aNil))) (eIf (tVal (eBin neD (eVar 6) (eLst (aLim aNil)))) (eBin ixD (eVar 6) (eCon (.int 0))) (eCon .non)) = X at *
    simp [runS, Jv.envOf, fin, noX, sSeq, sAsg, sIf, sPar, sSet, sRet, sNil, sExpr, sNo, tVal, bOr, bNot, bAnd, bYes, eAnd, eOr, eNot, eIf, eBin, eCall, eTup, eCon, eVar, eBlt, eLst, eNeg, eChain, aCons, aNil, aLim, itK, itemsK, gTp, gNm, gsCons, gsNil, allV, ofOp, R.thenS, R.bind, List.replicate, ne]
  have s0 : sSet 6 (eLst (lLc [7, 8] (itK (eVar 4)) (gTp 2 (gsCons (gNm 7) (gsCons (gNm 8) gsNil))) (tVal (eBin eqD (eVar 7) (eVar 5))) (eVar 8))) (G9 (some (.v (eAd hh path sec))) (some (.v (.tup (S.map eNv)))) (some (.v (.str n))) c6 c7 c8) St = .nx (G9 (some (.v (eAd hh path sec))) (some (.v (.tup (S.map eNv)))) (some (.v (.str n))) (some (.v (.lst (vals.map .str)))) c7 c8) St := by
    clear f g ne tt0
    generalize lLc [7, 8] (itK (eVar 4)) (gTp 2 (gsCons (gNm 7) (gsCons (gNm 8) gsNil))) (tVal (eBin eqD (eVar 7) (eVar 5))) (eVar 8) = LC at *
    simp [runS, Jv.envOf, fin, noX, sSeq, sAsg, sIf, sPar, sSet, sRet, sNil, sExpr, sNo, tVal, bOr, bNot, bAnd, bYes, eAnd, eOr, eNot, eIf, eBin, eCall, eTup, eCon, eVar, eBlt, eLst, eNeg, eChain, aCons, aNil, aLim, itK, itemsK, gTp, gNm, gsCons, gsNil, allV, ofOp, R.thenS, R.bind, List.replicate, c]
  unfold aq3B
  rw [sq s0, tt0]
theorem asked_ok {rest : Sto} {ls cs : List Int} {a : Int} (hSt : St = stA rest ls cs a) (d1 : dGet St (.r 6) (.v (.str "kept")) = .ok (.v (.lst ((behindOf s Z).map eKd))) St) (ht : tabAt St 0 ("_law_sent", none) "_law_sent.<locals>.<lambda>" = true) :
    (sSeq aq1 (sSeq aq2 (sSeq aq3 aq4))) (G9 (some (.v (eAd hh path sec))) none none none none none) St = .rt (.v (.bl true)) St := by
  obtain ⟨hs, h15, h5⟩ := site_parts hg
  obtain ⟨g1, g2, g3, g4⟩ := jar_facts hs h5 Z
  have ha : addrB (eAd hh path sec) = true := by
    have a1 := hostB_of h1
    have a2 := pathB_of h2
    unfold eAd
    generalize eSs hh = H1 at *
    generalize eSs path = H2 at *
    simp [addrB, a1, a2, boolB]
  have lsn := sent_both hs h5 Z (strsOk_host h1) (strsOk_path h2) sec ht
  have bs := sent_ok hg h ha (strsOk_host h1) (strsOk_path h2)
  have nn := neS St _ (sh_sn g1 g3 hh path sec)
  obtain ⟨FS, hFS⟩ : ∃ FS : List (Str × W), FS = [(("own_site" : Str), W.v (eSite s)), (("state" : Str), W.v (.tup [eJr (jarOf s Z), eRow Z])), (("past" : Str), W.v (.tup ps))] := ⟨_, rfl⟩
  have io : insF "Browser" St (.r 4) = some FS := by rw [hFS]; exact ins_at h
  have lk : (FS.lookup ("sent" : Str)).isNone = true := by rw [hFS]; kernel_rfl
  clear hFS
  have t1 : aq1 (G9 (some (.v (eAd hh path sec))) none none none none none) St = .nx (G9 (some (.v (eAd hh path sec))) (some (.v (snD (jarOf s Z) hh path sec))) none none none none) St := by
    clear h hSt nn bs
    generalize snD (jarOf s Z) hh path sec = SN at *
    generalize (behindOf s Z).map eKd = M at *
    generalize eAd hh path sec = A at *
    simp [runS, Jv.envOf, fin, noX, sSeq, sAsg, sIf, sPar, sSet, sRet, sNil, sExpr, sNo, tVal, bOr, bNot, bAnd, bYes, eAnd, eOr, eNot, eIf, eBin, eCall, eTup, eCon, eVar, eBlt, eLst, eNeg, eChain, aCons, aNil, aLim, itK, itemsK, gTp, gNm, gsCons, gsNil, allV, ofOp, R.thenS, R.bind, List.replicate, aq1, eDGet, d1, lsn]
  have t2 : aq2 (G9 (some (.v (eAd hh path sec))) (some (.v (snD (jarOf s Z) hh path sec))) none none none none) St = .nx (G9 (some (.v (eAd hh path sec))) (some (.v (snD (jarOf s Z) hh path sec))) none none none none) St := by
    clear h hSt lsn d1
    generalize snD (jarOf s Z) hh path sec = SN at *
    generalize eAd hh path sec = A at *
    simp [runS, Jv.envOf, fin, noX, sSeq, sAsg, sIf, sPar, sSet, sRet, sNil, sExpr, sNo, tVal, bOr, bNot, bAnd, bYes, eAnd, eOr, eNot, eIf, eBin, eCall, eTup, eCon, eVar, eBlt, eLst, eNeg, eChain, aCons, aNil, aLim, itK, itemsK, gTp, gNm, gsCons, gsNil, allV, ofOp, R.thenS, R.bind, List.replicate, aq2, eMetI, io, lk, bs, nn]
  obtain ⟨d1', b1⟩ := aq3B_ok hg h h1 h2 (sec := sec) (n := "id") (by kernel_rfl) (by kernel_rfl) none none none
  obtain ⟨d2', b2⟩ := aq3B_ok hg h h1 h2 (sec := sec) (n := "k") (by kernel_rfl) (by kernel_rfl) d1' none none
  obtain ⟨d3', b3⟩ := aq3B_ok hg h h1 h2 (sec := sec) (n := "other") (by kernel_rfl) (by kernel_rfl) d2' none none
  have t3 : aq3 (G9 (some (.v (eAd hh path sec))) (some (.v (snD (jarOf s Z) hh path sec))) none none none none) St = .nx (G9 (some (.v (eAd hh path sec))) (some (.v (snD (jarOf s Z) hh path sec))) (some (.v (.str "other"))) d3' none none) St := by
    unfold aq3
    clear h hSt lsn d1 bs nn t1 t2
    generalize aq3B = B at *
    generalize snD (jarOf s Z) hh path sec = SN at *
    generalize eAd hh path sec = A at *
    simp [runS, Jv.envOf, fin, noX, sSeq, sAsg, sIf, sPar, sSet, sRet, sNil, sExpr, sNo, tVal, bOr, bNot, bAnd, bYes, eAnd, eOr, eNot, eIf, eBin, eCall, eTup, eCon, eVar, eBlt, eLst, eNeg, eChain, aCons, aNil, aLim, itK, itemsK, gTp, gNm, gsCons, gsNil, allV, ofOp, R.thenS, R.bind, List.replicate, sFor, items, forGo, b1, b2, b3]
  rw [sq t1, sq t2, sq t3]
  rfl
end
theorem law_asked_ok {s : List Pg} (hg : siteG s = true) (P : List (List Nat)) (Z : List Nat) {ls cs : List Int} {a : Int} (hn : cs.length = ls.length) (hp : 0 < ls.length) (h0 : 0 ≤ a) (h1 : a ≤ 600000) :
    ∃ ls' : List Int, ls'.length = ls.length ∧ rn__law_asked_right [.r 3, .r 4, .r 6] (stA (stB s P Z) ls cs a) = tt (stA (stB s P Z) ls' cs (a + 1 + 1 + 1)) := by
  obtain ⟨hh, path, sec, ls1, h2, h3, l1, e1⟩ := law_address_ok (stB s P Z) (ls := ls) (cs := cs) (a := a) hn hp h0 h1
  refine ⟨ls1, l1, ?_⟩
  have q := asked_ok hg (St := stA (stB s P Z) ls1 cs (a + 1 + 1 + 1)) (Z := Z) rfl (hostsD_good hh h2) (pathsD_good path h3) (sec := sec) rfl (by kernel_rfl) (by kernel_rfl)
  have ev : runS 9 dn__law_asked_right [.r 3, .r 4, .r 6] (stA (stB s P Z) ls cs a) = fin (stA (stB s P Z) ls cs a).length (dn__law_asked_right (G9 none none none none none none) (stA (stB s P Z) ls cs a)) := rfl
  have t0 : aq0 (G9 none none none none none none) (stA (stB s P Z) ls cs a) = .nx (G9 (some (.v (eAd hh path sec))) none none none none none) (stA (stB s P Z) ls1 cs (a + 1 + 1 + 1)) := by
    clear q
    generalize eAd hh path sec = A at *
    generalize stA (stB s P Z) ls cs a = S0 at *
    generalize stA (stB s P Z) ls1 cs (a + 1 + 1 + 1) = S1 at *
    simp [runS, Jv.envOf, fin, noX, sSeq, sAsg, sIf, sPar, sSet, sRet, sNil, sExpr, sNo, tVal, bOr, bNot, bAnd, bYes, eAnd, eOr, eNot, eIf, eBin, eCall, eTup, eCon, eVar, eBlt, eLst, eNeg, eChain, aCons, aNil, aLim, itK, itemsK, gTp, gNm, gsCons, gsNil, allV, ofOp, R.thenS, R.bind, List.replicate, aq0, e1]
  have ta := takeA (stB s P Z) ls ls1 cs a (a + 1 + 1 + 1)
  unfold rn__law_asked_right
  rw [ev, dn__law_asked_right_eq, sq t0, q]
  simp only [fin, ta, noX_ok]
end K37
end
section
namespace K37
open PySem Jv Rf
def lt0 : SD := (sSet 3 (eCall rn__law_draw (aCons (eVar 0) (aCons (eCon (.int 8)) aNil))))
def lt1 : SD := (sIf (tVal (eBin eqD (eVar 3) (eCon (.int 0)))) (sSeq (sSet 5 (eBin neD (eDGet (eVar 2) (eCon (.str "past"))) (eLst (aLim aNil)))) (sSeq (sIf (tVal (eVar 5)) (sDPut2 (eVar 2) (eCon (.str "kept")) (eVar 2) (eCon (.str "row")) (ePop0 (eDGet (eVar 2) (eCon (.str "past"))))) sNil) (sRet (eBin eqStr (eBlt reprB2 (aCons (eMetI "Browser" "undo" rn_Browser_undo (eVar 1) aNil) aNil)) (eBlt reprB2 (aCons (eVar 5) aNil)))))) sNil)
def lt2 : SD := (sExpr (eApp (eDGet (eVar 2) (eCon (.str "past"))) (aCons (eTup (aCons (eDGet (eVar 2) (eCon (.str "kept"))) (aCons (eDGet (eVar 2) (eCon (.str "row"))) aNil))) aNil)))
def lt3 : SD := (sIf (tVal (eBin eqD (eVar 3) (eCon (.int 1)))) (sSeq (sDPut2 (eVar 2) (eCon (.str "kept")) (eVar 2) (eCon (.str "row")) (eTup (aCons (eLst (aLim aNil)) (aCons (eTup aNil) aNil)))) (sRet (eBin isD (eMetI "Browser" "clear" rn_Browser_clear (eVar 1) aNil) (eCon .non)))) sNil)
def lt4 : SD := (sSet 4 (eCall rn__law_draw (aCons (eVar 0) (aCons (eBlt lenA (aCons (eDGet (eVar 2) (eCon (.str "site"))) aNil)) aNil))))
def lt5 : SD := (sSet 5 (eCall rn__law_sent (aCons (eDGet (eVar 2) (eCon (.str "kept"))) (aCons (eBin ixD (eBin ix2 (eDGet (eVar 2) (eCon (.str "site"))) (eVar 4)) (eCon (.int 0))) aNil))))
def lt6 : SD := (sDPut2 (eVar 2) (eCon (.str "kept")) (eVar 2) (eCon (.str "row")) (eTup (aCons (eCall rn__law_visited (aCons (eDGet (eVar 2) (eCon (.str "kept"))) (aCons (eBin ix2 (eDGet (eVar 2) (eCon (.str "site"))) (eVar 4)) aNil))) (aCons (eBin addD (eDGet (eVar 2) (eCon (.str "row"))) (eTup (aCons (eVar 4) aNil))) aNil))))
def lt7 : SD := (sRet (eBin eqD (eMetI "Browser" "visit" rn_Browser_visit (eVar 1) (aCons (eVar 4) aNil)) (eVar 5)))
theorem dn__law_turned_eq : dn__law_turned = sSeq lt0 (sSeq lt1 (sSeq lt2 (sSeq lt3 (sSeq lt4 (sSeq lt5 (sSeq lt6 (lt7))))))) := rfl
def xS (b : Ob) (l : List Jv.D) (es K row : Jv.D) (ls cs : List Int) (a : Int) : Sto := stA [b, .lst l, .dct [("site", .v es), ("kept", .v K), ("row", .v row), ("past", .r 5)], .pr [.r 4, .r 6]] ls cs a
section
variable (b : Ob) (l : List Jv.D) (es K row : Jv.D) (ls cs : List Int) (a : Int)
theorem x_get4 : (xS b l es K row ls cs a)[4]? = some b := rfl
theorem x_set4 (b' : Ob) : (xS b l es K row ls cs a).set 4 b' = xS b' l es K row ls cs a := rfl
theorem x_site : dGet (xS b l es K row ls cs a) (.r 6) (.v (.str "site")) = .ok (.v es) (xS b l es K row ls cs a) := by kernel_rfl
theorem x_kept : dGet (xS b l es K row ls cs a) (.r 6) (.v (.str "kept")) = .ok (.v K) (xS b l es K row ls cs a) := by kernel_rfl
theorem x_row : dGet (xS b l es K row ls cs a) (.r 6) (.v (.str "row")) = .ok (.v row) (xS b l es K row ls cs a) := by kernel_rfl
theorem x_past : dGet (xS b l es K row ls cs a) (.r 6) (.v (.str "past")) = .ok (.r 5) (xS b l es K row ls cs a) := by kernel_rfl
theorem x_putk (K' : Jv.D) (env : Jv.Env) : dPut (.r 6) (.v (.str "kept")) (.v K') env (xS b l es K row ls cs a) = .nx env (xS b l es K' row ls cs a) := by kernel_rfl
theorem x_putr (row' : Jv.D) (env : Jv.Env) : dPut (.r 6) (.v (.str "row")) (.v row') env (xS b l es K row ls cs a) = .nx env (xS b l es K row' ls cs a) := by kernel_rfl
theorem x_pop (x : Jv.D) : pop0 (.r 5) (xS b (l ++ [x]) es K row ls cs a) = .ok (.v x) (xS b l es K row ls cs a) := by
  have g : (xS b (l ++ [x]) es K row ls cs a)[5]? = some (.lst (l ++ [x])) := rfl
  have e : (l ++ [x])[(l ++ [x]).length - 1]? = some x := by simp
  have st : ∀ l', (xS b (l ++ [x]) es K row ls cs a).set 5 (.lst l') = xS b l' es K row ls cs a := fun _ => rfl
  simp only [pop0, g, e, List.dropLast_concat, st]
theorem x_isL : isLst (xS b l es K row ls cs a) (.r 5) = true := rfl
theorem x_app (h : l.length < 16000000) (d : Jv.D) : appG (.r 5) [.v d] (xS b l es K row ls cs a) = .ok (.v .non) (xS b (l ++ [d]) es K row ls cs a) := by
  have g : (xS b l es K row ls cs a)[5]? = some (.lst l) := rfl
  have st : ∀ l', (xS b l es K row ls cs a).set 5 (.lst l') = xS b l' es K row ls cs a := fun _ => rfl
  simp only [appG, g, if_pos h, st]
end
theorem stB_xS (s : List Pg) (P : List (List Nat)) (Z : List Nat) (ls cs : List Int) (a : Int) : stA (stB s P Z) ls cs a = xS (bB (eSite s) (eJr (jarOf s Z)) (eRow Z) (P.map (eJp s))) (P.map (eKp s)) (eSite s) (.lst ((behindOf s Z).map eKd)) (eRow Z) ls cs a := rfl
theorem lay_kds {l : List Kd} (h : kdG l) (hv : kdV l) : PyData.canLayAll0 (D.pyL (l.map eKd)) = true ∧ PyData.depthAll (D.pyL (l.map eKd)) ≤ 3 := by
  induction l with
  | nil => exact ⟨rfl, by simp [D.pyL, PyData.depthAll]⟩
  | cons x r ih =>
    obtain ⟨h1, h2⟩ := ih (fun p hp => h p (List.mem_cons_of_mem _ hp)) fun p hp => hv p (List.mem_cons_of_mem _ hp)
    have g := lay_ky (kyOk_of (h x List.mem_cons_self))
    have d := dep_ky x.1
    have sv := strOk_sig (hv x List.mem_cons_self)
    constructor
    · simp [eKd, D.pyL, D.py, PyData.canLayAll0, PyData.canLay0, g, h1, sv]
    · simp only [List.map_cons, eKd, D.pyL, D.py, PyData.depthAll, PyData.depth]
      omega
theorem lay_row : ∀ r : List Nat, PyData.canLayAll0 (D.pyL (r.map fun i : Nat => Jv.D.int (i : Int))) = true ∧ PyData.depthAll (D.pyL (r.map fun i : Nat => Jv.D.int (i : Int))) ≤ 0
  | [] => ⟨rfl, by simp [D.pyL, PyData.depthAll]⟩
  | i :: r => by
    obtain ⟨a, b⟩ := lay_row r
    constructor
    · simp [D.pyL, D.py, PyData.canLayAll0, PyData.canLay0, a]
    · simp only [List.map_cons, D.pyL, D.py, PyData.depthAll, PyData.depth]
      omega
theorem sh_past {s : List Pg} (hs : ∀ p ∈ s, pgG p = true) (hl : s.length ≤ 5) (P : List (List Nat)) : SeqAt.shaped (D.lst (P.map (eKp s))).py = true := by
  have one : PyData.canLayAll0 (D.pyL (P.map (eKp s))) = true ∧ PyData.depthAll (D.pyL (P.map (eKp s))) ≤ 6 := by
    induction P with
    | nil => exact ⟨rfl, by simp [D.pyL, PyData.depthAll]⟩
    | cons r t ih =>
      obtain ⟨a, b⟩ := ih
      obtain ⟨g1, g2, g3, g4⟩ := jar_facts hs hl r
      rw [jarOf_eq] at g1 g3
      have pm := sortR_perm (behindOf s r)
      obtain ⟨c, d⟩ := lay_kds (fun p hp => g1 p (pm.mem_iff.mpr hp)) (fun p hp => g3 p (pm.mem_iff.mpr hp))
      obtain ⟨e, f⟩ := lay_row r
      constructor
      · simp [eKp, eRow, D.pyL, D.py, PyData.canLayAll0, PyData.canLay0, a, c, e]
      · simp only [List.map_cons, eKp, eRow, D.pyL, D.py, PyData.depthAll, PyData.depth]
        omega
  unfold SeqAt.shaped
  simp only [D.py, PyData.canLay0, PyData.depth]
  rw [Bool.and_eq_true]
  exact ⟨one.1, decide_eq_true (by have := one.2; omega)⟩
theorem ne_past {s : List Pg} (hs : ∀ p ∈ s, pgG p = true) (hl : s.length ≤ 5) (P : List (List Nat)) {St : Sto} (h : St[5]? = some (.lst (P.map (eKp s)))) : neD St (.r 5) (.v (.lst [])) = some (.bl (!P.isEmpty)) := by
  have d5 : deref St (.r 5) = .lst (P.map (eKp s)) := by simp [deref, h]
  have h2 : SeqAt.shaped (deref St (.v (.lst []))).py = true := by kernel_rfl
  have h1 := sh_past hs hl P
  unfold neD
  rw [d5, h1, h2]
  simp only [Bool.and_self, if_true]
  cases P <;> simp [deref, D.py, D.pyL, PyData.eqv, PyData.eqvAll]
theorem repr_bl (b : Bool) (St : Sto) : ∃ z : Str, reprB2 St [.v (.bl b)] = some (.str z) := by
  exact ⟨(Jv.D.bl b).py.shown, by cases b <;> kernel_rfl⟩
theorem eqN (st : Sto) (i j : Int) : eqD st (.v (.int i)) (.v (.int j)) = some (.bl (decide (i = j))) := by
  have e1 : ∀ n : Int, SeqAt.shaped (Jv.D.int n).py = true := fun n => by kernel_rfl
  simp only [eqD, deref, e1, Bool.and_self, if_true]
  have : (i == j) = decide (i = j) := Bool.eq_iff_iff.mpr (by simp)
  simp [D.py, PyData.eqv, this]
def InvT (s : List Pg) (n : Nat) (P : List (List Nat)) (Z : List Nat) : Prop := (∀ i ∈ Z, i < s.length) ∧ Z.length ≤ n ∧ P.length ≤ n ∧ ∀ r ∈ P, (∀ i ∈ r, i < s.length) ∧ r.length ≤ n
abbrev G6 (c3 c4 c5 : Option W) : Jv.Env := [some (.r 3), some (.r 4), some (.r 6), c3, c4, c5]
theorem turn_fin {b b' : Ob} {l l' : List Jv.D} {es K K' row row' : Jv.D} {ls ls' cs : List Int} {a a' : Int} (h : dn__law_turned (G6 none none none) (xS b l es K row ls cs a) = .rt (.v (.bl true)) (xS b' l' es K' row' ls' cs a')) :
    rn__law_turned [.r 3, .r 4, .r 6] (xS b l es K row ls cs a) = tt (xS b' l' es K' row' ls' cs a') := by
  have ev : runS 6 dn__law_turned [.r 3, .r 4, .r 6] (xS b l es K row ls cs a) = fin (xS b l es K row ls cs a).length (dn__law_turned (G6 none none none) (xS b l es K row ls cs a)) := rfl
  have tk : List.take (xS b l es K row ls cs a).length (xS b' l' es K' row' ls' cs a') = xS b' l' es K' row' ls' cs a' := List.take_of_length_le (by simp [xS, stA])
  unfold rn__law_turned
  rw [ev, h]
  simp only [fin, tk, noX_ok]
end K37
end
section
namespace K37
open PySem Jv Rf
section
variable {s : List Pg} (hg : siteG s = true)
include hg
theorem turned0 (P : List (List Nat)) (Z : List Nat) (ls cs : List Int) (a : Int) (hP : P.length ≤ 1000) : ∃ (P' : List (List Nat)) (Z' : List Nat), (P' = P ∧ Z' = Z ∨ P = P' ++ [Z']) ∧
    (sSeq lt1 (sSeq lt2 (sSeq lt3 (sSeq lt4 (sSeq lt5 (sSeq lt6 lt7)))))) (G6 (some (.v (.int 0))) none none) (stA (stB s P Z) ls cs a) = .rt (.v (.bl true)) (stA (stB s P' Z') ls cs a) := by
  obtain ⟨hs, h15, h5⟩ := site_parts hg
  have q0 : ∀ st, eqD st (.v (.int 0)) (.v (.int 0)) = some (.bl true) := fun st => by rw [eqN]; rfl
  rcases List.eq_nil_or_concat P with rfl | ⟨P0, r, rfl⟩
  · refine ⟨[], Z, .inl ⟨rfl, rfl⟩, ?_⟩
    have np := ne_past hs h5 [] (St := stA (stB s [] Z) ls cs a) rfl
    simp only [List.isEmpty_nil, Bool.not_true] at np
    have un := undo_none (St := stA (stB s [] Z) ls cs a) (l := 4) (es := eSite s) (J := eJr (jarOf s Z)) (rw := eRow Z) rfl
    obtain ⟨z, rp⟩ := repr_bl false (stA (stB s [] Z) ls cs a)
    have es : eqStr (stA (stB s [] Z) ls cs a) (.v (.str z)) (.v (.str z)) = some (.bl true) := by simp [eqStr]
    obtain ⟨FS, hFS⟩ : ∃ FS : List (Str × W), FS = [(("own_site" : Str), W.v (eSite s)), (("state" : Str), W.v (.tup [eJr (jarOf s Z), eRow Z])), (("past" : Str), W.v (.tup []))] := ⟨_, rfl⟩
    have io : insF "Browser" (stA (stB s [] Z) ls cs a) (.r 4) = some FS := by rw [hFS]; exact ins_at rfl
    have lk : (FS.lookup ("undo" : Str)).isNone = true := by rw [hFS]; kernel_rfl
    have xp : dGet (stA (stB s [] Z) ls cs a) (.r 6) (.v (.str "past")) = .ok (.r 5) (stA (stB s [] Z) ls cs a) := x_past _ _ _ _ _ _ _ _
    clear hFS
    generalize stA (stB s [] Z) ls cs a = S0 at *
    simp [runS, Jv.envOf, fin, noX, sSeq, sAsg, sIf, sPar, sSet, sRet, sNil, sExpr, sNo, tVal, bOr, bNot, bAnd, bYes, eAnd, eOr, eNot, eIf, eBin, eCall, eTup, eCon, eVar, eBlt, eLst, eNeg, eChain, aCons, aNil, aLim, itK, itemsK, gTp, gNm, gsCons, gsNil, allV, ofOp, R.thenS, R.bind, List.replicate, lt1, eDGet, q0, xp, np, eMetI, io, lk, un, rp, es]
  · rw [List.concat_eq_append] at hP ⊢
    refine ⟨P0, r, .inr rfl, ?_⟩
    have np := ne_past hs h5 (P0 ++ [r]) (St := stA (stB s (P0 ++ [r]) Z) ls cs a) rfl
    have em : (P0 ++ [r]).isEmpty = false := by simp
    rw [em, Bool.not_false] at np
    rw [stB_xS] at np ⊢
    rw [stB_xS]
    have ek : (P0 ++ [r]).map (eKp s) = P0.map (eKp s) ++ [eKp s r] := by simp
    have ej : (P0 ++ [r]).map (eJp s) = P0.map (eJp s) ++ [.tup [eJr (jarOf s r), eRow r]] := by simp [eJp]
    rw [ek, ej] at np
    rw [ek, ej]
    have pl : (P0.map (eJp s)).length ≤ 1000 := by simp at hP ⊢; omega
    have ekp : eKp s r = .tup [.lst ((behindOf s r).map eKd), eRow r] := rfl
    have po := x_pop (bB (eSite s) (eJr (jarOf s Z)) (eRow Z) (P0.map (eJp s) ++ [.tup [eJr (jarOf s r), eRow r]])) (P0.map (eKp s)) (eSite s) (.lst ((behindOf s Z).map eKd)) (eRow Z) ls cs a (eKp s r)
    have xp := x_past (bB (eSite s) (eJr (jarOf s Z)) (eRow Z) (P0.map (eJp s) ++ [.tup [eJr (jarOf s r), eRow r]])) (P0.map (eKp s) ++ [eKp s r]) (eSite s) (.lst ((behindOf s Z).map eKd)) (eRow Z) ls cs a
    have pk := fun K row K' env => x_putk (bB (eSite s) (eJr (jarOf s Z)) (eRow Z) (P0.map (eJp s) ++ [.tup [eJr (jarOf s r), eRow r]])) (P0.map (eKp s)) (eSite s) K row ls cs a K' env
    have pr := fun K row K' env => x_putr (bB (eSite s) (eJr (jarOf s Z)) (eRow Z) (P0.map (eJp s) ++ [.tup [eJr (jarOf s r), eRow r]])) (P0.map (eKp s)) (eSite s) K row ls cs a K' env
    have un := undo_some (x_get4 (bB (eSite s) (eJr (jarOf s Z)) (eRow Z) (P0.map (eJp s) ++ [.tup [eJr (jarOf s r), eRow r]])) (P0.map (eKp s)) (eSite s) (.lst ((behindOf s r).map eKd)) (eRow r) ls cs a) pl
    rw [x_set4] at un
    obtain ⟨FS, hFS⟩ : ∃ FS : List (Str × W), FS = [(("own_site" : Str), W.v (eSite s)), (("state" : Str), W.v (.tup [eJr (jarOf s Z), eRow Z])), (("past" : Str), W.v (.tup (P0.map (eJp s) ++ [.tup [eJr (jarOf s r), eRow r]])))] := ⟨_, rfl⟩
    have io : insF "Browser" (xS (bB (eSite s) (eJr (jarOf s Z)) (eRow Z) (P0.map (eJp s) ++ [.tup [eJr (jarOf s r), eRow r]])) (P0.map (eKp s)) (eSite s) (.lst ((behindOf s r).map eKd)) (eRow r) ls cs a) (.r 4) = some FS := by rw [hFS]; exact ins_at rfl
    have lk : (FS.lookup ("undo" : Str)).isNone = true := by rw [hFS]; kernel_rfl
    clear hFS
    have rp : ∃ z : Str, ∀ St, reprB2 St [.v (.bl true)] = some (.str z) := ⟨(Jv.D.bl true).py.shown, fun St => by kernel_rfl⟩
    obtain ⟨z, rp⟩ := rp
    have es : ∀ St, eqStr St (.v (.str z)) (.v (.str z)) = some (.bl true) := fun St => by simp [eqStr]
    rw [ekp] at po np xp ⊢
    generalize (Jv.D.lst ((behindOf s r).map eKd)) = K2 at *
    generalize (Jv.D.lst ((behindOf s Z).map eKd)) = K1 at *
    generalize bB (eSite s) (eJr (jarOf s Z)) (eRow Z) (P0.map (eJp s) ++ [.tup [eJr (jarOf s r), eRow r]]) = B1 at *
    generalize bB (eSite s) (eJr (jarOf s r)) (eRow r) (P0.map (eJp s)) = B2 at *
    generalize P0.map (eKp s) = L0 at *
    generalize eRow r = R2 at *
    generalize eRow Z = R1 at *
    generalize eSite s = ES at *
    simp [runS, Jv.envOf, fin, noX, sSeq, sAsg, sIf, sPar, sSet, sRet, sNil, sExpr, sNo, tVal, bOr, bNot, bAnd, bYes, eAnd, eOr, eNot, eIf, eBin, eCall, eTup, eCon, eVar, eBlt, eLst, eNeg, eChain, aCons, aNil, aLim, itK, itemsK, gTp, gNm, gsCons, gsNil, allV, ofOp, R.thenS, R.bind, List.replicate, lt1, eDGet, q0, xp, np, sDPut2, ePop0, po, pk, pr, eMetI, io, lk, un, rp, es]
/-- what is appended to the law's past -/
theorem lt2_ok (P : List (List Nat)) (Z : List Nat) (ls cs : List Int) (a : Int) (hP : P.length ≤ 1000) (c3 : Option W) : lt2 (G6 c3 none none) (stA (stB s P Z) ls cs a) = .nx (G6 c3 none none) (xS (bB (eSite s) (eJr (jarOf s Z)) (eRow Z) (P.map (eJp s))) ((P ++ [Z]).map (eKp s)) (eSite s) (.lst ((behindOf s Z).map eKd)) (eRow Z) ls cs a) := by
  have ek : (P ++ [Z]).map (eKp s) = P.map (eKp s) ++ [.tup [.lst ((behindOf s Z).map eKd), eRow Z]] := by simp [eKp]
  rw [stB_xS, ek]
  have g1 := x_past (bB (eSite s) (eJr (jarOf s Z)) (eRow Z) (P.map (eJp s))) (P.map (eKp s)) (eSite s) (.lst ((behindOf s Z).map eKd)) (eRow Z) ls cs a
  have g2 := x_kept (bB (eSite s) (eJr (jarOf s Z)) (eRow Z) (P.map (eJp s))) (P.map (eKp s)) (eSite s) (.lst ((behindOf s Z).map eKd)) (eRow Z) ls cs a
  have g3 := x_row (bB (eSite s) (eJr (jarOf s Z)) (eRow Z) (P.map (eJp s))) (P.map (eKp s)) (eSite s) (.lst ((behindOf s Z).map eKd)) (eRow Z) ls cs a
  have g4 := x_isL (bB (eSite s) (eJr (jarOf s Z)) (eRow Z) (P.map (eJp s))) (P.map (eKp s)) (eSite s) (.lst ((behindOf s Z).map eKd)) (eRow Z) ls cs a
  have g5 := x_app (bB (eSite s) (eJr (jarOf s Z)) (eRow Z) (P.map (eJp s))) (P.map (eKp s)) (eSite s) (.lst ((behindOf s Z).map eKd)) (eRow Z) ls cs a (by rw [List.length_map]; omega) (.tup [.lst ((behindOf s Z).map eKd), eRow Z])
  generalize bB (eSite s) (eJr (jarOf s Z)) (eRow Z) (P.map (eJp s)) = B at *
  generalize P.map (eKp s) = L at *
  generalize (Jv.D.lst ((behindOf s Z).map eKd)) = K at *
  generalize eRow Z = R1 at *
  generalize eSite s = ES at *
  simp [runS, Jv.envOf, fin, noX, sSeq, sAsg, sIf, sPar, sSet, sRet, sNil, sExpr, sNo, tVal, bOr, bNot, bAnd, bYes, eAnd, eOr, eNot, eIf, eBin, eCall, eTup, eCon, eVar, eBlt, eLst, eNeg, eChain, aCons, aNil, aLim, itK, itemsK, gTp, gNm, gsCons, gsNil, allV, ofOp, R.thenS, R.bind, List.replicate, lt2, eApp, eDGet, g1, g2, g3, g4, g5]
theorem turned1 (P : List (List Nat)) (Z : List Nat) (ls cs : List Int) (a : Int) (hP : P.length ≤ 1000) :
    (sSeq lt1 (sSeq lt2 (sSeq lt3 (sSeq lt4 (sSeq lt5 (sSeq lt6 lt7)))))) (G6 (some (.v (.int 1))) none none) (stA (stB s P Z) ls cs a) = .rt (.v (.bl true)) (stA (stB s (P ++ [Z]) []) ls cs a) := by
  have q0 : ∀ st, eqD st (.v (.int 1)) (.v (.int 0)) = some (.bl false) := fun st => by rw [eqN]; rfl
  have q1 : ∀ st, eqD st (.v (.int 1)) (.v (.int 1)) = some (.bl true) := fun st => by rw [eqN]; rfl
  have t1 : lt1 (G6 (some (.v (.int 1))) none none) (stA (stB s P Z) ls cs a) = .nx (G6 (some (.v (.int 1))) none none) (stA (stB s P Z) ls cs a) := by
    generalize stA (stB s P Z) ls cs a = S0 at *
    simp [runS, Jv.envOf, fin, noX, sSeq, sAsg, sIf, sPar, sSet, sRet, sNil, sExpr, sNo, tVal, bOr, bNot, bAnd, bYes, eAnd, eOr, eNot, eIf, eBin, eCall, eTup, eCon, eVar, eBlt, eLst, eNeg, eChain, aCons, aNil, aLim, itK, itemsK, gTp, gNm, gsCons, gsNil, allV, ofOp, R.thenS, R.bind, List.replicate, lt1, q0]
  have t2 := lt2_ok hg P Z ls cs a hP (some (.v (.int 1)))
  have fe : stA (stB s (P ++ [Z]) []) ls cs a = xS (bB (eSite s) (.tup []) (.tup []) (P.map (eJp s) ++ [.tup [eJr (jarOf s Z), eRow Z]])) ((P ++ [Z]).map (eKp s)) (eSite s) (.lst []) (.tup []) ls cs a := by
    rw [stB_xS]
    have : (P ++ [Z]).map (eJp s) = P.map (eJp s) ++ [.tup [eJr (jarOf s Z), eRow Z]] := by simp [eJp]
    rw [this]
    rfl
  rw [sq t1, sq t2, fe]
  generalize (P ++ [Z]).map (eKp s) = L at *
  have pk := fun K row K' env => x_putk (bB (eSite s) (eJr (jarOf s Z)) (eRow Z) (P.map (eJp s))) L (eSite s) K row ls cs a K' env
  have pr := fun K row K' env => x_putr (bB (eSite s) (eJr (jarOf s Z)) (eRow Z) (P.map (eJp s))) L (eSite s) K row ls cs a K' env
  have cl := clear_ok (x_get4 (bB (eSite s) (eJr (jarOf s Z)) (eRow Z) (P.map (eJp s))) L (eSite s) (.lst []) (.tup []) ls cs a) (by rw [List.length_map]; exact hP)
  rw [x_set4] at cl
  obtain ⟨FS, hFS⟩ : ∃ FS : List (Str × W), FS = [(("own_site" : Str), W.v (eSite s)), (("state" : Str), W.v (.tup [eJr (jarOf s Z), eRow Z])), (("past" : Str), W.v (.tup (P.map (eJp s))))] := ⟨_, rfl⟩
  have io : insF "Browser" (xS (bB (eSite s) (eJr (jarOf s Z)) (eRow Z) (P.map (eJp s))) L (eSite s) (.lst []) (.tup []) ls cs a) (.r 4) = some FS := by rw [hFS]; exact ins_at rfl
  have lk : (FS.lookup ("clear" : Str)).isNone = true := by rw [hFS]; kernel_rfl
  have nn : ∀ st, isD st (.v .non) (.v .non) = some (.bl true) := fun st => rfl
  clear hFS t1 t2 fe
  generalize (Jv.D.lst ((behindOf s Z).map eKd)) = K1 at *
  generalize bB (eSite s) (.tup []) (.tup []) (P.map (eJp s) ++ [.tup [eJr (jarOf s Z), eRow Z]]) = B2 at *
  generalize bB (eSite s) (eJr (jarOf s Z)) (eRow Z) (P.map (eJp s)) = B1 at *
  generalize eRow Z = R1 at *
  generalize eSite s = ES at *
  simp [runS, Jv.envOf, fin, noX, sSeq, sAsg, sIf, sPar, sSet, sRet, sNil, sExpr, sNo, tVal, bOr, bNot, bAnd, bYes, eAnd, eOr, eNot, eIf, eBin, eCall, eTup, eCon, eVar, eBlt, eLst, eNeg, eChain, aCons, aNil, aLim, itK, itemsK, gTp, gNm, gsCons, gsNil, allV, ofOp, R.thenS, R.bind, List.replicate, lt3, q1, sDPut2, eDGet, pk, pr, eMetI, io, lk, cl, nn]
end
end K37
end
section
namespace K37
open PySem Jv Rf
theorem turned2 {s : List Pg} (hg : siteG s = true) {w : Int} (w0 : w ≠ 0) (w1 : w ≠ 1) (P : List (List Nat)) (Z : List Nat) {ls cs : List Int} {a : Int} (hP : P.length ≤ 1000) (hZ : Z.length ≤ 1000) (hn : cs.length = ls.length) (hp : 0 < ls.length) (h0 : 0 ≤ a) (h1 : a ≤ 600000) :
    ∃ (i : Nat) (ls' : List Int), i < s.length ∧ ls'.length = ls.length ∧ (sSeq lt1 (sSeq lt2 (sSeq lt3 (sSeq lt4 (sSeq lt5 (sSeq lt6 lt7)))))) (G6 (some (.v (.int w))) none none) (stA (stB s P Z) ls cs a) = .rt (.v (.bl true)) (stA (stB s (P ++ [Z]) (Z ++ [i])) ls' cs (a + 1)) := by
  obtain ⟨hs, h15, h5⟩ := site_parts hg
  obtain ⟨r, ls1, r0, r1, l1, e1⟩ := draw_ok [bB (eSite s) (eJr (jarOf s Z)) (eRow Z) (P.map (eJp s)), .lst ((P ++ [Z]).map (eKp s)), .dct [("site", .v (eSite s)), ("kept", .v (.lst ((behindOf s Z).map eKd))), ("row", .v (eRow Z)), ("past", .r 5)], .pr [.r 4, .r 6]] (ls := ls) (cs := cs) (a := a) (m := (s.length : Int)) hn hp h0 (by omega) (by omega) (by omega)
  obtain ⟨i, rfl⟩ : ∃ i : Nat, r = (i : Int) := ⟨r.toNat, by omega⟩
  have hi : i < s.length := by omega
  refine ⟨i, ls1, hi, l1, ?_⟩
  have e1' : rn__law_draw [.r 3, .v (.int (s.length : Int))] (xS (bB (eSite s) (eJr (jarOf s Z)) (eRow Z) (P.map (eJp s))) ((P ++ [Z]).map (eKp s)) (eSite s) (.lst ((behindOf s Z).map eKd)) (eRow Z) ls cs a) = .ok (.v (.int (i : Int))) (xS (bB (eSite s) (eJr (jarOf s Z)) (eRow Z) (P.map (eJp s))) ((P ++ [Z]).map (eKp s)) (eSite s) (.lst ((behindOf s Z).map eKd)) (eRow Z) ls1 cs (a + 1)) := e1
  have q0 : ∀ st, eqD st (.v (.int w)) (.v (.int 0)) = some (.bl false) := fun st => by rw [eqN, decide_eq_false w0]
  have q1 : ∀ st, eqD st (.v (.int w)) (.v (.int 1)) = some (.bl false) := fun st => by rw [eqN, decide_eq_false w1]
  have t1 : lt1 (G6 (some (.v (.int w))) none none) (stA (stB s P Z) ls cs a) = .nx (G6 (some (.v (.int w))) none none) (stA (stB s P Z) ls cs a) := by
    generalize stA (stB s P Z) ls cs a = S0 at *
    simp [runS, Jv.envOf, fin, noX, sSeq, sAsg, sIf, sPar, sSet, sRet, sNil, sExpr, sNo, tVal, bOr, bNot, bAnd, bYes, eAnd, eOr, eNot, eIf, eBin, eCall, eTup, eCon, eVar, eBlt, eLst, eNeg, eChain, aCons, aNil, aLim, itK, itemsK, gTp, gNm, gsCons, gsNil, allV, ofOp, R.thenS, R.bind, List.replicate, lt1, q0]
  have t2 := lt2_ok hg P Z ls cs a hP (some (.v (.int w)))
  have gp := hs s[i] (List.getElem_mem hi)
  obtain ⟨g1, g2, g3, g4⟩ := jar_facts hs h5 Z
  obtain ⟨kg, kl⟩ := kg_of hs h5 Z
  have ga := (pg_of gp).1
  have hh : strsOk s[i].adr.host = true ∧ strsOk s[i].adr.path = true := by
    simp only [adrG, Bool.and_eq_true] at ga
    exact ⟨strsOk_host ga.1, strsOk_path ga.2⟩
  have gi : s[i]? = some s[i] := List.getElem?_eq_getElem hi
  have ln := fun st => site_len s st
  have ix := fun st => site_ix hi st
  have y0 : ∀ st, ixD st (.v (ePg s[i])) (.v (.int 0)) = some (eAd s[i].adr.host s[i].adr.path s[i].adr.sec) := fun st => by simp [ePg, ixD, at0, ad_eq]
  have fe : stA (stB s (P ++ [Z]) (Z ++ [i])) ls1 cs (a + 1) = xS (bB (eSite s) (eJr (jarOf s (Z ++ [i]))) (eRow (Z ++ [i])) (P.map (eJp s) ++ [.tup [eJr (jarOf s Z), eRow Z]])) ((P ++ [Z]).map (eKp s)) (eSite s) (.lst ((behindOf s (Z ++ [i])).map eKd)) (eRow (Z ++ [i])) ls1 cs (a + 1) := by
    rw [stB_xS]
    have : (P ++ [Z]).map (eJp s) = P.map (eJp s) ++ [.tup [eJr (jarOf s Z), eRow Z]] := by simp [eJp]
    rw [this]
  rw [sq t1, sq t2, fe]
  have ps1 : (P.map (eJp s)).length ≤ 1000 := by rw [List.length_map]; exact hP
  generalize (P ++ [Z]).map (eKp s) = L at *
  have xs0 := x_site (bB (eSite s) (eJr (jarOf s Z)) (eRow Z) (P.map (eJp s))) L (eSite s) (.lst ((behindOf s Z).map eKd)) (eRow Z) ls cs a
  have xs1 := x_site (bB (eSite s) (eJr (jarOf s Z)) (eRow Z) (P.map (eJp s))) L (eSite s) (.lst ((behindOf s Z).map eKd)) (eRow Z) ls1 cs (a + 1)
  have xk1 := x_kept (bB (eSite s) (eJr (jarOf s Z)) (eRow Z) (P.map (eJp s))) L (eSite s) (.lst ((behindOf s Z).map eKd)) (eRow Z) ls1 cs (a + 1)
  have xr1 := x_row (bB (eSite s) (eJr (jarOf s Z)) (eRow Z) (P.map (eJp s))) L (eSite s) (.lst ((behindOf s Z).map eKd)) (eRow Z) ls1 cs (a + 1)
  have pk := fun K row K' env => x_putk (bB (eSite s) (eJr (jarOf s Z)) (eRow Z) (P.map (eJp s))) L (eSite s) K row ls1 cs (a + 1) K' env
  have pr := fun K row K' env => x_putr (bB (eSite s) (eJr (jarOf s Z)) (eRow Z) (P.map (eJp s))) L (eSite s) K row ls1 cs (a + 1) K' env
  have ls0 := sent_both hs h5 Z hh.1 hh.2 s[i].adr.sec (st := xS (bB (eSite s) (eJr (jarOf s Z)) (eRow Z) (P.map (eJp s))) L (eSite s) (.lst ((behindOf s Z).map eKd)) (eRow Z) ls1 cs (a + 1)) (by kernel_rfl)
  have lv := law_visited_ok gp (l := behindOf s Z) (by
    have := (sortR_perm (behindOf s Z)).length_eq
    have h2 := jar_few s Z
    have h3 := keysRaw_len hs
    rw [jarOf_eq] at h2
    omega) (behind_ok s Z) kg (xS (bB (eSite s) (eJr (jarOf s Z)) (eRow Z) (P.map (eJp s))) L (eSite s) (.lst ((behindOf s Z).map eKd)) (eRow Z) ls1 cs (a + 1))
  rw [← behind_snoc s Z i gi] at lv
  have ra := row_add Z i hZ (xS (bB (eSite s) (eJr (jarOf s Z)) (eRow Z) (P.map (eJp s))) L (eSite s) (.lst ((behindOf s Z).map eKd)) (eRow Z) ls1 cs (a + 1))
  have vi := visit_ok hg (x_get4 (bB (eSite s) (eJr (jarOf s Z)) (eRow Z) (P.map (eJp s))) L (eSite s) (.lst ((behindOf s (Z ++ [i])).map eKd)) (eRow (Z ++ [i])) ls1 cs (a + 1)) hi hZ ps1
  rw [x_set4] at vi
  have nn : ∀ st, eqD st (.v (snD (jarOf s Z) s[i].adr.host s[i].adr.path s[i].adr.sec)) (.v (snD (jarOf s Z) s[i].adr.host s[i].adr.path s[i].adr.sec)) = some (.bl true) := fun st => eqS st _ (sh_sn g1 g3 _ _ _)
  obtain ⟨FS, hFS⟩ : ∃ FS : List (Str × W), FS = [(("own_site" : Str), W.v (eSite s)), (("state" : Str), W.v (.tup [eJr (jarOf s Z), eRow Z])), (("past" : Str), W.v (.tup (P.map (eJp s))))] := ⟨_, rfl⟩
  have io : insF "Browser" (xS (bB (eSite s) (eJr (jarOf s Z)) (eRow Z) (P.map (eJp s))) L (eSite s) (.lst ((behindOf s (Z ++ [i])).map eKd)) (eRow (Z ++ [i])) ls1 cs (a + 1)) (.r 4) = some FS := by rw [hFS]; exact ins_at rfl
  have lk : (FS.lookup ("visit" : Str)).isNone = true := by rw [hFS]; kernel_rfl
  clear hFS t1 t2 fe e1 hh ga gi kg kl g1 g2 g3 g4 gp
  generalize bB (eSite s) (eJr (jarOf s (Z ++ [i]))) (eRow (Z ++ [i])) (P.map (eJp s) ++ [.tup [eJr (jarOf s Z), eRow Z]]) = B2 at *
  generalize bB (eSite s) (eJr (jarOf s Z)) (eRow Z) (P.map (eJp s)) = B1 at *
  generalize snD (jarOf s Z) s[i].adr.host s[i].adr.path s[i].adr.sec = SN at *
  generalize eAd s[i].adr.host s[i].adr.path s[i].adr.sec = AD at *
  generalize ePg s[i] = PG at *
  generalize (Jv.D.lst ((behindOf s (Z ++ [i])).map eKd)) = K2 at *
  generalize (Jv.D.lst ((behindOf s Z).map eKd)) = K1 at *
  generalize eRow (Z ++ [i]) = R2 at *
  generalize eRow Z = R1 at *
  generalize (s.length : Int) = n at *
  generalize eSite s = ES at *
  generalize (i : Int) = i0 at *
  simp [runS, Jv.envOf, fin, noX, sSeq, sAsg, sIf, sPar, sSet, sRet, sNil, sExpr, sNo, tVal, bOr, bNot, bAnd, bYes, eAnd, eOr, eNot, eIf, eBin, eCall, eTup, eCon, eVar, eBlt, eLst, eNeg, eChain, aCons, aNil, aLim, itK, itemsK, gTp, gNm, gsCons, gsNil, allV, ofOp, R.thenS, R.bind, List.replicate, lt3, lt4, lt5, lt6, lt7, q1, sDPut2, eDGet, xs0, ln, e1', xs1, xk1, xr1, ix, y0, ls0, lv, ra, pk, pr, eMetI, io, lk, vi, nn]
theorem turned_ok {s : List Pg} (hg : siteG s = true) {n : Nat} {P : List (List Nat)} {Z : List Nat} (iv : InvT s n P Z) (hn9 : n ≤ 500) {ls cs : List Int} {a : Int} (hn : cs.length = ls.length) (hp : 0 < ls.length) (h0 : 0 ≤ a) (h1 : a ≤ 500000) :
    ∃ (P' : List (List Nat)) (Z' : List Nat) (ls' : List Int) (a' : Int), InvT s (n + 1) P' Z' ∧ ls'.length = ls.length ∧ a ≤ a' ∧ a' ≤ a + 2 ∧ rn__law_turned [.r 3, .r 4, .r 6] (stA (stB s P Z) ls cs a) = tt (stA (stB s P' Z') ls' cs a') := by
  obtain ⟨i1, i2, i3, i4⟩ := iv
  obtain ⟨w, ls1, w0, w1, l1, e1⟩ := draw_ok (stB s P Z) (ls := ls) (cs := cs) (a := a) (m := 8) hn hp h0 (by omega) (by decide) (by decide)
  have t0 : lt0 (G6 none none none) (stA (stB s P Z) ls cs a) = .nx (G6 (some (.v (.int w))) none none) (stA (stB s P Z) ls1 cs (a + 1)) := by
    generalize stA (stB s P Z) ls cs a = S0 at *
    generalize stA (stB s P Z) ls1 cs (a + 1) = S1 at *
    simp [runS, Jv.envOf, fin, noX, sSeq, sAsg, sIf, sPar, sSet, sRet, sNil, sExpr, sNo, tVal, bOr, bNot, bAnd, bYes, eAnd, eOr, eNot, eIf, eBin, eCall, eTup, eCon, eVar, eBlt, eLst, eNeg, eChain, aCons, aNil, aLim, itK, itemsK, gTp, gNm, gsCons, gsNil, allV, ofOp, R.thenS, R.bind, List.replicate, lt0, e1]
  have fin_ : ∀ {P' Z' ls' a'}, (sSeq lt1 (sSeq lt2 (sSeq lt3 (sSeq lt4 (sSeq lt5 (sSeq lt6 lt7)))))) (G6 (some (.v (.int w))) none none) (stA (stB s P Z) ls1 cs (a + 1)) = .rt (.v (.bl true)) (stA (stB s P' Z') ls' cs a') → rn__law_turned [.r 3, .r 4, .r 6] (stA (stB s P Z) ls cs a) = tt (stA (stB s P' Z') ls' cs a') := fun {P' Z' ls' a'} h => by
    have : dn__law_turned (G6 none none none) (stA (stB s P Z) ls cs a) = .rt (.v (.bl true)) (stA (stB s P' Z') ls' cs a') := by
      rw [dn__law_turned_eq, sq t0, h]
    rw [stB_xS, stB_xS] at this ⊢
    exact turn_fin this
  have mono : ∀ r : List Nat, r ∈ P → (∀ i ∈ r, i < s.length) ∧ r.length ≤ n + 1 := fun r hr => ⟨(i4 r hr).1, by have := (i4 r hr).2; omega⟩
  by_cases c0 : w = 0
  · subst c0
    obtain ⟨P', Z', hPZ, e⟩ := turned0 hg P Z ls1 cs (a + 1) (by omega)
    refine ⟨P', Z', ls1, a + 1, ?_, l1, by omega, by omega, fin_ e⟩
    rcases hPZ with ⟨rfl, rfl⟩ | rfl
    · exact ⟨i1, by omega, by omega, mono⟩
    · have hz := i4 Z' (by simp)
      rw [List.length_append] at i3
      exact ⟨hz.1, by omega, by omega, fun r hr => mono r (List.mem_append_left _ hr)⟩
  · have snoc : ∀ r ∈ P ++ [Z], (∀ i ∈ r, i < s.length) ∧ r.length ≤ n + 1 := fun r hr => by
      rcases List.mem_append.mp hr with hr | hr
      · exact mono r hr
      · simp only [List.mem_singleton] at hr
        subst hr
        exact ⟨i1, by omega⟩
    by_cases c1 : w = 1
    · subst c1
      refine ⟨P ++ [Z], [], ls1, a + 1, ⟨(fun i hi => by cases hi), by simp, by simp; omega, snoc⟩, l1, by omega, by omega, fin_ (turned1 hg P Z ls1 cs (a + 1) (by omega))⟩
    · obtain ⟨i, ls2, hi, l2, e⟩ := turned2 hg c0 c1 P Z (ls := ls1) (cs := cs) (a := a + 1) (by omega) (by omega) (by omega) (by omega) (by omega) (by omega)
      refine ⟨P ++ [Z], Z ++ [i], ls2, a + 1 + 1, ⟨fun j hj => ?_, by simp; omega, by simp; omega, snoc⟩, by omega, by omega, by omega, fin_ e⟩
      rcases List.mem_append.mp hj with hj | hj
      · exact i1 j hj
      · simp only [List.mem_singleton] at hj
        subst hj; exact hi
end K37
end
section
namespace K37
open PySem Jv Rf
def tnI : SD := (sSeq (sIf (bOr (bNot (tVal (eCall rn__law_turned (aCons (eVar 1) (aCons (eVar 4) (aCons (eVar 5) aNil)))))) (bNot (tVal (eCall rn__law_shown (aCons (eVar 4) (aCons (eVar 5) aNil)))))) (sRet (eCon (.bl false))) sNil) (sIf (bNot (tVal (eCall rn__law_asked_right (aCons (eVar 1) (aCons (eVar 4) (aCons (eVar 5) aNil)))))) (sRet (eCon (.bl false))) sNil))
def tu0 : SD := (sUnp 4 5 (eCall rn__law_new (aCons (eVar 1) (aCons (eCon (.int 4)) aNil))))
def tu1 : SD := (sIf (bNot (tVal (eCall rn__law_shown (aCons (eVar 4) (aCons (eVar 5) aNil))))) (sRet (eCon (.bl false))) sNil)
def tu2 : SD := (sFor (itRange (aCons (eCon (.int 16)) aNil)) (gNm 3) tnI)
def tnB : SD := sCut (sSeq tu0 (sSeq tu1 tu2))
def lw0 : SD := (sSet 1 (eCall rn__law_begin (aCons (eVar 0) aNil)))
def lw1 : SD := (sFor (itRange (aCons (eBin addD (eCon (.int 2)) (eBlt minB (aCons (eCon (.int 3)) (aCons (eBlt lenA (aCons (eVar 0) aNil)) aNil)))) aNil)) (gNm 2) tnB)
def lw2 : SD := (sRet (eCon (.bl true)))
theorem dn_law_eq : dn_law = sSeq lw0 (sSeq lw1 lw2) := rfl
abbrev H6 (c0 c2 c3 : Option W) : Jv.Env := [c0, some (.r 3), c2, c3, some (.r 4), some (.r 6)]
theorem shownS {s : List Pg} (hg : siteG s = true) (P : List (List Nat)) (Z : List Nat) (ls cs : List Int) (a : Int) : rn__law_shown [.r 4, .r 6] (stA (stB s P Z) ls cs a) = tt (stA (stB s P Z) ls cs a) :=
  shown_ok hg (ps := P.map (eJp s)) rfl (x_kept _ _ _ _ _ _ _ _) (x_row _ _ _ _ _ _ _ _) (x_site _ _ _ _ _ _ _ _) (by kernel_rfl)
theorem inner_one {s : List Pg} (hg : siteG s = true) {n : Nat} {P : List (List Nat)} {Z : List Nat} (iv : InvT s n P Z) (hn9 : n ≤ 500) {ls cs : List Int} {a : Int} (hn : cs.length = ls.length) (hp : 0 < ls.length) (h0 : 0 ≤ a) (h1 : a ≤ 400000) (c0 c2 c3 : Option W) :
    ∃ (P' : List (List Nat)) (Z' : List Nat) (ls' : List Int) (a' : Int), InvT s (n + 1) P' Z' ∧ ls'.length = ls.length ∧ a ≤ a' ∧ a' ≤ a + 5 ∧ tnI (H6 c0 c2 c3) (stA (stB s P Z) ls cs a) = .nx (H6 c0 c2 c3) (stA (stB s P' Z') ls' cs a') := by
  obtain ⟨P1, Z1, ls1, a1, iv1, l1, b1, b2, e1⟩ := turned_ok hg iv hn9 (ls := ls) (cs := cs) (a := a) hn hp h0 (by omega)
  have e2 := shownS hg P1 Z1 ls1 cs a1
  obtain ⟨ls2, l2, e3⟩ := law_asked_ok hg P1 Z1 (ls := ls1) (cs := cs) (a := a1) (by omega) (by omega) (by omega) (by omega)
  refine ⟨P1, Z1, ls2, a1 + 1 + 1 + 1, iv1, by omega, by omega, by omega, ?_⟩
  generalize stA (stB s P Z) ls cs a = S0 at *
  generalize stA (stB s P1 Z1) ls1 cs a1 = S1 at *
  generalize stA (stB s P1 Z1) ls2 cs (a1 + 1 + 1 + 1) = S2 at *
  simp [runS, Jv.envOf, fin, noX, sSeq, sAsg, sIf, sPar, sSet, sRet, sNil, sExpr, sNo, tVal, bOr, bNot, bAnd, bYes, eAnd, eOr, eNot, eIf, eBin, eCall, eTup, eCon, eVar, eBlt, eLst, eNeg, eChain, aCons, aNil, aLim, itK, itemsK, gTp, gNm, gsCons, gsNil, allV, ofOp, R.thenS, R.bind, List.replicate, tnI, e1, e2, e3]
theorem inner_ok {s : List Pg} (hg : siteG s = true) {cs : List Int} (c0 c2 : Option W) : ∀ (ds : List Jv.D) (n : Nat) (P : List (List Nat)) (Z : List Nat) (ls : List Int) (a : Int) (d3 : Option Jv.D), InvT s n P Z → n + ds.length ≤ 500 → cs.length = ls.length → 0 < ls.length → 0 ≤ a → a + 5 * ds.length ≤ 400000 →
    ∃ (P' : List (List Nat)) (Z' : List Nat) (ls' : List Int) (a' : Int) (e3 : Option Jv.D), ls'.length = ls.length ∧ a ≤ a' ∧ a' ≤ a + 5 * ds.length ∧ forGo (gNm 3) tnI ds (H6 c0 c2 (d3.map .v)) (stA (stB s P Z) ls cs a) = .nx (H6 c0 c2 (e3.map .v)) (stA (stB s P' Z') ls' cs a')
  | [], n, P, Z, ls, a, d3, _, _, _, _, _, _ => ⟨P, Z, ls, a, d3, rfl, by simp, by simp, rfl⟩
  | d :: r, n, P, Z, ls, a, d3, iv, h1, h2, h3, h4, h5 => by
    simp only [List.length_cons, Int.natCast_add] at h1 h5
    obtain ⟨P1, Z1, ls1, a1, iv1, l1, b1, b2, e⟩ := inner_one hg iv (by omega) (ls := ls) (cs := cs) (a := a) h2 h3 h4 (by omega) c0 c2 (some (.v d))
    obtain ⟨P', Z', ls', a', e3, l2, b3, b4, e'⟩ := inner_ok hg (cs := cs) c0 c2 r (n + 1) P1 Z1 ls1 a1 (some d) iv1 (by omega) (by omega) (by omega) (by omega) (by omega)
    refine ⟨P', Z', ls', a', e3, by omega, by omega, by simp only [List.length_cons, Int.natCast_add]; omega, ?_⟩
    have gn : gNm 3 (.v d) (H6 c0 c2 (d3.map .v)) = some (H6 c0 c2 (some (.v d))) := rfl
    simp only [forGo, gn, e]
    exact e'
abbrev I6 (c0 c2 c3 : Option W) : Jv.Env := [c0, some (.r 3), c2, c3, none, none]
theorem turn_ok {ls cs : List Int} {a : Int} (hn : cs.length = ls.length) (hp : 0 < ls.length) (h0 : 0 ≤ a) (h1 : a ≤ 300000) (d0 d2 : Jv.D) (d3 : Option Jv.D) :
    ∃ (ls' : List Int) (a' : Int) (e3 : Option Jv.D), ls'.length = ls.length ∧ a ≤ a' ∧ a' ≤ a + 300 ∧ tnB (I6 (some (.v d0)) (some (.v d2)) (d3.map .v)) (stA [] ls cs a) = .nx (I6 (some (.v d0)) (some (.v d2)) (e3.map .v)) (stA [] ls' cs a') := by
  obtain ⟨s, ls1, a1, sd, sl, l1, b1, b2, e1⟩ := law_new_ok (ls := ls) (cs := cs) (a := a) hn hp h0 (by omega) (m := 4) (by decide) (by decide)
  have e1' : rn__law_new [.r 3, .v (.int 4)] (stA [] ls cs a) = .ok (.r 7) (stA (stB s [] []) ls1 cs a1) := e1
  have e2 := shownS sd.1 [] [] ls1 cs a1
  obtain ⟨P', Z', ls2, a2, e3, l2, b3, b4, e4⟩ := inner_ok sd.1 (cs := cs) (some (.v d0)) (some (.v d2)) (rangeL 0 16) 0 [] [] ls1 a1 d3 ⟨(fun i hi => by cases hi), by simp, by simp, (fun r hr => by cases hr)⟩ (by simp [rangeL]) (by omega) (by omega) (by omega) (by simp [rangeL]; omega)
  have rl : ((rangeL 0 16).length : Int) = 16 := by simp [rangeL]
  rw [rl] at b4
  refine ⟨ls2, a2, e3, by omega, by omega, by omega, ?_⟩
  have rg : ranges [.v (.int 16)] (stA (stB s [] []) ls1 cs a1) = .ok (rangeL 0 16) (stA (stB s [] []) ls1 cs a1) := rfl
  have g7 : (stA (stB s [] []) ls1 cs a1)[7]? = some (.pr [.r 4, .r 6]) := rfl
  have t0 : tu0 (I6 (some (.v d0)) (some (.v d2)) (d3.map .v)) (stA [] ls cs a) = .nx (H6 (some (.v d0)) (some (.v d2)) (d3.map .v)) (stA (stB s [] []) ls1 cs a1) := by
    clear e4 e2 rg
    generalize d3.map W.v = D3 at *
    generalize stA [] ls cs a = S0 at *
    generalize stA (stB s [] []) ls1 cs a1 = S1 at *
    simp [runS, Jv.envOf, fin, noX, sSeq, sAsg, sIf, sPar, sSet, sRet, sNil, sExpr, sNo, tVal, bOr, bNot, bAnd, bYes, eAnd, eOr, eNot, eIf, eBin, eCall, eTup, eCon, eVar, eBlt, eLst, eNeg, eChain, aCons, aNil, aLim, itK, itemsK, gTp, gNm, gsCons, gsNil, allV, ofOp, R.thenS, R.bind, List.replicate, tu0, sUnp, e1', g7]
  have t1 : tu1 (H6 (some (.v d0)) (some (.v d2)) (d3.map .v)) (stA (stB s [] []) ls1 cs a1) = .nx (H6 (some (.v d0)) (some (.v d2)) (d3.map .v)) (stA (stB s [] []) ls1 cs a1) := by
    clear e4 rg
    generalize d3.map W.v = D3 at *
    generalize stA (stB s [] []) ls1 cs a1 = S1 at *
    simp [runS, Jv.envOf, fin, noX, sSeq, sAsg, sIf, sPar, sSet, sRet, sNil, sExpr, sNo, tVal, bOr, bNot, bAnd, bYes, eAnd, eOr, eNot, eIf, eBin, eCall, eTup, eCon, eVar, eBlt, eLst, eNeg, eChain, aCons, aNil, aLim, itK, itemsK, gTp, gNm, gsCons, gsNil, allV, ofOp, R.thenS, R.bind, List.replicate, tu1, e2]
  have t2 : tu2 (H6 (some (.v d0)) (some (.v d2)) (d3.map .v)) (stA (stB s [] []) ls1 cs a1) = .nx (H6 (some (.v d0)) (some (.v d2)) (e3.map .v)) (stA (stB s P' Z') ls2 cs a2) := by
    unfold tu2
    clear t0 t1
    generalize tnI = B at *
    generalize d3.map W.v = D3 at *
    generalize e3.map W.v = E3 at *
    generalize rangeL 0 16 = RL at *
    generalize stA (stB s [] []) ls1 cs a1 = S1 at *
    generalize stA (stB s P' Z') ls2 cs a2 = S2 at *
    simp [runS, Jv.envOf, fin, noX, sSeq, sAsg, sIf, sPar, sSet, sRet, sNil, sExpr, sNo, tVal, bOr, bNot, bAnd, bYes, eAnd, eOr, eNot, eIf, eBin, eCall, eTup, eCon, eVar, eBlt, eLst, eNeg, eChain, aCons, aNil, aLim, itK, itemsK, gTp, gNm, gsCons, gsNil, allV, ofOp, R.thenS, R.bind, List.replicate, sFor, itRange, rg, e4]
  have hl : (stA [] ls cs a).length = 4 := rfl
  unfold tnB sCut
  rw [sq t0, sq t1, t2, hl]
  cases e3 <;> rfl
theorem turns_ok {cs : List Int} (d0 : Jv.D) : ∀ (ds : List Jv.D) (ls : List Int) (a : Int) (c2 : Option Jv.D) (d3 : Option Jv.D), cs.length = ls.length → 0 < ls.length → 0 ≤ a → a + 300 * ds.length ≤ 300000 →
    ∃ (ls' : List Int) (a' : Int) (e2 e3 : Option Jv.D), forGo (gNm 2) tnB ds (I6 (some (.v d0)) (c2.map .v) (d3.map .v)) (stA [] ls cs a) = .nx (I6 (some (.v d0)) (e2.map .v) (e3.map .v)) (stA [] ls' cs a')
  | [], ls, a, c2, d3, _, _, _, _ => ⟨ls, a, c2, d3, rfl⟩
  | d :: r, ls, a, c2, d3, h1, h2, h3, h4 => by
    simp only [List.length_cons, Int.natCast_add] at h4
    obtain ⟨ls1, a1, e3, l1, b1, b2, e⟩ := turn_ok (ls := ls) (cs := cs) (a := a) h1 h2 h3 (by omega) d0 d d3
    obtain ⟨ls', a', x2, x3, e'⟩ := turns_ok (cs := cs) d0 r ls1 a1 (some d) e3 (by omega) (by omega) (by omega) (by omega)
    refine ⟨ls', a', x2, x3, ?_⟩
    have gn : gNm 2 (.v d) (I6 (some (.v d0)) (c2.map .v) (d3.map .v)) = some (I6 (some (.v d0)) (some (.v d)) (d3.map .v)) := rfl
    simp only [forGo, gn, e]
    exact e'
theorem law_ok (ns : List Int) (hl : ns.length ≤ 63) : rn_law [.v (.lst (ns.map .int))] tbs = tt tbs := by
  obtain ⟨ls, cs, h1, h2, e⟩ := begin_ok ns hl
  have ln : lenA (stA [] ls cs 0) [.v (.lst (ns.map .int))] = some (.int ns.length) := by simp [lenA, lenB, asLst]
  have mn : minB (stA [] ls cs 0) [.v (.int 3), .v (.int ns.length)] = some (.int (if (ns.length : Int) < 3 then (ns.length : Int) else 3)) := rfl
  obtain ⟨m, hm⟩ : ∃ m : Int, (if (ns.length : Int) < 3 then (ns.length : Int) else 3) = m := ⟨_, rfl⟩
  have m0 : 0 ≤ m ∧ m ≤ 3 := by rw [← hm]; split <;> omega
  rw [hm] at mn
  have rg : ranges [.v (.int (2 + m))] (stA [] ls cs 0) = .ok (rangeL 0 (2 + m).toNat) (stA [] ls cs 0) := by
    simp only [ranges]
    rw [if_pos (by omega)]
  obtain ⟨ls', a', e2, e3, lp⟩ := turns_ok (cs := cs) (.lst (ns.map .int)) (rangeL 0 (2 + m).toNat) ls 0 none none h1 h2 (by decide) (by simp [rangeL]; omega)
  have t0 : lw0 [some (.v (.lst (ns.map .int))), none, none, none, none, none] tbs = .nx (I6 (some (.v (.lst (ns.map .int)))) none none) (stA [] ls cs 0) := by
    generalize stA [] ls cs 0 = S0 at *
    simp [runS, Jv.envOf, fin, noX, sSeq, sAsg, sIf, sPar, sSet, sRet, sNil, sExpr, sNo, tVal, bOr, bNot, bAnd, bYes, eAnd, eOr, eNot, eIf, eBin, eCall, eTup, eCon, eVar, eBlt, eLst, eNeg, eChain, aCons, aNil, aLim, itK, itemsK, gTp, gNm, gsCons, gsNil, allV, ofOp, R.thenS, R.bind, List.replicate, lw0, e]
  have t1 : lw1 (I6 (some (.v (.lst (ns.map .int)))) none none) (stA [] ls cs 0) = .nx (I6 (some (.v (.lst (ns.map .int)))) (e2.map .v) (e3.map .v)) (stA [] ls' cs a') := by
    unfold lw1
    have lp' : forGo (gNm 2) tnB (rangeL 0 (2 + m).toNat) (I6 (some (.v (.lst (ns.map .int)))) none none) (stA [] ls cs 0) = .nx (I6 (some (.v (.lst (ns.map .int)))) (e2.map .v) (e3.map .v)) (stA [] ls' cs a') := lp
    clear lp
    generalize tnB = B at *
    generalize e2.map W.v = E2 at *
    generalize e3.map W.v = E3 at *
    generalize stA [] ls cs 0 = S0 at *
    generalize stA [] ls' cs a' = S1 at *
    simp [runS, Jv.envOf, fin, noX, sSeq, sAsg, sIf, sPar, sSet, sRet, sNil, sExpr, sNo, tVal, bOr, bNot, bAnd, bYes, eAnd, eOr, eNot, eIf, eBin, eCall, eTup, eCon, eVar, eBlt, eLst, eNeg, eChain, aCons, aNil, aLim, itK, itemsK, gTp, gNm, gsCons, gsNil, allV, ofOp, R.thenS, R.bind, List.replicate, sFor, itRange, ln, mn, add_ok, rg, lp']
  have ev : runS 6 dn_law [.v (.lst (ns.map .int))] tbs = fin 2 (dn_law [some (.v (.lst (ns.map .int))), none, none, none, none, none] tbs) := rfl
  unfold rn_law
  rw [ev, dn_law_eq, sq t0, sq t1]
  rfl
end K37
end
section
namespace K37
open PySem PySem.Spec L2 PyProof.Rows Jv
theorem funD_fun {K : PySem.W.Frag} {x qual : Str} {st : Stmt} {f : Addr} {fd : FuncData} (F : FunD K x qual (defArgs st) (defBody st) (defScope st) [] [] f fd) : Fun K x qual st f fd := by
  obtain ⟨oc, od, dV, kV, doc, pm, an, cdv, ct, osl, e, lk, hcd, hd, _⟩ := F.ex
  have hd' : dV = .none := hd.elim (fun z => z.2) (fun z => absurd rfl z.1)
  subst hd'
  exact ⟨⟨oc, od, kV, doc, pm, an, cdv, ct, osl, e, lk, hcd⟩, F.kp⟩
abbrev ct0 : Nat → Value := fun _ => .none
theorem facts {P : Program} {w : World} {K : PySem.W.Frag} {h : Heap} {mg : Str → Option Value} {f : Addr} (X : K.In h) (G : h.Ns mainGlobals mg) (hfa : mg ("law" : Str) = some (.ref f)) (c : He.SaysD fa fn K) (hex : ex K = true) (cg : (gs.map fun d => fnA K (prG K d)) = gs.map He.DefD.val) :
    ∃ fd : FuncData, (∀ (s : Shared) (v : Value), BindsTo s fd ⟨[v], []⟩ [("script", v)]) ∧ ∀ base : Heap, K.In base → base.Ns mainGlobals mg → (∀ p ∈ (tf.map (He.cT K)), LamX.TabB base mg p.1 p.2) → FnG P w K mg base CX0 9 f fd ["script"] (spG ⟨K, w, mg⟩ ct0 1 rn_law) := by
  have z_len := He.free_ok X G (c.fact 62 (f := .free "len") rfl)
  have m_MOST_SIGNS := He.int_ok X G (c.fact 63 (f := .int "MOST_SIGNS" 6) rfl)
  have z_str := He.free_ok X G (c.fact 64 (f := .free "str") rfl)
  have z_isinstance := He.free_ok X G (c.fact 65 (f := .free "isinstance") rfl)
  have z_all := He.free_ok X G (c.fact 66 (f := .free "all") rfl)
  have m_LETTERS := He.str_ok X G (c.fact 67 (f := .str "LETTERS" "abcdefghijklmnopqrstuvwxyz") rfl)
  have z_tuple := He.free_ok X G (c.fact 68 (f := .free "tuple") rfl)
  have m_SIGNS := He.str_ok X G (c.fact 69 (f := .str "SIGNS" "abcdefghijklmnopqrstuvwxyz0123456789") rfl)
  have m_MOST_LABELS := He.int_ok X G (c.fact 70 (f := .int "MOST_LABELS" 5) rfl)
  have m_LEAST_LABELS := He.int_ok X G (c.fact 71 (f := .int "LEAST_LABELS" 2) rfl)
  have m_MOST_SEGMENTS := He.int_ok X G (c.fact 72 (f := .int "MOST_SEGMENTS" 4) rfl)
  have z_bool := He.free_ok X G (c.fact 73 (f := .free "bool") rfl)
  have z_int := He.free_ok X G (c.fact 74 (f := .free "int") rfl)
  have m_MOST_PAGES := He.int_ok X G (c.fact 75 (f := .int "MOST_PAGES" 5) rfl)
  have z_enumerate := He.free_ok X G (c.fact 76 (f := .free "enumerate") rfl)
  have m_MOST_WRITES := He.int_ok X G (c.fact 77 (f := .int "MOST_WRITES" 5) rfl)
  have z_list := He.free_ok X G (c.fact 78 (f := .free "list") rfl)
  have z_sorted := He.free_ok X G (c.fact 79 (f := .free "sorted") rfl)
  have z_range := He.free_ok X G (c.fact 80 (f := .free "range") rfl)
  have z_repr := He.free_ok X G (c.fact 81 (f := .free "repr") rfl)
  have z_min := He.free_ok X G (c.fact 82 (f := .free "min") rfl)
  have g_JarError : mg "JarError" = some (.ref (He.ga K "JarError")) := He.glo_ok X G (c.fact 43 (f := .glo "JarError") rfl)
  have g_BadSite : mg "BadSite" = some (.ref (He.ga K "BadSite")) := He.glo_ok X G (c.fact 44 (f := .glo "BadSite") rfl)
  have g_BadAddress : mg "BadAddress" = some (.ref (He.ga K "BadAddress")) := He.glo_ok X G (c.fact 45 (f := .glo "BadAddress") rfl)
  have g_BadName : mg "BadName" = some (.ref (He.ga K "BadName")) := He.glo_ok X G (c.fact 46 (f := .glo "BadName") rfl)
  have g_BadPage : mg "BadPage" = some (.ref (He.ga K "BadPage")) := He.glo_ok X G (c.fact 47 (f := .glo "BadPage") rfl)
  have gAll : ∀ n ∈ errsL, mg n = some (.ref (He.ga K n)) := by
    intro n hn
    simp only [errsL, List.mem_cons, List.not_mem_nil, or_false] at hn
    rcases hn with rfl | rfl | rfl | rfl <;> assumption
  have eAll : ∀ n ∈ errsL, excCB K (He.ga K n) = true := List.all_eq_true.mp (ex_get hex 1 rfl)
  have g_Browser : mg "Browser" = some (.ref (He.ga K "Browser")) := He.glo_ok X G (c.fact 48 (f := .glo "Browser") rfl)
  have cl_Browser : Cls K (He.ga K "Browser") := He.cls_ok (c.fact 49 (f := .cls "Browser") rfl)
  have I_Browser : ClsI K mg "Browser" ["own_site", "state", "past"] := by
    refine ⟨_, g_Browser, cl_Browser, fun f hf => ?_⟩
    simp only [List.mem_cons, List.not_mem_nil, or_false] at hf
    rcases hf with rfl | rfl | rfl
    · exact He.noat_ok (c.fact 51 (f := .noat "Browser" "own_site") rfl)
    · exact He.noat_ok (c.fact 52 (f := .noat "Browser" "state") rfl)
    · exact He.noat_ok (c.fact 53 (f := .noat "Browser" "past") rfl)
  obtain ⟨fd_is_of, E_is_of⟩ := c.def_ 0 (d := D_is_of) rfl
  have g_is_of := He.glo_ok X G (c.fact 0 (f := .glo "is_of") rfl)
  have F_is_of : Fun K "is_of" "is_of" s_is_of _ fd_is_of := funD_fun E_is_of
  have b_is_of : Binds K fd_is_of ["thing", "signs"] [] := FunD.bindsN E_is_of fun _ _ _ _ _ _ us hl => match us, hl with | [_, _], _ => rfl
  obtain ⟨fd_is_name, E_is_name⟩ := c.def_ 1 (d := D_is_name) rfl
  have g_is_name := He.glo_ok X G (c.fact 1 (f := .glo "is_name") rfl)
  have F_is_name : Fun K "is_name" "is_name" s_is_name _ fd_is_name := funD_fun E_is_name
  have b_is_name : Binds K fd_is_name ["thing"] [] := FunD.bindsN E_is_name fun _ _ _ _ _ _ us hl => match us, hl with | [_], _ => rfl
  obtain ⟨fd_are_words, E_are_words⟩ := c.def_ 2 (d := D_are_words) rfl
  have g_are_words := He.glo_ok X G (c.fact 2 (f := .glo "are_words") rfl)
  have F_are_words : Fun K "are_words" "are_words" s_are_words _ fd_are_words := funD_fun E_are_words
  have b_are_words : Binds K fd_are_words ["thing", "least", "most"] [] := FunD.bindsN E_are_words fun _ _ _ _ _ _ us hl => match us, hl with | [_, _, _], _ => rfl
  obtain ⟨fd_is_host, E_is_host⟩ := c.def_ 3 (d := D_is_host) rfl
  have g_is_host := He.glo_ok X G (c.fact 3 (f := .glo "is_host") rfl)
  have F_is_host : Fun K "is_host" "is_host" s_is_host _ fd_is_host := funD_fun E_is_host
  have b_is_host : Binds K fd_is_host ["thing"] [] := FunD.bindsN E_is_host fun _ _ _ _ _ _ us hl => match us, hl with | [_], _ => rfl
  obtain ⟨fd_is_path, E_is_path⟩ := c.def_ 4 (d := D_is_path) rfl
  have g_is_path := He.glo_ok X G (c.fact 4 (f := .glo "is_path") rfl)
  have F_is_path : Fun K "is_path" "is_path" s_is_path _ fd_is_path := funD_fun E_is_path
  have b_is_path : Binds K fd_is_path ["thing"] [] := FunD.bindsN E_is_path fun _ _ _ _ _ _ us hl => match us, hl with | [_], _ => rfl
  obtain ⟨fd_is_address, E_is_address⟩ := c.def_ 5 (d := D_is_address) rfl
  have g_is_address := He.glo_ok X G (c.fact 5 (f := .glo "is_address") rfl)
  have F_is_address : Fun K "is_address" "is_address" s_is_address _ fd_is_address := funD_fun E_is_address
  have b_is_address : Binds K fd_is_address ["thing"] [] := FunD.bindsN E_is_address fun _ _ _ _ _ _ us hl => match us, hl with | [_], _ => rfl
  obtain ⟨fd_is_within, E_is_within⟩ := c.def_ 6 (d := D_is_within) rfl
  have g_is_within := He.glo_ok X G (c.fact 6 (f := .glo "is_within") rfl)
  have F_is_within : Fun K "is_within" "is_within" s_is_within _ fd_is_within := funD_fun E_is_within
  have b_is_within : Binds K fd_is_within ["host", "other"] [] := FunD.bindsN E_is_within fun _ _ _ _ _ _ us hl => match us, hl with | [_, _], _ => rfl
  obtain ⟨fd_is_below, E_is_below⟩ := c.def_ 7 (d := D_is_below) rfl
  have g_is_below := He.glo_ok X G (c.fact 7 (f := .glo "is_below") rfl)
  have F_is_below : Fun K "is_below" "is_below" s_is_below _ fd_is_below := funD_fun E_is_below
  have b_is_below : Binds K fd_is_below ["path", "other"] [] := FunD.bindsN E_is_below fun _ _ _ _ _ _ us hl => match us, hl with | [_, _], _ => rfl
  obtain ⟨fd_is_whole, E_is_whole⟩ := c.def_ 8 (d := D_is_whole) rfl
  have g_is_whole := He.glo_ok X G (c.fact 8 (f := .glo "is_whole") rfl)
  have F_is_whole : Fun K "is_whole" "is_whole" s_is_whole _ fd_is_whole := funD_fun E_is_whole
  have b_is_whole : Binds K fd_is_whole ["thing", "least", "most"] [] := FunD.bindsN E_is_whole fun _ _ _ _ _ _ us hl => match us, hl with | [_, _, _], _ => rfl
  obtain ⟨fd_is_value, E_is_value⟩ := c.def_ 9 (d := D_is_value) rfl
  have g_is_value := He.glo_ok X G (c.fact 9 (f := .glo "is_value") rfl)
  have F_is_value : Fun K "is_value" "is_value" s_is_value _ fd_is_value := funD_fun E_is_value
  have b_is_value : Binds K fd_is_value ["thing"] [] := FunD.bindsN E_is_value fun _ _ _ _ _ _ us hl => match us, hl with | [_], _ => rfl
  obtain ⟨fd_is_write, E_is_write⟩ := c.def_ 10 (d := D_is_write) rfl
  have g_is_write := He.glo_ok X G (c.fact 10 (f := .glo "is_write") rfl)
  have F_is_write : Fun K "is_write" "is_write" s_is_write _ fd_is_write := funD_fun E_is_write
  have b_is_write : Binds K fd_is_write ["thing"] [] := FunD.bindsN E_is_write fun _ _ _ _ _ _ us hl => match us, hl with | [_], _ => rfl
  obtain ⟨fd_need_site, E_need_site⟩ := c.def_ 11 (d := D_need_site) rfl
  have g_need_site := He.glo_ok X G (c.fact 11 (f := .glo "need_site") rfl)
  have F_need_site : Fun K "need_site" "need_site" s_need_site _ fd_need_site := funD_fun E_need_site
  have b_need_site : Binds K fd_need_site ["thing"] [] := FunD.bindsN E_need_site fun _ _ _ _ _ _ us hl => match us, hl with | [_], _ => rfl
  obtain ⟨fd_need_page, E_need_page⟩ := c.def_ 12 (d := D_need_page) rfl
  have g_need_page := He.glo_ok X G (c.fact 12 (f := .glo "need_page") rfl)
  have F_need_page : Fun K "need_page" "need_page" s_need_page _ fd_need_page := funD_fun E_need_page
  have b_need_page : Binds K fd_need_page ["site", "page"] [] := FunD.bindsN E_need_page fun _ _ _ _ _ _ us hl => match us, hl with | [_, _], _ => rfl
  obtain ⟨fd_need_name, E_need_name⟩ := c.def_ 13 (d := D_need_name) rfl
  have g_need_name := He.glo_ok X G (c.fact 13 (f := .glo "need_name") rfl)
  have F_need_name : Fun K "need_name" "need_name" s_need_name _ fd_need_name := funD_fun E_need_name
  have b_need_name : Binds K fd_need_name ["thing"] [] := FunD.bindsN E_need_name fun _ _ _ _ _ _ us hl => match us, hl with | [_], _ => rfl
  obtain ⟨fd_key_in, E_key_in⟩ := c.def_ 14 (d := D_key_in) rfl
  have g_key_in := He.glo_ok X G (c.fact 14 (f := .glo "key_in") rfl)
  have F_key_in : Fun K "key_in" "key_in" s_key_in _ fd_key_in := funD_fun E_key_in
  have b_key_in : Binds K fd_key_in ["address", "write"] [] := FunD.bindsN E_key_in fun _ _ _ _ _ _ us hl => match us, hl with | [_, _], _ => rfl
  obtain ⟨fd_taken_in, E_taken_in⟩ := c.def_ 15 (d := D_taken_in) rfl
  have g_taken_in := He.glo_ok X G (c.fact 15 (f := .glo "taken_in") rfl)
  have F_taken_in : Fun K "taken_in" "taken_in" s_taken_in _ fd_taken_in := funD_fun E_taken_in
  have b_taken_in : Binds K fd_taken_in ["page"] [] := FunD.bindsN E_taken_in fun _ _ _ _ _ _ us hl => match us, hl with | [_], _ => rfl
  obtain ⟨fd_is_key, E_is_key⟩ := c.def_ 16 (d := D_is_key) rfl
  have g_is_key := He.glo_ok X G (c.fact 16 (f := .glo "is_key") rfl)
  have F_is_key : Fun K "is_key" "is_key" s_is_key _ fd_is_key := funD_fun E_is_key
  have b_is_key : Binds K fd_is_key ["thing"] [] := FunD.bindsN E_is_key fun _ _ _ _ _ _ us hl => match us, hl with | [_], _ => rfl
  obtain ⟨fd_rank, E_rank⟩ := c.def_ 17 (d := D_rank) rfl
  have g_rank := He.glo_ok X G (c.fact 17 (f := .glo "rank") rfl)
  have F_rank : Fun K "rank" "rank" s_rank _ fd_rank := funD_fun E_rank
  have b_rank : Binds K fd_rank ["kept"] [] := FunD.bindsN E_rank fun _ _ _ _ _ _ us hl => match us, hl with | [_], _ => rfl
  obtain ⟨fd_need_address, E_need_address⟩ := c.def_ 18 (d := D_need_address) rfl
  have g_need_address := He.glo_ok X G (c.fact 18 (f := .glo "need_address") rfl)
  have F_need_address : Fun K "need_address" "need_address" s_need_address _ fd_need_address := funD_fun E_need_address
  have b_need_address : Binds K fd_need_address ["thing"] [] := FunD.bindsN E_need_address fun _ _ _ _ _ _ us hl => match us, hl with | [_], _ => rfl
  obtain ⟨fd_after, E_after⟩ := c.def_ 19 (d := D_after) rfl
  have g_after := He.glo_ok X G (c.fact 19 (f := .glo "after") rfl)
  have F_after : Fun K "after" "after" s_after _ fd_after := funD_fun E_after
  have b_after : Binds K fd_after ["jar", "page"] [] := FunD.bindsN E_after fun _ _ _ _ _ _ us hl => match us, hl with | [_, _], _ => rfl
  obtain ⟨fd_goes, E_goes⟩ := c.def_ 20 (d := D_goes) rfl
  have g_goes := He.glo_ok X G (c.fact 20 (f := .glo "goes") rfl)
  have F_goes : Fun K "goes" "goes" s_goes _ fd_goes := funD_fun E_goes
  have b_goes : Binds K fd_goes ["kept", "address"] [] := FunD.bindsN E_goes fun _ _ _ _ _ _ us hl => match us, hl with | [_, _], _ => rfl
  obtain ⟨fd_sent_in, E_sent_in⟩ := c.def_ 21 (d := D_sent_in) rfl
  have g_sent_in := He.glo_ok X G (c.fact 21 (f := .glo "sent_in") rfl)
  have F_sent_in : Fun K "sent_in" "sent_in" s_sent_in _ fd_sent_in := funD_fun E_sent_in
  have b_sent_in : Binds K fd_sent_in ["jar", "address"] [] := FunD.bindsN E_sent_in fun _ _ _ _ _ _ us hl => match us, hl with | [_, _], _ => rfl
  obtain ⟨fd_read_in, E_read_in⟩ := c.def_ 22 (d := D_read_in) rfl
  have g_read_in := He.glo_ok X G (c.fact 22 (f := .glo "read_in") rfl)
  have F_read_in : Fun K "read_in" "read_in" s_read_in _ fd_read_in := funD_fun E_read_in
  have b_read_in : Binds K fd_read_in ["jar", "address", "name"] [] := FunD.bindsN E_read_in fun _ _ _ _ _ _ us hl => match us, hl with | [_, _, _], _ => rfl
  obtain ⟨fd__law_mixed, E__law_mixed⟩ := c.def_ 23 (d := D__law_mixed) rfl
  have g__law_mixed := He.glo_ok X G (c.fact 23 (f := .glo "_law_mixed") rfl)
  have F__law_mixed : Fun K "_law_mixed" "_law_mixed" s__law_mixed _ fd__law_mixed := funD_fun E__law_mixed
  have b__law_mixed : Binds K fd__law_mixed ["cell", "k"] [] := FunD.bindsN E__law_mixed fun _ _ _ _ _ _ us hl => match us, hl with | [_, _], _ => rfl
  obtain ⟨fd__law_begin, E__law_begin⟩ := c.def_ 24 (d := D__law_begin) rfl
  have g__law_begin := He.glo_ok X G (c.fact 24 (f := .glo "_law_begin") rfl)
  have F__law_begin : Fun K "_law_begin" "_law_begin" s__law_begin _ fd__law_begin := funD_fun E__law_begin
  have b__law_begin : Binds K fd__law_begin ["script"] [] := FunD.bindsN E__law_begin fun _ _ _ _ _ _ us hl => match us, hl with | [_], _ => rfl
  obtain ⟨fd__law_draw, E__law_draw⟩ := c.def_ 25 (d := D__law_draw) rfl
  have g__law_draw := He.glo_ok X G (c.fact 25 (f := .glo "_law_draw") rfl)
  have F__law_draw : Fun K "_law_draw" "_law_draw" s__law_draw _ fd__law_draw := funD_fun E__law_draw
  have b__law_draw : Binds K fd__law_draw ["state", "many"] [] := FunD.bindsN E__law_draw fun _ _ _ _ _ _ us hl => match us, hl with | [_, _], _ => rfl
  obtain ⟨fd__law_key, E__law_key⟩ := c.def_ 26 (d := D__law_key) rfl
  have g__law_key := He.glo_ok X G (c.fact 26 (f := .glo "_law_key") rfl)
  have F__law_key : Fun K "_law_key" "_law_key" s__law_key _ fd__law_key := funD_fun E__law_key
  have b__law_key : Binds K fd__law_key ["page", "write"] [] := FunD.bindsN E__law_key fun _ _ _ _ _ _ us hl => match us, hl with | [_, _], _ => rfl
  obtain ⟨fd__law_visited, E__law_visited⟩ := c.def_ 27 (d := D__law_visited) rfl
  have g__law_visited := He.glo_ok X G (c.fact 27 (f := .glo "_law_visited") rfl)
  have F__law_visited : Fun K "_law_visited" "_law_visited" s__law_visited _ fd__law_visited := funD_fun E__law_visited
  have b__law_visited : Binds K fd__law_visited ["kept", "page"] [] := FunD.bindsN E__law_visited fun _ _ _ _ _ _ us hl => match us, hl with | [_, _], _ => rfl
  obtain ⟨fd__law_goes, E__law_goes⟩ := c.def_ 28 (d := D__law_goes) rfl
  have g__law_goes := He.glo_ok X G (c.fact 28 (f := .glo "_law_goes") rfl)
  have F__law_goes : Fun K "_law_goes" "_law_goes" s__law_goes _ fd__law_goes := funD_fun E__law_goes
  have b__law_goes : Binds K fd__law_goes ["label", "worth", "address"] [] := FunD.bindsN E__law_goes fun _ _ _ _ _ _ us hl => match us, hl with | [_, _, _], _ => rfl
  obtain ⟨fd__law_sent, E__law_sent⟩ := c.def_ 29 (d := D__law_sent) rfl
  have g__law_sent := He.glo_ok X G (c.fact 29 (f := .glo "_law_sent") rfl)
  have F__law_sent : Fun K "_law_sent" "_law_sent" s__law_sent _ fd__law_sent := funD_fun E__law_sent
  have b__law_sent : Binds K fd__law_sent ["kept", "address"] [] := FunD.bindsN E__law_sent fun _ _ _ _ _ _ us hl => match us, hl with | [_, _], _ => rfl
  obtain ⟨fd__law_jar, E__law_jar⟩ := c.def_ 30 (d := D__law_jar) rfl
  have g__law_jar := He.glo_ok X G (c.fact 30 (f := .glo "_law_jar") rfl)
  have F__law_jar : Fun K "_law_jar" "_law_jar" s__law_jar _ fd__law_jar := funD_fun E__law_jar
  have b__law_jar : Binds K fd__law_jar ["kept"] [] := FunD.bindsN E__law_jar fun _ _ _ _ _ _ us hl => match us, hl with | [_], _ => rfl
  obtain ⟨fd__law_host, E__law_host⟩ := c.def_ 31 (d := D__law_host) rfl
  have g__law_host := He.glo_ok X G (c.fact 31 (f := .glo "_law_host") rfl)
  have F__law_host : Fun K "_law_host" "_law_host" s__law_host _ fd__law_host := funD_fun E__law_host
  have b__law_host : Binds K fd__law_host ["state"] [] := FunD.bindsN E__law_host fun _ _ _ _ _ _ us hl => match us, hl with | [_], _ => rfl
  obtain ⟨fd__law_path, E__law_path⟩ := c.def_ 32 (d := D__law_path) rfl
  have g__law_path := He.glo_ok X G (c.fact 32 (f := .glo "_law_path") rfl)
  have F__law_path : Fun K "_law_path" "_law_path" s__law_path _ fd__law_path := funD_fun E__law_path
  have b__law_path : Binds K fd__law_path ["state"] [] := FunD.bindsN E__law_path fun _ _ _ _ _ _ us hl => match us, hl with | [_], _ => rfl
  obtain ⟨fd__law_write, E__law_write⟩ := c.def_ 33 (d := D__law_write) rfl
  have g__law_write := He.glo_ok X G (c.fact 33 (f := .glo "_law_write") rfl)
  have F__law_write : Fun K "_law_write" "_law_write" s__law_write _ fd__law_write := funD_fun E__law_write
  have b__law_write : Binds K fd__law_write ["state", "host"] [] := FunD.bindsN E__law_write fun _ _ _ _ _ _ us hl => match us, hl with | [_, _], _ => rfl
  obtain ⟨fd__law_page, E__law_page⟩ := c.def_ 34 (d := D__law_page) rfl
  have g__law_page := He.glo_ok X G (c.fact 34 (f := .glo "_law_page") rfl)
  have F__law_page : Fun K "_law_page" "_law_page" s__law_page _ fd__law_page := funD_fun E__law_page
  have b__law_page : Binds K fd__law_page ["state"] [] := FunD.bindsN E__law_page fun _ _ _ _ _ _ us hl => match us, hl with | [_], _ => rfl
  obtain ⟨fd__law_keys, E__law_keys⟩ := c.def_ 35 (d := D__law_keys) rfl
  have g__law_keys := He.glo_ok X G (c.fact 35 (f := .glo "_law_keys") rfl)
  have F__law_keys : Fun K "_law_keys" "_law_keys" s__law_keys _ fd__law_keys := funD_fun E__law_keys
  have b__law_keys : Binds K fd__law_keys ["site"] [] := FunD.bindsN E__law_keys fun _ _ _ _ _ _ us hl => match us, hl with | [_], _ => rfl
  obtain ⟨fd__law_site, E__law_site⟩ := c.def_ 36 (d := D__law_site) rfl
  have g__law_site := He.glo_ok X G (c.fact 36 (f := .glo "_law_site") rfl)
  have F__law_site : Fun K "_law_site" "_law_site" s__law_site _ fd__law_site := funD_fun E__law_site
  have b__law_site : Binds K fd__law_site ["state", "most"] [] := FunD.bindsN E__law_site fun _ _ _ _ _ _ us hl => match us, hl with | [_, _], _ => rfl
  obtain ⟨fd__law_address, E__law_address⟩ := c.def_ 37 (d := D__law_address) rfl
  have g__law_address := He.glo_ok X G (c.fact 37 (f := .glo "_law_address") rfl)
  have F__law_address : Fun K "_law_address" "_law_address" s__law_address _ fd__law_address := funD_fun E__law_address
  have b__law_address : Binds K fd__law_address ["state"] [] := FunD.bindsN E__law_address fun _ _ _ _ _ _ us hl => match us, hl with | [_], _ => rfl
  obtain ⟨fd_Browser_keep, E_Browser_keep⟩ := c.def_ 38 (d := D_Browser_keep) rfl
  have F_Browser_keep : Fun K "keep" "Browser.keep" s_Browser_keep _ fd_Browser_keep := funD_fun E_Browser_keep
  have b_Browser_keep : Binds K fd_Browser_keep ["self", "jar", "row"] [] := FunD.bindsN E_Browser_keep fun _ _ _ _ _ _ us hl => match us, hl with | [_, _, _], _ => rfl
  obtain ⟨fd_Browser_visit, E_Browser_visit⟩ := c.def_ 39 (d := D_Browser_visit) rfl
  have F_Browser_visit : Fun K "visit" "Browser.visit" s_Browser_visit _ fd_Browser_visit := funD_fun E_Browser_visit
  have b_Browser_visit : Binds K fd_Browser_visit ["self", "page"] [] := FunD.bindsN E_Browser_visit fun _ _ _ _ _ _ us hl => match us, hl with | [_, _], _ => rfl
  obtain ⟨fd_Browser_clear, E_Browser_clear⟩ := c.def_ 40 (d := D_Browser_clear) rfl
  have F_Browser_clear : Fun K "clear" "Browser.clear" s_Browser_clear _ fd_Browser_clear := funD_fun E_Browser_clear
  have b_Browser_clear : Binds K fd_Browser_clear ["self"] [] := FunD.bindsN E_Browser_clear fun _ _ _ _ _ _ us hl => match us, hl with | [_], _ => rfl
  obtain ⟨fd_Browser_undo, E_Browser_undo⟩ := c.def_ 41 (d := D_Browser_undo) rfl
  have F_Browser_undo : Fun K "undo" "Browser.undo" s_Browser_undo _ fd_Browser_undo := funD_fun E_Browser_undo
  have b_Browser_undo : Binds K fd_Browser_undo ["self"] [] := FunD.bindsN E_Browser_undo fun _ _ _ _ _ _ us hl => match us, hl with | [_], _ => rfl
  obtain ⟨fd__law_turned, E__law_turned⟩ := c.def_ 42 (d := D__law_turned) rfl
  have g__law_turned := He.glo_ok X G (c.fact 38 (f := .glo "_law_turned") rfl)
  have F__law_turned : Fun K "_law_turned" "_law_turned" s__law_turned _ fd__law_turned := funD_fun E__law_turned
  have b__law_turned : Binds K fd__law_turned ["state", "browser", "m"] [] := FunD.bindsN E__law_turned fun _ _ _ _ _ _ us hl => match us, hl with | [_, _, _], _ => rfl
  obtain ⟨fd_Browser_jar, E_Browser_jar⟩ := get_def cg 0 (d := D_Browser_jar) rfl (ex_get hex 4 rfl)
  have F_Browser_jar : Fun K "jar" "Browser.jar" s_Browser_jar _ fd_Browser_jar := funD_fun E_Browser_jar
  have b_Browser_jar : Binds K fd_Browser_jar ["self"] [] := FunD.bindsN E_Browser_jar fun _ _ _ _ _ _ us hl => match us, hl with | [_], _ => rfl
  obtain ⟨fd_Browser_row, E_Browser_row⟩ := get_def cg 1 (d := D_Browser_row) rfl (ex_get hex 6 rfl)
  have F_Browser_row : Fun K "row" "Browser.row" s_Browser_row _ fd_Browser_row := funD_fun E_Browser_row
  have b_Browser_row : Binds K fd_Browser_row ["self"] [] := FunD.bindsN E_Browser_row fun _ _ _ _ _ _ us hl => match us, hl with | [_], _ => rfl
  obtain ⟨fd_Browser___len__, E_Browser___len__⟩ := c.def_ 43 (d := D_Browser___len__) rfl
  have F_Browser___len__ : Fun K "__len__" "Browser.__len__" s_Browser___len__ _ fd_Browser___len__ := funD_fun E_Browser___len__
  have b_Browser___len__ : Binds K fd_Browser___len__ ["self"] [] := FunD.bindsN E_Browser___len__ fun _ _ _ _ _ _ us hl => match us, hl with | [_], _ => rfl
  obtain ⟨fd_Browser_site, E_Browser_site⟩ := get_def cg 2 (d := D_Browser_site) rfl (ex_get hex 8 rfl)
  have F_Browser_site : Fun K "site" "Browser.site" s_Browser_site _ fd_Browser_site := funD_fun E_Browser_site
  have b_Browser_site : Binds K fd_Browser_site ["self"] [] := FunD.bindsN E_Browser_site fun _ _ _ _ _ _ us hl => match us, hl with | [_], _ => rfl
  obtain ⟨fd_Browser___contains__, E_Browser___contains__⟩ := c.def_ 44 (d := D_Browser___contains__) rfl
  have F_Browser___contains__ : Fun K "__contains__" "Browser.__contains__" s_Browser___contains__ _ fd_Browser___contains__ := funD_fun E_Browser___contains__
  have b_Browser___contains__ : Binds K fd_Browser___contains__ ["self", "key"] [] := FunD.bindsN E_Browser___contains__ fun _ _ _ _ _ _ us hl => match us, hl with | [_, _], _ => rfl
  obtain ⟨fd__law_shown, E__law_shown⟩ := c.def_ 45 (d := D__law_shown) rfl
  have g__law_shown := He.glo_ok X G (c.fact 39 (f := .glo "_law_shown") rfl)
  have F__law_shown : Fun K "_law_shown" "_law_shown" s__law_shown _ fd__law_shown := funD_fun E__law_shown
  have b__law_shown : Binds K fd__law_shown ["browser", "m"] [] := FunD.bindsN E__law_shown fun _ _ _ _ _ _ us hl => match us, hl with | [_, _], _ => rfl
  obtain ⟨fd_Browser___init__, E_Browser___init__⟩ := c.def_ 46 (d := D_Browser___init__) rfl
  have F_Browser___init__ : Fun K "__init__" "Browser.__init__" s_Browser___init__ _ fd_Browser___init__ := funD_fun E_Browser___init__
  have b_Browser___init__ : Binds K fd_Browser___init__ ["self", "site"] [] := FunD.bindsN E_Browser___init__ fun _ _ _ _ _ _ us hl => match us, hl with | [_, _], _ => rfl
  obtain ⟨fd__law_new, E__law_new⟩ := c.def_ 47 (d := D__law_new) rfl
  have g__law_new := He.glo_ok X G (c.fact 40 (f := .glo "_law_new") rfl)
  have F__law_new : Fun K "_law_new" "_law_new" s__law_new _ fd__law_new := funD_fun E__law_new
  have b__law_new : Binds K fd__law_new ["state", "most"] [] := FunD.bindsN E__law_new fun _ _ _ _ _ _ us hl => match us, hl with | [_, _], _ => rfl
  obtain ⟨fd_Browser_sent, E_Browser_sent⟩ := c.def_ 48 (d := D_Browser_sent) rfl
  have F_Browser_sent : Fun K "sent" "Browser.sent" s_Browser_sent _ fd_Browser_sent := funD_fun E_Browser_sent
  have b_Browser_sent : Binds K fd_Browser_sent ["self", "address"] [] := FunD.bindsN E_Browser_sent fun _ _ _ _ _ _ us hl => match us, hl with | [_, _], _ => rfl
  obtain ⟨fd_Browser_read, E_Browser_read⟩ := c.def_ 49 (d := D_Browser_read) rfl
  have F_Browser_read : Fun K "read" "Browser.read" s_Browser_read _ fd_Browser_read := funD_fun E_Browser_read
  have b_Browser_read : Binds K fd_Browser_read ["self", "address", "name"] [] := FunD.bindsN E_Browser_read fun _ _ _ _ _ _ us hl => match us, hl with | [_, _, _], _ => rfl
  obtain ⟨fd__law_asked_right, E__law_asked_right⟩ := c.def_ 50 (d := D__law_asked_right) rfl
  have g__law_asked_right := He.glo_ok X G (c.fact 41 (f := .glo "_law_asked_right") rfl)
  have F__law_asked_right : Fun K "_law_asked_right" "_law_asked_right" s__law_asked_right _ fd__law_asked_right := funD_fun E__law_asked_right
  have b__law_asked_right : Binds K fd__law_asked_right ["state", "browser", "m"] [] := FunD.bindsN E__law_asked_right fun _ _ _ _ _ _ us hl => match us, hl with | [_, _, _], _ => rfl
  obtain ⟨fd_law, E_law⟩ := c.def_ 51 (d := D_law) rfl
  have g_law := He.glo_ok X G (c.fact 42 (f := .glo "law") rfl)
  have F_law : Fun K "law" "law" s_law _ fd_law := funD_fun E_law
  obtain ⟨j1, j2, j3⟩ := jarB_ok (ex_get hex 2 rfl)
  have e := hfa.symm.trans g_law
  cases e
  have bl := FunD.bindsA (ps := ["script"]) E_law fun _ _ _ _ _ _ us hl => match us, hl with | [_], _ => rfl
  refine ⟨fd_law, fun s v => bl s [v] rfl, fun base hb1 hb2 hTB => ?_⟩
  have TB__law_sent := hTB (He.cT K ("_law_sent", none)) (List.mem_map.mpr ⟨("_law_sent", none), by simp [tf], rfl⟩)
  have TB__law_jar := hTB (He.cT K ("_law_jar", none)) (List.mem_map.mpr ⟨("_law_jar", none), by simp [tf], rfl⟩)
  have C_is_of : Cal P w K mg base ct0 "is_of" 2 1 rn_is_of := cal_mk F_is_of g_is_of b_is_of (ok_is_of F_is_of z_len m_MOST_SIGNS z_str z_isinstance z_all)
  have C_is_name : Cal P w K mg base ct0 "is_name" 1 2 rn_is_name := cal_mk F_is_name g_is_name b_is_name (ok_is_name F_is_name m_LETTERS C_is_of)
  have C_are_words : Cal P w K mg base ct0 "are_words" 3 2 rn_are_words := cal_mk F_are_words g_are_words b_are_words (ok_are_words F_are_words z_len z_tuple z_isinstance m_SIGNS C_is_of z_all)
  have C_is_host : Cal P w K mg base ct0 "is_host" 1 3 rn_is_host := cal_mk F_is_host g_is_host b_is_host (ok_is_host F_is_host m_MOST_LABELS m_LEAST_LABELS C_are_words)
  have C_is_path : Cal P w K mg base ct0 "is_path" 1 3 rn_is_path := cal_mk F_is_path g_is_path b_is_path (ok_is_path F_is_path m_MOST_SEGMENTS C_are_words)
  have C_is_address : Cal P w K mg base ct0 "is_address" 1 4 rn_is_address := cal_mk F_is_address g_is_address b_is_address (ok_is_address F_is_address z_len z_tuple z_isinstance z_bool C_is_path C_is_host)
  have C_is_within : Cal P w K mg base ct0 "is_within" 2 1 rn_is_within := cal_mk F_is_within g_is_within b_is_within (ok_is_within F_is_within z_len)
  have C_is_below : Cal P w K mg base ct0 "is_below" 2 1 rn_is_below := cal_mk F_is_below g_is_below b_is_below (ok_is_below F_is_below z_len)
  have C_is_whole : Cal P w K mg base ct0 "is_whole" 3 1 rn_is_whole := cal_mk F_is_whole g_is_whole b_is_whole (ok_is_whole F_is_whole z_bool z_isinstance z_int)
  have C_is_value : Cal P w K mg base ct0 "is_value" 1 2 rn_is_value := cal_mk F_is_value g_is_value b_is_value (ok_is_value F_is_value m_SIGNS C_is_of)
  have C_is_write : Cal P w K mg base ct0 "is_write" 1 4 rn_is_write := cal_mk F_is_write g_is_write b_is_write (ok_is_write F_is_write C_is_name z_len z_tuple z_isinstance C_is_value C_is_host C_is_path z_bool)
  have C_need_site : Cal P w K mg base ct0 "need_site" 1 5 rn_need_site := cal_mk F_need_site g_need_site b_need_site (ok_need_site F_need_site z_len m_MOST_PAGES z_tuple z_isinstance z_enumerate C_is_address m_MOST_WRITES C_is_write)
  have C_need_page : Cal P w K mg base ct0 "need_page" 2 2 rn_need_page := cal_mk F_need_page g_need_page b_need_page (ok_need_page F_need_page z_len C_is_whole)
  have C_need_name : Cal P w K mg base ct0 "need_name" 1 3 rn_need_name := cal_mk F_need_name g_need_name b_need_name (ok_need_name F_need_name C_is_name)
  have C_key_in : Cal P w K mg base ct0 "key_in" 2 2 rn_key_in := cal_mk F_key_in g_key_in b_key_in (ok_key_in F_key_in C_is_within)
  have C_taken_in : Cal P w K mg base ct0 "taken_in" 1 3 rn_taken_in := cal_mk F_taken_in g_taken_in b_taken_in (ok_taken_in F_taken_in C_key_in)
  have C_is_key : Cal P w K mg base ct0 "is_key" 1 4 rn_is_key := cal_mk F_is_key g_is_key b_is_key (ok_is_key F_is_key C_is_name z_len z_tuple z_isinstance z_bool C_is_path C_is_host)
  have C_rank : Cal P w K mg base ct0 "rank" 1 1 rn_rank := cal_mk F_rank g_rank b_rank (ok_rank F_rank z_len)
  have C_need_address : Cal P w K mg base ct0 "need_address" 1 5 rn_need_address := cal_mk F_need_address g_need_address b_need_address (ok_need_address F_need_address C_is_address)
  have C_after : Cal P w K mg base ct0 "after" 2 4 rn_after := cal_mk F_after g_after b_after (ok_after F_after z_list C_taken_in z_enumerate z_sorted C_rank z_tuple)
  have C_goes : Cal P w K mg base ct0 "goes" 2 2 rn_goes := cal_mk F_goes g_goes b_goes (ok_goes F_goes C_is_below C_is_within)
  have C_sent_in : Cal P w K mg base ct0 "sent_in" 2 3 rn_sent_in := cal_mk F_sent_in g_sent_in b_sent_in (ok_sent_in F_sent_in C_goes z_tuple)
  have C_read_in : Cal P w K mg base ct0 "read_in" 3 4 rn_read_in := cal_mk F_read_in g_read_in b_read_in (ok_read_in F_read_in C_sent_in)
  have C__law_mixed : Cal P w K mg base ct0 "_law_mixed" 2 1 rn__law_mixed := cal_mk F__law_mixed g__law_mixed b__law_mixed (ok__law_mixed F__law_mixed z_int)
  have C__law_begin : Cal P w K mg base ct0 "_law_begin" 1 1 rn__law_begin := cal_mk F__law_begin g__law_begin b__law_begin (ok__law_begin F__law_begin z_list)
  have C__law_draw : Cal P w K mg base ct0 "_law_draw" 2 2 rn__law_draw := cal_mk F__law_draw g__law_draw b__law_draw (ok__law_draw F__law_draw z_int z_len C__law_mixed)
  have C__law_key : Cal P w K mg base ct0 "_law_key" 2 1 rn__law_key := cal_mk F__law_key g__law_key b__law_key (ok__law_key F__law_key z_len)
  have C__law_visited : Cal P w K mg base ct0 "_law_visited" 2 2 rn__law_visited := cal_mk F__law_visited g__law_visited b__law_visited (ok__law_visited F__law_visited z_list C__law_key)
  have C__law_goes : Cal P w K mg base ct0 "_law_goes" 3 1 rn__law_goes := cal_mk F__law_goes g__law_goes b__law_goes (ok__law_goes F__law_goes z_len)
  have C__law_sent : Cal P w K mg base ct0 "_law_sent" 2 3 rn__law_sent := cal_mk F__law_sent g__law_sent b__law_sent (ok__law_sent F__law_sent TB__law_sent C__law_goes z_sorted z_len z_tuple)
  have C__law_jar : Cal P w K mg base ct0 "_law_jar" 1 3 rn__law_jar := cal_mk F__law_jar g__law_jar b__law_jar (ok__law_jar F__law_jar TB__law_jar z_sorted z_len z_tuple)
  have C__law_host : Cal P w K mg base ct0 "_law_host" 1 3 rn__law_host := cal_mk F__law_host g__law_host b__law_host (ok__law_host F__law_host C__law_draw)
  have C__law_path : Cal P w K mg base ct0 "_law_path" 1 3 rn__law_path := cal_mk F__law_path g__law_path b__law_path (ok__law_path F__law_path C__law_draw)
  have C__law_write : Cal P w K mg base ct0 "_law_write" 2 4 rn__law_write := cal_mk F__law_write g__law_write b__law_write (ok__law_write F__law_write C__law_draw z_len C__law_path)
  have C__law_page : Cal P w K mg base ct0 "_law_page" 1 5 rn__law_page := cal_mk F__law_page g__law_page b__law_page (ok__law_page F__law_page C__law_host C__law_draw z_range C__law_write z_tuple C__law_path)
  have C__law_keys : Cal P w K mg base ct0 "_law_keys" 1 2 rn__law_keys := cal_mk F__law_keys g__law_keys b__law_keys (ok__law_keys F__law_keys C__law_key z_sorted)
  have C__law_site : Cal P w K mg base ct0 "_law_site" 2 6 rn__law_site := cal_mk F__law_site g__law_site b__law_site (ok__law_site F__law_site C__law_draw z_range C__law_page C__law_keys z_len z_tuple)
  have C__law_address : Cal P w K mg base ct0 "_law_address" 1 4 rn__law_address := cal_mk F__law_address g__law_address b__law_address (ok__law_address F__law_address C__law_draw C__law_path C__law_host)
  have M_Browser_keep : MetI P w K mg base CX0 ct0 "Browser" "keep" 3 1 rn_Browser_keep := met_mk g_Browser cl_Browser (He.meth_ok (c.fact 54 (f := .meth "Browser" "keep") rfl)) b_Browser_keep (ok_Browser_keep F_Browser_keep I_Browser)
  have M_Browser_visit : MetI P w K mg base CX0 ct0 "Browser" "visit" 2 5 rn_Browser_visit := met_mk g_Browser cl_Browser (He.meth_ok (c.fact 55 (f := .meth "Browser" "visit") rfl)) b_Browser_visit (ok_Browser_visit F_Browser_visit I_Browser C_need_page C_sent_in M_Browser_keep C_after)
  have M_Browser_clear : MetI P w K mg base CX0 ct0 "Browser" "clear" 1 2 rn_Browser_clear := met_mk g_Browser cl_Browser (He.meth_ok (c.fact 56 (f := .meth "Browser" "clear") rfl)) b_Browser_clear (ok_Browser_clear F_Browser_clear M_Browser_keep)
  have M_Browser_undo : MetI P w K mg base CX0 ct0 "Browser" "undo" 1 1 rn_Browser_undo := met_mk g_Browser cl_Browser (He.meth_ok (c.fact 57 (f := .meth "Browser" "undo") rfl)) b_Browser_undo (ok_Browser_undo F_Browser_undo I_Browser)
  have C__law_turned : Cal P w K mg base ct0 "_law_turned" 3 6 rn__law_turned := cal_mk F__law_turned g__law_turned b__law_turned (ok__law_turned F__law_turned C__law_draw M_Browser_undo z_repr M_Browser_clear z_len C__law_sent C__law_visited M_Browser_visit)
  have P_Browser_jar : PrpI P w K mg base ct0 "Browser" "jar" 1 rn_Browser_jar := prp_mk g_Browser cl_Browser (ex_get hex 3 rfl) b_Browser_jar (ok_Browser_jar F_Browser_jar I_Browser)
  have P_Browser_row : PrpI P w K mg base ct0 "Browser" "row" 1 rn_Browser_row := prp_mk g_Browser cl_Browser (ex_get hex 5 rfl) b_Browser_row (ok_Browser_row F_Browser_row I_Browser)
  have M_Browser___len__ : MetI P w K mg base CX0 ct0 "Browser" "__len__" 1 1 rn_Browser___len__ := met_mk g_Browser cl_Browser (He.meth_ok (c.fact 58 (f := .meth "Browser" "__len__") rfl)) b_Browser___len__ (ok_Browser___len__ F_Browser___len__ I_Browser z_len)
  have P_Browser_site : PrpI P w K mg base ct0 "Browser" "site" 1 rn_Browser_site := prp_mk g_Browser cl_Browser (ex_get hex 7 rfl) b_Browser_site (ok_Browser_site F_Browser_site I_Browser)
  have M_Browser___contains__ : MetI P w K mg base CX0 ct0 "Browser" "__contains__" 2 5 rn_Browser___contains__ := met_mk g_Browser cl_Browser (He.meth_ok (c.fact 59 (f := .meth "Browser" "__contains__") rfl)) b_Browser___contains__ (ok_Browser___contains__ F_Browser___contains__ I_Browser C_is_key)
  have C__law_shown : Cal P w K mg base ct0 "_law_shown" 2 6 rn__law_shown := cal_mk F__law_shown g__law_shown b__law_shown (ok__law_shown F__law_shown M_Browser___len__ z_len P_Browser_row P_Browser_jar C__law_jar C__law_keys M_Browser___contains__ P_Browser_site)
  have K_Browser : MakI P w K mg base CX0 ct0 "Browser" 2 6 rn_Browser___init__ := mak_mk g_Browser (He.mkr_ok (c.fact 50 (f := .mkr "Browser") rfl)) b_Browser___init__ (ok_Browser___init__ F_Browser___init__ I_Browser C_need_site)
  have C__law_new : Cal P w K mg base ct0 "_law_new" 2 8 rn__law_new := cal_mk F__law_new g__law_new b__law_new (ok__law_new F__law_new C__law_site K_Browser)
  have M_Browser_sent : MetI P w K mg base CX0 ct0 "Browser" "sent" 2 6 rn_Browser_sent := met_mk g_Browser cl_Browser (He.meth_ok (c.fact 60 (f := .meth "Browser" "sent") rfl)) b_Browser_sent (ok_Browser_sent F_Browser_sent C_need_address I_Browser C_sent_in)
  have M_Browser_read : MetI P w K mg base CX0 ct0 "Browser" "read" 3 6 rn_Browser_read := met_mk g_Browser cl_Browser (He.meth_ok (c.fact 61 (f := .meth "Browser" "read") rfl)) b_Browser_read (ok_Browser_read F_Browser_read C_need_address C_need_name I_Browser C_read_in)
  have C__law_asked_right : Cal P w K mg base ct0 "_law_asked_right" 3 7 rn__law_asked_right := cal_mk F__law_asked_right g__law_asked_right b__law_asked_right (ok__law_asked_right F__law_asked_right C__law_address C__law_sent M_Browser_sent M_Browser_read z_repr)
  exact ok_law F_law C__law_begin z_len z_min z_range C__law_new C__law_shown C__law_turned C__law_asked_right
theorem rl_ints {K : KW} {ρ : Rho} {H : Hp} : ∀ ns : List Int, RlAll K ρ H (ns.map V.int) (ns.map Jv.D.int)
  | [] => .nil
  | n :: r => .cons (.int n) (rl_ints r)
theorem law_sp {w : World} {K : PySem.W.Frag} {mg : Str → Option Value} {H : Hp} {a : Addr} {ns : List Int} (hl : ns.length ≤ 63) (hex : ex K = true) (hT : ∀ p ∈ tf.map (He.cT K), H p.2 = some (.tbl #[])) (hA : a ∉ (tf.map (He.cT K)).map (·.2)) (hS : SqL K H a (ns.map V.int)) : spG ⟨K, w, mg⟩ ct0 1 rn_law [.ref a] H (fun v _ => v = .bl true) fun _ _ _ => False := by
  have nd : (tq.map fun p => (He.cT K p.1).2).Nodup := of_decide_eq_true (ex_get hex 0 rfl)
  have hT' : ∀ p ∈ tq, H (He.cT K p.1).2 = some (.tbl #[]) := fun p hp => hT _ (List.mem_map.mpr ⟨p.1, by rw [tf_eq]; exact List.mem_map_of_mem hp, rfl⟩)
  have nm : ¬ (Rho.mk (tq.map fun p => some (He.cT K p.1).2) []).mut a := fun z => by
    rcases z with z | z
    · obtain ⟨p, hp, e⟩ := List.mem_map.mp z
      have e' : (He.cT K p.1).2 = a := by simpa using e
      exact hA (List.mem_map.mpr ⟨He.cT K p.1, List.mem_map.mpr ⟨p.1, by rw [tf_eq]; exact List.mem_map_of_mem hp, rfl⟩, e'⟩)
    · cases z
  refine ⟨⟨tq.map fun p => some (He.cT K p.1).2, []⟩, tabsOf tq, [.v (.lst (ns.map Jv.D.int))], tabs_rel (K := ⟨K, w, mg⟩) tq hT' nd, .cons (.v (.lst ?_ (rl_ints ns))) .nil, rfl, ?_⟩
  · rcases hS with h | h
    · exact .inl ⟨h, nm⟩
    · exact .inr h
  · have lo : rn_law [.v (.lst (ns.map Jv.D.int))] (tabsOf tq) = .ok (.v (.bl true)) (tabsOf tq) := law_ok ns hl
    rw [lo]
    intro ρ' H' b g s r
    cases r with | v r =>
    cases r
    rfl
end K37
open PySem PySem.W PySem.Calls PyProof.Rows
theorem PySem.Challenge.cw_jarvisits_k37_whole_browsers_holds : PySem.Challenge.rw_jarvisits_k37_whole_browsers.Holds := by
  w_on; o_law
  refine HandSHeadRun.head_any (r := OpenLaw.row PySem.Challenge.rw_jarvisits_k37_whole_browsers) (q := view (OpenLaw.row PySem.Challenge.rw_jarvisits_k37_whole_browsers).prog [66]) (H := K37.hk) (ob := K37.ob) (M := 20000) (loose := K37.names) (d := HandSHeadRun.topDef (OpenLaw.row PySem.Challenge.rw_jarvisits_k37_whole_browsers).prog 66) (kwd := []) K37.ob_eq
    (by kernel_rfl) (fun s => by kernel_rfl) K37.run (by kernel_rfl) (by kernel_rfl) (by kernel_rfl) (by rfl) (by first | assumption | decide +kernel) (by decide +kernel) ⟨rfl, rfl, rfl, rfl, rfl, by decide +kernel⟩ ?hw ?hc
  case hw => w_witness2
  case hc =>
    refine Jv.walkTG (l := PySem.Challenge.rw_jarvisits_k37_whole_browsers) (n := 63) (k := 9) (x := "script") rfl (by decide) (by kernel_rfl) ⟨rfl, by decide, by decide⟩ ?F
    intro w mg fa h Y G hmg0
    obtain ⟨K, KX, c, cg⟩ := Y
    have hmg : mg ("law" : PySem.Str) = some (.ref fa) := by
      have e : (HandSHeadRun.topDef (OpenLaw.row PySem.Challenge.rw_jarvisits_k37_whole_browsers).prog 66).name = ("law" : PySem.Str) := by kernel_rfl
      rw [← e]
      exact hmg0
    obtain ⟨fd, hb, hF⟩ := K37.facts (P := (PySem.Challenge.rw_jarvisits_k37_whole_browsers).prog) (w := w) KX G hmg c.t.d c.more cg
    refine ⟨K, K37.tf.map (He.cT K), fd, Jv.spG ⟨K, w, mg⟩ K37.ct0 1 K37.rn_law, KX, ?_, ?_, ?_, hb, fun H a ns hl hT hA hS => K37.law_sp hl c.more hT hA hS, hF⟩
    · intro p hp
      obtain ⟨q, hq, rfl⟩ := List.mem_map.mp hp
      exact c.empty q hq
    · intro p hp
      obtain ⟨q, hq, rfl⟩ := List.mem_map.mp hp
      exact c.out q hq
    · intro p hp
      obtain ⟨q, hq, rfl⟩ := List.mem_map.mp hp
      exact PySem.W.codeHd_of_K KX (c.hd q hq)
end
