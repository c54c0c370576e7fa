import PyProof.Rows.All
import HandS.ForMost
import HandS.IsInst
import HandS.Wide
import HandS.Style
import HandS.TupAny
import HandS.TupMul
import HandS.Small
import HandS.Deep
import HandS.Conv
import HandS.Flow
import HandS.ForExc
import KE.KDictKeyed
import KE.GoesEnum
import KE.LtData
import KE.SortData
import KE.SortKeyHeap
import HandS.SortKw
import KE.DataCmp
import HandS.TryOnly
import HandS.Text
import PySem.Challenge.RW_jarvisits_k05_visits_by_hand
import HandS.Defaults
import HandS.Head0
import HandS.Head1
import HandS.Head2
import HandS.HeadEnd
import HandS.HeadHook1
import HandS.HeadHook2
import HandS.HeadHook4
import KE.KStateDown
set_option Elab.async false
set_option linter.all false
set_option maxRecDepth 100000
set_option maxHeartbeats 4000000
set_option autoImplicit false
section
/-! Jv: trees as values, a store for what changes, denotations of Python's expressions and statements over the layer HandS. -/
namespace Jv
open PySem L2

abbrev St := L2.St
/-! ### trees, objects that change, results -/
/-- a tree -/
inductive D where
  | non | bl (b : Bool) | int (i : Int) | str (x : Str)
  | tup (xs : List D) | lst (xs : List D) | dct (kvs : List (D × D))
  | ty (n : String)
  deriving Inhabited
/-- a value: a tree, or the number of an object that changes -/
inductive W where
  | v (d : D) | r (l : Nat)
  deriving Inhabited

inductive Ob where
  | dead
  | lst (xs : List D)
  | dct (kvs : List (Str × W))
  /-- a dict whose keys are tuples, by its keys' hash -/
  | kd (hf : NestedKey → Int) (kvs : List (D × D))
  deriving Inhabited

/-- where the objects that change stand, by their numbers (none: given up), and addresses that are being filled -/
structure Rho where
  lc : List (Option Addr)
  hid : List Addr
def Rho.mut (ρ : Rho) (a : Addr) : Prop := some a ∈ ρ.lc ∨ a ∈ ρ.hid
abbrev Sto := List Ob
abbrev Env := List (Option W)
/-- an exception: the number of its class, its fields -/
structure Xc where
  cls : Nat
  fs : List (Str × D)

inductive R (α : Type) where
  | ok (a : α) (st : Sto) | exc (x : Xc) (st : Sto) | bad

def R.bind {α β : Type} (r : R α) (k : α → Sto → R β) : R β := match r with
  | .ok a st => k a st
  | .exc x st => .exc x st
  | .bad => .bad
@[simp] theorem R.bind_ok {α β : Type} (a : α) (st : Sto) (k : α → Sto → R β) : (R.ok a st).bind k = k a st := rfl
@[simp] theorem R.bind_exc {α β : Type} (x : Xc) (st : Sto) (k : α → Sto → R β) : (R.exc x st : R α).bind k = .exc x st := rfl
@[simp] theorem R.bind_bad {α β : Type} (k : α → Sto → R β) : (R.bad : R α).bind k = .bad := rfl

/-! ### the relation of values and trees -/
def LsR (K : PySem.W.Frag) (ρ : Rho) (H : Hp) (a : Addr) (xs : List V) : Prop :=
  (Rd H a (.lst xs) ∧ ¬ ρ.mut a) ∨
    ∃ (o : Obj) (its : Array Value) (n : Nat), K.lookup a = some o ∧ o.cls = .type "list" ∧ o.dict = none ∧ o.data = .seq its n ∧ its.size ≤ sizeLine ∧ Vals xs its.toList
theorem LsR.sql {K : PySem.W.Frag} {ρ : Rho} {H : Hp} {a : Addr} {xs : List V} (h : LsR K ρ H a xs) : SqL K H a xs := h.imp (fun z => z.1) id
mutual
inductive Rl (K : PySem.W.Frag) (ρ : Rho) (H : Hp) : V → D → Prop
  | non : Rl K ρ H .non .non
  | bl (b : Bool) : Rl K ρ H (.bl b) (.bl b)
  | int (i : Int) : Rl K ρ H (.int i) (.int i)
  | str (x : Str) : Rl K ρ H (.str x) (.str x)
  | ty (n : String) : Rl K ρ H (.ty n) (.ty n)
  | tup {a : Addr} {xs : List V} {ds : List D} : H a = some (.tup xs) → ¬ ρ.mut a → RlAll K ρ H xs ds → Rl K ρ H (.ref a) (.tup ds)
  | lst {a : Addr} {xs : List V} {ds : List D} : LsR K ρ H a xs → RlAll K ρ H xs ds → Rl K ρ H (.ref a) (.lst ds)
  | dct0 {a : Addr} : H a = some (.dK []) → ¬ ρ.mut a → Rl K ρ H (.ref a) (.dct [])
inductive RlAll (K : PySem.W.Frag) (ρ : Rho) (H : Hp) : List V → List D → Prop
  | nil : RlAll K ρ H [] []
  | cons {v : V} {vs : List V} {d : D} {ds : List D} : Rl K ρ H v d → RlAll K ρ H vs ds → RlAll K ρ H (v :: vs) (d :: ds)
end

inductive Rw (K : PySem.W.Frag) (ρ : Rho) (H : Hp) : V → W → Prop
  | v {x : V} {d : D} : Rl K ρ H x d → Rw K ρ H x (.v d)
  | r {l : Nat} {x : V} : l < ρ.lc.length → (∀ a, ρ.lc[l]? = some (some a) → x = .ref a) → Rw K ρ H x (.r l)
inductive RwAll (K : PySem.W.Frag) (ρ : Rho) (H : Hp) : List V → List W → Prop
  | nil : RwAll K ρ H [] []
  | cons {v : V} {vs : List V} {d : W} {ds : List W} : Rw K ρ H v d → RwAll K ρ H vs ds → RwAll K ρ H (v :: vs) (d :: ds)

structure Grow (ρ : Rho) (H : Hp) (ρ' : Rho) (H' : Hp) : Prop where
  len : ρ.lc.length ≤ ρ'.lc.length
  hid : ρ'.hid = ρ.hid
  ref : ∀ (l : Nat) (a : Addr), l < ρ.lc.length → ρ'.lc[l]? = some (some a) → ρ.lc[l]? = some (some a)
  obj : ∀ a o, H a = some o → some a ∉ ρ.lc → H' a = some o ∧ some a ∉ ρ'.lc

theorem Grow.refl (ρ : Rho) (H : Hp) : Grow ρ H ρ H := ⟨Nat.le_refl _, rfl, fun _ _ _ h => h, fun _ _ h n => ⟨h, n⟩⟩
theorem Grow.trans {ρ ρ1 ρ2 : Rho} {H H1 H2 : Hp} (a : Grow ρ H ρ1 H1) (b : Grow ρ1 H1 ρ2 H2) : Grow ρ H ρ2 H2 :=
  ⟨Nat.le_trans a.len b.len, b.hid.trans a.hid, fun l x h e => a.ref l x h (b.ref l x (Nat.lt_of_lt_of_le h a.len) e), fun x o h n => let ⟨h1, n1⟩ := a.obj x o h n; b.obj x o h1 n1⟩
theorem Grow.same {ρ : Rho} {H H' : Hp} (s : Same H H') : Grow ρ H ρ H' := ⟨Nat.le_refl _, rfl, fun _ _ _ h => h, fun a o h n => ⟨s a o h, n⟩⟩

section
variable {K : PySem.W.Frag} {ρ ρ' : Rho} {H H' : Hp}
theorem Grow.keep (g : Grow ρ H ρ' H') {a : Addr} {o : HO} (h : H a = some o) (n : ¬ ρ.mut a) : H' a = some o ∧ ¬ ρ'.mut a := by
  obtain ⟨h1, h2⟩ := g.obj a o h fun z => n (.inl z)
  exact ⟨h1, fun z => z.elim h2 fun z => n (.inr (g.hid ▸ z))⟩
theorem Grow.lsr (g : Grow ρ H ρ' H') {a : Addr} {xs : List V} (h : LsR K ρ H a xs) : LsR K ρ' H' a xs := by
  rcases h with ⟨h | ⟨o, h⟩, n⟩ | h
  · obtain ⟨h1, h2⟩ := g.keep h n; exact .inl ⟨.inl h1, h2⟩
  · obtain ⟨h1, h2⟩ := g.keep h n; exact .inl ⟨.inr ⟨o, h1⟩, h2⟩
  · exact .inr h
mutual
theorem Rl.grow (g : Grow ρ H ρ' H') : ∀ {v : V} {d : D}, Rl K ρ H v d → Rl K ρ' H' v d
  | _, _, .non => .non
  | _, _, .bl b => .bl b
  | _, _, .int i => .int i
  | _, _, .str x => .str x
  | _, _, .ty n => .ty n
  | _, _, .tup h n r => let ⟨h', n'⟩ := g.keep h n; .tup h' n' (RlAll.grow g r)
  | _, _, .lst h r => .lst (g.lsr h) (RlAll.grow g r)
  | _, _, .dct0 h n => let ⟨h', n'⟩ := g.keep h n; .dct0 h' n'
theorem RlAll.grow (g : Grow ρ H ρ' H') : ∀ {vs : List V} {ds : List D}, RlAll K ρ H vs ds → RlAll K ρ' H' vs ds
  | _, _, .nil => .nil
  | _, _, .cons r t => .cons (Rl.grow g r) (RlAll.grow g t)
end
theorem Rw.grow (g : Grow ρ H ρ' H') {v : V} {w : W} : Rw K ρ H v w → Rw K ρ' H' v w
  | .v q => .v (q.grow g)
  | .r h e => .r (Nat.lt_of_lt_of_le h g.len) fun a q => e a (g.ref _ a h q)
theorem RwAll.grow (g : Grow ρ H ρ' H') : ∀ {vs : List V} {ds : List W}, RwAll K ρ H vs ds → RwAll K ρ' H' vs ds
  | _, _, .nil => .nil
  | _, _, .cons r t => .cons (r.grow g) (RwAll.grow g t)
theorem RwAll.length : ∀ {vs : List V} {ds : List W}, RwAll K ρ H vs ds → vs.length = ds.length
  | _, _, .nil => rfl
  | _, _, .cons _ t => by simp [RwAll.length t]
theorem RwAll.getD : ∀ {vs : List V} {ds : List W} {i : Nat} {d : W}, RwAll K ρ H vs ds → ds[i]? = some d → ∃ v, vs[i]? = some v ∧ Rw K ρ H v d
  | _, _, _, _, .nil, e => by simp at e
  | _, _, 0, _, .cons r _, e => by simp at e; subst e; exact ⟨_, rfl, r⟩
  | _, _, i + 1, v, .cons _ t, e => by
    obtain ⟨d, h1, h2⟩ := RwAll.getD (i := i) (d := v) t (by simpa using e)
    exact ⟨d, by simpa using h1, h2⟩
/-- trees alone -/
def allV : List W → Option (List D)
  | [] => some []
  | .v d :: r => (allV r).map (d :: ·)
  | .r _ :: _ => none
theorem RwAll.trees : ∀ {vs : List V} {ws : List W} {ds : List D}, RwAll K ρ H vs ws → allV ws = some ds → RlAll K ρ H vs ds
  | _, _, _, .nil, e => by simp [allV] at e; subst e; exact .nil
  | _, .v d :: r, ds, .cons h t, e => by
    simp only [allV] at e
    cases q : allV r with
    | none => rw [q] at e; cases e
    | some es =>
      rw [q] at e
      cases e
      cases h with
      | v h => exact .cons h (RwAll.trees t q)
  | _, .r l :: r, ds, .cons h t, e => by simp [allV] at e
theorem allV_length : ∀ {ws : List W} {ds : List D}, allV ws = some ds → ws.length = ds.length
  | [], _, e => by simp [allV] at e; subst e; rfl
  | .v d :: r, ds, e => by
    simp only [allV] at e
    cases q : allV r with
    | none => rw [q] at e; cases e
    | some es => rw [q] at e; cases e; simp [allV_length q]
  | .r l :: r, ds, e => by simp [allV] at e
/-- an address more that is being filled -/
def Rho.hide (ρ : Rho) (a : Addr) : Rho := ⟨ρ.lc, a :: ρ.hid⟩
theorem LsR.hide {p : Addr} {o : HO} (hp : H p = none) {a : Addr} {xs : List V} (h : LsR K ρ H a xs) : LsR K (ρ.hide p) (upd H p o) a xs := by
  have ne : ∀ u, H a = some u → ¬ ρ.mut a → ¬ (ρ.hide p).mut a := fun u e n z => by
    rcases z with z | z
    · exact n (.inl z)
    · rcases List.mem_cons.mp z with z | z
      · exact ne_of_none e hp z
      · exact n (.inr z)
  rcases h with ⟨h | ⟨o, h⟩, n⟩ | h
  · exact .inl ⟨.inl (by rw [upd_ne (ne_of_none h hp)]; exact h), ne _ h n⟩
  · exact .inl ⟨.inr ⟨o, by rw [upd_ne (ne_of_none h hp)]; exact h⟩, ne _ h n⟩
  · exact .inr h
mutual
theorem Rl.hide {p : Addr} {o : HO} (hp : H p = none) : ∀ {v : V} {d : D}, Rl K ρ H v d → Rl K (ρ.hide p) (upd H p o) v d
  | _, _, .non => .non
  | _, _, .bl b => .bl b
  | _, _, .int i => .int i
  | _, _, .str x => .str x
  | _, _, .ty n => .ty n
  | _, _, .tup h n r => .tup (by rw [upd_ne (ne_of_none h hp)]; exact h) (fun z => by
      rcases z with z | z
      · exact n (.inl z)
      · rcases List.mem_cons.mp z with z | z
        · exact ne_of_none h hp z
        · exact n (.inr z)) (RlAll.hide hp r)
  | _, _, .lst h r => .lst (h.hide hp) (RlAll.hide hp r)
  | _, _, .dct0 h n => .dct0 (by rw [upd_ne (ne_of_none h hp)]; exact h) (fun z => by
      rcases z with z | z
      · exact n (.inl z)
      · rcases List.mem_cons.mp z with z | z
        · exact ne_of_none h hp z
        · exact n (.inr z))
theorem RlAll.hide {p : Addr} {o : HO} (hp : H p = none) : ∀ {vs : List V} {ds : List D}, RlAll K ρ H vs ds → RlAll K (ρ.hide p) (upd H p o) vs ds
  | _, _, .nil => .nil
  | _, _, .cons r t => .cons (Rl.hide hp r) (RlAll.hide hp t)
end
theorem Rw.hide {p : Addr} {o : HO} (hp : H p = none) {v : V} {w : W} : Rw K ρ H v w → Rw K (ρ.hide p) (upd H p o) v w
  | .v q => .v (q.hide hp)
  | .r h e => .r h e
/-- .. it is filled on, or let go: what is related doesn't lean on it -/
theorem LsR.unhide {p : Addr} (h' : ∀ b, b ≠ p → H' b = H b) {a : Addr} {xs : List V} (h : LsR K (ρ.hide p) H a xs) : LsR K ρ H' a xs ∧ (¬ a = p ∨ ∃ o, K.lookup a = some o) := by
  rcases h with ⟨h, n⟩ | h
  · have ne : a ≠ p := fun z => n (.inr (z ▸ List.mem_cons_self))
    refine ⟨.inl ⟨?_, fun z => n (z.imp id (List.mem_cons_of_mem _))⟩, .inl ne⟩
    rcases h with h | ⟨o, h⟩
    · exact .inl (by rw [h' a ne]; exact h)
    · exact .inr ⟨o, by rw [h' a ne]; exact h⟩
  · exact ⟨.inr h, .inr (let ⟨o, _, _, e, _⟩ := h; ⟨o, e⟩)⟩
mutual
theorem Rl.unhide {p : Addr} (h' : ∀ b, b ≠ p → H' b = H b) : ∀ {v : V} {d : D}, Rl K (ρ.hide p) H v d → Rl K ρ H' v d
  | _, _, .non => .non
  | _, _, .bl b => .bl b
  | _, _, .int i => .int i
  | _, _, .str x => .str x
  | _, _, .ty n => .ty n
  | _, _, .tup h n r => .tup (by rw [h' _ fun z => n (.inr (z ▸ List.mem_cons_self))]; exact h) (fun z => n (z.imp id (List.mem_cons_of_mem _))) (RlAll.unhide h' r)
  | _, _, .lst h r => .lst (h.unhide h').1 (RlAll.unhide h' r)
  | _, _, .dct0 h n => .dct0 (by rw [h' _ fun z => n (.inr (z ▸ List.mem_cons_self))]; exact h) (fun z => n (z.imp id (List.mem_cons_of_mem _)))
theorem RlAll.unhide {p : Addr} (h' : ∀ b, b ≠ p → H' b = H b) : ∀ {vs : List V} {ds : List D}, RlAll K (ρ.hide p) H vs ds → RlAll K ρ H' vs ds
  | _, _, .nil => .nil
  | _, _, .cons r t => .cons (Rl.unhide h' r) (RlAll.unhide h' t)
end
theorem Rw.unhide {p : Addr} (h' : ∀ b, b ≠ p → H' b = H b) {v : V} {w : W} : Rw K (ρ.hide p) H v w → Rw K ρ H' v w
  | .v q => .v (q.unhide h')
  | .r h e => .r h e
mutual
theorem Rl.refill {p : Addr} (h' : ∀ b, b ≠ p → H' b = H b) : ∀ {v : V} {d : D}, Rl K (ρ.hide p) H v d → Rl K (ρ.hide p) H' v d
  | _, _, .non => .non
  | _, _, .bl b => .bl b
  | _, _, .int i => .int i
  | _, _, .str x => .str x
  | _, _, .ty n => .ty n
  | _, _, .tup h n r => .tup (by rw [h' _ fun z => n (.inr (z ▸ List.mem_cons_self))]; exact h) n (RlAll.refill h' r)
  | _, _, .lst h r => .lst (by
      rcases h with ⟨h, n⟩ | h
      · refine .inl ⟨?_, n⟩
        rcases h with h | ⟨o, h⟩
        · exact .inl (by rw [h' _ fun z => n (.inr (z ▸ List.mem_cons_self))]; exact h)
        · exact .inr ⟨o, by rw [h' _ fun z => n (.inr (z ▸ List.mem_cons_self))]; exact h⟩
      · exact .inr h) (RlAll.refill h' r)
  | _, _, .dct0 h n => .dct0 (by rw [h' _ fun z => n (.inr (z ▸ List.mem_cons_self))]; exact h) n
theorem RlAll.refill {p : Addr} (h' : ∀ b, b ≠ p → H' b = H b) : ∀ {vs : List V} {ds : List D}, RlAll K (ρ.hide p) H vs ds → RlAll K (ρ.hide p) H' vs ds
  | _, _, .nil => .nil
  | _, _, .cons r t => .cons (Rl.refill h' r) (RlAll.refill h' t)
end
theorem Rw.refill {p : Addr} (h' : ∀ b, b ≠ p → H' b = H b) {v : V} {w : W} : Rw K (ρ.hide p) H v w → Rw K (ρ.hide p) H' v w
  | .v q => .v (q.refill h')
  | .r h e => .r h e
theorem RlAll.length : ∀ {vs : List V} {ds : List D}, RlAll K ρ H vs ds → vs.length = ds.length
  | _, _, .nil => rfl
  | _, _, .cons _ t => by simp [RlAll.length t]
theorem RlAll.append : ∀ {vs vs' : List V} {ds ds' : List D}, RlAll K ρ H vs ds → RlAll K ρ H vs' ds' → RlAll K ρ H (vs ++ vs') (ds ++ ds')
  | _, _, _, _, .nil, s => s
  | _, _, _, _, .cons r t, s => .cons r (RlAll.append t s)
theorem RlAll.get : ∀ {vs : List V} {ds : List D} {i : Nat} {v : V}, RlAll K ρ H vs ds → vs[i]? = some v → ∃ d, ds[i]? = some d ∧ Rl K ρ H v d
  | _, _, _, _, .nil, e => by simp at e
  | _, _, 0, _, .cons r _, e => by simp at e; subst e; exact ⟨_, rfl, r⟩
  | _, _, i + 1, v, .cons _ t, e => by
    obtain ⟨d, h1, h2⟩ := RlAll.get (i := i) (v := v) t (by simpa using e)
    exact ⟨d, by simpa using h1, h2⟩
theorem RlAll.getD : ∀ {vs : List V} {ds : List D} {i : Nat} {d : D}, RlAll K ρ H vs ds → ds[i]? = some d → ∃ v, vs[i]? = some v ∧ Rl K ρ H v d
  | _, _, _, _, .nil, e => by simp at e
  | _, _, 0, _, .cons r _, e => by simp at e; subst e; exact ⟨_, rfl, r⟩
  | _, _, i + 1, v, .cons _ t, e => by
    obtain ⟨d, h1, h2⟩ := RlAll.getD (i := i) (d := v) t (by simpa using e)
    exact ⟨d, by simpa using h1, h2⟩
theorem RlAll.take (n : Nat) : ∀ {vs : List V} {ds : List D}, RlAll K ρ H vs ds → RlAll K ρ H (vs.take n) (ds.take n) := by
  induction n with
  | zero => intro vs ds _; exact .nil
  | succ n ih =>
    intro vs ds h
    cases h with
    | nil => exact .nil
    | cons r t => exact .cons r (ih t)
theorem RlAll.drop (n : Nat) : ∀ {vs : List V} {ds : List D}, RlAll K ρ H vs ds → RlAll K ρ H (vs.drop n) (ds.drop n) := by
  induction n with
  | zero => intro vs ds h; exact h
  | succ n ih =>
    intro vs ds h
    cases h with
    | nil => exact .nil
    | cons r t => exact ih t
theorem RlAll.set {v : V} {d : D} (r : Rl K ρ H v d) : ∀ {vs : List V} {ds : List D} (i : Nat), RlAll K ρ H vs ds → RlAll K ρ H (vs.set i v) (ds.set i d)
  | _, _, _, .nil => .nil
  | _, _, 0, .cons _ t => .cons r t
  | _, _, i + 1, .cons q t => .cons q (RlAll.set r i t)
theorem RlAll.reverse : ∀ {vs : List V} {ds : List D}, RlAll K ρ H vs ds → RlAll K ρ H vs.reverse ds.reverse
  | _, _, .nil => .nil
  | _, _, .cons r t => by
    rw [List.reverse_cons, List.reverse_cons]
    exact (RlAll.reverse t).append (.cons r .nil)
theorem RlAll.flat (n : Nat) {vs : List V} {ds : List D} (h : RlAll K ρ H vs ds) : RlAll K ρ H (List.replicate n vs).flatten (List.replicate n ds).flatten := by
  induction n with
  | zero => exact .nil
  | succ n ih => simpa [List.replicate_succ] using h.append ih
end

/-! ### the store -/
section
variable (K : PySem.W.Frag) (ρ : Rho) (H : Hp)
inductive RlD : List (Key × V) → List (Str × W) → Prop
  | nil : RlD [] []
  | cons {k : Str} {v : V} {d : W} {kvs : List (Key × V)} {ds : List (Str × W)} : Rw K ρ H v d → RlD kvs ds → RlD ((.inr k, v) :: kvs) ((k, d) :: ds)
/-- the entries of a dict at a whose keys are tuples -/
def KdAt (hf : NestedKey → Int) (a : Addr) (xs : List (NestedKey × Addr × Value)) : Heap → Prop := fun h => ∃ o es ep, h.get? a = some o ∧ o.ExactDict ∧ o.data = .dict es ep ∧ es.toList = xs.map (fun x => ({ hash := hf x.1, key := .ref x.2.1, val := x.2.2 } : DictEntry))
mutual
def D.nk : D → NestedKey
  | .non => .none
  | .bl b => .num (if b = true then 1 else 0)
  | .int i => .num i
  | .str x => .text x
  | .tup xs => .tup (D.nkL xs)
  | .lst _ => .none
  | .dct _ => .none
  | .ty _ => .none
def D.nkL : List D → List NestedKey
  | [] => []
  | x :: xs => x.nk :: D.nkL xs
end
inductive KdR : List (NestedKey × Addr × Value) → List (D × D) → Prop
  | nil : KdR [] []
  | cons {b : Addr} {u : Value} {v : V} {k d : D} {xs : List (NestedKey × Addr × Value)} {ds : List (D × D)} : Rl K ρ H (.ref b) k → RelV v u → Rl K ρ H v d → KdR xs ds → KdR ((k.nk, b, u) :: xs) ((k, d) :: ds)
mutual
def D.hb : D → Bool
  | .non => true
  | .bl _ => true
  | .int _ => true
  | .str _ => true
  | .tup xs => D.hbL xs
  | .lst _ => false
  | .dct _ => false
  | .ty _ => false
def D.hbL : List D → Bool
  | [] => true
  | x :: xs => x.hb && D.hbL xs
end
def ObR (a : Addr) : Ob → Prop
  | .dead => False
  | .kd hf ds => ∃ xs, H a = some (.ext (KdAt hf a xs)) ∧ KdR K ρ H xs ds ∧ (∀ p ∈ ds, p.1.hb = true ∧ p.1.nk.depth ≤ 8) ∧ (ds.map (·.1.nk)).Nodup ∧ (a == sysModules) = false
  | .lst ds => ∃ xs, H a = some (.lst xs) ∧ RlAll K ρ H xs ds
  | .dct ds => ∃ kvs, H a = some (.dK kvs) ∧ RlD K ρ H kvs ds
def W.under (n : Nat) : W → Prop
  | .v _ => True
  | .r l => l < n
def Ob.under (n : Nat) : Ob → Prop
  | .dct ds => ∀ p ∈ ds, W.under n p.2
  | _ => True
structure RelSt (st : Sto) : Prop where
  len : ρ.lc.length = st.length
  inj : ∀ (l l' : Nat) (a : Addr), ρ.lc[l]? = some (some a) → ρ.lc[l']? = some (some a) → l = l'
  obj : ∀ (l : Nat) (ob : Ob), st[l]? = some ob → (ob = .dead ∧ ρ.lc[l]? = some none) ∨ ∃ a, ρ.lc[l]? = some (some a) ∧ ObR K ρ H a ob
  hidt : ∀ a, a ∈ ρ.hid → ∃ o, H a = some o
  apart : ∀ a, some a ∈ ρ.lc → a ∉ ρ.hid
  ord : ∀ (l : Nat) (ob : Ob), st[l]? = some ob → ob.under l
structure RelEnv (σ : St) (env : Env) : Prop where
  len : σ.length = env.length
  get : ∀ (i : Nat) (d : W), env[i]? = some (some d) → ∃ v, σ[i]? = some (some v) ∧ Rw K ρ H v d
end
section
variable {K : PySem.W.Frag} {ρ ρ' : Rho} {H H' : Hp} {st st' : Sto} {σ : St} {env : Env}
theorem RelSt.there (r : RelSt K ρ H st) {a : Addr} (h : some a ∈ ρ.lc) : ∃ o, H a = some o := by
  obtain ⟨l, hl, e⟩ := List.getElem_of_mem h
  have e' : ρ.lc[l]? = some (some a) := by rw [List.getElem?_eq_getElem hl, e]
  have hl' : l < st.length := by rw [← r.len]; exact hl
  rcases r.obj l st[l] (List.getElem?_eq_getElem hl') with ⟨_, q⟩ | ⟨b, q, o⟩
  · rw [e'] at q; cases q
  · rw [e'] at q; cases q
    cases hob : st[l] with
    | dead => rw [hob] at o; exact o.elim
    | lst ds => rw [hob] at o; obtain ⟨xs, h, _⟩ := o; exact ⟨_, h⟩
    | dct ds => rw [hob] at o; obtain ⟨xs, h, _⟩ := o; exact ⟨_, h⟩
    | kd hf ds => rw [hob] at o; obtain ⟨xs, h, _⟩ := o; exact ⟨_, h⟩
theorem RelSt.fresh (r : RelSt K ρ H st) {a : Addr} (h : H a = none) : ¬ ρ.mut a := fun q => by
  rcases q with q | q
  · obtain ⟨o, e⟩ := r.there q
    rw [h] at e; cases e
  · obtain ⟨o, e⟩ := r.hidt a q
    rw [h] at e; cases e
theorem RlD.mono {L : List (Key × V)} {ds : List (Str × W)} (f : ∀ v d, Rw K ρ H v d → Rw K ρ' H' v d) (h : RlD K ρ H L ds) : RlD K ρ' H' L ds := by
  induction h with
  | nil => exact .nil
  | cons r _ ih => exact .cons (f _ _ r) ih
theorem same_upd {a : Addr} {o : HO} (h : H a = none) : Same H (upd H a o) := fun b u e => by rw [upd_ne (ne_of_none e h)]; exact e
theorem Rl.same (s : Same H H') {v : V} {d : D} (r : Rl K ρ H v d) : Rl K ρ H' v d := r.grow (.same s)
theorem Rw.same (s : Same H H') {v : V} {d : W} (r : Rw K ρ H v d) : Rw K ρ H' v d := r.grow (.same s)
theorem RwAll.same (s : Same H H') {v : List V} {d : List W} (r : RwAll K ρ H v d) : RwAll K ρ H' v d := r.grow (.same s)
theorem RlAll.same (s : Same H H') {v : List V} {d : List D} (r : RlAll K ρ H v d) : RlAll K ρ H' v d := r.grow (.same s)
theorem KdR.mono {L : List (NestedKey × Addr × Value)} {ds : List (D × D)} (f : ∀ v d, Rl K ρ H v d → Rl K ρ' H' v d) (h : KdR K ρ H L ds) : KdR K ρ' H' L ds := by
  induction h with
  | nil => exact .nil
  | cons r e q _ ih => exact .cons (f _ _ r) e (f _ _ q) ih
theorem ObR.mono {a : Addr} {ob : Ob} (e : ∀ o, H a = some o → H' a = some o) (f : ∀ v d, Rw K ρ H v d → Rw K ρ' H' v d) (fa : ∀ v d, RlAll K ρ H v d → RlAll K ρ' H' v d) (o : ObR K ρ H a ob) : ObR K ρ' H' a ob := by
  cases ob with
  | dead => exact o
  | lst ds => obtain ⟨xs, h1, h2⟩ := o; exact ⟨xs, e _ h1, fa _ _ h2⟩
  | dct ds => obtain ⟨xs, h1, h2⟩ := o; exact ⟨xs, e _ h1, h2.mono f⟩
  | kd hf ds =>
    obtain ⟨xs, h1, h2, h3⟩ := o
    exact ⟨xs, e _ h1, h2.mono (fun v d r => by cases fa [v] [d] (.cons r .nil) with | cons r _ => exact r), h3⟩
theorem RelSt.same (r : RelSt K ρ H st) (s : Same H H') : RelSt K ρ H' st := by
  refine ⟨r.len, r.inj, fun l ob e => ?_, fun a h => let ⟨o, q⟩ := r.hidt a h; ⟨o, s _ _ q⟩, r.apart, r.ord⟩
  rcases r.obj l ob e with h | ⟨a, h, o⟩
  · exact .inl h
  · exact .inr ⟨a, h, o.mono (fun _ q => s _ _ q) (fun _ _ q => q.same s) fun _ _ q => q.same s⟩
theorem RelSt.hide {p : Addr} {o : HO} (hp : H p = none) (r : RelSt K ρ H st) : RelSt K (ρ.hide p) (upd H p o) st := by
  refine ⟨r.len, r.inj, fun l ob e => ?_, fun a h => ?_, fun a h z => (List.mem_cons.mp z).elim (fun e => r.fresh hp (.inl (e ▸ h))) (r.apart a h), r.ord⟩
  · rcases r.obj l ob e with h | ⟨a, h, ob'⟩
    · exact .inl h
    · exact .inr ⟨a, h, ob'.mono (fun _ q => by rw [upd_ne (ne_of_none q hp)]; exact q) (fun _ _ q => q.hide hp) fun _ _ q => q.hide hp⟩
  · rcases List.mem_cons.mp h with rfl | h
    · exact ⟨_, upd_same⟩
    · obtain ⟨u, q⟩ := r.hidt a h
      exact ⟨u, by rw [upd_ne (ne_of_none q hp)]; exact q⟩
theorem RelSt.refill {p : Addr} (h' : ∀ b, b ≠ p → H' b = H b) (hn : some p ∉ ρ.lc) (hq : ∃ o, H' p = some o) (r : RelSt K (ρ.hide p) H st) : RelSt K (ρ.hide p) H' st := by
  refine ⟨r.len, r.inj, fun l ob e => ?_, fun a h => ?_, r.apart, r.ord⟩
  · rcases r.obj l ob e with h | ⟨a, h, ob'⟩
    · exact .inl h
    · have ne : a ≠ p := fun z => hn (z ▸ List.mem_of_getElem? h)
      exact .inr ⟨a, h, ob'.mono (fun _ q => by rw [h' _ ne]; exact q) (fun _ _ q => q.refill h') fun _ _ q => q.refill h'⟩
  · by_cases e : a = p
    · rw [e]; exact hq
    · obtain ⟨u, q⟩ := r.hidt a h
      exact ⟨u, by rw [h' _ e]; exact q⟩
theorem RelSt.unhide {p : Addr} (h' : ∀ b, b ≠ p → H' b = H b) (hn : some p ∉ ρ.lc) (hq : p ∉ ρ.hid ∨ ∃ o, H' p = some o) (r : RelSt K (ρ.hide p) H st) : RelSt K ρ H' st := by
  refine ⟨r.len, r.inj, fun l ob e => ?_, fun a h => ?_, fun a h z => r.apart a h (List.mem_cons_of_mem _ z), r.ord⟩
  · rcases r.obj l ob e with h | ⟨a, h, ob'⟩
    · exact .inl h
    · have ne : a ≠ p := fun z => hn (z ▸ List.mem_of_getElem? h)
      exact .inr ⟨a, h, ob'.mono (fun _ q => by rw [h' _ ne]; exact q) (fun _ _ q => q.unhide h') fun _ _ q => q.unhide h'⟩
  · by_cases e : a = p
    · rcases hq with hq | hq
      · exact absurd (e ▸ h) hq
      · rw [e]; exact hq
    · obtain ⟨u, q⟩ := r.hidt a (List.mem_cons_of_mem _ h)
      exact ⟨u, by rw [h' _ e]; exact q⟩
/-- the objects from n on given up -/
def Rho.cut (ρ : Rho) (n : Nat) : Rho := ⟨ρ.lc.take n, ρ.hid⟩
theorem cut_mut {n : Nat} {a : Addr} (h : (ρ.cut n).mut a) : ρ.mut a := h.imp (fun z => List.mem_of_mem_take z) id
theorem cut_get {n l : Nat} {a : Addr} (h : (ρ.cut n).lc[l]? = some (some a)) : ρ.lc[l]? = some (some a) ∧ l < n := by
  simp only [Rho.cut, List.getElem?_take] at h
  split at h
  · exact ⟨h, by assumption⟩
  · cases h
mutual
theorem Rl.cut (n : Nat) : ∀ {v : V} {d : D}, Rl K ρ H v d → Rl K (ρ.cut n) H v d
  | _, _, .non => .non
  | _, _, .bl b => .bl b
  | _, _, .int i => .int i
  | _, _, .str x => .str x
  | _, _, .ty n => .ty n
  | _, _, .tup h m r => .tup h (fun z => m (cut_mut z)) (RlAll.cut n r)
  | _, _, .lst h r => .lst (h.imp (fun z => ⟨z.1, fun y => z.2 (cut_mut y)⟩) id) (RlAll.cut n r)
  | _, _, .dct0 h m => .dct0 h (fun z => m (cut_mut z))
theorem RlAll.cut (n : Nat) : ∀ {vs : List V} {ds : List D}, RlAll K ρ H vs ds → RlAll K (ρ.cut n) H vs ds
  | _, _, .nil => .nil
  | _, _, .cons r t => .cons (Rl.cut n r) (RlAll.cut n t)
end
theorem Rw.cut {n : Nat} {v : V} {w : W} (u : W.under n w) : Rw K ρ H v w → Rw K (ρ.cut n) H v w
  | .v q => .v (q.cut n)
  | .r h e => .r (by simp only [Rho.cut, List.length_take]; exact Nat.lt_min.mpr ⟨u, h⟩) fun a q => e a (cut_get q).1
theorem RelSt.cut (n : Nat) (s : RelSt K ρ H st) : RelSt K (ρ.cut n) H (st.take n) := by
  refine ⟨by simp [Rho.cut, s.len], fun l l' a e1 e2 => s.inj l l' a (cut_get e1).1 (cut_get e2).1, fun l ob e => ?_, s.hidt, fun a h => s.apart a (List.mem_of_mem_take h), fun l ob e => ?_⟩
  · rw [List.getElem?_take] at e
    split at e
    · rename_i hl
      have up : ∀ x, ρ.lc[l]? = some x → (ρ.cut n).lc[l]? = some x := fun x q => by simp only [Rho.cut, List.getElem?_take]; rw [if_pos hl]; exact q
      rcases s.obj l ob e with ⟨z, q⟩ | ⟨a, q, o⟩
      · exact .inl ⟨z, up _ q⟩
      · refine .inr ⟨a, up _ q, ?_⟩
        cases ob with
        | dead => exact o
        | lst ds => obtain ⟨xs, h1, h2⟩ := o; exact ⟨xs, h1, h2.cut n⟩
        | kd hf ds => obtain ⟨xs, h1, h2, h3⟩ := o; exact ⟨xs, h1, h2.mono (fun v d r => r.cut n), h3⟩
        | dct ds =>
          obtain ⟨xs, h1, h2⟩ := o
          refine ⟨xs, h1, ?_⟩
          have u : ∀ p ∈ ds, W.under n p.2 := fun p hp => by
            have := s.ord l _ e p hp
            cases q2 : p.2 with
            | v d => exact trivial
            | r l2 => rw [q2] at this; exact Nat.lt_trans this hl
          clear h1 q e up
          induction h2 with
          | nil => exact .nil
          | cons r _ ih => exact .cons (r.cut (u _ List.mem_cons_self)) (ih fun p hp => u p (List.mem_cons_of_mem _ hp))
    · cases e
  · rw [List.getElem?_take] at e
    split at e
    · exact s.ord l ob e
    · cases e
theorem Grow.cut {n : Nat} (g : Grow ρ H ρ' H') (hn : ρ.lc.length ≤ n) : Grow ρ H (ρ'.cut n) H' := by
  refine ⟨by simp only [Rho.cut, List.length_take]; exact Nat.le_min.mpr ⟨hn, g.len⟩, g.hid, fun l a h e => g.ref l a h (cut_get e).1, fun a o e h => ?_⟩
  obtain ⟨h1, h2⟩ := g.obj a o e h
  exact ⟨h1, fun z => h2 (List.mem_of_mem_take z)⟩
theorem RelEnv.grow (g : Grow ρ H ρ' H') (r : RelEnv K ρ H σ env) : RelEnv K ρ' H' σ env :=
  ⟨r.len, fun i d e => let ⟨v, h1, h2⟩ := r.get i d e; ⟨v, h1, h2.grow g⟩⟩
theorem RelEnv.hide {p : Addr} {o : HO} (hp : H p = none) (r : RelEnv K ρ H σ env) : RelEnv K (ρ.hide p) (upd H p o) σ env :=
  ⟨r.len, fun i d e => let ⟨v, h1, h2⟩ := r.get i d e; ⟨v, h1, h2.hide hp⟩⟩
theorem RelEnv.set (r : RelEnv K ρ H σ env) {v : V} {d : W} (h : Rw K ρ H v d) (i : Nat) : RelEnv K ρ H (σ.set i (some v)) (env.set i (some d)) := by
  refine ⟨by simp [r.len], fun j e q => ?_⟩
  by_cases hj : i = j
  · subst hj
    by_cases hl : i < env.length
    · rw [List.getElem?_set_self hl] at q
      cases q
      exact ⟨v, by rw [List.getElem?_set_self (by rw [r.len]; exact hl)], h⟩
    · rw [List.getElem?_eq_none (by simp; omega)] at q; cases q
  · rw [List.getElem?_set_ne hj] at q ⊢
    exact r.get j e q
theorem RelEnv.wipe1 (r : RelEnv K ρ H σ env) (i : Nat) : RelEnv K ρ H (σ.set i none) (env.set i none) := by
  refine ⟨by simp [r.len], fun j e q => ?_⟩
  by_cases hj : i = j
  · subst hj
    by_cases hl : i < env.length
    · rw [List.getElem?_set_self hl] at q; cases q
    · rw [List.getElem?_eq_none (by simp; omega)] at q; cases q
  · rw [List.getElem?_set_ne hj] at q ⊢
    exact r.get j e q
end

/-! ### what is wanted behind a result -/
section
variable (K : PySem.W.Frag) (ct : Nat → Value)
def XRl (ρ : Rho) (H : Hp) (cv : Value) (od : Option Addr) (x : Xc) : Prop :=
  cv = ct x.cls ∧ match od with
    | none => x.fs = []
    | some d => ∃ vs : List (Str × V), H d = some (.xd vs) ∧ vs.map (·.1) = x.fs.map (·.1) ∧ RlAll K ρ H (vs.map (·.2)) (x.fs.map (·.2))
abbrev Rel (β α : Type) := PySem.W.Frag → Rho → Hp → β → α → Prop
def okG {α β : Type} (rel : Rel β α) (ρ : Rho) (H : Hp) (E : XK) (Q : β → Hp → Prop) : R α → Prop
  | .ok a st' => ∀ ρ' H' b, Grow ρ H ρ' H' → RelSt K ρ' H' st' → rel K ρ' H' b a → Q b H'
  | .exc x st' => ∀ ρ' H' cv od, Grow ρ H ρ' H' → RelSt K ρ' H' st' → XRl K ct ρ' H' cv od x → E cv od H'
  | .bad => False
def At (ρ : Rho) (H : Hp) (st : Sto) (σ : St) (env : Env) : Prop := RelSt K ρ H st ∧ RelEnv K ρ H σ env
def tG {α β : Type} (rel : Rel β α) (E : St → XK) (f : Env → Sto → R α) : St → Hp → (β → Hp → Prop) → Prop :=
  fun σ H Q => ∃ ρ st env, At K ρ H st σ env ∧ okG K ct rel ρ H (E σ) Q (f env st)
end
abbrev RlB : Rel Bool Bool := fun _ _ _ b c => b = c
abbrev tE (K : PySem.W.Frag) (ct : Nat → Value) (E : St → XK) (f : Env → Sto → R W) : TE := tG K ct Rw E f
abbrev tT (K : PySem.W.Frag) (ct : Nat → Value) (E : St → XK) (f : Env → Sto → R Bool) : TT := tG K ct RlB E f
abbrev tA (K : PySem.W.Frag) (ct : Nat → Value) (E : St → XK) (f : Env → Sto → R (List W)) : TA := tG K ct RwAll E f

section
variable {K : PySem.W.Frag} {ct : Nat → Value} {α β γ δ : Type} {rel : Rel β α} {rel' : Rel δ γ} {E : St → XK} {σ : St} {ρ ρ' : Rho} {H H' : Hp} {st : Sto} {env : Env}
theorem okG.grow {Q : β → Hp → Prop} {E : XK} {r : R α} (g : Grow ρ H ρ' H') (h : okG K ct rel ρ H E Q r) : okG K ct rel ρ' H' E Q r := by
  cases r with
  | ok a st' => exact fun ρ2 H2 b g2 => h ρ2 H2 b (g.trans g2)
  | exc x st' => exact fun ρ2 H2 cv od g2 => h ρ2 H2 cv od (g.trans g2)
  | bad => exact h
theorem okG.mono {Q Q' : β → Hp → Prop} {E : XK} {r : R α} (h : okG K ct rel ρ H E Q r) (f : ∀ b H, Q b H → Q' b H) : okG K ct rel ρ H E Q' r := by
  cases r with
  | ok a st' => exact fun ρ2 H2 b g2 s r => f _ _ (h ρ2 H2 b g2 s r)
  | exc x st' => exact h
  | bad => exact h
/-- where we stand behind a first part -/
theorem okG.bind {Q : δ → Hp → Prop} {f : R α} {k : α → Sto → R γ} {E : XK} (h : okG K ct rel' ρ H E Q (f.bind k)) (he : RelEnv K ρ H σ env) :
    okG K ct rel ρ H E (fun b H1 => ∃ ρ1 st1 a, At K ρ1 H1 st1 σ env ∧ Grow ρ H ρ1 H1 ∧ rel K ρ1 H1 b a ∧ okG K ct rel' ρ1 H1 E Q (k a st1)) f := by
  cases f with
  | ok a st' => exact fun ρ1 H1 b g s r => ⟨ρ1, st', a, ⟨s, he.grow g⟩, g, r, okG.grow g h⟩
  | exc x st' => exact h
  | bad => exact h.elim
theorem tG.bind {Q : δ → Hp → Prop} {f : Env → Sto → R α} {k : α → Env → Sto → R γ} (h : tG K ct rel' E (fun env st => (f env st).bind fun a st => k a env st) σ H Q) :
    tG K ct rel E f σ H (fun b H1 => ∃ ρ1 st1 env a, At K ρ1 H1 st1 σ env ∧ rel K ρ1 H1 b a ∧ okG K ct rel' ρ1 H1 (E σ) Q (k a env st1)) := by
  obtain ⟨ρ, st, env, a, h⟩ := h
  refine ⟨ρ, st, env, a, (okG.bind (rel := rel) h a.2).mono fun b H1 ⟨ρ1, st1, x, a1, _, r, q⟩ => ⟨ρ1, st1, env, x, a1, r, q⟩⟩
end
end Jv
end
section
namespace Jv
open PySem L2 PyProof.Rows
abbrev ED := Env → Sto → R W
abbrev BD := Env → Sto → R Bool
abbrev AD := Env → Sto → R (List W)
abbrev LD := Env → Sto → R (List D)

theorem PE.of {X : Cx} {e : Expr} {t t' : TE} (h : PE X e t) (i : ∀ σ H Q, t' σ H Q → t σ H Q) : PE X e t' := ⟨fun pins s σ H Q I q => h.run pins s σ H Q I (i σ H Q q)⟩
theorem PT.of {X : Cx} {e : Expr} {t t' : TT} (h : PT X e t) (i : ∀ σ H Q, t' σ H Q → t σ H Q) : PT X e t' := ⟨fun pins s σ H Q I q => h.run pins s σ H Q I (i σ H Q q)⟩
theorem PW.of {X : Cx} {e : Expr} {t t' : TT} (h : PW X e t) (i : ∀ σ H Q, t' σ H Q → t σ H Q) : PW X e t' := ⟨fun wh pins s σ H Q I q => h.run wh pins s σ H Q I (i σ H Q q)⟩
theorem PA.of {X : Cx} {e : List Expr} {t t' : TA} (h : PA X e t) (i : ∀ σ H Q, t' σ H Q → t σ H Q) : PA X e t' := ⟨fun pos pins s σ H Q I q => h.run pos pins s σ H Q I (i σ H Q q)⟩

section
variable {K : PySem.W.Frag} {ct : Nat → Value} {E : St → XK} {α β : Type} {rel : Rel β α} {σ : St} {H : Hp}
theorem tG.mono {f : Env → Sto → R α} {Q Q' : β → Hp → Prop} (h : tG K ct rel E f σ H Q) (i : ∀ b H, Q b H → Q' b H) : tG K ct rel E f σ H Q' := by
  obtain ⟨ρ, st, env, a, h⟩ := h
  exact ⟨ρ, st, env, a, h.mono i⟩
theorem okG.here {ρ : Rho} {st : Sto} {EE : XK} {Q : β → Hp → Prop} {a : α} {b : β} (h : okG K ct rel ρ H EE Q (.ok a st)) (s : RelSt K ρ H st) (r : rel K ρ H b a) : Q b H := h ρ H b (.refl ρ H) s r
theorem okG.up {ρ : Rho} {st : Sto} {EE : XK} {Q : β → Hp → Prop} {a : α} {b : β} {H' : Hp} (h : okG K ct rel ρ H EE Q (.ok a st)) (s : RelSt K ρ H st) (e : Same H H') (r : rel K ρ H' b a) : Q b H' := h ρ H' b (.same e) (s.same e) r
end

/-! ### names, constants -/
def eVar (i : Nat) : ED := fun env st => match env[i]? with
  | some (some d) => .ok d st
  | _ => .bad
def eCon (d : D) : ED := fun _ st => .ok (.v d) st
section
variable {X : Cx} {ct : Nat → Value} {E : St → XK}
theorem de_var (i : Nat) {x : Str} {pos : Pos} (hN : X.N[i]? = some x := by rfl) (hv : Vis X.env.scope x := by first | exact Or.inl rfl | exact Or.inr (Or.inl rfl) | exact Or.inr (Or.inr rfl)) (hd : (x == ("__debug__" : Str)) = false := by decide)
    (hcd : (x == ("__classdict__" : Str)) = false := by decide) : PE X (.Name x pos) (tE X.K ct E (eVar i)) := PE.of (pe_var hN hv hd hcd) fun σ H Q ⟨ρ, st, env, a, h⟩ => by
  unfold eVar at h
  split at h
  · rename_i d e
    obtain ⟨v, e1, r⟩ := a.2.get i d e
    exact ⟨v, e1, h.here a.1 r⟩
  · exact h.elim
theorem de_con {e : Expr} {v : V} {d : D} (h : PE X e (tC v)) (r : ∀ ρ H, Rl X.K ρ H v d) : PE X e (tE X.K ct E (eCon d)) := PE.of h fun σ H Q ⟨ρ, st, env, a, h⟩ => h.here a.1 (.v (r ρ H))
theorem de_int {i j pos} : PE X (.Constant (.int i) j pos) (tE X.K ct E (eCon (.int i))) := de_con pe_int fun _ _ => .int i
theorem de_bl {b j pos} : PE X (.Constant (.bool b) j pos) (tE X.K ct E (eCon (.bl b))) := de_con pe_bl fun _ _ => .bl b
theorem de_non {j pos} : PE X (.Constant .none j pos) (tE X.K ct E (eCon .non)) := de_con pe_non fun _ _ => .non
theorem de_str {x j pos} : PE X (.Constant (.str x) j pos) (tE X.K ct E (eCon (.str x))) := de_con pe_str fun _ _ => .str x
theorem de_globS {x : Str} {y : Str} {t : Tok} {pos : Pos} (hg : Gl X x) (hm : X.mg x = some (.str y t)) (hd : (x == ("__debug__" : Str)) = false := by decide) : PE X (.Name x pos) (tE X.K ct E (eCon (.str y))) :=
  de_con (pe_glob hg hm (v := .str y) ⟨t, rfl⟩ hd) fun _ _ => .str y
theorem de_globI {x : Str} {y : Int} {t : Tok} {pos : Pos} (hg : Gl X x) (hm : X.mg x = some (.int y t)) (hd : (x == ("__debug__" : Str)) = false := by decide) : PE X (.Name x pos) (tE X.K ct E (eCon (.int y))) :=
  de_con (pe_glob hg hm (v := .int y) ⟨t, rfl⟩ hd) fun _ _ => .int y
theorem de_ty {x : Str} {n : String} {pos : Pos} (hg : Gl X x) (hm : X.mg x = none) (hv : bootBuiltins x = some (.type n)) (hn : x ≠ "__name__" := by decide) (hd : (x == ("__debug__" : Str)) = false := by decide) : PE X (.Name x pos) (tE X.K ct E (eCon (.ty n))) :=
  de_con (pe_bltn hg hm hv (v := .ty n) rfl hn hd) fun _ _ => .ty n
end

/-! ### operators by values -/
abbrev O2 := Sto → W → W → Option D
def ofOp (st : Sto) : Option D → R W
  | some d => .ok (.v d) st
  | none => .bad
@[simp] theorem ofOp_some (st : Sto) (d : D) : ofOp st (some d) = .ok (.v d) st := rfl
@[simp] theorem ofOp_none (st : Sto) : ofOp st none = .bad := rfl
def eBin (g : O2) (f1 f2 : ED) : ED := fun env st => (f1 env st).bind fun a st => (f2 env st).bind fun b st => ofOp st (g st a b)
/-- what an operator is asked for -/
def rOf (K : PySem.W.Frag) (g : O2) : R2 := fun x y H Q => ∃ ρ st w1 w2 d, RelSt K ρ H st ∧ Rw K ρ H x w1 ∧ Rw K ρ H y w2 ∧ g st w1 w2 = some d ∧ ∀ H' v, Same H H' → Rl K ρ H' v d → Q v H'
section
variable {X : Cx} {ct : Nat → Value} {E : St → XK} {a b : Expr} {fa fb : ED}
theorem two_read {K : PySem.W.Frag} {g : O2} {σ : St} {H : Hp} {Q : VK} (h : tE K ct E (eBin g fa fb) σ H Q) : tOp (rOf K g) (tE K ct E fa) (tE K ct E fb) σ H Q := by
  refine (tG.bind (rel := Rw) (k := fun a env st => (fb env st).bind fun b st => ofOp st (g st a b)) h).mono fun v H1 ⟨ρ1, st1, env, d1, a1, r1, q1⟩ => ?_
  refine ⟨ρ1, st1, env, a1, (okG.bind (rel := Rw) q1 a1.2).mono fun u H2 ⟨ρ2, st2, d2, a2, g2, r2, q2⟩ => ?_⟩
  cases e : g st2 d1 d2 with
  | none => rw [e] at q2; exact q2.elim
  | some d =>
    rw [e] at q2
    exact ⟨ρ2, st2, d1, d2, d, a2.1, r1.grow g2, r2, e, fun H' w s r => okG.up q2 a2.1 s (.v r)⟩
theorem de_bin {op : Operator} {pos : Pos} {g : O2} (ho : OpR X (binaryOp op) (rOf X.K g)) (ha : PE X a (tE X.K ct E fa)) (hb : PE X b (tE X.K ct E fb)) : PE X (.BinOp a op b pos) (tE X.K ct E (eBin g fa fb)) :=
  PE.of (pe_op ho ha hb) fun σ H Q h => two_read h
theorem de_cmp {op : CmpOp} {pos : Pos} {g : O2} (ho : OpR X (compareOp op) (rOf X.K g)) (ha : PE X a (tE X.K ct E fa)) (hb : PE X b (tE X.K ct E fb)) (hm : behindInMarks op b = false := by first | exact nomark _ | rfl) : PE X (.Compare a [op] [b] pos) (tE X.K ct E (eBin g fa fb)) :=
  PE.of (pe_cmpR ho ha hb hm) fun σ H Q h => two_read h
end

/-! ### reading lists and tuples -/
def asLst (st : Sto) : W → Option (List D)
  | .v (.lst ds) => some ds
  | .r l => match st[l]? with
    | some (.lst ds) => some ds
    | _ => none
  | _ => none
theorem lst_of {K : PySem.W.Frag} {ρ : Rho} {H : Hp} {st : Sto} {v : V} {d : W} {ds : List D} (s : RelSt K ρ H st) (r : Rw K ρ H v d) (e : asLst st d = some ds) : ∃ a xs, v = .ref a ∧ SqL K H a xs ∧ RlAll K ρ H xs ds := by
  cases r with
  | v r =>
    cases r with
    | lst h q => cases e; exact ⟨_, _, rfl, h.sql, q⟩
    | _ => cases e
  | @r l _ hl hq =>
    simp only [asLst] at e
    split at e
    · rename_i xs he
      cases e
      rcases s.obj l _ he with ⟨z, _⟩ | ⟨a, e1, xs', h1, h2⟩
      · cases z
      · exact ⟨a, xs', hq a e1, .of h1, h2⟩
    · cases e
/-- an operator of trees -/
abbrev T2 := D → D → Option D
def onV (g : T2) : O2
  | _, .v a, .v b => g a b
  | _, _, _ => none
def rOfV (K : PySem.W.Frag) (g : T2) : R2 := fun x y H Q => ∃ ρ st d1 d2 d, RelSt K ρ H st ∧ Rl K ρ H x d1 ∧ Rl K ρ H y d2 ∧ g d1 d2 = some d ∧ ∀ H' v, Same H H' → Rl K ρ H' v d → Q v H'
theorem OpR.v {X : Cx} {f : Value → Value → Sem Value} {g : T2} (h : OpR X f (rOfV X.K g)) : OpR X f (rOf X.K (onV g)) := by
  intro pins s σ H x y v u Q I rx ry hh
  obtain ⟨ρ, st, w1, w2, d, rs, r1, r2, e, q⟩ := hh
  unfold onV at e
  split at e
  · cases r1; cases r2
    exact h pins s σ H x y v u Q I rx ry ⟨ρ, st, _, _, d, rs, by assumption, by assumption, e, q⟩
  · cases e
/-! ### operators -/
def addT : T2
  | .int i, .int j => some (.int (i + j))
  | .str x, .str y => if x.length + y.length ≤ 100000 then some (.str (x ++ y)) else none
  | .tup xs, .tup ys => if xs.length + ys.length ≤ 100000 then some (.tup (xs ++ ys)) else none
  | _, _ => none
abbrev addD : O2 := onV addT
theorem sl5 {n : Nat} (h : n ≤ 100000) : n ≤ sizeLine := Nat.le_trans h (by decide)
section
variable {X : Cx}
theorem op_addD : OpR X (binaryOp .Add) (rOf X.K addD) := OpR.v <| by
  intro pins s σ H x y v u Q I rx ry h
  obtain ⟨ρ, st, d1, d2, d, rs, r1, r2, e, q⟩ := h
  unfold addT at e
  split at e
  · cases e; cases r1; cases r2
    exact op_add pins s σ H _ _ v u Q I rx ry ⟨_, _, rfl, rfl, q _ _ (.refl _) (.int _)⟩
  · split at e
    · rename_i hl
      cases e; cases r1; cases r2
      exact op_add_str pins s σ H _ _ v u Q I rx ry ⟨_, _, rfl, rfl, sl5 hl, q _ _ (.refl _) (.str _)⟩
    · cases e
  · split at e
    · rename_i hl
      cases e
      cases r1 with
      | tup h1 n1 q1 =>
        cases r2 with
        | tup h2 n2 q2 =>
          refine op_catA pins s σ H _ _ v u Q I rx ry ⟨_, _, _, _, rfl, rfl, .of h1, .of h2, sl5 (by rw [q1.length, q2.length]; exact hl), fun z => ?_, fun z1 z2 => ?_, fun _ _ p hp => ?_⟩
          · subst z; cases q1; exact q _ _ (.refl _) (.tup h2 n2 q2)
          · subst z2; cases q2; exact q _ _ (.refl _) (.tup h1 n1 (by simpa using q1))
          · exact q _ _ (same_upd hp) (.tup upd_same (rs.fresh hp) ((q1.append q2).same (same_upd hp)))
    · cases e
  · cases e
/-- ints alone: the operation, where it is served -/
def int2 (c : Int → Int → Bool) (f : Int → Int → D) : T2
  | .int i, .int j => if c i j then some (f i j) else none
  | _, _ => none
theorem op_int2 {f : Value → Value → Sem Value} {c : Int → Int → Bool} {C : Int → Int → Prop} {g : Int → Int → D} {gv : Int → Int → V} (h : OpR X f (rI C gv)) (hc : ∀ i j, c i j = true → C i j) (hg : ∀ i j ρ H, Rl X.K ρ H (gv i j) (g i j)) : OpR X f (rOf X.K (onV (int2 c g))) := OpR.v <| by
  intro pins s σ H x y v u Q I rx ry hh
  obtain ⟨ρ, st, d1, d2, d, rs, r1, r2, e, q⟩ := hh
  unfold int2 at e
  split at e
  · split at e
    · rename_i hcc
      cases e; cases r1; cases r2
      exact h pins s σ H _ _ v u Q I rx ry ⟨_, _, rfl, rfl, hc _ _ hcc, q _ _ (.refl _) (hg _ _ _ _)⟩
    · cases e
  · cases e
theorem op_int0 {f : Value → Value → Sem Value} {g : Int → Int → D} {gv : Int → Int → V} (h : OpR X f (rI0 gv)) (hg : ∀ i j ρ H, Rl X.K ρ H (gv i j) (g i j)) : OpR X f (rOf X.K (onV (int2 (fun _ _ => true) g))) := OpR.v <| by
  intro pins s σ H x y v u Q I rx ry hh
  obtain ⟨ρ, st, d1, d2, d, rs, r1, r2, e, q⟩ := hh
  unfold int2 at e
  split at e
  · simp only [if_true] at e
    cases e; cases r1; cases r2
    exact h pins s σ H _ _ v u Q I rx ry ⟨_, _, rfl, rfl, q _ _ (.refl _) (hg _ _ _ _)⟩
  · cases e
abbrev subD : O2 := onV (int2 (fun _ _ => true) fun i j => .int (i - j))
theorem op_subD : OpR X (binaryOp .Sub) (rOf X.K subD) := op_int0 op_sub fun _ _ _ _ => .int _
abbrev modD : O2 := onV (int2 (fun _ j => decide (0 < j)) fun i j => .int (i % j))
theorem op_modD : OpR X (binaryOp .Mod) (rOf X.K modD) := op_int2 op_mod (fun _ _ h => of_decide_eq_true h) fun _ _ _ _ => .int _
abbrev fdivD : O2 := onV (int2 (fun _ j => decide (0 < j ∧ j < 1073741824)) fun i j => .int (i / j))
theorem op_fdivD : OpR X (binaryOp .FloorDiv) (rOf X.K fdivD) := op_int2 op_fdiv (fun i j h => show 0 < j ∧ j < 1073741824 from of_decide_eq_true h) fun _ _ _ _ => .int _
theorem op_powD0 : OpR X (binaryOp .Pow) (rI (fun i j => 0 ≤ j ∧ (Builtin.Int.intBits i : Int) * j ≤ 2 ^ 27) fun i j => .int (i ^ j.toNat)) := opI fun _ _ _ _ _ _ _ hc q => pow_int hc.1 hc.2 q
abbrev powD : O2 := onV (int2 (fun i j => decide (0 ≤ j ∧ (Builtin.Int.intBits i : Int) * j ≤ 2 ^ 27)) fun i j => .int (i ^ j.toNat))
theorem op_powD : OpR X (binaryOp .Pow) (rOf X.K powD) := op_int2 op_powD0 (fun _ _ h => of_decide_eq_true h) fun _ _ _ _ => .int _
/-- ints below a million bits together; a tuple told so often -/
def mulT : T2
  | .int i, .int j => if i.natAbs.log2 + j.natAbs.log2 < 1000000 then some (.int (i * j)) else none
  | .tup xs, .int k => if 2 ≤ k ∧ k ≤ 1000 ∧ 0 < xs.length ∧ xs.length ≤ 1000 then some (.tup (List.replicate k.toNat xs).flatten) else none
  | _, _ => none
abbrev mulD : O2 := onV mulT
theorem op_mulD : OpR X (binaryOp .Mult) (rOf X.K mulD) := OpR.v <| by
  intro pins s σ H x y v u Q I rx ry h
  obtain ⟨ρ, st, d1, d2, d, rs, r1, r2, e, q⟩ := h
  unfold mulT at e
  split at e
  · split at e
    · rename_i hl
      cases e; cases r1; cases r2
      exact op_mulW pins s σ H _ _ v u Q I rx ry ⟨_, _, rfl, rfl, hl, q _ _ (.refl _) (.int _)⟩
    · cases e
  · split at e
    · rename_i hl
      cases e
      cases r2
      cases r1 with
      | tup h1 n1 q1 =>
        refine op_repT pins s σ H _ _ v u Q I rx ry ⟨_, _, _, rfl, rfl, .of h1, fun z => ?_, hl.1, hl.2.1, by rw [q1.length]; exact hl.2.2.2, fun p hp => ?_⟩
        · have := q1.length
          rw [z] at this
          simp only [List.length_nil] at this
          omega
        · exact q _ _ (same_upd hp) (.tup upd_same (rs.fresh hp) ((q1.flat _).same (same_upd hp)))
    · cases e
  · cases e
abbrev ltD : O2 := onV (int2 (fun _ _ => true) fun i j => .bl (decide (i < j)))
abbrev leD : O2 := onV (int2 (fun _ _ => true) fun i j => .bl (decide (i ≤ j)))
abbrev gtD : O2 := onV (int2 (fun _ _ => true) fun i j => .bl (decide (j < i)))
abbrev geD : O2 := onV (int2 (fun _ _ => true) fun i j => .bl (decide (j ≤ i)))
theorem op_ltD : OpR X (compareOp .Lt) (rOf X.K ltD) := op_int0 op_lt fun _ _ _ _ => .bl _
theorem op_leD : OpR X (compareOp .LtE) (rOf X.K leD) := op_int0 op_le fun _ _ _ _ => .bl _
theorem op_gtD : OpR X (compareOp .Gt) (rOf X.K gtD) := op_int0 op_gt fun _ _ _ _ => .bl _
theorem op_geD : OpR X (compareOp .GtE) (rOf X.K geD) := op_int0 op_ge fun _ _ _ _ => .bl _
end

/-! ### == -/
mutual
def D.py : D → PyData
  | .non => .none
  | .bl b => .bool b
  | .int i => .int i
  | .str x => .str x
  | .tup xs => .tuple (D.pyL xs)
  | .lst xs => .list (D.pyL xs)
  | .dct _ => .dict []
  | .ty _ => .dict []
def D.pyL : List D → List PyData
  | [] => []
  | x :: xs => x.py :: D.pyL xs
end
/-- the tree that a value is now -/
def deref (st : Sto) : W → D
  | .v d => d
  | .r l => match st[l]? with
    | some (.lst ds) => .lst ds
    | _ => .dct []
section
variable {K : PySem.W.Frag} {ρ : Rho} {H : Hp}
mutual
theorem Rl.dp : ∀ {v : V} {d : D}, Rl K ρ H v d → d.py.canLay0 = true → Dp K H v d.py
  | _, _, .non, _ => .non
  | _, _, .bl b, _ => .bl b
  | _, _, .int i, _ => .int i
  | _, _, .str x, _ => .str x
  | _, _, .ty n, h => by simp [D.py, PyData.canLay0] at h
  | _, _, .tup h n r, c => by
    simp only [D.py]
    exact .tup (.of h) (RlAll.dp r (by simpa [D.py, PyData.canLay0] using c))
  | _, _, .lst h r, c => by
    simp only [D.py]
    exact .lst h.sql (RlAll.dp r (by simpa [D.py, PyData.canLay0] using c))
  | _, _, .dct0 h n, c => by simp [D.py, PyData.canLay0] at c
theorem RlAll.dp : ∀ {vs : List V} {ds : List D}, RlAll K ρ H vs ds → PyData.canLayAll0 (D.pyL ds) = true → DpAll K H vs (D.pyL ds)
  | _, _, .nil, _ => .nil
  | _, _, .cons r t, c => by
    simp only [D.pyL, PyData.canLayAll0, Bool.and_eq_true] at c
    exact .cons (Rl.dp r c.1) (RlAll.dp t c.2)
end
theorem deref_dp {st : Sto} {v : V} {d : W} (s : RelSt K ρ H st) (r : Rw K ρ H v d) (c : SeqAt.shaped (deref st d).py = true) : Dp K H v (deref st d).py := by
  have c := SeqAt.canLay_of_shaped c
  cases d with
  | v d => cases r with | v r => exact r.dp c
  | r l =>
    simp only [deref] at c ⊢
    cases e : st[l]? with
    | none => simp [e, D.py, PyData.canLay0] at c
    | some ob =>
      cases ob with
      | lst ds =>
        simp only [e] at c ⊢
        obtain ⟨a, xs, rfl, h1, h2⟩ := lst_of s r (d := .r l) (ds := ds) (by simp only [asLst, e])
        simp only [D.py] at c ⊢
        exact .lst h1 (h2.dp (by simpa [PyData.canLay0] using c))
      | dead => simp [e, D.py, PyData.canLay0] at c
      | dct kvs => simp [e, D.py, PyData.canLay0] at c
      | kd hf kvs => simp [e, D.py, PyData.canLay0] at c
end
def eqD : O2 := fun st a b => if SeqAt.shaped (deref st a).py && SeqAt.shaped (deref st b).py then some (.bl (PyData.eqv (deref st a).py (deref st b).py)) else none
def neD : O2 := fun st a b => if SeqAt.shaped (deref st a).py && SeqAt.shaped (deref st b).py then some (.bl (!PyData.eqv (deref st a).py (deref st b).py)) else none
section
variable {X : Cx}
theorem op_eqDD (hu : X.A.units + 64 < cLine) : OpR X (compareOp .Eq) (rOf X.K eqD) := by
  intro pins s σ H x y v u Q I rx ry h
  obtain ⟨ρ, st, d1, d2, d, rs, r1, r2, e, q⟩ := h
  unfold eqD at e
  split at e
  · rename_i c
    rw [Bool.and_eq_true] at c
    cases e
    exact op_eqD hu pins s σ H _ _ v u Q I rx ry ⟨_, _, deref_dp rs r1 c.1, deref_dp rs r2 c.2, c.1, c.2, q _ _ (.refl _) (.bl _)⟩
  · cases e
theorem op_neDD (hu : X.A.units + 64 < cLine) : OpR X (compareOp .NotEq) (rOf X.K neD) := by
  intro pins s σ H x y v u Q I rx ry h
  obtain ⟨ρ, st, d1, d2, d, rs, r1, r2, e, q⟩ := h
  unfold neD at e
  split at e
  · rename_i c
    rw [Bool.and_eq_true] at c
    cases e
    exact op_neD hu pins s σ H _ _ v u Q I rx ry ⟨_, _, deref_dp rs r1 c.1, deref_dp rs r2 c.2, c.1, c.2, q _ _ (.refl _) (.bl _)⟩
  · cases e
end

/-! ### is -/
def D.isNon : D → Bool
  | .non => true
  | _ => false
def D.isBl (b : Bool) : D → Bool
  | .bl c => c == b
  | _ => false
def isT : T2 := fun a b => match b with
  | .non => some (.bl a.isNon)
  | .bl c => some (.bl (a.isBl c))
  | _ => none
def isNotT : T2 := fun a b => match b with
  | .non => some (.bl (!a.isNon))
  | .bl c => some (.bl (!a.isBl c))
  | _ => none
abbrev isD : O2 := onV isT
abbrev isNotD : O2 := onV isNotT
theorem isNon_of {K : PySem.W.Frag} {ρ : Rho} {H : Hp} {v : V} {d : D} (r : Rl K ρ H v d) : decide (v = .non) = d.isNon := by
  cases r <;> first | rfl | simp [D.isNon]
theorem isBl_of {K : PySem.W.Frag} {ρ : Rho} {H : Hp} {v : V} {d : D} {b : Bool} (r : Rl K ρ H v d) : decide (v = .bl b) = d.isBl b := by
  cases r <;> first | (simp [D.isBl]; done) | (rename_i c; cases b <;> cases c <;> rfl)
section
variable {X : Cx}
theorem plainBool (v : Value) (b : Bool) (x : V) (r : RelV x v) : plainIs v (.bool b) = true := by
  cases x with
  | non => cases r; rfl
  | bl _ => cases r; rfl
  | int _ => obtain ⟨t, rfl⟩ := r; rfl
  | str _ => obtain ⟨t, rfl⟩ := r; rfl
  | byt _ => obtain ⟨t, rfl⟩ := r; rfl
  | flt _ => obtain ⟨t, rfl⟩ := r; rfl
  | ref _ => cases r; rfl
  | ty _ => cases r; rfl
theorem op_isDD : OpR X (compareOp .Is) (rOf X.K isD) := OpR.v <| by
  intro pins s σ H x y v u Q I rx ry h
  obtain ⟨ρ, st, d1, d2, d, rs, r1, r2, e, q⟩ := h
  unfold isT at e
  split at e
  · cases e
    cases r2
    exact op_isN pins s σ H _ _ v u Q I rx ry ⟨rfl, by rw [isNon_of r1]; exact q _ _ (.refl _) (.bl _)⟩
  · rename_i c
    cases e
    cases r2
    cases ry
    by_cases hx : x = .bl c
    · subst hx
      cases rx
      have q' : d1.isBl c = true := by rw [← isBl_of r1]; simp
      exact wpAny_is_self rfl ⟨.bl true, H, I, rfl, by have := q H (.bl (d1.isBl c)) (.refl _) (.bl _); rw [q'] at this; exact this⟩
    · have q' : d1.isBl c = false := by rw [← isBl_of r1]; simp [hx]
      refine wpAny_is_other (plainBool v c x rx) (fun z => hx ?_) ⟨.bl false, H, I, rfl, by have := q H (.bl (d1.isBl c)) (.refl _) (.bl _); rw [q'] at this; exact this⟩
      subst z
      exact rx.inj rfl
  · cases e
theorem op_isNotDD : OpR X (compareOp .IsNot) (rOf X.K isNotD) := OpR.v <| by
  intro pins s σ H x y v u Q I rx ry h
  obtain ⟨ρ, st, d1, d2, d, rs, r1, r2, e, q⟩ := h
  unfold isNotT at e
  split at e
  · cases e
    cases r2
    exact op_notN pins s σ H _ _ v u Q I rx ry ⟨rfl, by rw [isNon_of r1]; exact q _ _ (.refl _) (.bl _)⟩
  · rename_i c
    cases e
    cases r2
    cases ry
    by_cases hx : x = .bl c
    · subst hx
      cases rx
      have q' : d1.isBl c = true := by rw [← isBl_of r1]; simp
      exact wpAny_isNot_self rfl ⟨.bl false, H, I, rfl, by have := q H (.bl (!d1.isBl c)) (.refl _) (.bl _); rw [q'] at this; exact this⟩
    · have q' : d1.isBl c = false := by rw [← isBl_of r1]; simp [hx]
      refine wpAny_isNot_other (plainBool v c x rx) (fun z => hx ?_) ⟨.bl true, H, I, rfl, by have := q H (.bl (!d1.isBl c)) (.refl _) (.bl _); rw [q'] at this; exact this⟩
      subst z
      exact rx.inj rfl
  · cases e
/-! ### in -/
/-- one sign in a text; a value in a list -/
def inD : O2
  | _, .v (.str x), .v (.str z) => match x.cps.toList with
    | [c] => some (.bl (decide (c ∈ z.cps.toList)))
    | _ => none
  | st, .v a, b => match asLst st b with
    | some ds => if SeqAt.shaped a.py && SeqAt.shaped (.list (D.pyL ds)) then some (.bl ((D.pyL ds).any fun z => PyData.eqv z a.py)) else none
    | none => none
  | _, _, _ => none
def notInD : O2 := fun st a b => match inD st a b with
  | some (.bl c) => some (.bl (!c))
  | _ => none
theorem toList_one {x : Str} {c : Nat} (h : x.cps.toList = [c]) : x = ⟨#[c]⟩ := by
  obtain ⟨⟨l⟩⟩ := x
  simp only at h
  subst h
  rfl
theorem op_inDD (hu : X.A.units + 65 < cLine) : OpR X (compareOp .In) (rOf X.K inD) := by
  intro pins s σ H x y v u Q I rx ry h
  obtain ⟨ρ, st, d1, d2, d, rs, r1, r2, e, q⟩ := h
  unfold inD at e
  split at e
  · split at e
    · rename_i c hc
      cases e
      cases r1 with | v r1 => cases r2 with | v r2 => cases r1; cases r2; exact op_in_sign pins s σ H _ _ v u Q I rx ry ⟨c, _, by rw [toList_one hc], rfl, q _ _ (.refl _) (.bl _)⟩
    · cases e
  · split at e
    · rename_i ds hds
      split at e
      · rename_i c
        rw [Bool.and_eq_true] at c
        cases e
        obtain ⟨a, xs, rfl, h1, h2⟩ := lst_of rs r2 hds
        cases r1 with | v r1 => exact op_inD hu pins s σ H _ _ v u Q I rx ry ⟨_, _, r1.dp (SeqAt.canLay_of_shaped c.1), .lst h1 (h2.dp (by simpa [PyData.canLay0] using SeqAt.canLay_of_shaped c.2)), c.1, c.2, q _ _ (.refl _) (.bl _)⟩
      · cases e
    · cases e
  · cases e
theorem op_notInDD (hu : X.A.units + 65 < cLine) : OpR X (compareOp .NotIn) (rOf X.K notInD) := by
  intro pins s σ H x y v u Q I rx ry h
  obtain ⟨ρ, st, d1, d2, d, rs, r1, r2, e, q⟩ := h
  unfold notInD at e
  split at e
  rotate_left
  · cases e
  rename_i c0 e0
  cases e
  unfold inD at e0
  split at e0
  · split at e0
    · rename_i c hc
      cases e0
      cases r1 with | v r1 => cases r2 with | v r2 => cases r1; cases r2; exact op_notIn_sign pins s σ H _ _ v u Q I rx ry ⟨c, _, by rw [toList_one hc], rfl, q _ _ (.refl _) (.bl _)⟩
    · cases e0
  · split at e0
    · rename_i ds hds
      split at e0
      · rename_i c
        rw [Bool.and_eq_true] at c
        cases e0
        obtain ⟨a, xs, rfl, h1, h2⟩ := lst_of rs r2 hds
        cases r1 with | v r1 => exact op_notInD hu pins s σ H _ _ v u Q I rx ry ⟨_, _, r1.dp (SeqAt.canLay_of_shaped c.1), .lst h1 (h2.dp (by simpa [PyData.canLay0] using SeqAt.canLay_of_shaped c.2)), c.1, c.2, q _ _ (.refl _) (.bl _)⟩
      · cases e0
    · cases e0
  · cases e0
end
end Jv
end
section
namespace Jv
open PySem L2 PyProof.Rows

/-! ### tests -/
def tVal (f : ED) : BD := fun env st => (f env st).bind fun d st => match d with
  | .v (.bl b) => .ok b st
  | _ => .bad
def bNot (f : BD) : BD := fun env st => (f env st).bind fun b st => .ok (!b) st
def bAnd (f g : BD) : BD := fun env st => (f env st).bind fun b st => if b then g env st else .ok false st
def bOr (f g : BD) : BD := fun env st => (f env st).bind fun b st => if b then .ok true st else g env st
def eIf (c : BD) (f g : ED) : ED := fun env st => (c env st).bind fun b st => if b then f env st else g env st
def eNot (f : ED) : ED := fun env st => (f env st).bind fun d st => match d with
  | .v (.bl b) => .ok (.v (.bl (!b))) st
  | _ => .bad
def eAnd (f g : ED) : ED := fun env st => (f env st).bind fun d st => match d with
  | .v (.bl true) => g env st
  | .v (.bl false) => .ok (.v (.bl false)) st
  | _ => .bad
def eOr (f g : ED) : ED := fun env st => (f env st).bind fun d st => match d with
  | .v (.bl true) => .ok (.v (.bl true)) st
  | .v (.bl false) => g env st
  | _ => .bad
def eChain (g g' : O2) (f1 f2 f3 : ED) : ED := fun env st => (f1 env st).bind fun a st => (f2 env st).bind fun b st => match g st a b with
  | some (.bl true) => (f3 env st).bind fun c st => ofOp st (g' st b c)
  | some (.bl false) => .ok (.v (.bl false)) st
  | _ => .bad
section
variable {X : Cx} {ct : Nat → Value} {E : St → XK} {a b c : Expr} {fa fb fc : ED} {ta tb : BD} {pos : Pos} {rest : List Expr}
theorem rl_bl {K : PySem.W.Frag} {ρ : Rho} {H : Hp} {v : V} {b : Bool} (r : Rw K ρ H v (.v (.bl b))) : v = .bl b := by cases r with | v r => cases r; rfl
theorem rl_bl' {K : PySem.W.Frag} {ρ : Rho} {H : Hp} {v : V} {b : Bool} (r : Rl K ρ H v (.bl b)) : v = .bl b := by cases r; rfl
theorem val_read {K : PySem.W.Frag} {σ : St} {H : Hp} {Q : Bool → Hp → Prop} (h : tT K ct E (tVal fa) σ H Q) : tB (tE K ct E fa) σ H Q := by
  refine (tG.bind (rel := Rw) (k := fun d _ st => match d with | .v (.bl b) => R.ok b st | _ => R.bad) h).mono fun v H1 ⟨ρ1, st1, env, d, a1, r1, q1⟩ => ?_
  cases d with
  | r l => exact q1.elim
  | v d =>
  cases d with
  | bl k => cases rl_bl r1; exact ⟨k, rfl, q1.here a1.1 rfl⟩
  | _ => exact q1.elim
theorem dt_val (h : PE X a (tE X.K ct E fa)) (he : ∀ whole, isTrue a X.env whole = (do let v ← whole; standAt a.pos; holding [v] (truthy v)) := by intro _; rfl) : PT X a (tT X.K ct E (tVal fa)) :=
  PT.of (pt_val h he) fun σ H Q q => val_read q
theorem dt_not (h : PT X a (tT X.K ct E ta)) : PT X (.UnaryOp .Not a pos) (tT X.K ct E (bNot ta)) := PT.of (pt_not h) fun σ H Q q => by
  refine (tG.bind (rel := RlB) (k := fun b _ st => R.ok (!b) st) q).mono fun v H1 ⟨ρ1, st1, env, d, a1, r1, q1⟩ => ?_
  cases r1
  exact q1.here a1.1 rfl
theorem dw_and1 (h : PT X a (tT X.K ct E ta)) : PW X (.BoolOp .And [a] pos) (tT X.K ct E ta) := pw_and1 h
theorem dw_or1 (h : PT X a (tT X.K ct E ta)) : PW X (.BoolOp .Or [a] pos) (tT X.K ct E ta) := pw_or1 h
theorem dw_and (ha : PT X a (tT X.K ct E ta)) (hb : PW X (.BoolOp .And (b :: rest) pos) (tT X.K ct E tb)) : PW X (.BoolOp .And (a :: b :: rest) pos) (tT X.K ct E (bAnd ta tb)) := PW.of (pw_and ha hb) fun σ H Q q => by
  refine (tG.bind (rel := RlB) (k := fun b env st => if b then tb env st else R.ok false st) q).mono fun v H1 ⟨ρ1, st1, env, d, a1, r1, q1⟩ => ?_
  cases r1
  cases v with
  | true => simp only [if_true] at q1 ⊢; exact ⟨ρ1, st1, env, a1, q1⟩
  | false => simp only [Bool.false_eq_true, if_false] at q1 ⊢; exact q1.here a1.1 rfl
theorem dw_or (ha : PT X a (tT X.K ct E ta)) (hb : PW X (.BoolOp .Or (b :: rest) pos) (tT X.K ct E tb)) : PW X (.BoolOp .Or (a :: b :: rest) pos) (tT X.K ct E (bOr ta tb)) := PW.of (pw_or ha hb) fun σ H Q q => by
  refine (tG.bind (rel := RlB) (k := fun b env st => if b then R.ok true st else tb env st) q).mono fun v H1 ⟨ρ1, st1, env, d, a1, r1, q1⟩ => ?_
  cases r1
  cases v with
  | true => simp only [if_true] at q1 ⊢; exact q1.here a1.1 rfl
  | false => simp only [Bool.false_eq_true, if_false] at q1 ⊢; exact ⟨ρ1, st1, env, a1, q1⟩
theorem de_if (hc : PT X c (tT X.K ct E ta)) (ha : PE X a (tE X.K ct E fa)) (hb : PE X b (tE X.K ct E fb)) : PE X (.IfExp c a b pos) (tE X.K ct E (eIf ta fa fb)) := PE.of (pe_ifExp hc ha hb) fun σ H Q q => by
  refine (tG.bind (rel := RlB) (k := fun b env st => if b then fa env st else fb env st) q).mono fun v H1 ⟨ρ1, st1, env, d, a1, r1, q1⟩ => ?_
  cases r1
  cases v with
  | true => simp only [if_true] at q1 ⊢; exact ⟨ρ1, st1, env, a1, q1⟩
  | false => simp only [Bool.false_eq_true, if_false] at q1 ⊢; exact ⟨ρ1, st1, env, a1, q1⟩
theorem de_not (h : PE X a (tE X.K ct E fa)) : PE X (.UnaryOp .Not a pos) (tE X.K ct E (eNot fa)) := PE.of (pe_not h) fun σ H Q q => by
  refine (tG.bind (rel := Rw) (k := fun d _ st => match d with | .v (.bl b) => R.ok (W.v (D.bl (!b))) st | _ => R.bad) q).mono fun v H1 ⟨ρ1, st1, env, d, a1, r1, q1⟩ => ?_
  cases d with
  | r l => exact q1.elim
  | v d =>
  cases d with
  | bl k => cases rl_bl r1; exact ⟨k, rfl, q1.here a1.1 (.v (.bl _))⟩
  | _ => exact q1.elim
theorem de_one {op : BoolOp} (h : PE X a (tE X.K ct E fa)) : PE X (.BoolOp op [a] pos) (tE X.K ct E fa) := pe_one h
theorem de_and (ha : PE X a (tE X.K ct E fa)) (hb : PE X (.BoolOp .And (b :: rest) pos) (tE X.K ct E fb)) : PE X (.BoolOp .And (a :: b :: rest) pos) (tE X.K ct E (eAnd fa fb)) := PE.of (pe_and ha hb) fun σ H Q q => by
  refine (tG.bind (rel := Rw) (k := fun d env st => match d with | .v (.bl true) => fb env st | .v (.bl false) => R.ok (W.v (D.bl false)) st | _ => R.bad) q).mono fun v H1 ⟨ρ1, st1, env, d, a1, r1, q1⟩ => ?_
  cases d with
  | r l => exact q1.elim
  | v d =>
  cases d with
  | bl k =>
    cases rl_bl r1
    refine ⟨k, rfl, ?_⟩
    cases k with
    | true => simp only [if_true] at q1 ⊢; exact ⟨ρ1, st1, env, a1, q1⟩
    | false => simp only [Bool.false_eq_true, if_false] at q1 ⊢; exact q1.here a1.1 (.v (.bl _))
  | _ => exact q1.elim
theorem de_or (ha : PE X a (tE X.K ct E fa)) (hb : PE X (.BoolOp .Or (b :: rest) pos) (tE X.K ct E fb)) : PE X (.BoolOp .Or (a :: b :: rest) pos) (tE X.K ct E (eOr fa fb)) := PE.of (pe_or ha hb) fun σ H Q q => by
  refine (tG.bind (rel := Rw) (k := fun d env st => match d with | .v (.bl true) => R.ok (W.v (D.bl true)) st | .v (.bl false) => fb env st | _ => R.bad) q).mono fun v H1 ⟨ρ1, st1, env, d, a1, r1, q1⟩ => ?_
  cases d with
  | r l => exact q1.elim
  | v d =>
  cases d with
  | bl k =>
    cases rl_bl r1
    refine ⟨k, rfl, ?_⟩
    cases k with
    | true => simp only [if_true] at q1 ⊢; exact q1.here a1.1 (.v (.bl _))
    | false => simp only [Bool.false_eq_true, if_false] at q1 ⊢; exact ⟨ρ1, st1, env, a1, q1⟩
  | _ => exact q1.elim
theorem chain_read {K : PySem.W.Frag} {g g' : O2} {σ : St} {H : Hp} {Q : VK} (h : tE K ct E (eChain g g' fa fb fc) σ H Q) : tChain (rOf K g) (rOf K g') (tE K ct E fa) (tE K ct E fb) (tE K ct E fc) σ H Q := by
  refine (tG.bind (rel := Rw) (k := fun a env st => (fb env st).bind fun b st => match g st a b with
    | some (.bl true) => (fc env st).bind fun c st => ofOp st (g' st b c)
    | some (.bl false) => R.ok (W.v (D.bl false)) st
    | _ => R.bad) h).mono fun v H1 ⟨ρ1, st1, env, d1, a1, r1, q1⟩ => ?_
  refine ⟨ρ1, st1, env, a1, (okG.bind (rel := Rw) q1 a1.2).mono fun u H2 ⟨ρ2, st2, d2, a2, g2, r2, q2⟩ => ?_⟩
  cases e : g st2 d1 d2 with
  | none => rw [e] at q2; exact q2.elim
  | some d =>
    rw [e] at q2
    refine ⟨ρ2, st2, d1, d2, d, a2.1, r1.grow g2, r2, e, fun H3 w s r => ?_⟩
    cases d with
    | bl k =>
      cases rl_bl' r
      refine ⟨k, rfl, ?_⟩
      cases k with
      | false =>
        simp only [Bool.false_eq_true, if_false] at q2 ⊢
        exact okG.up q2 a2.1 s (.v (.bl _))
      | true =>
        simp only [if_true] at q2 ⊢
        have a3 : At K ρ2 H3 st2 σ env := ⟨a2.1.same s, a2.2.grow (.same s)⟩
        have q3 := okG.grow (.same s) q2
        refine ⟨ρ2, st2, env, a3, (okG.bind (rel := Rw) q3 a3.2).mono fun u3 H4 ⟨ρ4, st4, d4, a4, g4, r4, q4⟩ => ?_⟩
        cases e4 : g' st4 d2 d4 with
        | none => rw [e4] at q4; exact q4.elim
        | some d5 =>
          rw [e4] at q4
          exact ⟨ρ4, st4, d2, d4, d5, a4.1, (r2.same s).grow g4, r4, e4, fun H' w' s' r' => okG.up q4 a4.1 s' (.v r')⟩
    | _ => exact q2.elim
theorem de_chain {op op' : CmpOp} {g g' : O2} (ho : OpR X (compareOp op) (rOf X.K g)) (ho' : OpR X (compareOp op') (rOf X.K g')) (ha : PE X a (tE X.K ct E fa)) (hb : PE X b (tE X.K ct E fb)) (hc : PE X c (tE X.K ct E fc))
    (hm : lastMarks [op, op'] [b, c] = false := by with_unfolding_all rfl) : PE X (.Compare a [op, op'] [b, c] pos) (tE X.K ct E (eChain g g' fa fb fc)) :=
  PE.of (pe_chain ho ho' ha hb hc hm) fun σ H Q q => chain_read q
theorem tTest_of {K : PySem.W.Frag} {t : TE} {σ : St} {H : Hp} {Q : Bool → Hp → Prop} (h : tB t σ H Q) (f : ∀ Q Q' : VK, (∀ v H, Q v H → Q' v H) → t σ H Q → t σ H Q') : tTest t σ H Q := by
  refine f _ _ ?_ h
  intro v H ⟨c, e, q⟩
  exact ⟨c, e, q⟩
theorem dt_cmp {op : CmpOp} {g : O2} (ho : OpR X (compareOp op) (rOf X.K g)) (ha : PE X a (tE X.K ct E fa)) (hb : PE X b (tE X.K ct E fb)) (hm : behindInMarks op b = false := by first | exact nomark _ | rfl) : PT X (.Compare a [op] [b] pos) (tT X.K ct E (tVal (eBin g fa fb))) :=
  PT.of (pt_cmpR ho ha hb hm) fun σ H Q q => by
    have h := val_read q
    exact two_read (h.mono fun v H ⟨c, e, q⟩ => ⟨c, e, q⟩)
theorem dt_chain {op op' : CmpOp} {g g' : O2} (ho : OpR X (compareOp op) (rOf X.K g)) (ho' : OpR X (compareOp op') (rOf X.K g')) (ha : PE X a (tE X.K ct E fa)) (hb : PE X b (tE X.K ct E fb)) (hc : PE X c (tE X.K ct E fc))
    (hm : lastMarks [op, op'] [b, c] = false := by with_unfolding_all rfl) : PT X (.Compare a [op, op'] [b, c] pos) (tT X.K ct E (tVal (eChain g g' fa fb fc))) :=
  PT.of (pt_chain ho ho' ha hb hc hm) fun σ H Q q => by
    have h := val_read q
    exact chain_read (h.mono fun v H ⟨c, e, q⟩ => ⟨c, e, q⟩)
end

/-! ### arguments -/
def aNil : AD := fun _ st => .ok [] st
def aCons (f : ED) (g : AD) : AD := fun env st => (f env st).bind fun d st => (g env st).bind fun ds st => .ok (d :: ds) st
section
variable {X : Cx} {ct : Nat → Value} {E : St → XK} {e : Expr} {es : List Expr} {f : ED} {g : AD}
theorem da_nil : PA X [] (tA X.K ct E aNil) := PA.of pa_nil fun σ H Q ⟨ρ, st, env, a, h⟩ => h.here a.1 .nil
theorem da_cons (ha : PE X e (tE X.K ct E f)) (hr : PA X es (tA X.K ct E g)) (hs : starEach (e :: es) X.env = (false, eval e X.env) :: starEach es X.env := by rfl) : PA X (e :: es) (tA X.K ct E (aCons f g)) :=
  PA.of (pa_cons ha hr hs) fun σ H Q q => by
    refine (tG.bind (rel := Rw) (k := fun d env st => (g env st).bind fun ds st => R.ok (d :: ds) st) q).mono fun v H1 ⟨ρ1, st1, env, d, a1, r1, q1⟩ => ?_
    exact ⟨ρ1, st1, env, a1, (okG.bind (rel := RwAll) q1 a1.2).mono fun u H2 ⟨ρ2, st2, d2, a2, g2, r2, q2⟩ => q2.here a2.1 (.cons (r1.grow g2) r2)⟩
end

/-! ### tuples, lists that come anew -/
def eTup (f : AD) : ED := fun env st => (f env st).bind fun ws st => match allV ws with
  | some ds => if ds.length ≤ 100000 then .ok (.v (.tup ds)) st else .bad
  | none => .bad
/-- a new list -/
def okF (K : PySem.W.Frag) (ct : Nat → Value) (ρ : Rho) (H : Hp) (E : XK) (Q : VK) : R (List D) → Prop
  | .ok ds st' => ∀ ρ' H' p xs, Grow ρ H ρ' H' → RelSt K ρ' H' st' → H' p = none → RlAll K ρ' H' xs ds → Q (.ref p) (upd H' p (.lst xs))
  | .exc x st' => ∀ ρ' H' cv od, Grow ρ H ρ' H' → RelSt K ρ' H' st' → XRl K ct ρ' H' cv od x → E cv od H'
  | .bad => False
def tF (K : PySem.W.Frag) (ct : Nat → Value) (E : St → XK) (f : LD) : TE := fun σ H Q => ∃ ρ st env, At K ρ H st σ env ∧ okF K ct ρ H (E σ) Q (f env st)
def eLst (f : LD) : ED := fun env st => (f env st).bind fun ds st => .ok (.v (.lst ds)) st
/-- .. as an object that changes -/
def eNew (f : LD) : ED := fun env st => (f env st).bind fun ds st => .ok (.r st.length) (st ++ [.lst ds])
/-- an object that changed is given up: a list as it stands -/
def frz (d : W) (st : Sto) : R W := match d with
  | .r l => match st[l]? with
    | some (.lst ds) => .ok (.v (.lst ds)) (st.set l .dead)
    | _ => .bad
  | d => .ok d st
def eFrz (f : ED) : ED := fun env st => (f env st).bind frz
section
variable {K : PySem.W.Frag} {ρ : Rho} {H : Hp} {st : Sto}
def Rho.push (ρ : Rho) (p : Addr) : Rho := ⟨ρ.lc ++ [some p], ρ.hid⟩
theorem Grow.push {p : Addr} {o : HO} (hp : H p = none) : Grow ρ H (ρ.push p) (upd H p o) := by
  refine ⟨by simp [Rho.push], rfl, fun l a hl e => ?_, fun a u e n => ⟨by rw [upd_ne (ne_of_none e hp)]; exact e, fun z => ?_⟩⟩
  · simpa [Rho.push, List.getElem?_append_left hl] using e
  · rcases List.mem_append.mp z with z | z
    · exact n z
    · have := List.mem_singleton.mp z
      cases this
      exact ne_of_none e hp rfl
theorem RelSt.push {p : Addr} {xs : List V} {ds : List D} (s : RelSt K ρ H st) (hp : H p = none) (r : RlAll K ρ H xs ds) : RelSt K (ρ.push p) (upd H p (.lst xs)) (st ++ [.lst ds]) := by
  have hf := s.fresh hp
  have g : Grow ρ H (ρ.push p) (upd H p (.lst xs)) := .push hp
  refine ⟨by simp [Rho.push, s.len], fun l l' a e1 e2 => ?_, fun l ob e => ?_, fun a h => ?_, fun a h z => ?_, fun l ob e => ?_⟩
  · simp only [Rho.push] at e1 e2
    by_cases h1 : l < ρ.lc.length
    · rw [List.getElem?_append_left h1] at e1
      by_cases h2 : l' < ρ.lc.length
      · rw [List.getElem?_append_left h2] at e2
        exact s.inj l l' a e1 e2
      · rw [List.getElem?_append_right (by omega)] at e2
        have : a = p := by
          cases q : l' - ρ.lc.length with
          | zero => rw [q] at e2; simp at e2; exact e2.symm
          | succ n => rw [q] at e2; simp at e2
        subst this
        exact absurd (.inl (List.mem_of_getElem? e1)) hf
    · rw [List.getElem?_append_right (by omega)] at e1
      have : a = p := by
        cases q : l - ρ.lc.length with
        | zero => rw [q] at e1; simp at e1; exact e1.symm
        | succ n => rw [q] at e1; simp at e1
      subst this
      by_cases h2 : l' < ρ.lc.length
      · rw [List.getElem?_append_left h2] at e2
        exact absurd (.inl (List.mem_of_getElem? e2)) hf
      · rw [List.getElem?_append_right (by omega)] at e2
        have q1 : l - ρ.lc.length = 0 := by
          cases q : l - ρ.lc.length with
          | zero => rfl
          | succ n => rw [q] at e1; simp at e1
        have q2 : l' - ρ.lc.length = 0 := by
          cases q : l' - ρ.lc.length with
          | zero => rfl
          | succ n => rw [q] at e2; simp at e2
        omega
  · by_cases h1 : l < st.length
    · rw [List.getElem?_append_left h1] at e
      rcases s.obj l ob e with ⟨z, q⟩ | ⟨a, q, o⟩
      · exact .inl ⟨z, by simp only [Rho.push]; rw [List.getElem?_append_left (by rw [s.len]; exact h1)]; exact q⟩
      · refine .inr ⟨a, by simp only [Rho.push]; rw [List.getElem?_append_left (by rw [s.len]; exact h1)]; exact q, ?_⟩
        obtain ⟨u, hu⟩ := s.there (List.mem_of_getElem? q)
        exact o.mono (fun _ z => by rw [upd_ne (ne_of_none z hp)]; exact z) (fun _ _ z => z.grow g) fun _ _ z => z.grow g
    · rw [List.getElem?_append_right (by omega)] at e
      have q1 : l - st.length = 0 := by
        cases q : l - st.length with
        | zero => rfl
        | succ n => rw [q] at e; simp at e
      have : l = st.length := by omega
      subst this
      simp at e
      subst e
      exact .inr ⟨p, by simp only [Rho.push]; rw [← s.len]; simp, xs, upd_same, r.grow g⟩
  · obtain ⟨o, q⟩ := s.hidt a h
    exact ⟨o, by rw [upd_ne (ne_of_none q hp)]; exact q⟩
  · rcases List.mem_append.mp h with h | h
    · exact s.apart a h z
    · have := List.mem_singleton.mp h
      cases this
      exact hf (.inr z)
  · by_cases h1 : l < st.length
    · rw [List.getElem?_append_left h1] at e
      exact s.ord l ob e
    · rw [List.getElem?_append_right (by omega)] at e
      have e := List.mem_of_getElem? e
      rw [List.mem_singleton] at e
      subst e
      exact trivial
def Rho.drop (ρ : Rho) (l : Nat) : Rho := ⟨ρ.lc.set l none, ρ.hid⟩
theorem Grow.drop {l : Nat} : Grow ρ H (ρ.drop l) H := by
  refine ⟨by simp [Rho.drop], rfl, fun i a hi e => ?_, fun a o e n => ⟨e, fun z => n ?_⟩⟩
  · simp only [Rho.drop] at e
    by_cases h : l = i
    · subst h
      rw [List.getElem?_set_self hi] at e; cases e
    · rw [List.getElem?_set_ne h] at e; exact e
  · simp only [Rho.drop] at z
    obtain ⟨i, hi, e⟩ := List.getElem_of_mem z
    have e' : (ρ.lc.set l none)[i]? = some (some a) := by rw [List.getElem?_eq_getElem hi, e]
    by_cases h : l = i
    · subst h
      rw [List.getElem?_set_self (by simpa using hi)] at e'; cases e'
    · rw [List.getElem?_set_ne h] at e'; exact List.mem_of_getElem? e'
theorem RelSt.drop {l : Nat} (s : RelSt K ρ H st) : RelSt K (ρ.drop l) H (st.set l .dead) := by
  refine ⟨by simp [Rho.drop, s.len], fun i j a e1 e2 => ?_, fun i ob e => ?_, s.hidt, fun a h => s.apart a ?_, fun i ob e => ?_⟩
  · have f : ∀ i, (ρ.lc.set l none)[i]? = some (some a) → ρ.lc[i]? = some (some a) := fun i e => by
      by_cases h : l = i
      · subst h
        by_cases hi : l < ρ.lc.length
        · rw [List.getElem?_set_self hi] at e; cases e
        · rw [List.getElem?_eq_none (by simpa using hi)] at e; cases e
      · rw [List.getElem?_set_ne h] at e; exact e
    exact s.inj i j a (f i e1) (f j e2)
  · by_cases h : l = i
    · subst h
      by_cases hi : l < st.length
      · rw [List.getElem?_set_self hi] at e
        cases e
        exact .inl ⟨rfl, by simp only [Rho.drop]; rw [List.getElem?_set_self (by rw [s.len]; exact hi)]⟩
      · rw [List.getElem?_eq_none (by simpa using hi)] at e; cases e
    · rw [List.getElem?_set_ne h] at e
      rcases s.obj i ob e with ⟨z, q⟩ | ⟨a, q, o⟩
      · exact .inl ⟨z, by simp only [Rho.drop]; rw [List.getElem?_set_ne h]; exact q⟩
      · exact .inr ⟨a, by simp only [Rho.drop]; rw [List.getElem?_set_ne h]; exact q, o.mono (fun _ z => z) (fun _ _ z => z.grow .drop) fun _ _ z => z.grow .drop⟩
  · obtain ⟨i, hi, e⟩ := List.getElem_of_mem (show some a ∈ ρ.lc.set l none from h)
    have e' : (ρ.lc.set l none)[i]? = some (some a) := by rw [List.getElem?_eq_getElem hi, e]
    by_cases h : l = i
    · subst h
      rw [List.getElem?_set_self (by simpa using hi)] at e'; cases e'
    · rw [List.getElem?_set_ne h] at e'; exact List.mem_of_getElem? e'
  · by_cases h : l = i
    · subst h
      by_cases hi : l < st.length
      · rw [List.getElem?_set_self hi] at e
        cases e
        exact trivial
      · rw [List.getElem?_eq_none (by simpa using hi)] at e; cases e
    · rw [List.getElem?_set_ne h] at e
      exact s.ord i ob e
end
section
variable {X : Cx} {ct : Nat → Value} {E : St → XK} {e : Expr} {es : List Expr} {f : ED} {g : AD} {gl : LD}
theorem de_tup {x1 pos} (h : PA X es (tA X.K ct E g)) : PE X (.Tuple es x1 pos) (tE X.K ct E (eTup g)) := PE.of (pe_tup h) fun σ H Q q => by
  refine (tG.bind (rel := RwAll) (k := fun ws env st => match allV ws with | some ds => if ds.length ≤ 100000 then R.ok (W.v (D.tup ds)) st else R.bad | none => R.bad) q).mono fun v H1 ⟨ρ1, st1, env, ws, a1, r1, q1⟩ => ?_
  cases ew : allV ws with
  | none => simp only [ew] at q1; exact q1.elim
  | some ds =>
    simp only [ew] at q1
    have r2 := r1.trees ew
    split at q1
    · rename_i hl
      refine ⟨sl5 (by rw [r2.length]; exact hl), fun p hp => ?_⟩
      exact okG.up q1 a1.1 (same_upd hp) (.v (.tup upd_same (a1.1.fresh hp) (r2.same (same_upd hp))))
    · exact q1.elim
def aLim (g : AD) : LD := fun env st => (g env st).bind fun ws st => match allV ws with
  | some ds => if ds.length ≤ 100000 then .ok ds st else .bad
  | none => .bad
theorem df_lst {pos} (h : PA X es (tA X.K ct E g)) : PE X (.List es pos) (tF X.K ct E (aLim g)) := PE.of (pe_lst h) fun σ H Q ⟨ρ, st, env, a, q⟩ => by
  refine ⟨ρ, st, env, a, ?_⟩
  unfold aLim at q
  cases e : g env st with
  | ok ws st' =>
    rw [e] at q
    simp only [R.bind_ok] at q
    cases ew : allV ws with
    | none => simp only [ew] at q; exact q.elim
    | some ds =>
      simp only [ew] at q
      split at q
      · rename_i hl
        intro ρ' H' b gr s r
        have r2 := r.trees ew
        exact ⟨sl5 (by rw [r2.length]; exact hl), fun p hp => q ρ' H' p b gr s hp r2⟩
      · exact q.elim
  | exc x st' => rw [e] at q; exact q
  | bad => rw [e] at q; exact q.elim
theorem de_val (h : PE X e (tF X.K ct E gl)) : PE X e (tE X.K ct E (eLst gl)) := PE.of h fun σ H Q ⟨ρ, st, env, a, q⟩ => by
  refine ⟨ρ, st, env, a, ?_⟩
  unfold eLst at q
  cases e : gl env st with
  | ok ds st' =>
    rw [e] at q
    intro ρ' H' p xs gr s hp r
    exact q ρ' _ _ (gr.trans (.same (same_upd hp))) (s.same (same_upd hp)) (.v (.lst (.inl ⟨.inl upd_same, s.fresh hp⟩) (r.same (same_upd hp))))
  | exc x st' => rw [e] at q; exact q
  | bad => rw [e] at q; exact q.elim
theorem de_new (h : PE X e (tF X.K ct E gl)) : PE X e (tE X.K ct E (eNew gl)) := PE.of h fun σ H Q ⟨ρ, st, env, a, q⟩ => by
  refine ⟨ρ, st, env, a, ?_⟩
  unfold eNew at q
  cases e : gl env st with
  | ok ds st' =>
    rw [e] at q
    intro ρ' H' p xs gr s hp r
    refine q (ρ'.push p) _ _ (gr.trans (.push hp)) (s.push hp r) (.r (by rw [← s.len]; simp [Rho.push]) fun a ea => ?_)
    rw [← s.len] at ea
    simp [Rho.push] at ea
    rw [ea]
  | exc x st' => rw [e] at q; exact q
  | bad => rw [e] at q; exact q.elim
theorem de_frz (h : PE X e (tE X.K ct E f)) : PE X e (tE X.K ct E (eFrz f)) := PE.of h fun σ H Q q => by
  refine (tG.bind (rel := Rw) (k := fun d _ st => frz d st) q).mono fun v H1 ⟨ρ1, st1, env, d, a1, r1, q1⟩ => ?_
  cases d with
  | v d => exact q1.here a1.1 r1
  | r l =>
    simp only [frz] at q1
    cases e : st1[l]? with
    | none => rw [e] at q1; exact q1.elim
    | some ob =>
      rw [e] at q1
      cases ob with
      | lst ds =>
        rcases a1.1.obj l _ e with ⟨z, _⟩ | ⟨p, hp, xs, h1, h2⟩
        · cases z
        · cases r1 with
          | r hl hv =>
            cases hv p hp
            have n : ¬ (ρ1.drop l).mut p := fun z => by
              rcases z with z | z
              · obtain ⟨i, hi, ei⟩ := List.getElem_of_mem z
                have ei' : (ρ1.lc.set l none)[i]? = some (some p) := by
                  have q := List.getElem?_eq_getElem hi
                  rw [ei] at q
                  exact q
                by_cases hli : l = i
                · subst hli
                  rw [List.getElem?_set_self hl] at ei'; cases ei'
                · rw [List.getElem?_set_ne hli] at ei'
                  exact hli (a1.1.inj l i p hp ei')
              · exact a1.1.apart p (List.mem_of_getElem? hp) z
            exact q1 (ρ1.drop l) H1 _ .drop a1.1.drop (.v (.lst (.inl ⟨.inl h1, n⟩) (h2.grow .drop)))
      | dead => exact q1.elim
      | dct _ => exact q1.elim
      | kd _ _ => exact q1.elim
end
end Jv
end
section
namespace Jv
open PySem PySem.Spec L2 PyProof.Rows

/-! ### a def that is called where no repr is under way -/
structure FnG (P : Program) (w : World) (K : PySem.W.Frag) (mg : Str → Option Value) (base : Heap) (CX : CXT) (k : Nat) (f : Addr) (fd : FuncData) (ps : List Str) (sp : Sp) : Prop where
  len : ∀ vs H Q E, sp vs H Q E → vs.length = ps.length
  run : ∀ (A : Around) (outer : List PySem.Env) (s : Shared) (H : Hp) (args : Args) (us : List Value) (vs : List V) (Q : VK) (E : XK),
    A.guards = some [] → Room k A → Env0 P w K mg base A outer s H → BindsTo s fd args (ps.zip us) → Vals vs us → sp vs H Q E →
    codeAny (model P w) A (.call (.ref f) args) (CR CX outer P w H s Q E) s
theorem FnG.mono {P : Program} {w : World} {K : PySem.W.Frag} {mg : Str → Option Value} {base : Heap} {CX : CXT} {j k : Nat} {f : Addr} {fd : FuncData} {ps : List Str} {sp : Sp} (F : FnG P w K mg base CX j f fd ps sp) (h : j ≤ k) :
    FnG P w K mg base CX k f fd ps sp := ⟨F.len, fun A outer s H args us vs Q E hg hr => F.run A outer s H args us vs Q E hg (Room.mono hr h)⟩
section
variable {X : Cx} {CX : CXT} {k : Nat} {f : Addr} {fd : FuncData} {ps : List Str} {sp : Sp} {E : XK} {x : Str} {p pos : Pos} {e : Expr} {es : List Expr} {t : TA}
theorem run_g {pins : List (Addr × Obj)} {σ : St} {H : Hp} {s : Shared} {Q : VK} {us : List Value} {vs : List V} (F : FnG X.prog X.w X.K X.mg X.base CX k f fd ps sp)
    (gd : X.A.guards = some []) (hr : Room k X.A) (hb : Binds X.K fd ps []) (hx : PassesAt CX X σ E) (I : Inv X pins σ H s) (r : Vals vs us) (h : sp vs H Q E) :
    wpAny (model X.prog X.w) X.A (call (.ref f) us) (EP X pins σ Q) X.xe s := by
  have n : us.length = ps.length := r.length.symm.trans (F.len _ _ _ _ h)
  have b := hb s us I.kIn (by rw [List.append_nil]; exact n)
  rw [List.append_nil] at b
  apply wpAny_call
  refine codeAny_mono (F.run X.A X.stack s H ⟨us, []⟩ us vs Q E gd hr I.env0 b r h) ?_
  rintro (e | (_ | _ | _ | u)) s' q
  · exact hx pins H s e s' I q
  · exact q.elim
  · exact q.elim
  · exact q.elim
  · exact I.after q
/-- f(..) -/
def tCallG (sp : Sp) (E : St → XK) (t : TA) : TE := fun σ H Q => t σ H fun vs H1 => sp vs H1 Q (E σ)
theorem pe_callG {E : St → XK} (F : FnG X.prog X.w X.K X.mg X.base CX k f fd ps sp) (gd : X.A.guards = some []) (hr : Room k X.A) (hg : Gl X x) (hm : X.mg x = some (.ref f)) (hk : PySem.W.keepIn X.K (.ref f) = true)
    (hb : Binds X.K fd ps []) (hx : ∀ σ, PassesAt CX X σ (E σ)) (ha : PA X (e :: es) t) (hdb : (x == ("__debug__" : Str)) = false := by decide)
    (he : starEach (e :: es) X.env = (false, eval e X.env) :: starEach es X.env := by rfl) (hpl : (backTo pos (starEach es X.env)).any (·.1) = false := by rfl) :
    PE X (.Call (.Name x p) (e :: es) [] pos) (tCallG sp E t) := ⟨fun pins s σ H Q I h => by
  apply wpAny_Call_Name_kw
  refine ld_glob I hg hm ?_ hdb
  refine PySem.W.callWith_K (h₀ := X.base) I.ok.mod.kin hk ?_ he hpl
  refine thn (ha.run pos pins s σ H _ I h) ?_
  rintro us s1 ⟨vs, H1, I1, r, q⟩
  exact ⟨I1.kIn, run_g F gd hr hb (hx σ) I1 r q⟩⟩
theorem pe_callG0 {E : St → XK} (F : FnG X.prog X.w X.K X.mg X.base CX k f fd ps sp) (gd : X.A.guards = some []) (hr : Room k X.A) (hg : Gl X x) (hm : X.mg x = some (.ref f)) (hk : PySem.W.keepIn X.K (.ref f) = true)
    (hb : Binds X.K fd ps []) (hx : ∀ σ, PassesAt CX X σ (E σ)) (hdb : (x == ("__debug__" : Str)) = false := by decide) :
    PE X (.Call (.Name x p) [] [] pos) (tCallG sp E tNil) := ⟨fun pins s σ H Q I h => by
  apply wpAny_Call_Name_kw
  refine ld_glob I hg hm ?_ hdb
  exact PySem.W.callWith_K0 I.kIn hk (run_g (us := []) F gd hr hb (hx σ) I .nil h)⟩
end

/-- a def by its body -/
theorem fnG_of {CX : CXT} {P : Program} {w : World} {K : PySem.W.Frag} {mg : Str → Option Value} {base : Heap} {k : Nat} {f : Addr} {x qual : Str} {st : Stmt} {fd : FuncData} {N ps : List Str} {sp : Sp}
    (F : Fun K x qual st f fd) (S : FnScope N ps (defScope st)) (len : ∀ vs H Q E, sp vs H Q E → vs.length = ps.length)
    (hbody : ∀ (cdv : Value) (A : Around) (outer : List PySem.Env) (s : Shared) (H : Hp) (vs : List V) (Q : VK) (E : XK), A.guards = some [] → Room k (A.deeper (envOfC qual (defScope st) s.heap.objs.size f cdv)) → sp vs H Q E →
      ∃ t, PSs (cxOf CX P w K mg base N qual (defScope st) f cdv A outer s H E) (defBody st) t ∧ t { nx := fun _ H' => Q .non H', rt := Q } (start N vs) H) :
    FnG P w K mg base CX (k + 1) f fd ps sp := by
  obtain ⟨oc, od, kV, doc, pm, an, cdv, ct, osl, rfl, lk, hcd⟩ := F.ex
  refine ⟨len, fun A outer s H args us vs Q E gd hr e0 hb r hsp => ?_⟩
  have hl := len _ _ _ _ hsp
  have KX : K.In s.heap := e0.mod.kin.keeps (fun b o e => (e0.bs b o e).1)
  have lim : s.heap.NoLimit := e0.mod.nolimit.keeps (fun b o e => (e0.bs b o e).1)
  refine codeAny_call_function hr.depth (KX _ _ lk) rfl S.co S.gen rfl (PySem.W.codeRec_of KX hcd) (hb _ _ _ _ ?_)
  refine wpAny_newFunctionEnv_cells S.kind ?_ (fun env he s1 y => ?_)
  · rintro ⟨n, v⟩ hy
    rcases S.par n (List.of_mem_zip hy).1 with q | q
    · exact .inl q
    · exact .inr ⟨q, PySem.W.cellsFrom_some _ _ _ (.inl q)⟩
  · subst he
    refine ⟨lim.keeps y.toInCall.keep, codeAny_func ?_⟩
    obtain ⟨t, ht, hq⟩ := hbody cdv A outer s H vs Q E gd (hr.deeper _) hsp
    have I : Inv (cxOf CX P w K mg base N qual (defScope st) f cdv A outer s H E) [] (start N vs) H s1 := inv_start S hr.hd e0 hl r y
    refine wpAny_mono (ht.run [] s1 (start N vs) H _ I hq) ?_ (fun e s' hs => hs)
    rintro (_ | _ | _ | u) s' hs
    · obtain ⟨σ', H', J, q⟩ := hs
      exact ⟨.non, H', J.os, J.bare, J.base, J.hok, rfl, q⟩
    · obtain ⟨_, _, _, q⟩ := hs
      exact q.elim
    · obtain ⟨_, _, _, q⟩ := hs
      exact q.elim
    · obtain ⟨v, σ', H', J, rv, q⟩ := hs
      exact ⟨v, H', J.os, J.bare, J.base, J.hok, rv, q⟩

/-- the law's own call, from the promise of its def -/
theorem law_callG {P : Program} {w : World} {K : PySem.W.Frag} {mg mb : Str → Option Value} {CX : CXT} {k : Nat} {fa a : Addr} {fd : FuncData} {x : Str} {sp : Sp} {s₁ : Shared} {vs : List Value} {ns : List Int}
    (KX : K.In s₁.heap) (hns : s₁.heap.Ns mainGlobals mg) (hb : s₁.heap.Ns builtinsNs mb) (hbb : ∀ x : Str, x ≠ "__name__" → mb x = bootBuiltins x) (hlim : s₁.heap.NoLimit) (hg : s₁.gens = #[])
    (ha : s₁.heap.get? a = some { cls := .type "list", data := .seq vs.toArray }) (hi : IntsAre vs ns) (hl : ns.length ≤ sizeLine) (hr : Room k callerA)
    (F : ∀ base : Heap, K.In base → base.Ns mainGlobals mg → FnG P w K mg base CX k fa fd [x] sp) (hbind : ∀ (s : Shared) (u : Value), BindsTo s fd ⟨[u], []⟩ [(x, u)])
    (hsp : ∀ H : Hp, Only H → SqL K H a (ns.map V.int) → sp [.ref a] H (fun v _ => v = .bl true) fun _ _ _ => False) (hCX : ∀ H e s', CX [] H s₁ (fun _ _ _ => False) e s' → False) :
    codeAny (model P w) callerA (.call (.ref fa) ⟨[.ref a], []⟩) (fun r s' => r = .ok (.ret (.bool true)) ∧ OldK s₁.heap s'.heap ∧ s'.os = s₁.os ∧ AllBare s'.gens) s₁ := by
  -- a heap that tracks the script at most
  have go : ∀ H : Hp, Only H → SqL K H a (ns.map V.int) → HOk P w H s₁.heap → (∀ b, H b ≠ none → b = a) → (H a ≠ none → K.lookup a = none) →
      codeAny (model P w) callerA (.call (.ref fa) ⟨[.ref a], []⟩) (fun r s' => r = .ok (.ret (.bool true)) ∧ OldK s₁.heap s'.heap ∧ s'.os = s₁.os ∧ AllBare s'.gens) s₁ := by
    intro H hO hS hok hA hK
    have free : ∀ b : Addr, b ≠ a → H b = none := fun b h => Classical.byContradiction fun q => h (hA b q)
    have ns' : ∀ {b : Addr} {m : Str → Option Value}, s₁.heap.Ns b m → (hidT s₁.heap H).Ns b m := by
      rintro b m ⟨o, es, ep, e, d, r⟩
      refine ⟨o, es, ep, hidT_get e (free b ?_), d, r⟩
      rintro rfl
      rw [ha] at e
      cases e
      cases d
    have hKb : K.In (hidT s₁.heap H) := by
      intro b o e
      refine hidT_get (KX b o e) ?_
      by_cases q : b = a
      · subst q
        exact Classical.byContradiction fun z => by rw [hK z] at e; cases e
      · exact free b q
    have hM : Mod K mg (hidT s₁.heap H) := ⟨hKb, ns' hns, ⟨mb, ns' hb, hbb⟩, let ⟨mc, h1, h2⟩ := hlim; ⟨mc, ns' h1, h2⟩⟩
    have e0 : Env0 P w K mg (hidT s₁.heap H) callerA [] s₁ H := ⟨rfl, hM, fun b o e => of_hidT e, Nat.le_of_eq (hidT_size _ _), trivial, fun b z => absurd (show b ∈ ([] : List Addr) from z) (by simp), hok, .of_eq hg⟩
    refine codeAny_mono ((F _ hKb (ns' hns)).run callerA [] s₁ H ⟨[.ref a], []⟩ [.ref a] [.ref a] _ _ rfl hr e0 (hbind s₁ (.ref a)) (.cons rfl .nil) (hsp H hO hS)) ?_
    rintro (e | (_ | _ | _ | u)) s' h
    · exact (hCX H e s' h).elim
    · exact h.elim
    · exact h.elim
    · exact h.elim
    · obtain ⟨v, H', os, bare, un, hok', r', q⟩ := h
      cases (show v = .bl true from q)
      cases (show u = Value.bool true from r')
      refine ⟨rfl, OldK.of_keep fun b o e => ?_, os, bare⟩
      rcases hO b with z | ⟨ob, xs, z⟩
      · exact un.keep b o e z (fun y => absurd (show b ∈ ([] : List Addr) from y) (by simp)) (by simp)
      · obtain ⟨e1, _⟩ := hok b _ z
        obtain ⟨e2, _⟩ := hok' b _ (un.frzs b ob _ z)
        rw [e] at e1
        cases e1
        exact e2
  have rv := vals_ints hi
  cases hk : K.lookup a with
  | some o =>
    have e := KX a o hk
    rw [ha] at e
    cases e
    refine go (fun _ => none) (fun _ => .inl rfl) (.inr ⟨_, vs.toArray, _, hk, rfl, rfl, rfl, ?_, by simpa using rv⟩) (fun b u z => nomatch z) (fun b z => absurd rfl z) (fun z => absurd rfl z)
    rw [List.size_toArray, hi.length]
    exact hl
  | none =>
    refine go (upd (fun _ => none) a (.frz { cls := .type "list", data := .seq vs.toArray } (.lst (ns.map V.int)))) (fun b => ?_) (.inl (.inr ⟨_, upd_same⟩)) (fun b u z => ?_) (fun b z => ?_) (fun _ => hk)
    · by_cases q : b = a
      · subst q; exact .inr ⟨_, _, upd_same⟩
      · exact .inl (upd_ne q)
    · by_cases q : b = a
      · subst q
        rw [upd_same] at z
        cases z
        exact ⟨ha, by rw [List.length_map]; exact hl, vs, _, rv, ha⟩
      · rw [upd_ne q] at z
        cases z
    · exact Classical.byContradiction fun q => z (upd_ne q)

theorem walkG {l : PySem.W.OpenLaw} {n k : Nat} {q : Program} {loose : List Str} {XP : (Str → Option Value) → Heap → Prop} {YP : World → Heap → Prop} {d : DefRec} {CX : CXT} {x : Str}
    (hn : l.most = some n) (hn2 : n ≤ sizeLine) (hdf : d.params.defaults = []) (hr : Room k callerA)
    (F : ∀ (w : World) (mg : Str → Option Value) (fa : Addr) (h : Heap), YP w h → h.Ns mainGlobals mg → mg d.name = some (.ref fa) →
      ∃ (K : PySem.W.Frag) (fd : FuncData) (sp : Sp), K.In h ∧ (∀ (s : Shared) (u : Value), BindsTo s fd ⟨[u], []⟩ [(x, u)]) ∧
        (∀ (H : Hp) (a : Addr) (ns : List Int), ns.length ≤ n → Only H → SqL K H a (ns.map V.int) → sp [.ref a] H (fun v _ => v = .bl true) fun _ _ _ => False) ∧
        ∀ base : Heap, K.In base → base.Ns mainGlobals mg → FnG l.prog w K mg base CX k fa fd [x] sp)
    (hCX : ∀ (H : Hp) (s : Shared) (e : Value) (s' : Shared), CX [] H s (fun _ _ _ => False) e s' → False) :
    PySem.W.WalkO q loose XP YP l.row.toRowW d [] (fun f vs => PySem.call f vs) := by
  refine Att.attach_call hn hdf ?_
  intro w s₀ s₁ mg mb fa o pm cd doc a vs ns G Y ho hd hcd hmg hobj hints hlen hg
  obtain ⟨K, fd, sp, KX, hb, hsp, hF⟩ := F w mg fa _ Y G.T.g hmg
  exact law_callG KX G.T.g G.T.b G.T.builtins G.T.nolimit hg hobj hints (Nat.le_trans hlen hn2) hr hF hb (fun H hO hS => hsp H a ns hlen hO hS) (fun H e s' => hCX H s₁ e s')
end Jv
end
section
namespace Jv
open PySem PySem.Spec L2 PyProof.Rows

/-! ### statements: what they come to -/
inductive Fl where
  | nx (env : Env) (st : Sto) | rt (w : W) (st : Sto) | bk (env : Env) (st : Sto) | ct (env : Env) (st : Sto) | exc (env : Env) (x : Xc) (st : Sto) | bad
abbrev SD := Env → Sto → Fl
def okS (K : PySem.W.Frag) (ct : Nat → Value) (ρ : Rho) (H : Hp) (E : St → XK) (Dn : Ends) : Fl → Prop
  | .nx env' st' => ∀ ρ' H' σ', Grow ρ H ρ' H' → At K ρ' H' st' σ' env' → Dn.nx σ' H'
  | .rt w st' => ∀ ρ' H' v, Grow ρ H ρ' H' → RelSt K ρ' H' st' → Rw K ρ' H' v w → Dn.rt v H'
  | .bk env' st' => ∀ ρ' H' σ', Grow ρ H ρ' H' → At K ρ' H' st' σ' env' → Dn.bk σ' H'
  | .ct env' st' => ∀ ρ' H' σ', Grow ρ H ρ' H' → At K ρ' H' st' σ' env' → Dn.ct σ' H'
  | .exc env' x st' => ∀ ρ' H' σ' cv od, Grow ρ H ρ' H' → At K ρ' H' st' σ' env' → XRl K ct ρ' H' cv od x → E σ' cv od H'
  | .bad => False
def tS (K : PySem.W.Frag) (ct : Nat → Value) (E : St → XK) (f : SD) : TS := fun Dn σ H => ∃ ρ st env, At K ρ H st σ env ∧ okS K ct ρ H E Dn (f env st)
theorem okS.grow {K : PySem.W.Frag} {ct : Nat → Value} {ρ ρ1 : Rho} {H H1 : Hp} {E : St → XK} {Dn : Ends} {r : Fl} (g : Grow ρ H ρ1 H1) (h : okS K ct ρ H E Dn r) : okS K ct ρ1 H1 E Dn r := by
  cases r with
  | nx e s => exact fun ρ' H' σ' g' => h ρ' H' σ' (g.trans g')
  | rt e s => exact fun ρ' H' σ' g' => h ρ' H' σ' (g.trans g')
  | bk e s => exact fun ρ' H' σ' g' => h ρ' H' σ' (g.trans g')
  | ct e s => exact fun ρ' H' σ' g' => h ρ' H' σ' (g.trans g')
  | exc e x s => exact fun ρ' H' σ' cv od g' => h ρ' H' σ' cv od (g.trans g')
  | bad => exact h
/-- an expression first -/
def R.thenS {α : Type} (r : R α) (env : Env) (k : α → Sto → Fl) : Fl := match r with
  | .ok a st => k a st
  | .exc x st => .exc env x st
  | .bad => .bad
@[simp] theorem R.thenS_ok {α : Type} (a : α) (st : Sto) (env : Env) (k : α → Sto → Fl) : (R.ok a st).thenS env k = k a st := rfl
@[simp] theorem R.thenS_exc {α : Type} (x : Xc) (st : Sto) (env : Env) (k : α → Sto → Fl) : (R.exc x st : R α).thenS env k = .exc env x st := rfl
@[simp] theorem R.thenS_bad {α : Type} (env : Env) (k : α → Sto → Fl) : (R.bad : R α).thenS env k = .bad := rfl
theorem okS.first {K : PySem.W.Frag} {ct : Nat → Value} {α β : Type} {rel : Rel β α} {ρ : Rho} {H : Hp} {E : St → XK} {Dn : Ends} {r : R α} {env : Env} {σ : St} {k : α → Sto → Fl} (h : okS K ct ρ H E Dn (r.thenS env k)) (he : RelEnv K ρ H σ env) :
    okG K ct rel ρ H (E σ) (fun b H1 => ∃ ρ1 st1 a, At K ρ1 H1 st1 σ env ∧ Grow ρ H ρ1 H1 ∧ rel K ρ1 H1 b a ∧ okS K ct ρ1 H1 E Dn (k a st1)) r := by
  cases r with
  | ok a st' => exact fun ρ1 H1 b g s r => ⟨ρ1, st', a, ⟨s, he.grow g⟩, g, r, okS.grow g h⟩
  | exc x st' => exact fun ρ1 H1 cv od g s r => h ρ1 H1 σ cv od g ⟨s, he.grow g⟩ r
  | bad => exact h.elim

/-! ### defs -/
def noX {α : Type} : R α → R α
  | .exc _ _ => .bad
  | r => r
@[simp] theorem noX_ok {α : Type} (a : α) (st : Sto) : noX (.ok a st) = .ok a st := rfl
@[simp] theorem noX_bad {α : Type} : noX (.bad : R α) = .bad := rfl
def fin (n : Nat) : Fl → R W
  | .nx _ st' => .ok (.v .non) (st'.take n)
  | .rt (.v d) st' => .ok (.v d) (st'.take n)
  | .rt (.r l) st' => if l < n then .ok (.r l) (st'.take n) else .ok (.r l) st'
  | .exc _ x st' => .exc x (st'.take n)
  | _ => .bad
def envOf (n : Nat) (ws : List W) : Env := ws.map some ++ List.replicate (n - ws.length) none
def runS (n : Nat) (f : SD) : List W → Sto → R W := fun ws st => fin st.length (f (envOf n ws) st)
def spG (K : PySem.W.Frag) (ct : Nat → Value) (n : Nat) (run : List W → Sto → R W) : Sp := fun vs H Q E => ∃ ρ st ws, RelSt K ρ H st ∧ RwAll K ρ H vs ws ∧ vs.length = n ∧ okG K ct Rw ρ H E Q (run ws st)
theorem relEnv_start {K : PySem.W.Frag} {ρ : Rho} {H : Hp} {N : List Str} {vs : List V} {ws : List W} (r : RwAll K ρ H vs ws) : RelEnv K ρ H (start N vs) (envOf N.length ws) := by
  have hl := r.length
  refine ⟨by simp [L2.start, envOf, hl], fun i d e => ?_⟩
  unfold envOf at e
  by_cases hi : i < ws.length
  · rw [List.getElem?_append_left (by simpa using hi), List.getElem?_map] at e
    cases q : ws[i]? with
    | none => rw [q] at e; cases e
    | some w =>
      rw [q] at e
      cases e
      obtain ⟨v, hv, rv⟩ := r.getD q
      refine ⟨v, ?_, rv⟩
      unfold L2.start
      rw [List.getElem?_append_left (by simpa [hl] using hi), List.getElem?_map, hv]
      rfl
  · rw [List.getElem?_append_right (by simpa using hi), List.getElem?_replicate] at e
    split at e <;> cases e
theorem fin_ok {K : PySem.W.Frag} {ct : Nat → Value} {ρ : Rho} {H : Hp} {st : Sto} {E : XK} {Q : VK} {r : Fl} (s : RelSt K ρ H st) (h : okG K ct Rw ρ H E Q (fin st.length r)) :
    okS K ct ρ H (fun _ => E) { nx := fun _ H' => Q .non H', rt := Q } r := by
  have hn : ρ.lc.length ≤ st.length := Nat.le_of_eq s.len
  cases r with
  | nx env' st' => exact fun ρ' H' σ' g a => h (ρ'.cut st.length) H' .non (g.cut hn) (a.1.cut _) (.v .non)
  | rt w st' =>
    intro ρ' H' v g s' r
    cases w with
    | v d => exact h (ρ'.cut st.length) H' v (g.cut hn) (s'.cut _) (r.cut trivial)
    | r l =>
      simp only [fin] at h
      split at h
      · rename_i hl
        exact h (ρ'.cut st.length) H' v (g.cut hn) (s'.cut _) (r.cut hl)
      · exact h ρ' H' v g s' r
  | exc env' x st' =>
    intro ρ' H' σ' cv od g a r
    refine h (ρ'.cut st.length) H' cv od (g.cut hn) (a.1.cut _) ⟨r.1, ?_⟩
    have r2 := r.2
    cases od with
    | none => exact r2
    | some d => obtain ⟨vs, h1, h2, h3⟩ := r2; exact ⟨vs, h1, h2, h3.cut _⟩
  | bk _ _ => exact h.elim
  | ct _ _ => exact h.elim
  | bad => exact h.elim
/-- a def of which errors may leave -/
theorem fn_den {CX : CXT} {P : Program} {w : World} {K : PySem.W.Frag} {mg : Str → Option Value} {base : Heap} {ct : Nat → Value} {k : Nat} {f : Addr} {x qual : Str} {st : Stmt} {fd : FuncData} {N ps : List Str} {den : SD}
    (F : Fun K x qual st f fd) (S : FnScope N ps (defScope st))
    (body : ∀ (cdv : Value) (A : Around) (outer : List PySem.Env) (s : Shared) (H : Hp) (E : XK), A.guards = some [] → Room k (A.deeper (envOfC qual (defScope st) s.heap.objs.size f cdv)) →
      PSs (cxOf CX P w K mg base N qual (defScope st) f cdv A outer s H E) (defBody st) (tS K ct (fun _ => E) den)) :
    FnG P w K mg base CX (k + 1) f fd ps (spG K ct ps.length (runS N.length den)) := by
  refine fnG_of F S (fun vs H Q E ⟨_, _, _, _, _, h, _⟩ => h) fun cdv A outer s H vs Q E gd hr ⟨ρ, st', ws, rs, rw', hl, h⟩ => ⟨_, body cdv A outer s H E gd hr, ?_⟩
  exact ⟨ρ, st', _, ⟨rs, relEnv_start rw'⟩, fin_ok rs h⟩
/-- a def that lets no error out -/
theorem fn_den0 {P : Program} {w : World} {K : PySem.W.Frag} {mg : Str → Option Value} {base : Heap} {ct : Nat → Value} {k : Nat} {f : Addr} {x qual : Str} {st : Stmt} {fd : FuncData} {N ps : List Str} {den : SD}
    (F : Fun K x qual st f fd) (S : FnScope N ps (defScope st))
    (body : ∀ (cdv : Value) (A : Around) (outer : List PySem.Env) (s : Shared) (H : Hp) (E : XK), A.guards = some [] → Room k (A.deeper (envOfC qual (defScope st) s.heap.objs.size f cdv)) →
      PSs (cxOf CX0 P w K mg base N qual (defScope st) f cdv A outer s H E).nox (defBody st) (tS K ct (fun _ => E0) den)) :
    FnG P w K mg base CX0 (k + 1) f fd ps (spG K ct ps.length fun ws st => noX (runS N.length den ws st)) := by
  refine fnG_of F S (fun vs H Q E ⟨_, _, _, _, _, h, _⟩ => h) fun cdv A outer s H vs Q E gd hr ⟨ρ, st', ws, rs, rw', hl, h⟩ => ⟨_, (body cdv A outer s H E gd hr).nox, ?_⟩
  refine ⟨ρ, st', _, ⟨rs, relEnv_start rw'⟩, fin_ok rs ?_⟩
  show okG K ct Rw ρ H E0 Q (runS N.length den ws st')
  replace h : okG K ct Rw ρ H E Q (noX (runS N.length den ws st')) := h
  cases e : runS N.length den ws st' with
  | ok a b => rw [e] at h; exact h
  | exc a b => rw [e] at h; exact h.elim
  | bad => rw [e] at h; exact h.elim

/-! ### calls -/
def eCall (run : List W → Sto → R W) (g : AD) : ED := fun env st => (g env st).bind run
section
variable {X : Cx} {ct : Nat → Value} {E : St → XK} {CX : CXT} {k : Nat} {f : Addr} {fd : FuncData} {ps : List Str} {n : Nat} {run : List W → Sto → R W} {x : Str} {p pos : Pos} {e : Expr} {es : List Expr} {g : AD}
theorem len_of {K : PySem.W.Frag} {σ : St} {H : Hp} {Q : VK} (hn : ∀ env st ws st', g env st = .ok ws st' → ws.length = n) (h : tE K ct E (eCall run g) σ H Q) : tCallG (spG K ct n run) E (tA K ct E g) σ H Q := by
  obtain ⟨ρ, st, env, a, h⟩ := h
  refine ⟨ρ, st, env, a, ?_⟩
  unfold eCall at h
  cases eg : g env st with
  | ok ws st1 =>
    rw [eg] at h
    exact fun ρ1 H1 vs gr s r => ⟨ρ1, st1, ws, s, r, r.length.trans (hn _ _ _ _ eg), okG.grow gr h⟩
  | exc x st' => rw [eg] at h; exact h
  | bad => rw [eg] at h; exact h.elim
theorem de_call (F : FnG X.prog X.w X.K X.mg X.base CX k f fd ps (spG X.K ct n run)) (gd : X.A.guards = some []) (hr : Room k X.A) (hg : Gl X x) (hm : X.mg x = some (.ref f)) (hk : PySem.W.keepIn X.K (.ref f) = true)
    (hb : Binds X.K fd ps []) (hx : ∀ σ, PassesAt CX X σ (E σ)) (hn : ∀ env st ws st', g env st = .ok ws st' → ws.length = n) (ha : PA X (e :: es) (tA X.K ct E g)) (hdb : (x == ("__debug__" : Str)) = false := by decide)
    (he : starEach (e :: es) X.env = (false, eval e X.env) :: starEach es X.env := by rfl) (hpl : (backTo pos (starEach es X.env)).any (·.1) = false := by rfl) :
    PE X (.Call (.Name x p) (e :: es) [] pos) (tE X.K ct E (eCall run g)) := PE.of (pe_callG F gd hr hg hm hk hb hx ha hdb he hpl) fun σ H Q h => len_of hn h
theorem de_call0 (F : FnG X.prog X.w X.K X.mg X.base CX k f fd ps (spG X.K ct 0 run)) (gd : X.A.guards = some []) (hr : Room k X.A) (hg : Gl X x) (hm : X.mg x = some (.ref f)) (hk : PySem.W.keepIn X.K (.ref f) = true)
    (hb : Binds X.K fd ps []) (hx : ∀ σ, PassesAt CX X σ (E σ)) (hdb : (x == ("__debug__" : Str)) = false := by decide) :
    PE X (.Call (.Name x p) [] [] pos) (tE X.K ct E (eCall run aNil)) := PE.of (pe_callG0 F gd hr hg hm hk hb hx hdb) fun σ H Q ⟨ρ, st, env, a, h⟩ => ⟨ρ, st, [], a.1, .nil, rfl, h⟩
theorem pass00 {X : Cx} {E : St → XK} : ∀ σ, PassesAt CX0 X σ (E σ) := fun _ _ _ _ _ _ _ h => h.elim
end
theorem aNil_len : ∀ env st ws st', aNil env st = .ok ws st' → ws.length = 0 := fun env st ws st' e => by unfold aNil at e; cases e; rfl
theorem aCons_len {f : ED} {g : AD} {n : Nat} (h : ∀ env st ws st', g env st = .ok ws st' → ws.length = n) : ∀ env st ws st', aCons f g env st = .ok ws st' → ws.length = n + 1 := fun env st ws st' e => by
  unfold aCons at e
  cases e1 : f env st with
  | ok w st1 =>
    rw [e1] at e
    simp only [R.bind_ok] at e
    cases e2 : g env st1 with
    | ok ws2 st2 => rw [e2] at e; cases e; simp [h _ _ _ _ e2]
    | exc x s => rw [e2] at e; cases e
    | bad => rw [e2] at e; cases e
  | exc x s => rw [e1] at e; cases e
  | bad => rw [e1] at e; cases e

/-! ### built-ins by values -/
abbrev B1 := Sto → List W → Option D
def eBlt (g : B1) (f : AD) : ED := fun env st => (f env st).bind fun ws st => ofOp st (g st ws)
def rA (K : PySem.W.Frag) (g : B1) : List V → Hp → VK → Prop := fun xs H Q => ∃ ρ st ws d, RelSt K ρ H st ∧ RwAll K ρ H xs ws ∧ g st ws = some d ∧ ∀ H' v, Same H H' → Rl K ρ H' v d → Q v H'
abbrev BF := Sto → List W → Option (List D)
def lBlt (g : BF) (f : AD) : LD := fun env st => (f env st).bind fun ws st => match g st ws with
  | some ds => .ok ds st
  | none => .bad
def rF (K : PySem.W.Frag) (g : BF) : List V → Hp → VK → Prop := fun xs H Q => ∃ ρ st ws ds, RelSt K ρ H st ∧ RwAll K ρ H xs ws ∧ g st ws = some ds ∧ ∀ p ys, H p = none → RlAll K ρ H ys ds → Q (.ref p) (upd H p (.lst ys))
section
variable {X : Cx} {ct : Nat → Value} {E : St → XK} {x : Str} {p pos : Pos} {e : Expr} {es : List Expr} {g : AD} {id T : String} {b : B1} {bf : BF}
theorem blt_read {K : PySem.W.Frag} {σ : St} {H : Hp} {Q : VK} (h : tE K ct E (eBlt b g) σ H Q) : tCB (rA K b) (tA K ct E g) σ H Q := by
  refine (tG.bind (rel := RwAll) (k := fun ws _ st => ofOp st (b st ws)) h).mono fun vs H1 ⟨ρ1, st1, env, ws, a1, r1, q1⟩ => ?_
  cases e : b st1 ws with
  | none => rw [e] at q1; exact q1.elim
  | some d => rw [e] at q1; exact ⟨ρ1, st1, ws, d, a1.1, r1, e, fun H' v s r => okG.up q1 a1.1 s (.v r)⟩
theorem bltF_read {K : PySem.W.Frag} {σ : St} {H : Hp} {Q : VK} (h : tF K ct E (lBlt bf g) σ H Q) : tCB (rF K bf) (tA K ct E g) σ H Q := by
  obtain ⟨ρ, st, env, a, h⟩ := h
  refine ⟨ρ, st, env, a, ?_⟩
  unfold lBlt at h
  cases eg : g env st with
  | ok ws st1 =>
    rw [eg] at h
    intro ρ1 H1 vs gr s r
    simp only [R.bind_ok] at h
    cases e : bf st1 ws with
    | none => simp only [e] at h; exact h.elim
    | some ds => simp only [e] at h; exact ⟨ρ1, st1, ws, ds, s, r, e, fun p ys hp ry => h ρ1 H1 p ys gr s hp ry⟩
  | exc x st' => rw [eg] at h; exact h
  | bad => rw [eg] at h; exact h.elim
theorem de_callB (hc : CallR X (.builtin id) (rA X.K b)) (hg : Gl X x) (hm : X.mg x = none) (hv : bootBuiltins x = some (.builtin id)) (ha : PA X (e :: es) (tA X.K ct E g)) (hn : x ≠ "__name__" := by decide) (hdb : (x == ("__debug__" : Str)) = false := by decide)
    (he : starEach (e :: es) X.env = (false, eval e X.env) :: starEach es X.env := by rfl) (hpl : (backTo pos (starEach es X.env)).any (·.1) = false := by rfl) : PE X (.Call (.Name x p) (e :: es) [] pos) (tE X.K ct E (eBlt b g)) :=
  PE.of (pe_callB hc hg hm hv ha hn hdb he hpl) fun σ H Q h => blt_read h
theorem de_callT (hc : CallR X (.type T) (rA X.K b)) (hg : Gl X x) (hm : X.mg x = none) (hv : bootBuiltins x = some (.type T)) (ha : PA X (e :: es) (tA X.K ct E g)) (hn : x ≠ "__name__" := by decide) (hdb : (x == ("__debug__" : Str)) = false := by decide)
    (he : starEach (e :: es) X.env = (false, eval e X.env) :: starEach es X.env := by rfl) (hpl : (backTo pos (starEach es X.env)).any (·.1) = false := by rfl) : PE X (.Call (.Name x p) (e :: es) [] pos) (tE X.K ct E (eBlt b g)) :=
  PE.of (pe_callTy hc hg hm hv ha hn hdb he hpl) fun σ H Q h => blt_read h
theorem df_callT (hc : CallR X (.type T) (rF X.K bf)) (hg : Gl X x) (hm : X.mg x = none) (hv : bootBuiltins x = some (.type T)) (ha : PA X (e :: es) (tA X.K ct E g)) (hn : x ≠ "__name__" := by decide) (hdb : (x == ("__debug__" : Str)) = false := by decide)
    (he : starEach (e :: es) X.env = (false, eval e X.env) :: starEach es X.env := by rfl) (hpl : (backTo pos (starEach es X.env)).any (·.1) = false := by rfl) : PE X (.Call (.Name x p) (e :: es) [] pos) (tF X.K ct E (lBlt bf g)) :=
  PE.of (pe_callTy hc hg hm hv ha hn hdb he hpl) fun σ H Q h => bltF_read h
theorem df_callB (hc : CallR X (.builtin id) (rF X.K bf)) (hg : Gl X x) (hm : X.mg x = none) (hv : bootBuiltins x = some (.builtin id)) (ha : PA X (e :: es) (tA X.K ct E g)) (hn : x ≠ "__name__" := by decide) (hdb : (x == ("__debug__" : Str)) = false := by decide)
    (he : starEach (e :: es) X.env = (false, eval e X.env) :: starEach es X.env := by rfl) (hpl : (backTo pos (starEach es X.env)).any (·.1) = false := by rfl) : PE X (.Call (.Name x p) (e :: es) [] pos) (tF X.K ct E (lBlt bf g)) :=
  PE.of (pe_callB hc hg hm hv ha hn hdb he hpl) fun σ H Q h => bltF_read h
end
/-- len -/
def lenB : B1
  | st, [w] => match w with
    | .v (.str x) => if x.length ≤ 100000 then some (.int x.length) else none
    | .v (.tup ds) => some (.int ds.length)
    | w => (asLst st w).map fun ds => .int ds.length
  | _, _ => none
def tyN (st : Sto) : W → Option String
  | .v .non => some "NoneType"
  | .v (.bl _) => some "bool"
  | .v (.int _) => some "int"
  | .v (.str _) => some "str"
  | .v (.tup _) => some "tuple"
  | .v (.lst _) => some "list"
  | .v (.dct []) => some "dict"
  | .r l => match st[l]? with
    | some (.lst _) => some "list"
    | some (.dct _) => some "dict"
    | _ => none
  | _ => none
def isSub (t n : String) : Option Bool :=
  if n ∈ ["str", "tuple", "bool", "int", "list", "dict"] then some (t == n || (t == "bool" && n == "int")) else none
/-- isinstance(x, T) -/
def isiB : B1
  | st, [w, .v (.ty n)] => (tyN st w).bind fun t => (isSub t n).map .bl
  | _, _ => none
def allBl : List D → Option (List Bool)
  | [] => some []
  | .bl b :: r => (allBl r).map (b :: ·)
  | _ :: _ => none
def allB : B1
  | st, [w] => (asLst st w).bind fun ds => (allBl ds).map fun bs => .bl (bs.all id)
  | _, _ => none
def anyB : B1
  | st, [w] => (asLst st w).bind fun ds => (allBl ds).map fun bs => .bl (bs.any id)
  | _, _ => none
def intB : B1
  | _, [.v (.int i)] => some (.int i)
  | _, [.v (.bl b)] => some (.int (if b then 1 else 0))
  | _, _ => none
def minB : B1
  | _, [.v (.int i), .v (.int j)] => some (.int (if j < i then j else i))
  | _, _ => none
def tupleB : B1
  | st, [w] => match w with
    | .v (.tup ds) => some (.tup ds)
    | w => (asLst st w).map .tup
  | _, _ => none
/-- list(x) -/
def listF : BF
  | st, [w] => match w with
    | .v (.tup ds) => some ds
    | w => asLst st w
  | _, _ => none
/-- repr(x) of data -/
def reprB : B1
  | st, [w] => if SeqAt.shaped (deref st w).py && (deref st w).py.showable && decide ((deref st w).py.shown.length ≤ 1000000) then some (.str (deref st w).py.shown) else none
  | _, _ => none
section
variable {X : Cx} {K : PySem.W.Frag} {ρ : Rho} {H : Hp}
theorem RwAll.one {xs : List V} {w : W} (h : RwAll K ρ H xs [w]) : ∃ v, xs = [v] ∧ Rw K ρ H v w := by
  cases h with | cons r t => cases t; exact ⟨_, rfl, r⟩
theorem RwAll.two {xs : List V} {w w' : W} (h : RwAll K ρ H xs [w, w']) : ∃ v v', xs = [v, v'] ∧ Rw K ρ H v w ∧ Rw K ρ H v' w' := by
  cases h with | cons r t => cases t with | cons r' t' => cases t'; exact ⟨_, _, rfl, r, r'⟩
theorem cb_len : CallR X (.builtin "len") (rA X.K lenB) := by
  intro pins s σ H xs us Q I rr h
  obtain ⟨ρ, st, ws, d, rs, r, e, q⟩ := h
  unfold lenB at e
  split at e
  · rename_i w0
    obtain ⟨v, rfl, rv⟩ := r.one
    split at e
    · split at e
      · rename_i hl
        cases e
        cases rv with | v rv => cases rv; exact call_len_str pins s σ H _ us Q I rr ⟨_, rfl, sl5 hl, q _ _ (.refl _) (.int _)⟩
      · cases e
    · cases e
      cases rv with
      | v rv =>
        cases rv with
        | tup h1 n1 q1 => exact call_len_seq pins s σ H _ us Q I rr ⟨_, _, rfl, .inr (.of h1), by rw [q1.length]; exact q _ _ (.refl _) (.int _)⟩
    · cases ea : asLst st w0 with
      | none => rw [ea] at e; cases e
      | some ds =>
        rw [ea] at e
        cases e
        obtain ⟨a, ys, rfl, h1, h2⟩ := lst_of rs rv ea
        exact call_len_seq pins s σ H _ us Q I rr ⟨_, _, rfl, .inl h1, by rw [h2.length]; exact q _ _ (.refl _) (.int _)⟩
  · cases e
theorem tyX_of {st : Sto} {v : V} {w : W} {t : String} (s : RelSt K ρ H st) (r : Rw K ρ H v w) (e : tyN st w = some t) : TyX K H v (.type t) := by
  cases r with
  | v r =>
    cases r with
    | non => cases e; exact .base .non
    | bl b => cases e; exact .base (.bl b)
    | int i => cases e; exact .base (.int i)
    | str x => cases e; exact .base (.str x)
    | ty n => cases e
    | tup h n q => cases e; exact .base (.tup h)
    | lst h q =>
      cases e
      rcases h with ⟨h | ⟨o, h⟩, n⟩ | ⟨o, its, n, h1, h2, _⟩
      · exact .base (.lst h)
      · exact .base (.frz h)
      · exact .kList h1 h2
    | dct0 h n => cases e; exact .base (.dK h)
  | @r l _ hl hq =>
    simp only [tyN] at e
    split at e
    · rename_i xs he
      cases e
      rcases s.obj l _ he with ⟨z, _⟩ | ⟨a, e1, xs', h1, h2⟩
      · cases z
      · cases hq a e1; exact .base (.lst h1)
    · rename_i xs he
      cases e
      rcases s.obj l _ he with ⟨z, _⟩ | ⟨a, e1, xs', h1, h2⟩
      · cases z
      · cases hq a e1; exact .base (.dK h1)
    · cases e
theorem kit_sub {t n : String} {b : Bool} (ht : t ∈ ["NoneType", "bool", "int", "str", "tuple", "list", "dict"]) (h : isSub t n = some b) : kitB t n = some b := by
  unfold isSub at h
  split at h
  · rename_i hn
    have all : ∀ t ∈ ["NoneType", "bool", "int", "str", "tuple", "list", "dict"], ∀ n ∈ ["str", "tuple", "bool", "int", "list", "dict"], kitB t n = some (t == n || (t == "bool" && n == "int")) := by decide +kernel
    rw [all t ht n hn]
    exact h
  · cases h
theorem tyN_mem {st : Sto} {w : W} {t : String} (e : tyN st w = some t) : t ∈ ["NoneType", "bool", "int", "str", "tuple", "list", "dict"] := by
  unfold tyN at e
  split at e
  any_goals (cases e; simp)
  all_goals try (split at e)
  any_goals (cases e; simp)
  all_goals cases e
theorem cb_isi : CallR X (.builtin "isinstance") (rA X.K isiB) := by
  intro pins s σ H xs us Q I rr h
  obtain ⟨ρ, st, ws, d, rs, r, e, q⟩ := h
  unfold isiB at e
  split at e
  · rename_i w n
    obtain ⟨v, v', rfl, rv, rv'⟩ := r.two
    cases rv' with | v rv' =>
    cases rv'
    cases et : tyN st w with
    | none => rw [et] at e; cases e
    | some t =>
      rw [et] at e
      simp only [Option.bind_some] at e
      cases eb : isSub t n with
      | none => rw [eb] at e; cases e
      | some b =>
        rw [eb] at e
        cases e
        exact call_isi pins s σ H _ us Q I rr ⟨v, .ty n, .type t, .type n, b, rfl, .ty n, tyX_of rs rv et, kit_ty (kit_sub (tyN_mem et) eb), q _ _ (.refl _) (.bl _)⟩
  · cases e
theorem allBl_rl : ∀ {vs : List V} {ds : List D} {bs : List Bool}, RlAll K ρ H vs ds → allBl ds = some bs → vs = bs.map V.bl
  | _, _, _, .nil, e => by cases e; rfl
  | _, .bl b :: r, bs, .cons h t, e => by
    simp only [allBl] at e
    cases q : allBl r with
    | none => rw [q] at e; cases e
    | some bs' => rw [q] at e; cases e; cases h; rw [allBl_rl t q]; rfl
  | _, .non :: r, bs, .cons h t, e => by cases e
  | _, .int _ :: r, bs, .cons h t, e => by cases e
  | _, .str _ :: r, bs, .cons h t, e => by cases e
  | _, .tup _ :: r, bs, .cons h t, e => by cases e
  | _, .lst _ :: r, bs, .cons h t, e => by cases e
  | _, .dct _ :: r, bs, .cons h t, e => by cases e
  | _, .ty _ :: r, bs, .cons h t, e => by cases e
theorem cb_all (hc : X.calm = true) : CallR X (.builtin "all") (rA X.K allB) := by
  intro pins s σ H xs us Q I rr h
  obtain ⟨ρ, st, ws, d, rs, r, e, q⟩ := h
  unfold allB at e
  split at e
  · rename_i w
    obtain ⟨v, rfl, rv⟩ := r.one
    cases ea : asLst st w with
    | none => rw [ea] at e; cases e
    | some ds =>
      rw [ea] at e
      simp only [Option.bind_some] at e
      cases eb : allBl ds with
      | none => rw [eb] at e; cases e
      | some bs =>
        rw [eb] at e
        cases e
        obtain ⟨a, ys, rfl, h1, h2⟩ := lst_of rs rv ea
        cases allBl_rl h2 eb
        exact cr_all hc pins s σ H _ us Q I rr ⟨a, bs, rfl, h1, q _ _ (.refl _) (.bl _)⟩
  · cases e
theorem cb_any (hc : X.calm = true) : CallR X (.builtin "any") (rA X.K anyB) := by
  intro pins s σ H xs us Q I rr h
  obtain ⟨ρ, st, ws, d, rs, r, e, q⟩ := h
  unfold anyB at e
  split at e
  · rename_i w
    obtain ⟨v, rfl, rv⟩ := r.one
    cases ea : asLst st w with
    | none => rw [ea] at e; cases e
    | some ds =>
      rw [ea] at e
      simp only [Option.bind_some] at e
      cases eb : allBl ds with
      | none => rw [eb] at e; cases e
      | some bs =>
        rw [eb] at e
        cases e
        obtain ⟨a, ys, rfl, h1, h2⟩ := lst_of rs rv ea
        cases allBl_rl h2 eb
        exact cr_any hc pins s σ H _ us Q I rr ⟨a, bs, rfl, h1, q _ _ (.refl _) (.bl _)⟩
  · cases e
theorem cb_int : CallR X (.type "int") (rA X.K intB) := by
  intro pins s σ H xs us Q I rr h
  obtain ⟨ρ, st, ws, d, rs, r, e, q⟩ := h
  unfold intB at e
  split at e
  · obtain ⟨v, rfl, rv⟩ := r.one
    cases e
    cases rv with | v rv => cases rv; exact call_int1 pins s σ H _ us Q I rr (.inl ⟨_, rfl, q _ _ (.refl _) (.int _)⟩)
  · obtain ⟨v, rfl, rv⟩ := r.one
    cases e
    cases rv with | v rv => cases rv; exact call_int1 pins s σ H _ us Q I rr (.inr ⟨_, rfl, q _ _ (.refl _) (.int _)⟩)
  · cases e
theorem cb_min (hc : X.calm = true) : CallR X (.builtin "min") (rA X.K minB) := by
  intro pins s σ H xs us Q I rr h
  obtain ⟨ρ, st, ws, d, rs, r, e, q⟩ := h
  unfold minB at e
  split at e
  · obtain ⟨v, v', rfl, rv, rv'⟩ := r.two
    cases e
    cases rv with | v rv => cases rv' with | v rv' => cases rv; cases rv'; exact call_min2 hc pins s σ H _ us Q I rr ⟨_, _, rfl, q _ _ (.refl _) (.int _)⟩
  · cases e
theorem cb_tuple : CallR X (.type "tuple") (rA X.K tupleB) := by
  intro pins s σ H xs us Q I rr h
  obtain ⟨ρ, st, ws, d, rs, r, e, q⟩ := h
  unfold tupleB at e
  split at e
  · rename_i w0
    obtain ⟨v, rfl, rv⟩ := r.one
    split at e
    · cases e
      cases rv with
      | v rv =>
        cases rv with
        | tup h1 n1 q1 => exact call_tuple_of pins s σ H _ us Q I rr ⟨_, _, rfl, .inr ⟨.of h1, q _ _ (.refl _) (.tup h1 n1 q1)⟩⟩
    · cases ea : asLst st w0 with
      | none => rw [ea] at e; cases e
      | some ds =>
        rw [ea] at e
        cases e
        obtain ⟨a, ys, rfl, h1, h2⟩ := lst_of rs rv ea
        exact call_tuple_of pins s σ H _ us Q I rr ⟨_, _, rfl, .inl ⟨h1, fun p hp => q _ _ (same_upd hp) (.tup upd_same (rs.fresh hp) (h2.same (same_upd hp)))⟩⟩
  · cases e
theorem cf_list : CallR X (.type "list") (rF X.K listF) := by
  intro pins s σ H xs us Q I rr h
  obtain ⟨ρ, st, ws, d, rs, r, e, q⟩ := h
  unfold listF at e
  split at e
  · obtain ⟨v, rfl, rv⟩ := r.one
    split at e
    · cases e
      cases rv with
      | v rv =>
        cases rv with
        | tup h1 n1 q1 => exact call_list_of pins s σ H _ us Q I rr ⟨_, _, rfl, .inr (.of h1), fun p hp => q p _ hp q1⟩
    · obtain ⟨a, ys, rfl, h1, h2⟩ := lst_of rs rv e
      exact call_list_of pins s σ H _ us Q I rr ⟨_, _, rfl, .inl h1, fun p hp => q p _ hp h2⟩
  · cases e
theorem hasDict_of {d : PyData} (h : SeqAt.shaped d = true) : d.hasDict = false := PyData.hasDict_of_canLay d (SeqAt.canLay_of_shaped h)
theorem cb_repr (gd : X.A.guards = some []) (hu : X.A.units + 65 < cLine) : CallR X (.builtin "repr") (rA X.K reprB) := by
  intro pins s σ H xs us Q I rr h
  obtain ⟨ρ, st, ws, d, rs, r, e, q⟩ := h
  unfold reprB at e
  split at e
  · rename_i w
    obtain ⟨v, rfl, rv⟩ := r.one
    split at e
    · rename_i c
      rw [Bool.and_eq_true, Bool.and_eq_true] at c
      obtain ⟨⟨c1, c2⟩, c3⟩ := c
      have c3 := of_decide_eq_true c3
      have c4 : (deref st w).py.shown.length ≤ sizeLine := Nat.le_trans c3 (by decide)
      cases e
      have dp := deref_dp rs rv c1
      have q' := q H (.str (deref st w).py.shown) (.refl _) (.str _)
      have hd := SeqAt.depth_of_shaped c1
      obtain ⟨u, rfl, ru⟩ := vals1 rr
      obtain ⟨as, rd⟩ := Dp.reads I _ _ u dp ru
      have nd := hasDict_of c1
      generalize (deref st w).py = dd at *
      cases dp with
      | non =>
        cases ru
        exact PySem.P.repr_of_none ⟨.str _, H, I.tok _, ⟨_, rfl⟩, by simpa [PyData.shown] using q'⟩
      | bl b =>
        cases ru
        exact PySem.P.repr_of_bool ⟨.str _, H, I.tok _, ⟨_, rfl⟩, by simpa [PyData.shown] using q'⟩
      | int i =>
        obtain ⟨t, rfl⟩ := ru
        exact PySem.P.repr_of_int (by simpa [PyData.showable] using c2) ⟨.str _, H, I.tok _, ⟨_, rfl⟩, by simpa [PyData.shown] using q'⟩
      | str x =>
        obtain ⟨t, rfl⟩ := ru
        exact PySem.P.repr_of_str ⟨.str _, H, I.tok _, ⟨_, rfl⟩, by simpa [PyData.shown] using q'⟩ (by simpa [PyData.shown] using c4)
      | lst h1 h2 =>
        cases ru
        exact repr_of_reads' rd c2 (PyData.noDict_hsm nd) gd (by omega) (fun _ _ z => z) (fun h' u tk hk => ⟨.str _, H, I.kept hk, ⟨_, rfl⟩, q'⟩) c4
      | tup h1 h2 =>
        cases ru
        exact repr_of_reads' rd c2 (PyData.noDict_hsm nd) gd (by omega) (fun _ _ z => z) (fun h' u tk hk => ⟨.str _, H, I.kept hk, ⟨_, rfl⟩, q'⟩) c4
    · cases e
  · cases e
end
end Jv
end
section
namespace Jv
open PySem PySem.Spec L2 PyProof.Rows

/-! ### a[i] -/
def ixD : O2
  | _, .v (.str x), .v (.int i) => if x.length ≤ 100000 then (atI x.cps.toList i).map fun c => .str ⟨#[c]⟩ else none
  | _, .v (.tup ds), .v (.int i) => atI ds i
  | st, w, .v (.int i) => (asLst st w).bind fun ds => atI ds i
  | _, _, _ => none
theorem RlAll.atI {K : PySem.W.Frag} {ρ : Rho} {H : Hp} {xs : List V} {ds : List D} {i : Int} {d : D} (r : RlAll K ρ H xs ds) (e : L2.atI ds i = some d) : ∃ v, L2.atI xs i = some v ∧ Rl K ρ H v d := by
  unfold L2.atI at e ⊢
  rw [r.length]
  cases q : ixN ds.length i with
  | none => rw [q] at e; cases e
  | some j =>
    rw [q] at e
    exact r.getD e
section
variable {X : Cx} {ct : Nat → Value} {E : St → XK} {a b : Expr} {fa fb : ED} {pos : Pos}
theorem ix_D : IxR X (rOf X.K ixD) := by
  intro value slice pins s σ H x y v u Q I rx ry h hs
  obtain ⟨ρ, st, w1, w2, d, rs, r1, r2, e, q⟩ := h
  unfold ixD at e
  split at e
  · split at e
    · rename_i hl
      cases r1 with | v r1 => cases r2 with | v r2 =>
      cases r1; cases r2
      rename_i i x
      cases ec : L2.atI i.cps.toList x with
      | none => rw [ec] at e; cases e
      | some c => rw [ec] at e; cases e; exact ix_str value slice pins s σ H _ _ v u Q I rx ry ⟨_, _, c, rfl, rfl, sl5 hl, ec, q _ _ (.refl _) (.str _)⟩ hs
    · cases e
  · cases r1 with | v r1 => cases r2 with | v r2 =>
    cases r2
    cases r1 with
    | tup h1 n1 q1 =>
      obtain ⟨v', e1, r'⟩ := q1.atI e
      exact ix_tup value slice pins s σ H _ _ v u Q I rx ry ⟨_, _, _, _, rfl, rfl, .of h1, e1, q _ _ (.refl _) r'⟩ hs
  · cases r2 with | v r2 =>
    cases r2
    cases ea : asLst st w1 with
    | none => rw [ea] at e; cases e
    | some ds =>
      rw [ea] at e
      obtain ⟨p, ys, rfl, h1, h2⟩ := lst_of rs r1 ea
      obtain ⟨v', e1, r'⟩ := h2.atI e
      exact ix_list value slice pins s σ H _ _ v u Q I rx ry ⟨_, _, _, _, rfl, rfl, h1, e1, q _ _ (.refl _) r'⟩ hs
  · cases e
theorem de_ix (ha : PE X a (tE X.K ct E fa)) (hb : PE X b (tE X.K ct E fb)) (hs : PlainIx b := by exact fun _ _ => rfl) : PE X (.Subscript a b pos) (tE X.K ct E (eBin ixD fa fb)) :=
  PE.of (pe_ix ix_D ha hb hs) fun σ H Q h => two_read h
/-! ### d["x"] of an object -/
def lookS (kvs : List (Str × W)) (k : Str) : Option W := (kvs.find? fun p => decide (p.1 = k)).map (·.2)
def dGet (st : Sto) (w k : W) : R W := match w, k with
  | .r l, .v (.str k) => match st[l]? with
    | some (.dct kvs) => match lookS kvs k with
      | some w => .ok w st
      | none => .bad
    | _ => .bad
  | _, _ => .bad
def eDGet (f g : ED) : ED := fun env st => (f env st).bind fun w st => (g env st).bind fun k st => dGet st w k
theorem RlD.look {K : PySem.W.Frag} {ρ : Rho} {H : Hp} {L : List (Key × V)} {kvs : List (Str × W)} {k : Str} {w : W} (r : RlD K ρ H L kvs) (e : lookS kvs k = some w) : ∃ v, valV L (.inr k) = some v ∧ Rw K ρ H v w := by
  induction r with
  | nil => cases e
  | @cons k' v' d kvs ds rv _ ih =>
    unfold lookS at e
    unfold valV
    by_cases hk : k' = k
    · subst hk
      simp at e ⊢
      subst e
      exact rv
    · have h2 : ¬ ((Sum.inr k' : Key) = Sum.inr k) := fun z => hk (Sum.inr.inj z)
      rw [List.find?_cons_of_neg (by simpa using hk)] at e
      rw [List.find?_cons_of_neg (by simpa using h2)]
      exact ih e
theorem de_dget (hu : X.A.units + 1 < cLine) (ha : PE X a (tE X.K ct E fa)) (hb : PE X b (tE X.K ct E fb)) (hs : NoSl b := by exact fun _ _ => rfl) : PE X (.Subscript a b pos) (tE X.K ct E (eDGet fa fb)) :=
  PE.of (pe_dget hu ha hb hs) fun σ H Q h => by
    refine (tG.bind (rel := Rw) (k := fun w env st => (fb env st).bind fun k st => dGet st w k) h).mono fun v H1 ⟨ρ1, st1, env, w1, a1, r1, q1⟩ => ?_
    refine ⟨ρ1, st1, env, a1, (okG.bind (rel := Rw) q1 a1.2).mono fun u H2 ⟨ρ2, st2, w2, a2, g2, r2, q2⟩ => ?_⟩
    replace r1 := r1.grow g2
    unfold dGet at q2
    split at q2
    · rename_i l k r1
      split at q2
      · rename_i kvs ek
        split at q2
        · rename_i w el
          rcases a2.1.obj l _ ek with ⟨z, _⟩ | ⟨p, hp, L, h1, h2⟩
          · cases z
          · cases r1 with | r hl hv =>
            cases r2 with | v r2 =>
            cases r2
            cases hv p hp
            obtain ⟨v', e1, rv'⟩ := h2.look el
            exact ⟨p, v', rfl, by have := DGet.k (k := Sum.inr k) h1; rw [e1] at this; exact this, q2.here a2.1 rv'⟩
        · exact q2.elim
      · exact q2.elim
    · exact q2.elim
end
/-! ### slices -/
def cutD {α : Type} (xs : List α) (lo hi : Option Int) : List α := (xs.drop (HT.sIx xs.length 0 lo)).take (HT.sIx xs.length xs.length hi - HT.sIx xs.length 0 lo)
def slcD (st : Sto) (w : W) (lo hi : Option Int) : Option D := match w with
  | .v (.str x) => if x.length ≤ 100000 then some (.str (cutS x lo hi)) else none
  | .v (.tup ds) => some (.tup (cutD ds lo hi))
  | w => (asLst st w).map fun ds => .lst (cutD ds lo hi)
abbrev PD := Env → Sto → R (Option Int)
def pNo : PD := fun _ st => .ok none st
def pSo (f : ED) : PD := fun env st => (f env st).bind fun w st => match w with
  | .v (.int i) => .ok (some i) st
  | _ => .bad
def eSlc (f : ED) (lo hi : PD) : ED := fun env st => (f env st).bind fun w st => (lo env st).bind fun l st => (hi env st).bind fun h st => ofOp st (slcD st w l h)
abbrev RlP : Rel (Option Int) (Option Int) := fun _ _ _ b c => b = c
abbrev tP (K : PySem.W.Frag) (ct : Nat → Value) (E : St → XK) (f : PD) : TO := tG K ct RlP E f
theorem PO.of {X : Cx} {e : Option Expr} {t t' : TO} (h : PO X e t) (i : ∀ σ H Q, t' σ H Q → t σ H Q) : PO X e t' := ⟨fun pins s σ H Q I q => h.run pins s σ H Q I (i σ H Q q)⟩
def rSl (K : PySem.W.Frag) : V → Option Int → Option Int → Hp → VK → Prop := fun x lo hi H Q => ∃ ρ st w d, RelSt K ρ H st ∧ Rw K ρ H x w ∧ slcD st w lo hi = some d ∧ ∀ H' v, Same H H' → Rl K ρ H' v d → Q v H'
section
variable {X : Cx} {ct : Nat → Value} {E : St → XK} {a b : Expr} {fa fb : ED} {pos p2 : Pos}
theorem dp_no : PO X none (tP X.K ct E pNo) := PO.of po_none fun σ H Q ⟨ρ, st, env, a, h⟩ => h.here a.1 rfl
theorem dp_so (h : PE X a (tE X.K ct E fa)) : PO X (some a) (tP X.K ct E (pSo fa)) := PO.of (po_some h) fun σ H Q q => by
  refine (tG.bind (rel := Rw) (k := fun w _ st => match w with | .v (.int i) => R.ok (some i) st | _ => R.bad) q).mono fun v H1 ⟨ρ1, st1, env, w, a1, r1, q1⟩ => ?_
  split at q1
  · cases r1 with | v r1 => cases r1; exact ⟨_, rfl, q1.here a1.1 rfl⟩
  · exact q1.elim
theorem RlAll.cutV {K : PySem.W.Frag} {ρ : Rho} {H : Hp} {xs : List V} {ds : List D} {lo hi : Option Int} (r : RlAll K ρ H xs ds) : RlAll K ρ H (L2.cutV xs lo hi) (cutD ds lo hi) := by
  unfold L2.cutV cutD
  rw [r.length]
  exact (r.drop _).take _
theorem cutD_all {α : Type} {xs : List α} {lo hi : Option Int} (h : HT.sIx xs.length 0 lo = 0 ∧ HT.sIx xs.length xs.length hi = xs.length) : cutD xs lo hi = xs := by
  unfold cutD
  rw [h.1, h.2]
  simp
theorem sl_D : SlR X (rSl X.K) := by
  intro pins s σ H x v vl vu lo hi sl Q I rx hs pl pu h
  obtain ⟨ρ, st, w, d, rs, r1, e, q⟩ := h
  unfold slcD at e
  split at e
  · split at e
    · rename_i hl
      cases e
      cases r1 with | v r1 =>
      cases r1
      exact sl_str pins s σ H _ v vl vu lo hi sl Q I rx hs pl pu ⟨_, rfl, sl5 hl, q _ _ (.refl _) (.str _)⟩
    · cases e
  · cases e
    cases r1 with | v r1 =>
    cases r1 with
    | tup h1 n1 q1 =>
      refine sl_tupA pins s σ H _ v vl vu lo hi sl Q I rx hs pl pu ⟨_, _, rfl, .of h1, fun z => ?_, fun _ p hp => ?_⟩
      · rw [q1.length] at z
        rw [cutD_all z] at q
        exact q _ _ (.refl _) (.tup h1 n1 q1)
      · exact q _ _ (same_upd hp) (.tup upd_same (rs.fresh hp) (q1.cutV.same (same_upd hp)))
  · cases ea : asLst st w with
    | none => rw [ea] at e; cases e
    | some ds =>
      rw [ea] at e
      cases e
      obtain ⟨p, ys, rfl, h1, h2⟩ := lst_of rs r1 ea
      exact sl_list pins s σ H _ v vl vu lo hi sl Q I rx hs pl pu ⟨_, _, rfl, h1, fun p hp => q _ _ (same_upd hp) (.lst (.inl ⟨.inl upd_same, rs.fresh hp⟩) (h2.cutV.same (same_upd hp)))⟩
theorem de_slc {lo hi : Option Expr} {fl fh : PD} (ha : PE X a (tE X.K ct E fa)) (hl : PO X lo (tP X.K ct E fl)) (hh : PO X hi (tP X.K ct E fh)) : PE X (.Subscript a (.Slice lo hi none p2) pos) (tE X.K ct E (eSlc fa fl fh)) :=
  PE.of (pe_slice sl_D ha hl hh) fun σ H Q q => by
    refine (tG.bind (rel := Rw) (k := fun w env st => (fl env st).bind fun l st => (fh env st).bind fun h st => ofOp st (slcD st w l h)) q).mono fun v H1 ⟨ρ1, st1, env, w, a1, r1, q1⟩ => ?_
    refine ⟨ρ1, st1, env, a1, (okG.bind (rel := RlP) q1 a1.2).mono fun l H2 ⟨ρ2, st2, l', a2, g2, r2, q2⟩ => ?_⟩
    cases r2
    refine ⟨ρ2, st2, env, a2, (okG.bind (rel := RlP) q2 a2.2).mono fun h H3 ⟨ρ3, st3, h', a3, g3, r3, q3⟩ => ?_⟩
    cases r3
    cases e : slcD st3 w l h with
    | none => rw [e] at q3; exact q3.elim
    | some d => rw [e] at q3; exact ⟨ρ3, st3, w, d, a3.1, (r1.grow g2).grow g3, e, fun H' v s r => okG.up q3 a3.1 s (.v r)⟩
end

/-! ### what holds of trees where nothing of theirs is touched -/
def Ext (ρ : Rho) (H : Hp) (ρ' : Rho) (H' : Hp) : Prop := ∀ a o, H a = some o → ¬ ρ.mut a → H' a = some o ∧ ¬ ρ'.mut a
theorem Grow.ext {ρ ρ' : Rho} {H H' : Hp} (g : Grow ρ H ρ' H') : Ext ρ H ρ' H' := fun _ _ h n => g.keep h n
theorem Ext.trans {ρ ρ1 ρ2 : Rho} {H H1 H2 : Hp} (a : Ext ρ H ρ1 H1) (b : Ext ρ1 H1 ρ2 H2) : Ext ρ H ρ2 H2 := fun x o h n => let ⟨h1, n1⟩ := a x o h n; b x o h1 n1
theorem Ext.hide {ρ : Rho} {H : Hp} {p : Addr} {o : HO} (hp : H p = none) : Ext ρ H (ρ.hide p) (upd H p o) := fun a u h n => by
  have ne := ne_of_none h hp
  refine ⟨by rw [upd_ne ne]; exact h, fun z => ?_⟩
  rcases z with z | z
  · exact n (.inl z)
  · rcases List.mem_cons.mp z with z | z
    · exact ne z
    · exact n (.inr z)
section
variable {K : PySem.W.Frag} {ρ ρ' : Rho} {H H' : Hp}
mutual
theorem Rl.ext (g : Ext ρ H ρ' H') : ∀ {v : V} {d : D}, Rl K ρ H v d → Rl K ρ' H' v d
  | _, _, .non => .non
  | _, _, .bl b => .bl b
  | _, _, .int i => .int i
  | _, _, .str x => .str x
  | _, _, .ty n => .ty n
  | _, _, .tup h n r => let ⟨h', n'⟩ := g _ _ h n; .tup h' n' (RlAll.ext g r)
  | _, _, .lst h r => .lst (by
      rcases h with ⟨h | ⟨o, h⟩, n⟩ | h
      · obtain ⟨h1, h2⟩ := g _ _ h n; exact .inl ⟨.inl h1, h2⟩
      · obtain ⟨h1, h2⟩ := g _ _ h n; exact .inl ⟨.inr ⟨o, h1⟩, h2⟩
      · exact .inr h) (RlAll.ext g r)
  | _, _, .dct0 h n => let ⟨h', n'⟩ := g _ _ h n; .dct0 h' n'
theorem RlAll.ext (g : Ext ρ H ρ' H') : ∀ {vs : List V} {ds : List D}, RlAll K ρ H vs ds → RlAll K ρ' H' vs ds
  | _, _, .nil => .nil
  | _, _, .cons r t => .cons (Rl.ext g r) (RlAll.ext g t)
end
end

/-! ### what is walked -/
def ItOk (K : PySem.W.Frag) (J : It) (ρ0 : Rho) (H0 : Hp) (ds : List D) : Prop := ∀ ρ H st, Ext ρ0 H0 ρ H → RelSt K ρ H st →
  (∀ (i : Nat) (d : D), ds[i]? = some d → J.go i H ∧ ∀ x H', J.yld i H x H' → Same H H' ∧ Rl K ρ H' x d) ∧ J.stop ds.length H
def okI (K : PySem.W.Frag) (ct : Nat → Value) (ρ : Rho) (H : Hp) (E : XK) (R' : It → Hp → Prop) : R (List D) → Prop
  | .ok ds st' => ∀ ρ' H' J, Grow ρ H ρ' H' → RelSt K ρ' H' st' → ItOk K J ρ' H' ds → R' J H'
  | .exc x st' => ∀ ρ' H' cv od, Grow ρ H ρ' H' → RelSt K ρ' H' st' → XRl K ct ρ' H' cv od x → E cv od H'
  | .bad => False
def iR (K : PySem.W.Frag) (ct : Nat → Value) (E : St → XK) (f : LD) : TI := fun σ H R' => ∃ ρ st env, At K ρ H st σ env ∧ okI K ct ρ H (E σ) R' (f env st)
theorem PI.of {X : Cx} {tg e : Expr} {w w' : TI} (h : PI X tg e w) (i : ∀ σ H R, w' σ H R → w σ H R) : PI X tg e w' := ⟨fun pins s σ H R I q => h.run pins s σ H R I (i σ H R q)⟩
theorem PI.or {X : Cx} {tg e : Expr} {w w' : TI} (h : PI X tg e w) (h' : PI X tg e w') : PI X tg e (fun σ H R => w σ H R ∨ w' σ H R) := ⟨fun pins s σ H R I q => q.elim (h.run pins s σ H R I) (h'.run pins s σ H R I)⟩
def signs (x : Str) : List D := x.cps.toList.map fun c => .str ⟨#[c]⟩
def items (w : W) (st : Sto) : R (List D) := match w with
  | .v (.lst ds) => .ok ds st
  | .v (.tup ds) => .ok ds st
  | .v (.str x) => .ok (signs x) st
  | _ => .bad
def itE (f : ED) : LD := fun env st => (f env st).bind items
def rangeL (lo n : Nat) : List D := (List.range n).map fun i => .int ((lo + i : Nat) : Int)
def ranges (ws : List W) (st : Sto) : R (List D) := match ws with
  | [.v (.int n)] => if -100000 ≤ n ∧ n ≤ 100000 then .ok (rangeL 0 n.toNat) st else .bad
  | [.v (.int a), .v (.int b)] => if 0 ≤ a ∧ a ≤ 100000 ∧ b ≤ 100000 then .ok (rangeL a.toNat (b - a).toNat) st else .bad
  | _ => .bad
def itRange (g : AD) : LD := fun env st => (g env st).bind ranges
section
variable {K : PySem.W.Frag} {ρ : Rho} {H : Hp}
theorem itOk_list {a : Addr} {xs : List V} {ds : List D} (h : LsR K ρ H a xs) (r : RlAll K ρ H xs ds) : ItOk K (Itl K a) ρ H ds := by
  intro ρ' H' st g s
  have h' : SqL K H' a xs := by
    rcases h with ⟨h | ⟨o, h⟩, n⟩ | h
    · exact .inl (.inl (g _ _ h n).1)
    · exact .inl (.inr ⟨o, (g _ _ h n).1⟩)
    · exact .inr h
  refine ⟨fun i d e => ?_, xs, h', Nat.le_of_eq r.length⟩
  obtain ⟨v, e1, rv⟩ := r.getD e
  refine ⟨⟨xs, v, h', e1⟩, ?_⟩
  rintro x H2 ⟨rfl, y⟩
  have := y xs h'
  rw [e1] at this
  cases this
  exact ⟨.refl _, rv.ext g⟩
theorem itOk_tup {a : Addr} {xs : List V} {ds : List D} (h : H a = some (.tup xs)) (n : ¬ ρ.mut a) (r : RlAll K ρ H xs ds) : ItOk K (Itt K a) ρ H ds := by
  intro ρ' H' st g s
  have h' : SqT K H' a xs := .of (g _ _ h n).1
  refine ⟨fun i d e => ?_, xs, h', Nat.le_of_eq r.length⟩
  obtain ⟨v, e1, rv⟩ := r.getD e
  refine ⟨⟨xs, v, h', e1⟩, ?_⟩
  rintro x H2 ⟨rfl, y⟩
  have := y xs h'
  rw [e1] at this
  cases this
  exact ⟨.refl _, rv.ext g⟩
theorem itOk_str (x : Str) : ItOk K (Its x) ρ H (signs x) := by
  intro ρ' H' st g s
  refine ⟨fun i d e => ?_, ?_⟩
  · unfold signs at e
    rw [List.getElem?_map] at e
    cases q : x.cps.toList[i]? with
    | none => rw [q] at e; cases e
    | some c =>
      rw [q] at e
      cases e
      have q' : x.cps[i]? = some c := by simpa using q
      refine ⟨?_, ?_⟩
      · show i < x.cps.size
        exact (Array.getElem?_eq_some_iff.mp q').1
      · rintro y H2 ⟨rfl, c', e1, rfl⟩
        rw [q'] at e1
        cases e1
        exact ⟨.refl _, .str _⟩
  · show x.cps.size ≤ _
    simp [signs]
theorem itOk_range (lo : Nat) (n : Nat) : ItOk K (Itr (lo : Int) n) ρ H (rangeL lo n) := by
  intro ρ' H' st g s
  refine ⟨fun i d e => ?_, ?_⟩
  · unfold rangeL at e
    by_cases hi : i < n
    · rw [List.getElem?_map, List.getElem?_range hi] at e
      cases e
      refine ⟨hi, ?_⟩
      rintro y H2 ⟨rfl, rfl⟩
      refine ⟨.refl _, ?_⟩
      have : ((lo : Int) + (i : Nat)) = ((lo + i : Nat) : Int) := by omega
      rw [this]
      exact .int _
    · rw [List.getElem?_eq_none (by simpa using hi)] at e
      cases e
  · show n ≤ _
    simp [rangeL]
end
section
variable {X : Cx} {ct : Nat → Value} {E : St → XK} {tg e : Expr} {f : ED} {es : List Expr} {g : AD} {p pos : Pos}
theorem di_e (h : PE X e (tE X.K ct E f)) : PI X tg e (iR X.K ct E (itE f)) := PI.of (PI.or (pi_list h) (PI.or (pi_tup h) (pi_str h))) fun σ H R' ⟨ρ, st, env, a, q⟩ => by
  unfold itE at q
  cases ef : f env st with
  | ok w st1 =>
    rw [ef] at q
    simp only [R.bind_ok, items] at q
    split at q
    · refine .inl ⟨ρ, st, env, a, ?_⟩
      rw [ef]
      intro ρ1 H1 v g s r
      cases r with | v r =>
      cases r with
      | lst h1 r1 => exact ⟨_, rfl, ⟨_, h1.sql⟩, q ρ1 H1 _ g s (itOk_list h1 r1)⟩
    · refine .inr (.inl ⟨ρ, st, env, a, ?_⟩)
      rw [ef]
      intro ρ1 H1 v g s r
      cases r with | v r =>
      cases r with
      | tup h1 n1 r1 => exact ⟨_, rfl, ⟨_, .of h1⟩, q ρ1 H1 _ g s (itOk_tup h1 n1 r1)⟩
    · refine .inr (.inr ⟨ρ, st, env, a, ?_⟩)
      rw [ef]
      intro ρ1 H1 v g s r
      cases r with | v r =>
      cases r
      exact ⟨_, rfl, q ρ1 H1 _ g s (itOk_str _)⟩
    · exact q.elim
  | exc x st1 =>
    rw [ef] at q
    refine .inl ⟨ρ, st, env, a, ?_⟩
    rw [ef]
    exact q
  | bad => rw [ef] at q; exact q.elim
theorem di_range1 (hg : Gl X "range") (hm : X.mg "range" = none) (h : PE X e (tE X.K ct E f)) (hs : starEach [e] X.env = [(false, eval e X.env)] := by rfl) :
    PI X tg (.Call (.Name "range" p) [e] [] pos) (iR X.K ct E (itRange (aCons f aNil))) := by
  have ha : PA X [e] (tA X.K ct E (aCons f aNil)) := da_cons h da_nil hs
  refine PI.of (pi_range1 hg hm ha hs) fun σ H R' ⟨ρ, st, env, a, q⟩ => ⟨ρ, st, env, a, ?_⟩
  unfold itRange at q
  cases ef : aCons f aNil env st with
  | ok ws st1 =>
    rw [ef] at q
    simp only [R.bind_ok, ranges] at q
    intro ρ1 H1 vs g s r
    split at q
    · rename_i n
      split at q
      · rename_i hn
        obtain ⟨v, rfl, rv⟩ := r.one
        cases rv with | v rv =>
        cases rv
        exact ⟨n, rfl, Int.le_trans (by decide) hn.1, Int.lt_of_le_of_lt hn.2 (by decide), q ρ1 H1 _ g s (by have := itOk_range (K := X.K) (ρ := ρ1) (H := H1) 0 n.toNat; simpa using this)⟩
      · exact q.elim
    · have l2 := aCons_len (f := f) aNil_len _ _ _ _ ef
      simp at l2
    · exact q.elim
  | exc x st1 => rw [ef] at q; exact q
  | bad => rw [ef] at q; exact q.elim
end
end Jv
end
section
namespace Jv
open PySem PySem.Spec L2 PyProof.Rows

/-! ### targets -/
abbrev GD := W → Env → Option Env
abbrev GsD := List W → Env → Option Env
def gNm (i : Nat) : GD := fun w env => some (env.set i (some w))
def gsNil : GsD := fun ws env => match ws with
  | [] => some env
  | _ => none
def gsCons (g : GD) (gs : GsD) : GsD := fun ws env => match ws with
  | w :: r => (g w env).bind (gs r)
  | [] => none
def gTp (n : Nat) (gs : GsD) : GD := fun w env => match w with
  | .v (.tup ds) => if ds.length = n then gs (ds.map .v) env else none
  | _ => none
/-- the slots vs at most have changed -/
def Agree (vs : List Nat) (σ σ' : St) : Prop := σ'.length = σ.length ∧ ∀ i, i ∉ vs → σ'[i]? = σ[i]?
theorem Agree.refl (vs : List Nat) (σ : St) : Agree vs σ σ := ⟨rfl, fun _ _ => rfl⟩
theorem Agree.trans {vs : List Nat} {σ σ1 σ2 : St} (a : Agree vs σ σ1) (b : Agree vs σ1 σ2) : Agree vs σ σ2 := ⟨b.1.trans a.1, fun i h => (b.2 i h).trans (a.2 i h)⟩
theorem Agree.mono {vs vs' : List Nat} {σ σ' : St} (h : ∀ i ∈ vs, i ∈ vs') (a : Agree vs σ σ') : Agree vs' σ σ' := ⟨a.1, fun i n => a.2 i fun z => n (h i z)⟩
theorem wipe_get (σ : St) : ∀ (vs : List Nat) (i : Nat), (wipe σ vs)[i]? = if i ∈ vs ∧ i < σ.length then some none else σ[i]?
  | [], i => by simp [wipe]
  | v :: vs, i => by
    unfold wipe
    by_cases h : v = i
    · subst h
      by_cases hl : v < σ.length
      · rw [List.getElem?_set_self (by rw [wipe_length]; exact hl), if_pos ⟨List.mem_cons_self, hl⟩]
      · rw [List.getElem?_eq_none (by rw [List.length_set, wipe_length]; omega), if_neg (fun z => hl z.2), List.getElem?_eq_none (by omega)]
    · rw [List.getElem?_set_ne h, wipe_get σ vs i]
      have : (i ∈ v :: vs ∧ i < σ.length) ↔ (i ∈ vs ∧ i < σ.length) := by
        constructor
        · rintro ⟨z, y⟩
          rcases List.mem_cons.mp z with z | z
          · exact absurd z.symm h
          · exact ⟨z, y⟩
        · rintro ⟨z, y⟩
          exact ⟨List.mem_cons_of_mem _ z, y⟩
      by_cases q : i ∈ vs ∧ i < σ.length
      · rw [if_pos q, if_pos (this.mpr q)]
      · rw [if_neg q, if_neg fun z => q (this.mp z)]
theorem Agree.wipe {vs : List Nat} {σ σ' : St} (a : Agree vs (L2.wipe σ vs) σ') : L2.wipe σ' vs = L2.wipe σ vs := by
  refine List.ext_getElem? fun i => ?_
  have hl : σ'.length = σ.length := by rw [a.1, wipe_length]
  rw [wipe_get, wipe_get, hl]
  by_cases h : i ∈ vs ∧ i < σ.length
  · rw [if_pos h, if_pos h]
  · rw [if_neg h, if_neg h]
    by_cases hi : i ∈ vs
    · have : ¬ i < σ.length := fun z => h ⟨hi, z⟩
      rw [List.getElem?_eq_none (by omega), List.getElem?_eq_none (by omega)]
    · rw [a.2 i hi, wipe_get, if_neg h]
def gR (K : PySem.W.Frag) (vs : List Nat) (g : GD) : TG := fun v σ H Q => ∃ ρ st env w env', At K ρ H st σ env ∧ Rw K ρ H v w ∧ g w env = some env' ∧ ∀ σ', At K ρ H st σ' env' → Agree vs σ σ' → Q σ' H
def gsR (K : PySem.W.Frag) (vs : List Nat) (g : GsD) : TGs := fun v σ H Q => ∃ ρ st env ws env', At K ρ H st σ env ∧ RwAll K ρ H v ws ∧ g ws env = some env' ∧ ∀ σ', At K ρ H st σ' env' → Agree vs σ σ' → Q σ' H
theorem PG.of {X : Cx} {e : Expr} {t t' : TG} (h : PG X e t) (i : ∀ v σ H Q, t' v σ H Q → t v σ H Q) : PG X e t' := ⟨fun pins s σ H v u Q I r q => h.run pins s σ H v u Q I r (i v σ H Q q)⟩
theorem PGs.of {X : Cx} {e : List Expr} {t t' : TGs} (h : PGs X e t) (i : ∀ v σ H Q, t' v σ H Q → t v σ H Q) : PGs X e t' := ⟨fun pins s σ H v u Q I r q => h.run pins s σ H v u Q I r (i v σ H Q q)⟩
theorem RlAll.toW {K : PySem.W.Frag} {ρ : Rho} {H : Hp} : ∀ {vs : List V} {ds : List D}, RlAll K ρ H vs ds → RwAll K ρ H vs (ds.map .v)
  | _, _, .nil => .nil
  | _, _, .cons r t => .cons (.v r) (RlAll.toW t)
theorem agree_set (σ : St) (i : Nat) (o : Option V) : Agree [i] σ (σ.set i o) := ⟨by simp, fun j h => by rw [List.getElem?_set_ne]; intro z; exact h (by simp [z])⟩
section
variable {X : Cx}
theorem dg_name {i : Nat} {x : Str} {pos : Pos} (hN : X.N.Nodup) (hi : X.N[i]? = some x := by rfl) (hx : Loc X.env.scope x := by first | exact Or.inl rfl | exact Or.inr rfl)
    (hf : X.fn x = true ∨ X.env.scope.names.lookup x = some .local := by first | exact .inl rfl | exact .inr rfl | assumption) : PG X (.Name x pos) (gR X.K [i] (gNm i)) :=
  PG.of (pg_name hN hi hx hf) fun v σ H Q ⟨ρ, st, env, w, env', a, r, e, q⟩ => by
    cases e
    exact q _ ⟨a.1, a.2.set r i⟩ (agree_set σ i _)
theorem dgs_nil : PGs X [] (gsR X.K [] gsNil) := PGs.of pgs_nil fun v σ H Q ⟨ρ, st, env, ws, env', a, r, e, q⟩ => by
  cases r with
  | nil => cases e; exact ⟨rfl, q _ a (.refl _ _)⟩
  | cons _ _ => cases e
theorem dgs_cons {e : Expr} {es : List Expr} {g : GD} {gs : GsD} {vs vs' : List Nat} (h1 : PG X e (gR X.K vs g)) (h2 : PGs X es (gsR X.K vs' gs))
    (hs : (assignEach (e :: es) X.env).map (·.2) = assign e X.env :: (assignEach es X.env).map (·.2) := by rfl) : PGs X (e :: es) (gsR X.K (vs ++ vs') (gsCons g gs)) := PGs.of (pgs_cons h1 h2 hs) fun v σ H Q ⟨ρ, st, env, ws, env', a, r, e, q⟩ => by
  cases r with
  | nil => cases e
  | @cons v vs w ws rv rt =>
    simp only [gsCons] at e
    cases e1 : g w env with
    | none => rw [e1] at e; cases e
    | some env1 =>
      rw [e1] at e
      exact ⟨v, vs, rfl, ρ, st, env, w, env1, a, rv, e1, fun σ' a' g1 => ⟨ρ, st, env1, ws, env', a', rt, e, fun σ2 a2 g2 => q σ2 a2 ((g1.mono fun i => List.mem_append_left _).trans (g2.mono fun i => List.mem_append_right _))⟩⟩
theorem dg_tup {es : List Expr} {k n : Nat} {pos : Pos} {gs : GsD} {vs : List Nat} (hc : X.calm = true) (h : PGs X es (gsR X.K vs gs)) (hn : (assignEach es X.env).length = n := by rfl) (hst : (assignEach es X.env).findIdx? (·.1) = none := by rfl) :
    PG X (.Tuple es k pos) (gR X.K vs (gTp n gs)) := PG.of (pg_tup hc h hn hst) fun v σ H Q ⟨ρ, st, env, w, env', a, r, e, q⟩ => by
  unfold gTp at e
  split at e
  · split at e
    · rename_i hl
      cases r with | v r =>
      cases r with
      | tup h1 n1 r1 => exact ⟨_, _, rfl, .of h1, by rw [r1.length]; exact hl, ρ, st, env, _, env', a, r1.toW, e, q⟩
    · cases e
  · cases e
end

/-! ### list comprehensions -/
def wipeE (env : Env) : List Nat → Env
  | [] => env
  | v :: vs => (wipeE env vs).set v none
def lcGo (g : GD) (t : BD) (e : ED) (env : Env) : List D → Sto → List D → R (List D)
  | [], st, acc => .ok acc st
  | d :: r, st, acc => match g (.v d) env with
    | none => .bad
    | some env1 => (noX (t env1 st)).bind fun b st => if b then (noX (e env1 st)).bind fun y st => (match y with
        | .v d => lcGo g t e env r st (acc ++ [d])
        | .r _ => .bad) else lcGo g t e env r st acc
def lLc (vs : List Nat) (it : LD) (g : GD) (t : BD) (e : ED) : LD := fun env st => (it env st).bind fun ds st => if ds.length ≤ 100000 then lcGo g t e (wipeE env vs) ds st [] else .bad
def bYes : BD := fun _ st => .ok true st
theorem PTs.of {X : Cx} {e : List Expr} {t t' : TT} (h : PTs X e t) (i : ∀ σ H Q, t' σ H Q → t σ H Q) : PTs X e t' := ⟨fun pins s σ H Q I q => h.run pins s σ H Q I (i σ H Q q)⟩
section
variable {X : Cx} {ct : Nat → Value} {E : St → XK}
theorem dts_nil : PTs X [] (tT X.K ct E bYes) := PTs.of pts_nil fun σ H Q ⟨ρ, st, env, a, h⟩ => h.here a.1 rfl
theorem dts_one {c : Expr} {t : BD} (h : PT X c (tT X.K ct E t)) : PTs X [c] (tT X.K ct E t) := pts_one h
end
section
variable {K : PySem.W.Frag} {ct : Nat → Value} {E : St → XK} {ρ : Rho} {H : Hp} {σ : St} {env : Env}
theorem RelEnv.wipes (r : RelEnv K ρ H σ env) : ∀ vs : List Nat, RelEnv K ρ H (wipe σ vs) (wipeE env vs)
  | [] => r
  | v :: vs => (RelEnv.wipes r vs).wipe1 v
def unD (H : Hp) (p : Addr) : Hp := fun b => if b = p then none else H b
theorem unD_ne {p b : Addr} (h : b ≠ p) : unD H p b = H b := if_neg h
theorem unD_upd {p : Addr} {o : HO} (h : H p = some o) : upd (unD H p) p o = H := by
  funext b
  by_cases hb : b = p
  · subst hb; rw [upd_same, h]
  · rw [upd_ne hb, unD_ne hb]
theorem noX_okG {α β : Type} {rel : Rel β α} {Q : β → Hp → Prop} {EE EE' : XK} {r : R α} (h : okG K ct rel ρ H EE Q (noX r)) : okG K ct rel ρ H EE' Q r := by
  cases r with
  | ok a st => exact h
  | exc x st => exact h.elim
  | bad => exact h
/-- behind something that keeps what is hidden -/
theorem Grow.shown {ρ1 : Rho} {H1 : Hp} {p : Addr} (g : Grow (ρ.hide p) H ρ1 H1) : ρ1 = (Rho.mk ρ1.lc ρ.hid).hide p := by
  obtain ⟨lc, hid⟩ := ρ1
  have := g.hid
  simp only [Rho.hide] at this ⊢
  rw [this]
theorem Grow.under {ρ0 ρ1 : Rho} {H0 H1 : Hp} {p : Addr} (hp : H0 p = none) (a : Grow ρ0 H0 ρ (unD H p)) (g : Grow (ρ.hide p) H ρ1 H1) : Grow ρ0 H0 ⟨ρ1.lc, ρ.hid⟩ (unD H1 p) := by
  refine ⟨Nat.le_trans a.len g.len, a.hid, fun l x h e => a.ref l x h (g.ref l x (Nat.lt_of_lt_of_le h a.len) e), fun x o h n => ?_⟩
  have ne := ne_of_none h hp
  obtain ⟨h1, n1⟩ := a.obj x o h n
  rw [unD_ne ne] at h1 ⊢
  exact g.obj x o h1 n1
theorem lc_read {vs : List Nat} {it : LD} {g : GD} {t : BD} {e : ED} {Q : VK} (h : tF K ct E (lLc vs it g t e) σ H Q) :
    tLc (iR K ct E it) (gR K vs g) (tT K ct (fun _ => E0) t) (tE K ct (fun _ => E0) e) vs σ H Q := by
  obtain ⟨ρ, st, env, a, h⟩ := h
  refine ⟨ρ, st, env, a, ?_⟩
  unfold lLc at h
  cases ei : it env st with
  | exc x st' => rw [ei] at h; exact h
  | bad => rw [ei] at h; exact h.elim
  | ok ds st1 =>
  rw [ei] at h
  simp only [R.bind_ok] at h
  split at h
  rotate_left
  · exact h.elim
  rename_i hlen
  intro ρ1 H1 J gr1 s1 itk p hp
  have he1 : RelEnv K ρ1 H1 (wipe σ vs) (wipeE env vs) := (a.2.grow gr1).wipes vs
  have hph : p ∉ ρ1.hid := fun z => by obtain ⟨o, q⟩ := s1.hidt p z; rw [hp] at q; cases q
  have h' : okF K ct ρ1 H1 (E σ) Q (lcGo g t e (wipeE env vs) ds st1 []) := by
    revert h
    cases lcGo g t e (wipeE env vs) ds st1 [] with
    | ok x y => exact fun h ρ' H' p' xs g' => h ρ' H' p' xs (gr1.trans g')
    | exc x y => exact fun h ρ' H' cv od g' => h ρ' H' cv od (gr1.trans g')
    | bad => exact id
  refine ⟨fun i m Hc => m = ds.length - i ∧ i ≤ ds.length ∧ ∃ ρ2 st2 acc accD, RelSt K (ρ2.hide p) Hc st2 ∧ Hc p = some (.lst acc) ∧ RlAll K (ρ2.hide p) Hc acc accD ∧ RelEnv K (ρ2.hide p) Hc (wipe σ vs) (wipeE env vs) ∧
      Grow ρ1 H1 ρ2 (unD Hc p) ∧ accD.length ≤ i ∧ okF K ct ρ1 H1 (E σ) Q (lcGo g t e (wipeE env vs) (ds.drop i) st2 accD), ?_, ?_⟩
  · refine ⟨_, rfl, Nat.zero_le _, ρ1, st1, [], [], s1.hide hp, upd_same, .nil, he1.hide hp, ?_, Nat.le_refl _, h'⟩
    refine ⟨Nat.le_refl _, rfl, fun _ _ _ z => z, fun x o hx n => ⟨?_, n⟩⟩
    rw [unD_ne (ne_of_none hx hp), upd_ne (ne_of_none hx hp)]
    exact hx
  · rintro i m Hc ⟨rfl, hi, ρ2, st2, acc, accD, s2, hacc, racc, he2, gr2, hal, hq⟩
    have hpl : some p ∉ ρ2.lc := fun z => s2.apart p z List.mem_cons_self
    have ext : Ext ρ1 H1 (ρ2.hide p) Hc := fun x o hx n => by
      have ne := ne_of_none hx hp
      obtain ⟨h1, n1⟩ := gr2.keep hx n
      rw [unD_ne ne] at h1
      refine ⟨h1, fun z => ?_⟩
      rcases z with z | z
      · exact n1 (.inl z)
      · rcases List.mem_cons.mp z with z | z
        · exact ne z
        · exact n1 (.inr z)
    obtain ⟨turn, stop⟩ := itk (ρ2.hide p) Hc st2 ext s2
    by_cases hlt : i < ds.length
    rotate_left
    · have ei : i = ds.length := by omega
      subst ei
      refine .inl ⟨stop, ?_⟩
      rw [List.drop_length] at hq
      simp only [lcGo] at hq
      have q := hq ρ2 (unD Hc p) p acc gr2 (s2.unhide (H' := unD Hc p) (fun b hb => unD_ne hb) hpl (.inl (by rw [gr2.hid]; exact hph))) (if_pos rfl) (racc.unhide fun b hb => unD_ne hb)
      rw [unD_upd hacc] at q
      exact q
    · obtain ⟨go, yl⟩ := turn i ds[i] (List.getElem?_eq_getElem hlt)
      refine .inr ⟨go, fun Hn => ∃ ρ3 st3 acc' accD', RelSt K (ρ3.hide p) Hn st3 ∧ Hn p = some (.lst acc') ∧ RlAll K (ρ3.hide p) Hn acc' accD' ∧ RelEnv K (ρ3.hide p) Hn (wipe σ vs) (wipeE env vs) ∧
        Grow ρ1 H1 ρ3 (unD Hn p) ∧ accD'.length ≤ i + 1 ∧ okF K ct ρ1 H1 (E σ) Q (lcGo g t e (wipeE env vs) (ds.drop (i + 1)) st3 accD'), ?_, ?_⟩
      · rintro Hn ⟨ρ3, st3, acc', accD', q⟩
        exact ⟨ds.length - (i + 1), by omega, rfl, hlt, ρ3, st3, acc', accD', q⟩
      · intro x H' hy
        obtain ⟨sm, rx⟩ := yl x H' hy
        rw [List.drop_eq_getElem_cons hlt] at hq
        simp only [lcGo] at hq
        cases eg : g (.v ds[i]) (wipeE env vs) with
        | none => rw [eg] at hq; exact hq.elim
        | some env1 =>
          rw [eg] at hq
          simp only at hq
          refine ⟨ρ2.hide p, st2, wipeE env vs, .v ds[i], env1, ⟨s2.same sm, he2.grow (.same sm)⟩, .v rx, eg, fun σ2 a2 ag => ⟨ag.wipe, ?_⟩⟩
          have gr2' : Grow ρ1 H1 ρ2 (unD H' p) := by
            refine ⟨gr2.len, gr2.hid, gr2.ref, fun y o hy n => ?_⟩
            have ne := ne_of_none hy hp
            obtain ⟨h1, n1⟩ := gr2.obj y o hy n
            rw [unD_ne ne] at h1 ⊢
            exact ⟨sm _ _ h1, n1⟩
          have racc2 := racc.same sm
          have he2' := he2.grow (.same sm)
          have hacc2 := sm _ _ hacc
          refine ⟨ρ2.hide p, st2, env1, a2, ?_⟩
          cases et : t env1 st2 with
          | exc x y => rw [et] at hq; exact hq.elim
          | bad => rw [et] at hq; exact hq.elim
          | ok b st3 =>
            rw [et] at hq
            simp only [noX_ok, R.bind_ok] at hq
            intro ρ3 H3 b' g3 s3 eb
            cases eb
            have e3 := g3.shown
            have gr3 := Grow.under hp gr2' g3
            have hacc3 := (g3.obj _ _ hacc2 hpl).1
            have racc3 := racc2.grow g3
            have he3 := he2'.grow g3
            have env3 := a2.2.grow g3
            cases b with
            | false =>
              simp only [Bool.false_eq_true, if_false] at hq ⊢
              rw [e3] at s3 racc3 he3
              exact ⟨⟨ρ3.lc, ρ2.hid⟩, st3, acc, accD, s3, hacc3, racc3, he3, gr3, by omega, hq⟩
            | true =>
              simp only [if_true] at hq ⊢
              refine ⟨ρ3, st3, env1, ⟨s3, env3⟩, ?_⟩
              cases ee : e env1 st3 with
              | exc x y => rw [ee] at hq; exact hq.elim
              | bad => rw [ee] at hq; exact hq.elim
              | ok w st4 =>
                rw [ee] at hq
                simp only [noX_ok, R.bind_ok] at hq
                intro ρ4 H4 y g4 s4 ry
                cases w with
                | r l => exact hq.elim
                | v d =>
                  simp only at hq
                  cases ry with | v ry =>
                  have hpl3 : some p ∉ ρ3.lc := (g3.obj _ _ hacc2 hpl).2
                  have hacc4 := (g4.obj _ _ hacc3 hpl3).1
                  have g34 := g3.trans g4
                  have e4 := g34.shown
                  have gr4 := Grow.under hp gr2' g34
                  have racc4 := racc3.grow g4
                  have he4 := he3.grow g4
                  have hpl4 : some p ∉ ρ4.lc := (g4.obj _ _ hacc3 hpl3).2
                  have hup : ∀ b, b ≠ p → upd H4 p (.lst (acc ++ [y])) b = H4 b := fun b hb => upd_ne hb
                  rw [e4] at s4 racc4 he4 ry
                  refine ⟨acc, hacc4, Nat.lt_of_lt_of_le (show acc.length < 100001 by rw [racc.length]; omega) (by decide), ⟨ρ4.lc, ρ2.hid⟩, st4, acc ++ [y], accD ++ [d], s4.refill hup hpl4 ⟨_, upd_same⟩, upd_same, (racc4.append (.cons ry .nil)).refill hup, ?_, ?_, ?_, hq⟩
                  · exact ⟨he4.len, fun j w' ej => let ⟨v, h1, h2⟩ := he4.get j w' ej; ⟨v, h1, h2.refill hup⟩⟩
                  · refine ⟨gr4.len, gr4.hid, gr4.ref, fun z o hz n => ?_⟩
                    have ne := ne_of_none hz hp
                    obtain ⟨h1, n1⟩ := gr4.obj z o hz n
                    rw [unD_ne ne] at h1 ⊢
                    exact ⟨by rw [upd_ne ne]; exact h1, n1⟩
                  · rw [List.length_append, List.length_singleton]
                    omega
end
section
variable {X : Cx} {ct : Nat → Value} {E : St → XK} {elt tg iter : Expr} {ifs : List Expr} {scope : Scope} {own : List (Str × Nat)} {pos : Pos} {it : LD} {g : GD} {t : BD} {f : ED}
theorem df_lc (hc : X.calm = true) (hN : X.N.Nodup) (hi : PI X tg iter (iR X.K ct E it)) (ok : BlkOk X.N X.env.scope scope own)
    (hg : ∀ (s : Shared) (H : Hp) (C : Addr) (cl : List (Str × Addr)) (fp : List Addr), PG (X.blk s H scope (compEnvC scope cl C X.env) fp) tg (gR X.K (own.map (·.2)) g))
    (ht : ∀ (s : Shared) (H : Hp) (C : Addr) (cl : List (Str × Addr)) (fp : List Addr), PTs (X.blk s H scope (compEnvC scope cl C X.env) fp) ifs (tT X.K ct (fun _ => E0) t))
    (he : ∀ (s : Shared) (H : Hp) (C : Addr) (cl : List (Str × Addr)) (fp : List Addr), PE (X.blk s H scope (compEnvC scope cl C X.env) fp) elt (tE X.K ct (fun _ => E0) f)) (hs : ∀ x, foldedSetIterable iter X.env x = pure x := by intro _; rfl) :
    PE X (.ListComp elt [⟨tg, iter, ifs, 0⟩] scope pos) (tF X.K ct E (lLc (own.map (·.2)) it g t f)) := PE.of (pe_lc hc hN hi ok hg ht he hs) fun σ H Q h => lc_read h
end
end Jv
end
section
namespace Jv
open PySem PySem.Spec L2 PyProof.Rows

theorem PS.of {X : Cx} {e : Stmt} {t t' : TS} (h : PS X e t) (i : ∀ D σ H, t' D σ H → t D σ H) : PS X e t' := ⟨fun pins s σ H D I q => h.run pins s σ H D I (i D σ H q)⟩
theorem PSs.of {X : Cx} {e : List Stmt} {t t' : TS} (h : PSs X e t) (i : ∀ D σ H, t' D σ H → t D σ H) : PSs X e t' := ⟨fun pins s σ H D I q => h.run pins s σ H D I (i D σ H q)⟩
/-! ### blocks -/
def sNil : SD := fun env st => .nx env st
def sSeq (f g : SD) : SD := fun env st => match f env st with
  | .nx env st => g env st
  | r => r
def sPass : SD := sNil
def sBrk : SD := fun env st => .bk env st
def sCnt : SD := fun env st => .ct env st
def sExpr (f : ED) : SD := fun env st => (f env st).thenS env fun _ st => .nx env st
def sRet (f : ED) : SD := fun env st => (f env st).thenS env fun w st => .rt w st
def sRetN : SD := fun _ st => .rt (.v .non) st
def sIf (c : BD) (f g : SD) : SD := fun env st => (c env st).thenS env fun b st => if b then f env st else g env st
def sAsg (f : ED) (g : GD) : SD := fun env st => (f env st).thenS env fun w st => match g w env with
  | some env' => .nx env' st
  | none => .bad
abbrev sSet (i : Nat) (f : ED) : SD := sAsg f (gNm i)
/-- what can't be reached -/
def sNo : SD := fun _ _ => .bad
section
variable {X : Cx} {ct : Nat → Value} {E : St → XK} {s1 : Stmt} {ss a b : List Stmt} {f g : SD} {e tg : Expr} {fe : ED} {c : Expr} {fc : BD} {pos : Pos}
theorem dss_nil : PSs X [] (tS X.K ct E sNil) := PSs.of pss_nil fun D σ H ⟨ρ, st, env, a, h⟩ => h ρ H σ (.refl _ _) a
theorem dss_cons (h1 : PS X s1 (tS X.K ct E f)) (h2 : PSs X ss (tS X.K ct E g)) : PSs X (s1 :: ss) (tS X.K ct E (sSeq f g)) := PSs.of (pss_cons h1 h2) fun D σ H ⟨ρ, st, env, a, h⟩ => by
  refine ⟨ρ, st, env, a, ?_⟩
  unfold sSeq at h
  cases ef : f env st with
  | nx env' st' =>
    rw [ef] at h
    exact fun ρ' H' σ' g' a' => ⟨ρ', st', env', a', okS.grow g' h⟩
  | rt w st' => rw [ef] at h; exact h
  | bk _ _ => rw [ef] at h; exact h
  | ct _ _ => rw [ef] at h; exact h
  | exc _ _ _ => rw [ef] at h; exact h
  | bad => rw [ef] at h; exact h
theorem dss_one (h1 : PS X s1 (tS X.K ct E f)) : PSs X [s1] (tS X.K ct E f) := pss_one h1
theorem ds_pass : PS X (.Pass pos) (tS X.K ct E sPass) := PS.of ps_pass fun D σ H ⟨ρ, st, env, a, h⟩ => h ρ H σ (.refl _ _) a
theorem ds_brk : PS X (.Break pos) (tS X.K ct E sBrk) := PS.of ps_break fun D σ H ⟨ρ, st, env, a, h⟩ => h ρ H σ (.refl _ _) a
theorem ds_cnt : PS X (.Continue pos) (tS X.K ct E sCnt) := PS.of ps_continue fun D σ H ⟨ρ, st, env, a, h⟩ => h ρ H σ (.refl _ _) a
theorem ds_no : PS X s1 (tS X.K ct E sNo) := PS.of ps_never fun D σ H ⟨ρ, st, env, a, h⟩ => h
theorem ds_expr (h : PE X e (tE X.K ct E fe)) (hs : swapsWith e none pos.line X.env = pure false := by rfl) : PS X (.Expr e pos) (tS X.K ct E (sExpr fe)) := PS.of (ps_expr h hs) fun D σ H ⟨ρ, st, env, a, h⟩ =>
  ⟨ρ, st, env, a, (okS.first (rel := Rw) h a.2).mono fun v H1 ⟨ρ1, st1, w, a1, g1, r1, q1⟩ => q1 ρ1 H1 σ (.refl _ _) a1⟩
theorem ds_ret (h : PE X e (tE X.K ct E fe)) : PS X (.Return (some e) pos) (tS X.K ct E (sRet fe)) := PS.of (ps_ret h) fun D σ H ⟨ρ, st, env, a, h⟩ =>
  ⟨ρ, st, env, a, (okS.first (rel := Rw) h a.2).mono fun v H1 ⟨ρ1, st1, w, a1, g1, r1, q1⟩ => q1 ρ1 H1 v (.refl _ _) a1.1 r1⟩
theorem ds_retN : PS X (.Return none pos) (tS X.K ct E sRetN) := PS.of ps_retN fun D σ H ⟨ρ, st, env, a, h⟩ => h ρ H .non (.refl _ _) a.1 (.v .non)
theorem ds_if (hc : PT X c (tT X.K ct E fc)) (ha : PSs X a (tS X.K ct E f)) (hb : PSs X b (tS X.K ct E g)) : PS X (.If c a b pos) (tS X.K ct E (sIf fc f g)) := PS.of (ps_if hc ha hb) fun D σ H ⟨ρ, st, env, a, h⟩ =>
  ⟨ρ, st, env, a, (okS.first (rel := RlB) h a.2).mono fun v H1 ⟨ρ1, st1, w, a1, g1, r1, q1⟩ => by
    cases r1
    cases v with
    | true => simp only [if_true] at q1 ⊢; exact ⟨ρ1, st1, env, a1, q1⟩
    | false => simp only [Bool.false_eq_true, if_false] at q1 ⊢; exact ⟨ρ1, st1, env, a1, q1⟩⟩
theorem asg_read {K : PySem.W.Frag} {gd : GD} {vs : List Nat} {D : Ends} {σ : St} {H : Hp} (h : tS K ct E (sAsg fe gd) D σ H) : tAsg (tE K ct E fe) (gR K vs gd) D σ H := by
  obtain ⟨ρ, st, env, a, h⟩ := h
  refine ⟨ρ, st, env, a, (okS.first (rel := Rw) h a.2).mono fun v H1 ⟨ρ1, st1, w, a1, g1, r1, q1⟩ => ?_⟩
  cases eg : gd w env with
  | none => rw [eg] at q1; exact q1.elim
  | some env' =>
    rw [eg] at q1
    exact ⟨ρ1, st1, env, w, env', a1, r1, eg, fun σ' a' _ => q1 ρ1 H1 σ' (.refl _ _) a'⟩
theorem ds_asg {gd : GD} {vs : List Nat} (he : PE X e (tE X.K ct E fe)) (hg : PG X tg (gR X.K vs gd)) (hs : swapsWithSole [tg] e pos.line X.env = pure false := by rfl) (hw : swappedStores [tg] e X.env = pure none := by rfl)
    (h1 : (assignEach [tg] X.env).map (·.2) = [assign tg X.env] := by rfl) : PS X (.Assign [tg] e pos) (tS X.K ct E (sAsg fe gd)) := PS.of (ps_asg he hg hs hw h1) fun D σ H h => asg_read h
theorem ds_set {i : Nat} {x : Str} {pos' : Pos} (hN : X.N.Nodup) (he : PE X e (tE X.K ct E fe)) (hi : X.N[i]? = some x := by rfl) (hx : Loc X.env.scope x := by first | exact Or.inl rfl | exact Or.inr rfl) (hs : swapsWith e (some (.Name x pos')) pos.line X.env = pure false := by rfl)
    (hf : X.fn x = true ∨ X.env.scope.names.lookup x = some .local := by first | exact .inl rfl | exact .inr rfl | assumption) : PS X (.Assign [.Name x pos'] e pos) (tS X.K ct E (sSet i fe)) :=
  PS.of (ps_set hN hi hx he hs hf) fun D σ H ⟨ρ, st, env, a, h⟩ => by
    refine ⟨ρ, st, env, a, (okS.first (rel := Rw) h a.2).mono fun v H1 ⟨ρ1, st1, w, a1, g1, r1, q1⟩ => ?_⟩
    exact q1 ρ1 H1 _ (.refl _ _) ⟨a1.1, a1.2.set r1 i⟩
end
/-! ### y = [..] on one line -/
section
variable {X : Cx} {ct : Nat → Value} {E : St → XK} {elt tg iter : Expr} {ifs : List Expr} {scope : Scope} {own : List (Str × Nat)} {pos spos py : Pos} {it : LD} {g : GD} {t : BD} {f : ED} {i : Nat} {y : Str}
theorem setF_read {K : PySem.W.Frag} {l : LD} {D : Ends} {σ : St} {H : Hp} (h : tS K ct E (sSet i (eLst l)) D σ H) : tF K ct E l σ H (fun x H1 => gName i x σ H1 D.nx) := by
  obtain ⟨ρ, st, env, a, h⟩ := h
  refine ⟨ρ, st, env, a, ?_⟩
  simp only [sAsg, eLst] at h
  cases el : l env st with
  | ok ds st' =>
    rw [el] at h
    intro ρ' H' p xs gr s hp r
    have ag : At K ρ' (upd H' p (.lst xs)) st' σ env := ⟨s.same (same_upd hp), (a.2.grow gr).grow (.same (same_upd hp))⟩
    exact h ρ' _ _ (gr.trans (.same (same_upd hp))) ⟨ag.1, ag.2.set (.v (.lst (.inl ⟨.inl upd_same, s.fresh hp⟩) (r.same (same_upd hp)))) i⟩
  | exc x st' => rw [el] at h; exact fun ρ' H' cv od gr s x => h ρ' H' σ cv od gr ⟨s, a.2.grow gr⟩ x
  | bad => rw [el] at h; exact h.elim
theorem setN_read {K : PySem.W.Frag} {l : LD} {D : Ends} {σ : St} {H : Hp} (h : tS K ct E (sSet i (eNew l)) D σ H) : tF K ct E l σ H (fun x H1 => gName i x σ H1 D.nx) := by
  obtain ⟨ρ, st, env, a, h⟩ := h
  refine ⟨ρ, st, env, a, ?_⟩
  simp only [sAsg, eNew] at h
  cases el : l env st with
  | ok ds st' =>
    rw [el] at h
    intro ρ' H' p xs gr s hp r
    have gp : Grow ρ' H' (ρ'.push p) (upd H' p (.lst xs)) := .push hp
    refine h (ρ'.push p) _ _ (gr.trans gp) ⟨s.push hp r, ((a.2.grow gr).grow gp).set (.r (by rw [← s.len]; simp [Rho.push]) fun a ea => ?_) i⟩
    rw [← s.len] at ea
    simp [Rho.push] at ea
    rw [ea]
  | exc x st' => rw [el] at h; exact fun ρ' H' cv od gr s x => h ρ' H' σ cv od gr ⟨s, a.2.grow gr⟩ x
  | bad => rw [el] at h; exact h.elim
theorem ds_setLc (hc : X.calm = true) (hN : X.N.Nodup) (hy : X.N[i]? = some y) (hyl : X.env.scope.names.lookup y = some .local) (hsw : swapsWith (.ListComp elt [⟨tg, iter, ifs, 0⟩] scope pos) (some (.Name y py)) spos.line X.env = pure true)
    (hi : PI X tg iter (iR X.K ct E it)) (ok : BlkOk X.N X.env.scope scope own)
    (hg : ∀ (s : Shared) (H : Hp) (C : Addr) (cl : List (Str × Addr)) (fp : List Addr), PG (X.blk s H scope (compEnvC scope cl C X.env) fp) tg (gR X.K (own.map (·.2)) g))
    (ht : ∀ (s : Shared) (H : Hp) (C : Addr) (cl : List (Str × Addr)) (fp : List Addr), PTs (X.blk s H scope (compEnvC scope cl C X.env) fp) ifs (tT X.K ct (fun _ => E0) t))
    (he : ∀ (s : Shared) (H : Hp) (C : Addr) (cl : List (Str × Addr)) (fp : List Addr), PE (X.blk s H scope (compEnvC scope cl C X.env) fp) elt (tE X.K ct (fun _ => E0) f)) (hs : ∀ x, foldedSetIterable iter X.env x = pure x := by intro _; rfl) :
    PS X (.Assign [.Name y py] (.ListComp elt [⟨tg, iter, ifs, 0⟩] scope pos) spos) (tS X.K ct E (sSet i (eLst (lLc (own.map (·.2)) it g t f)))) :=
  PS.of (ps_setLc hc hN hy hyl hsw hi ok hg ht he hs) fun D σ H h => lc_read (setF_read h)
theorem ds_setLcN (hc : X.calm = true) (hN : X.N.Nodup) (hy : X.N[i]? = some y) (hyl : X.env.scope.names.lookup y = some .local) (hsw : swapsWith (.ListComp elt [⟨tg, iter, ifs, 0⟩] scope pos) (some (.Name y py)) spos.line X.env = pure true)
    (hi : PI X tg iter (iR X.K ct E it)) (ok : BlkOk X.N X.env.scope scope own)
    (hg : ∀ (s : Shared) (H : Hp) (C : Addr) (cl : List (Str × Addr)) (fp : List Addr), PG (X.blk s H scope (compEnvC scope cl C X.env) fp) tg (gR X.K (own.map (·.2)) g))
    (ht : ∀ (s : Shared) (H : Hp) (C : Addr) (cl : List (Str × Addr)) (fp : List Addr), PTs (X.blk s H scope (compEnvC scope cl C X.env) fp) ifs (tT X.K ct (fun _ => E0) t))
    (he : ∀ (s : Shared) (H : Hp) (C : Addr) (cl : List (Str × Addr)) (fp : List Addr), PE (X.blk s H scope (compEnvC scope cl C X.env) fp) elt (tE X.K ct (fun _ => E0) f)) (hs : ∀ x, foldedSetIterable iter X.env x = pure x := by intro _; rfl) :
    PS X (.Assign [.Name y py] (.ListComp elt [⟨tg, iter, ifs, 0⟩] scope pos) spos) (tS X.K ct E (sSet i (eNew (lLc (own.map (·.2)) it g t f)))) :=
  PS.of (ps_setLc hc hN hy hyl hsw hi ok hg ht he hs) fun D σ H h => lc_read (setN_read h)
end
/-! ### a, b = x, y -/
def sPar (i j : Nat) (g : AD) : SD := fun env st => (g env st).thenS env fun ws st => match ws with
  | [a, b] => .nx ((env.set i (some a)).set j (some b)) st
  | _ => .bad
theorem ds_par {X : Cx} {ct : Nat → Value} {E : St → XK} {i j : Nat} {x y : Str} {a b : Expr} {ta : AD} {px py pt pos : Pos} {kt k2 pt2} (hc : X.calm = true) (hN : X.N.Nodup) (hi : X.N[i]? = some x) (hj : X.N[j]? = some y) (hij : i ≠ j)
    (hx : X.env.scope.names.lookup x = some .local) (hy : X.env.scope.names.lookup y = some .local) (ha : PA X [a, b] (tA X.K ct E ta))
    (hw : swappedStores [.Tuple [.Name x px, .Name y py] kt pt] (.Tuple [a, b] k2 pt2) X.env = pure (some [x, y])) (hs : swapsWithSole [.Tuple [.Name x px, .Name y py] kt pt] (.Tuple [a, b] k2 pt2) pos.line X.env = pure false := by rfl) :
    PS X (.Assign [.Tuple [.Name x px, .Name y py] kt pt] (.Tuple [a, b] k2 pt2) pos) (tS X.K ct E (sPar i j ta)) := PS.of (ps_par hc hN hi hj hij hx hy ha hw hs) fun D σ H ⟨ρ, st, env, a, h⟩ => by
  refine ⟨ρ, st, env, a, (okS.first (rel := RwAll) h a.2).mono fun vs H1 ⟨ρ1, st1, ws, a1, g1, r1, q1⟩ => ?_⟩
  split at q1
  · obtain ⟨v, v', rfl, rv, rv'⟩ := r1.two
    exact ⟨v, v', rfl, q1 ρ1 H1 _ (.refl _ _) ⟨a1.1, (a1.2.set rv i).set rv' j⟩⟩
  · exact q1.elim

/-! ### for -/
def forGo (g : GD) (body : SD) : List D → Env → Sto → Fl
  | [], env, st => .nx env st
  | d :: r, env, st => match g (.v d) env with
    | none => .bad
    | some env1 => match body env1 st with
      | .nx env st => forGo g body r env st
      | .ct env st => forGo g body r env st
      | .bk env st => .nx env st
      | r => r
def sFor (it : LD) (g : GD) (body : SD) : SD := fun env st => (it env st).thenS env fun ds st => forGo g body ds env st
theorem ds_for {X : Cx} {ct : Nat → Value} {E : St → XK} {tg iter : Expr} {bd : List Stmt} {it : LD} {g : GD} {vs : List Nat} {body : SD} {pos : Pos} (hp : PassesOwn (model X.prog X.w) X.A X.env X.xe) (hc : X.calm = true) (hi : PI X tg iter (iR X.K ct E it)) (hg : PG X tg (gR X.K vs g)) (hb : PSs X bd (tS X.K ct E body))
    (hs : ∀ x, foldedSetIterable iter X.env x = pure x := by intro _; rfl) : PS X (.For tg iter bd [] pos) (tS X.K ct E (sFor it g body)) := PS.of (ps_for hp hc hi hg hb hs) fun D σ H ⟨ρ, st, env, a, h⟩ => by
  refine ⟨ρ, st, env, a, ?_⟩
  unfold sFor at h
  cases ei : it env st with
  | exc x st' => rw [ei] at h; exact fun ρ' H' cv od gr s x => h ρ' H' σ cv od gr ⟨s, a.2.grow gr⟩ x
  | bad => rw [ei] at h; exact h.elim
  | ok ds st1 =>
  rw [ei] at h
  simp only [R.thenS_ok] at h
  intro ρ1 H1 J gr1 s1 itk
  refine ⟨fun i m σ' H' => m = ds.length - i ∧ i ≤ ds.length ∧ ∃ ρ2 st2 env2, At X.K ρ2 H' st2 σ' env2 ∧ Grow ρ1 H1 ρ2 H' ∧ okS X.K ct ρ2 H' E D (forGo g body (ds.drop i) env2 st2), ?_, ?_⟩
  · exact ⟨_, rfl, Nat.zero_le _, ρ1, st1, env, ⟨s1, a.2.grow gr1⟩, .refl _ _, okS.grow gr1 h⟩
  · rintro i m σ' H' ⟨rfl, hi', ρ2, st2, env2, a2, gr2, hq⟩
    obtain ⟨turn, stop⟩ := itk ρ2 H' st2 gr2.ext a2.1
    by_cases hlt : i < ds.length
    rotate_left
    · have ei : i = ds.length := by omega
      subst ei
      refine .inl ⟨stop, ?_⟩
      rw [List.drop_length] at hq
      simp only [forGo] at hq
      exact hq ρ2 H' σ' (.refl _ _) a2
    · obtain ⟨go, yl⟩ := turn i ds[i] (List.getElem?_eq_getElem hlt)
      refine .inr ⟨go, fun σn Hn => ∃ ρ3 st3 env3, At X.K ρ3 Hn st3 σn env3 ∧ Grow ρ1 H1 ρ3 Hn ∧ okS X.K ct ρ3 Hn E D (forGo g body (ds.drop (i + 1)) env3 st3), ?_, ?_⟩
      · rintro σn Hn ⟨ρ3, st3, env3, q⟩
        exact ⟨ds.length - (i + 1), by omega, rfl, hlt, ρ3, st3, env3, q⟩
      · intro x H'' hy
        obtain ⟨sm, rx⟩ := yl x H'' hy
        rw [List.drop_eq_getElem_cons hlt] at hq
        simp only [forGo] at hq
        cases eg : g (.v ds[i]) env2 with
        | none => rw [eg] at hq; exact hq.elim
        | some env3 =>
          rw [eg] at hq
          simp only at hq
          have gs : Grow ρ2 H' ρ2 H'' := .same sm
          refine ⟨ρ2, st2, env2, .v ds[i], env3, ⟨a2.1.same sm, a2.2.grow gs⟩, .v rx, eg, fun σ3 a3 _ => ⟨ρ2, st2, env3, a3, ?_⟩⟩
          have hq := okS.grow gs hq
          have gr3 := gr2.trans gs
          cases eb : body env3 st2 with
          | nx env4 st4 =>
            rw [eb] at hq
            exact fun ρ4 H4 σ4 g4 a4 => ⟨ρ4, st4, env4, a4, gr3.trans g4, okS.grow g4 hq⟩
          | ct env4 st4 =>
            rw [eb] at hq
            exact fun ρ4 H4 σ4 g4 a4 => ⟨ρ4, st4, env4, a4, gr3.trans g4, okS.grow g4 hq⟩
          | bk env4 st4 => rw [eb] at hq; exact hq
          | rt w st4 => rw [eb] at hq; exact hq
          | exc e x st4 => rw [eb] at hq; exact hq
          | bad => rw [eb] at hq; exact hq

/-! ### while -/
def whileGo (c : BD) (body : SD) : Nat → Env → Sto → Fl
  | 0, _, _ => .bad
  | n + 1, env, st => (c env st).thenS env fun b st => if b then (match body env st with
      | .nx env st => whileGo c body n env st
      | .ct env st => whileGo c body n env st
      | .bk env st => .nx env st
      | r => r) else .nx env st
def sWhile (n : Nat) (c : BD) (body : SD) : SD := fun env st => whileGo c body n env st
theorem ds_while (n : Nat) {X : Cx} {ct : Nat → Value} {E : St → XK} {c : Expr} {bd : List Stmt} {fc : BD} {body : SD} {pos : Pos} (hp : PassesOwn (model X.prog X.w) X.A X.env X.xe) (hc : PT X c (tT X.K ct E fc)) (hb : PSs X bd (tS X.K ct E body)) :
    PS X (.While c bd [] pos) (tS X.K ct E (sWhile n fc body)) := PS.of (ps_while hp hc hb) fun D σ H ⟨ρ, st, env, a, h⟩ => by
  refine ⟨fun m σ' H' => ∃ ρ2 st2 env2, At X.K ρ2 H' st2 σ' env2 ∧ okS X.K ct ρ2 H' E D (whileGo fc body m env2 st2), ⟨n, ρ, st, env, a, h⟩, ?_⟩
  rintro m σ' H' ⟨ρ2, st2, env2, a2, hq⟩
  cases m with
  | zero => exact hq.elim
  | succ m =>
    simp only [whileGo] at hq
    refine ⟨ρ2, st2, env2, a2, (okS.first (rel := RlB) hq a2.2).mono fun b H1 ⟨ρ3, st3, b', a3, g3, r3, q3⟩ => ?_⟩
    cases r3
    cases b with
    | false => simp only [Bool.false_eq_true, if_false] at q3 ⊢; exact q3 ρ3 H1 σ' (.refl _ _) a3
    | true =>
      simp only [if_true] at q3 ⊢
      refine ⟨fun σn Hn => ∃ ρ4 st4 env4, At X.K ρ4 Hn st4 σn env4 ∧ okS X.K ct ρ4 Hn E D (whileGo fc body m env4 st4), fun σn Hn q => ⟨m, Nat.lt_succ_self m, q⟩, ρ3, st3, env2, a3, ?_⟩
      cases eb : body env2 st3 with
      | nx env4 st4 => rw [eb] at q3; exact fun ρ4 H4 σ4 g4 a4 => ⟨ρ4, st4, env4, a4, okS.grow g4 q3⟩
      | ct env4 st4 => rw [eb] at q3; exact fun ρ4 H4 σ4 g4 a4 => ⟨ρ4, st4, env4, a4, okS.grow g4 q3⟩
      | bk env4 st4 => rw [eb] at q3; exact q3
      | rt w st4 => rw [eb] at q3; exact q3
      | exc e x st4 => rw [eb] at q3; exact q3
      | bad => rw [eb] at q3; exact q3
end Jv
end
section
namespace Jv
open PySem PySem.Spec L2 PyProof.Rows

/-! ### objects that change -/
section
variable {K : PySem.W.Frag} {ρ : Rho} {H : Hp} {st : Sto}
theorem Grow.write {l : Nat} {a : Addr} {o : HO} (e : ρ.lc[l]? = some (some a)) : Grow ρ H ρ (upd H a o) :=
  ⟨Nat.le_refl _, rfl, fun _ _ _ z => z, fun b u h n => ⟨by rw [upd_ne (show b ≠ a from fun z => n (by rw [z]; exact List.mem_of_getElem? e))]; exact h, n⟩⟩
theorem RelSt.write {l : Nat} {a : Addr} {o : HO} {ob : Ob} (s : RelSt K ρ H st) (e : ρ.lc[l]? = some (some a)) (r : ObR K ρ (upd H a o) a ob) (u : ob.under l) : RelSt K ρ (upd H a o) (st.set l ob) := by
  have g : Grow ρ H ρ (upd H a o) := .write e
  refine ⟨by rw [List.length_set]; exact s.len, s.inj, fun j ob' ej => ?_, fun b hb => ?_, s.apart, fun j ob' ej => ?_⟩
  · by_cases h : l = j
    · subst h
      have hl : l < st.length := by rw [← s.len]; exact (List.getElem?_eq_some_iff.mp e).1
      rw [List.getElem?_set_self hl] at ej
      cases ej
      exact .inr ⟨a, e, r⟩
    · rw [List.getElem?_set_ne h] at ej
      rcases s.obj j ob' ej with z | ⟨b, hb, ob2⟩
      · exact .inl z
      · have ne : b ≠ a := fun z => h (s.inj l j a e (z ▸ hb))
        exact .inr ⟨b, hb, ob2.mono (fun _ z => by rw [upd_ne ne]; exact z) (fun _ _ z => z.grow g) fun _ _ z => z.grow g⟩
  · obtain ⟨u, q⟩ := s.hidt b hb
    have ne : b ≠ a := fun z => s.apart a (List.mem_of_getElem? e) (z ▸ hb)
    exact ⟨u, by rw [upd_ne ne]; exact q⟩
  · by_cases h : l = j
    · subst h
      have hl : l < st.length := by rw [← s.len]; exact (List.getElem?_eq_some_iff.mp e).1
      rw [List.getElem?_set_self hl] at ej
      cases ej
      exact u
    · rw [List.getElem?_set_ne h] at ej
      exact s.ord j ob' ej
end
/-- x.append(y) -/
def appG (w : W) (ws : List W) (st : Sto) : R W := match w, ws with
  | .r l, [.v d] => match st[l]? with
    | some (.lst ds) => if ds.length < 100000 then .ok (.v .non) (st.set l (.lst (ds ++ [d]))) else .bad
    | _ => .bad
  | _, _ => .bad
def isLst (st : Sto) : W → Bool
  | .r l => match st[l]? with
    | some (.lst _) => true
    | _ => false
  | _ => false
def eApp (f : ED) (g : AD) : ED := fun env st => (f env st).bind fun w st => if isLst st w then (g env st).bind fun ws st => appG w ws st else .bad
/-- o["x"] = y -/
def putS (kvs : List (Str × W)) (k : Str) (w : W) : Option (List (Str × W)) := if kvs.any fun p => decide (p.1 = k) then some (kvs.map fun p => if p.1 = k then (p.1, w) else p) else none
def dPut (w k v : W) (env : Env) (st : Sto) : Fl := match w, k, v with
  | .r l, .v (.str k), .v d => match st[l]? with
    | some (.dct kvs) => match putS kvs k (.v d) with
      | some kvs' => if kvs.length ≤ 1000 then .nx env (st.set l (.dct kvs')) else .bad
      | none => .bad
    | _ => .bad
  | _, _, _ => .bad
def sDPut (fo fi fv : ED) : SD := fun env st => (fv env st).thenS env fun v st => (fo env st).thenS env fun w st => (fi env st).thenS env fun k st => dPut w k v env st
/-- x[i] = y -/
def lPut (w k v : W) (env : Env) (st : Sto) : Fl := match w, k, v with
  | .r l, .v (.int i), .v d => match st[l]? with
    | some (.lst ds) => match ixN ds.length i with
      | some j => .nx env (st.set l (.lst (ds.set j d)))
      | none => .bad
    | _ => .bad
  | _, _, _ => .bad
def sLPut (fo fi fv : ED) : SD := fun env st => (fv env st).thenS env fun v st => (fo env st).thenS env fun w st => (fi env st).thenS env fun k st => lPut w k v env st
section
variable {X : Cx} {ct : Nat → Value} {E : St → XK} {o e i v : Expr} {es : List Expr} {f fi fv fo : ED} {g : AD} {apos cpos pos pos' : Pos}
theorem app_read {K : PySem.W.Frag} {σ : St} {H : Hp} {Q : VK} (h : tE K ct E (eApp f g) σ H Q) : tBM K "list" rAppend (tE K ct E f) (tA K ct E g) σ H Q := by
  refine (tG.bind (rel := Rw) (k := fun w env st => if isLst st w then (g env st).bind fun ws st => appG w ws st else R.bad) h).mono fun x H1 ⟨ρ1, st1, env, w, a1, r1, q1⟩ => ?_
  split at q1
  rotate_left
  · exact q1.elim
  rename_i hw
  cases r1 with
  | v r1 => cases hw
  | @r l _ hl hv =>
    simp only [isLst] at hw
    split at hw
    rotate_left
    · cases hw
    rename_i ds0 e0
    rcases a1.1.obj l _ e0 with ⟨z, _⟩ | ⟨p, hp, xs, h1, h2⟩
    · cases z
    cases hv p hp
    refine ⟨.inl ⟨rfl, xs, .of h1⟩, ρ1, st1, env, a1, (okG.bind (rel := RwAll) q1 a1.2).mono fun vs H2 ⟨ρ2, st2, ws, a2, g2, r2, q2⟩ => ?_⟩
    unfold appG at q2
    split at q2
    · rename_i l' d heq
      cases heq
      split at q2
      · rename_i ds e2
        split at q2
        · rename_i hlen
          rcases a2.1.obj l _ e2 with ⟨z, _⟩ | ⟨p', hp', xs', h1', h2'⟩
          · cases z
          have ep : p' = p := by
            have := g2.ref l p' hl hp'
            rw [hp] at this
            cases this
            rfl
          subst ep
          obtain ⟨y, rfl, ry⟩ := r2.one
          cases ry with | v ry =>
          refine ⟨p', xs', y, rfl, rfl, h1', Nat.lt_of_lt_of_le (show xs'.length < 100001 by rw [h2'.length]; omega) (by decide), ?_⟩
          have gw : Grow ρ2 H2 ρ2 (upd H2 p' (.lst (xs' ++ [y]))) := .write hp'
          exact q2 ρ2 _ .non gw (a2.1.write hp' ⟨_, upd_same, (h2'.append (.cons ry .nil)).grow gw⟩ trivial) (.v .non)
        · exact q2.elim
      · exact q2.elim
    · exact q2.elim
theorem de_app (ho : PE X o (tE X.K ct E f)) (ha : PA X (e :: es) (tA X.K ct E g)) (hbase : attributeBase o "append" X.env (eval o X.env) = eval o X.env := by rfl)
    (hfew : ((backTo cpos (starEach (e :: es) X.env)).all (fun x => !x.1) && (backToKw cpos (keywordEach [] X.env)).all (fun x => x.1.isSome)
      && decide ((e :: es).length + ([] : List Keyword).length + (if ([] : List Keyword).isEmpty then 0 else 1) < 30)) = true := by rfl)
    (hline : (apos.endLine == cpos.line) = true := by rfl) (hs : starEach (e :: es) X.env = (false, eval e X.env) :: starEach es X.env := by rfl) (hplain : (backTo cpos (starEach es X.env)).any (·.1) = false := by rfl) :
    PE X (.Call (.Attribute o "append" apos) (e :: es) [] cpos) (tE X.K ct E (eApp f g)) :=
  PE.of (pe_bm PySem.F.plainAttrs_list PySem.F.slot_list_append PySem.F.type_list_append mt_append ho ha hbase hfew hline hs hplain) fun σ H Q h => app_read h
theorem RlD.length {K : PySem.W.Frag} {ρ : Rho} {H : Hp} {L : List (Key × V)} {kvs : List (Str × W)} (r : RlD K ρ H L kvs) : L.length = kvs.length := by
  induction r with
  | nil => rfl
  | cons _ _ ih => simp [ih]
theorem RlD.map {K : PySem.W.Frag} {ρ : Rho} {H : Hp} {L : List (Key × V)} {kvs : List (Str × W)} {k : Str} {v : V} {w : W} (r : RlD K ρ H L kvs) (rv : Rw K ρ H v w) :
    RlD K ρ H (L.map fun kv => if kv.1 = (Sum.inr k : Key) then (kv.1, v) else kv) (kvs.map fun p => if p.1 = k then (p.1, w) else p) := by
  induction r with
  | nil => exact .nil
  | @cons k' v' d L ds rv' _ ih =>
    simp only [List.map_cons]
    by_cases hk : k' = k
    · subst hk
      simp only [if_true]
      exact .cons rv ih
    · have h2 : ¬ ((Sum.inr k' : Key) = Sum.inr k) := fun z => hk (Sum.inr.inj z)
      rw [if_neg h2, if_neg hk]
      exact .cons rv' ih
theorem RlD.any {K : PySem.W.Frag} {ρ : Rho} {H : Hp} {L : List (Key × V)} {kvs : List (Str × W)} {k : Str} (r : RlD K ρ H L kvs) : (L.any fun kv => decide (kv.1 = (Sum.inr k : Key))) = kvs.any fun p => decide (p.1 = k) := by
  induction r with
  | nil => rfl
  | @cons k' v' d L ds rv' _ ih =>
    simp only [List.any_cons, ih]
    congr 1
    by_cases hk : k' = k
    · subst hk; simp
    · have h2 : ¬ ((Sum.inr k' : Key) = Sum.inr k) := fun z => hk (Sum.inr.inj z)
      rw [decide_eq_false hk, decide_eq_false h2]
theorem RlD.put {K : PySem.W.Frag} {ρ : Rho} {H : Hp} {L : List (Key × V)} {kvs kvs' : List (Str × W)} {k : Str} {v : V} {w : W} (r : RlD K ρ H L kvs) (rv : Rw K ρ H v w) (e : Jv.putS kvs k w = some kvs') : RlD K ρ H (putK L (.inr k) v) kvs' := by
  unfold Jv.putS at e
  split at e
  · rename_i h
    cases e
    unfold putK
    rw [if_pos (by rw [r.any]; exact h)]
    exact r.map rv
  · cases e
theorem ds_dput (hu : X.A.units + 1 < cLine) (ho : PE X o (tE X.K ct E fo)) (hi : PE X i (tE X.K ct E fi)) (hv : PE X v (tE X.K ct E fv)) (hs : swapsWith v (some (.Subscript o i pos')) pos.line X.env = pure false := by rfl) :
    PS X (.Assign [.Subscript o i pos'] v pos) (tS X.K ct E (sDPut fo fi fv)) := PS.of (ps_dput hu ho hi hv hs) fun D σ H ⟨ρ, st, env, a, h⟩ => by
  refine ⟨ρ, st, env, a, (okS.first (rel := Rw) h a.2).mono fun v1 H1 ⟨ρ1, st1, w1, a1, g1, r1, q1⟩ => ?_⟩
  refine ⟨ρ1, st1, env, a1, (okS.first (rel := Rw) q1 a1.2).mono fun v2 H2 ⟨ρ2, st2, w2, a2, g2, r2, q2⟩ => ?_⟩
  refine ⟨ρ2, st2, env, a2, (okS.first (rel := Rw) q2 a2.2).mono fun v3 H3 ⟨ρ3, st3, w3, a3, g3, r3, q3⟩ => ?_⟩
  cases w2 with
  | v _ => exact q3.elim
  | r l =>
  cases w3 with
  | r _ => exact q3.elim
  | v d3 =>
  cases d3 with
  | str k =>
    cases w1 with
    | r _ => exact q3.elim
    | v d =>
    simp only [dPut] at q3
    split at q3
    · rename_i kvs ek
      split at q3
      · rename_i kvs' ep
        split at q3
        · rename_i hlen
          cases r2 with | r hl hv2 =>
          cases r3 with | v r3 =>
          cases r3
          rcases a3.1.obj l _ ek with ⟨z, _⟩ | ⟨p, hp, L, h1, h2⟩
          · cases z
          have e2 := hv2 p (g3.ref l p hl hp)
          subst e2
          have rv := (r1.grow g2).grow g3
          refine ⟨p, _, rfl, DPut.k (k := Sum.inr k) h1 (Nat.lt_of_le_of_lt (show L.length ≤ 1000 by rw [h2.length]; exact hlen) (by decide)), ?_⟩
          have gw : Grow ρ3 H3 ρ3 (upd H3 p (.dK (putK L (.inr k) v1))) := .write hp
          refine q3 ρ3 _ σ gw ⟨a3.1.write hp ⟨_, upd_same, (h2.put rv ep).mono fun _ _ z => z.grow gw⟩ ?_, a3.2.grow gw⟩
          have ord := a3.1.ord l _ ek
          unfold Jv.putS at ep
          split at ep
          · cases ep
            intro q hq
            obtain ⟨q0, hq0, rfl⟩ := List.mem_map.mp hq
            split
            · exact trivial
            · exact ord q0 hq0
          · cases ep
        · exact q3.elim
      · exact q3.elim
    · exact q3.elim
  | _ => exact q3.elim
theorem ds_lput (ho : PE X o (tE X.K ct E fo)) (hi : PE X i (tE X.K ct E fi)) (hv : PE X v (tE X.K ct E fv)) (hs : swapsWithSole [.Subscript o i pos'] v pos.line X.env = pure false := by rfl) (hw : swappedStores [.Subscript o i pos'] v X.env = pure none := by rfl)
    (h1 : (assignEach [.Subscript o i pos'] X.env).map (·.2) = [assign (.Subscript o i pos') X.env] := by rfl)
    (ha : ∀ v, assign (.Subscript o i pos') X.env v = (do
      let ov ← holding [v] (eval o X.env)
      let iv ← holding [v, ov] (eval i X.env)
      standAt pos'
      holding [v, ov, iv] (setItem ov iv v)
      release [v, ov, iv] []) := by intro _; rfl) :
    PS X (.Assign [.Subscript o i pos'] v pos) (tS X.K ct E (sLPut fo fi fv)) := PS.of (ps_asg hv (pg_sub ho hi set_list ha) hs hw h1) fun D σ H ⟨ρ, st, env, a, h⟩ => by
  refine ⟨ρ, st, env, a, (okS.first (rel := Rw) h a.2).mono fun v1 H1 ⟨ρ1, st1, w1, a1, g1, r1, q1⟩ => ?_⟩
  refine ⟨ρ1, st1, env, a1, (okS.first (rel := Rw) q1 a1.2).mono fun v2 H2 ⟨ρ2, st2, w2, a2, g2, r2, q2⟩ => ?_⟩
  refine ⟨ρ2, st2, env, a2, (okS.first (rel := Rw) q2 a2.2).mono fun v3 H3 ⟨ρ3, st3, w3, a3, g3, r3, q3⟩ => ?_⟩
  cases w2 with
  | v _ => exact q3.elim
  | r l =>
  cases w3 with
  | r _ => exact q3.elim
  | v d3 =>
  cases d3 with
  | int k =>
    cases w1 with
    | r _ => exact q3.elim
    | v d =>
    simp only [lPut] at q3
    split at q3
    · rename_i ds ek
      split at q3
      · rename_i j ej
        cases r2 with | r hl hv2 =>
        cases r3 with | v r3 =>
        cases r3
        rcases a3.1.obj l _ ek with ⟨z, _⟩ | ⟨p, hp, xs, h1, h2⟩
        · cases z
        have e2 := hv2 p (g3.ref l p hl hp)
        subst e2
        have rv := (r1.grow g2).grow g3
        cases rv with | v rv =>
        refine ⟨p, xs, k, j, rfl, rfl, h1, by rw [h2.length]; exact ej, ?_⟩
        have gw : Grow ρ3 H3 ρ3 (upd H3 p (.lst (xs.set j v1))) := .write hp
        exact q3 ρ3 _ σ gw ⟨a3.1.write hp ⟨_, upd_same, (RlAll.set rv j h2).grow gw⟩ trivial, a3.2.grow gw⟩
      · exact q3.elim
    · exact q3.elim
  | _ => exact q3.elim
end
/-! ### {"a": x, ..} as an object that changes -/
abbrev KD := Env → Sto → R (List (Str × W))
def kNil : KD := fun _ st => .ok [] st
def kCons (k : Str) (f : ED) (g : KD) : KD := fun env st => (f env st).bind fun w st => (g env st).bind fun kvs st => .ok ((k, w) :: kvs) st
def nodupK : List (Str × W) → Bool
  | [] => true
  | p :: r => !(r.any fun q => decide (q.1 = p.1)) && nodupK r
def eDct (g : KD) : ED := fun env st => (noX (g env st)).bind fun kvs st => if nodupK kvs && decide (kvs.length ≤ 15) then .ok (.r st.length) (st ++ [.dct kvs]) else .bad
/-- the readings of a display's pairs, as the layer has them -/
def trsOf (K : PySem.W.Frag) (ct : Nat → Value) (E : St → XK) : List (Str × ED) → List (TE × TE)
  | [] => []
  | p :: r => (tC (.str p.1), tE K ct E p.2) :: trsOf K ct E r
def kOf : List (Str × ED) → KD
  | [] => kNil
  | p :: r => kCons p.1 p.2 (kOf r)
section
variable {K : PySem.W.Frag} {ct : Nat → Value} {E : St → XK} {ρ : Rho} {H : Hp} {σ : St} {env : Env} {st : Sto}
inductive RlP' (K : PySem.W.Frag) (ρ : Rho) (H : Hp) : List (V × V) → List (Str × W) → Prop
  | nil : RlP' K ρ H [] []
  | cons {k : Str} {v : V} {w : W} {ps : List (V × V)} {kvs : List (Str × W)} : Rw K ρ H v w → RlP' K ρ H ps kvs → RlP' K ρ H ((.str k, v) :: ps) ((k, w) :: kvs)
theorem RlP'.grow {ρ' : Rho} {H' : Hp} (g : Grow ρ H ρ' H') {ps : List (V × V)} {kvs : List (Str × W)} (r : RlP' K ρ H ps kvs) : RlP' K ρ' H' ps kvs := by
  induction r with
  | nil => exact .nil
  | cons r _ ih => exact .cons (r.grow g) ih
theorem pairs_read : ∀ (fs : List (Str × ED)) {ρ : Rho} {H : Hp} {st : Sto} {EE : XK} {Q : List (V × V) → Hp → Prop}, EE = E σ → At K ρ H st σ env → okG K ct RlP' ρ H EE Q (kOf fs env st) → tPairs (trsOf K ct E fs) σ H Q
  | [], ρ, H, st, EE, Q, _, a, h => h.here a.1 .nil
  | p :: r, ρ, H, st, EE, Q, ee, a, h => by
    subst ee
    refine ⟨ρ, st, env, a, (okG.bind (rel := Rw) h a.2).mono fun v H1 ⟨ρ1, st1, w, a1, g1, r1, q1⟩ => ?_⟩
    refine pairs_read r rfl a1 ((okG.bind (rel := RlP') q1 a1.2).mono fun ps H2 ⟨ρ2, st2, kvs, a2, g2, r2, q2⟩ => ?_)
    exact q2.here a2.1 (.cons (r1.grow g2) r2)
theorem RlP'.keys {ps : List (V × V)} {kvs : List (Str × W)} (r : RlP' K ρ H ps kvs) : ∃ L : List (Key × V), ps = L.map (fun kv => (kV kv.1, kv.2)) ∧ RlD K ρ H L kvs := by
  induction r with
  | nil => exact ⟨[], rfl, .nil⟩
  | @cons k v w ps kvs rv _ ih =>
    obtain ⟨L, e, rd⟩ := ih
    exact ⟨(.inr k, v) :: L, by rw [e]; rfl, .cons rv rd⟩
theorem putK_new {L : List (Key × V)} {k : Key} {v : V} (h : (L.any fun kv => decide (kv.1 = k)) = false) : putK L k v = L ++ [(k, v)] := by
  unfold putK
  rw [h]
  rfl
theorem merge_nodup : ∀ (more L : List (Key × V)), (L ++ more).map (·.1) |>.Nodup → mergeK L more = L ++ more
  | [], L, _ => by simp [mergeK]
  | p :: r, L, h => by
    have hn : (L.any fun kv => decide (kv.1 = p.1)) = false := by
      rw [Bool.eq_false_iff]
      intro z
      obtain ⟨q, hq, e⟩ := List.any_eq_true.mp z
      have e := of_decide_eq_true e
      rw [List.map_append, List.map_cons] at h
      have := (List.nodup_append.mp h).2.2 q.1 (List.mem_map_of_mem hq) p.1 List.mem_cons_self
      exact this e
    have := merge_nodup r (L ++ [p]) (by simpa using h)
    show mergeK (putK L p.1 p.2) r = L ++ p :: r
    rw [putK_new hn, this]
    simp
theorem nodupK_of {L : List (Key × V)} {kvs : List (Str × W)} (r : RlD K ρ H L kvs) (h : nodupK kvs = true) : (L.map (·.1)).Nodup := by
  induction r with
  | nil => exact List.nodup_nil
  | @cons k v w L kvs rv rd ih =>
    simp only [nodupK, Bool.and_eq_true, Bool.not_eq_true'] at h
    rw [List.map_cons, List.nodup_cons]
    refine ⟨fun z => ?_, ih h.2⟩
    obtain ⟨q, hq, e⟩ := List.mem_map.mp z
    have := rd.any (k := k)
    rw [h.1] at this
    have h3 : (L.any fun kv => decide (kv.1 = (Sum.inr k : Key))) = true := List.any_eq_true.mpr ⟨q, hq, decide_eq_true e⟩
    rw [this] at h3
    cases h3
end
theorem pps_ind {X : Cx} {ct : Nat → Value} {E : St → XK} {pos : Pos} {k : Str} {j} {kp : Pos} {v : Expr} {f : ED} {ks : List (Option Expr)} {vs : List Expr} {fs : List (Str × ED)} (hv : PE X v (tE X.K ct E f)) (hr : PPs X pos ks vs (trsOf X.K ct E fs)) :
    PPs X pos (some (.Constant (.str k) j kp) :: ks) (v :: vs) (trsOf X.K ct E ((k, f) :: fs)) := pps_cons pe_str hv hr
theorem pushD {K : PySem.W.Frag} {ρ : Rho} {H : Hp} {st : Sto} {p : Addr} {L : List (Key × V)} {kvs : List (Str × W)} (s : RelSt K ρ H st) (hp : H p = none) (r : RlD K ρ H L kvs) : RelSt K (ρ.push p) (upd H p (.dK L)) (st ++ [.dct kvs]) := by
  have s1 := s.push (xs := []) (ds := []) hp .nil
  have hl : (ρ.push p).lc[st.length]? = some (some p) := by rw [← s.len]; simp [Rho.push]
  have g1 : Grow ρ H (ρ.push p) (upd H p (.dK L)) := .push hp
  have g2 : Grow ρ H (ρ.push p) (upd H p (.lst [])) := .push hp
  have u : Ob.under st.length (.dct kvs) := by
    clear s1 hl g1 g2
    induction r with
    | nil => intro q hq; cases hq
    | @cons k v w L kvs rv _ ih =>
      intro q hq
      rcases List.mem_cons.mp hq with rfl | hq
      · cases rv with
        | v _ => exact trivial
        | r h _ => rw [s.len] at h; exact h
      · exact ih q hq
  have := s1.write (o := .dK L) (ob := .dct kvs) hl ⟨L, upd_same, ?_⟩ u
  · rw [upd_upd] at this
    rwa [List.set_append_right _ _ (Nat.le_refl _), Nat.sub_self] at this
  · rw [upd_upd]
    exact r.mono fun _ _ z => z.grow g1
theorem de_dct {X : Cx} {ct : Nat → Value} {E : St → XK} {pos : Pos} {keys : List (Option Expr)} {values : List Expr} {fs : List (Str × ED)} (h : PPs X pos keys values (trsOf X.K ct E fs)) (hall : keys.all (·.isSome) = true := by rfl) (hl : keys.length = values.length := by rfl) (h0 : keys ≠ [] := by exact fun z => by cases z)
    (h15 : keys.length ≤ 15 := by decide) : PE X (.Dict keys values pos) (tE X.K ct E (eDct (kOf fs))) := PE.of (pe_disp h hall hl h0 h15) fun σ H Q ⟨ρ, st, env, a, q⟩ => by
  intro p hp
  have ap : At X.K (ρ.hide p) (upd H p (.dK [])) st σ env := ⟨a.1.hide hp, a.2.hide hp⟩
  unfold eDct at q
  refine pairs_read fs (EE := E σ) rfl ap ?_
  cases ek : kOf fs env st with
  | exc x st' => rw [ek] at q; exact q.elim
  | bad => rw [ek] at q; exact q.elim
  | ok kvs st' =>
    rw [ek] at q
    simp only [noX_ok, R.bind_ok] at q
    split at q
    rotate_left
    · exact q.elim
    rename_i c
    rw [Bool.and_eq_true] at c
    intro ρ1 H1 ps g1 s1 r1
    have hpl : some p ∉ ρ.lc := fun z => a.1.fresh hp (.inl z)
    obtain ⟨h1, n1⟩ := g1.obj _ _ upd_same hpl
    obtain ⟨L, rfl, rd⟩ := r1.keys
    have e1 := g1.shown
    have gr : Grow ρ H ⟨ρ1.lc, ρ.hid⟩ (unD H1 p) := Grow.under hp (by
      refine ⟨Nat.le_refl _, rfl, fun _ _ _ z => z, fun x o hx n => ⟨?_, n⟩⟩
      rw [unD_ne (ne_of_none hx hp), upd_ne (ne_of_none hx hp)]
      exact hx) g1
    have hph : p ∉ ρ.hid := fun z => by obtain ⟨o, w⟩ := a.1.hidt p z; rw [hp] at w; cases w
    rw [e1] at s1 rd
    have un : ∀ b, b ≠ p → unD H1 p b = H1 b := fun b hb => unD_ne hb
    have s2 : RelSt X.K ⟨ρ1.lc, ρ.hid⟩ (unD H1 p) st' := s1.unhide un n1 (.inl hph)
    have rd2 : RlD X.K ⟨ρ1.lc, ρ.hid⟩ (unD H1 p) L kvs := rd.mono fun _ _ z => z.unhide un
    refine ⟨h1, L, rfl, by rw [rd2.length]; exact of_decide_eq_true c.2, ?_⟩
    rw [merge_nodup L [] (by simpa using nodupK_of rd2 c.1), List.nil_append]
    have e2 : upd H1 p (.dK L) = upd (unD H1 p) p (.dK L) := by
      funext b
      by_cases hb : b = p
      · subst hb; rw [upd_same, upd_same]
      · rw [upd_ne hb, upd_ne hb, unD_ne hb]
    rw [e2]
    refine q _ _ _ (gr.trans (.push (if_pos rfl))) (pushD s2 (if_pos rfl) rd2) (.r ?_ fun x hx => ?_)
    · rw [← s2.len]; simp [Rho.push]
    · rw [← s2.len] at hx
      simp [Rho.push] at hx
      rw [hx]

/-! ### {} -/
section
variable {X : Cx} {ct : Nat → Value} {E : St → XK}
theorem de_dnew {pos : Pos} : PE X (.Dict [] [] pos) (tE X.K ct E (eCon (.dct []))) := PE.of pe_dnewK fun σ H Q ⟨ρ, st, env, a, h⟩ p hp =>
  okG.up h a.1 (same_upd hp) (.v (.dct0 upd_same (a.1.fresh hp)))
end

/-! ### t[::-1] of a tuple -/
theorem adjust_rev (n : Nat) : Builtin.Slice.sliceAdjust none none (-1) (n : Int) = ((n : Int) - 1, -1) := by
  unfold Builtin.Slice.sliceAdjust
  simp
theorem places_rev (n : Nat) : Builtin.Slice.slicePlaces ((n : Int) - 1) (-1) (-1) = n := by
  unfold Builtin.Slice.slicePlaces
  have h1 : ¬ ((-1 : Int) > 0) := by omega
  simp only [h1, if_false, Int.neg_neg, Int.ediv_one]
  split <;> omega
theorem fm_congr {α β : Type} {f g : α → Option β} : ∀ {l : List α}, (∀ x ∈ l, f x = g x) → l.filterMap f = l.filterMap g
  | [], _ => rfl
  | x :: r, h => by rw [List.filterMap_cons, List.filterMap_cons, h x List.mem_cons_self, fm_congr fun y hy => h y (List.mem_cons_of_mem _ hy)]
theorem pick_rev (xs : Array Value) : ((List.range xs.size).filterMap fun (m : Nat) => xs[(((xs.size : Nat) : Int) - 1 + (m : Int) * (-1)).toNat]?).toArray = xs.toList.reverse.toArray := by
  have e : (List.range xs.size).filterMap (fun (m : Nat) => xs[(((xs.size : Nat) : Int) - 1 + (m : Int) * (-1)).toNat]?) = (List.range xs.size).filterMap (fun (m : Nat) => xs[xs.size - 1 - m]?) := by
    refine fm_congr fun m hm => ?_
    have hm := List.mem_range.mp hm
    have : (((xs.size : Nat) : Int) - 1 + (m : Int) * (-1)).toNat = xs.size - 1 - m := by omega
    rw [this]
  rw [e]
  have e2 : (List.range xs.size).filterMap (fun (m : Nat) => xs[xs.size - 1 - m]?) = ((List.range xs.size).map fun k => xs.size - 1 - k).filterMap (xs[·]?) := by rw [List.filterMap_map]; rfl
  rw [e2, PySem.W.krv_range, List.filterMap_reverse, PySem.W.krv_all]
section
variable {prog : Program} {w : World} {A : Around} {E : Value → Shared → Prop} {s : Shared}
theorem applied_rev {sl : Addr} {vl vu vs : Value} {n : Nat} {Q : Int × Int × Nat → Shared → Prop} (hs : s.heap.IsSliceOf sl vl vu vs) (pl : IsPart vl none) (pu : IsPart vu none) (ps : IsPart vs (some (-1)))
    (h : Q ((n : Int) - 1, -1, n) s) : wpAny (model prog w) A (Builtin.Slice.sliceApplied (.ref sl) (pure (n : Int))) Q E s := by
  obtain ⟨os, hos, hcs, hds⟩ := id hs
  unfold Builtin.Slice.sliceApplied Builtin.Slice.sliceFields
  refine wpAny_bind (wpAny_bind (wpAny_field hos hds (x := vl) rfl (wpAny_bind (wpAny_field hos hds (x := vu) rfl (wpAny_bind (wpAny_field hos hds (x := vs) rfl (wpAny_pure ?_)))))))
  refine wpAny_bind (HT.slicePart_ ps ?_)
  show wpAny _ _ (if ((-1 : Int) == 0) = true then _ else _) _ _ s
  rw [if_neg (by decide)]
  refine wpAny_bind (HT.slicePart_ pl (wpAny_bind (HT.slicePart_ pu (wpAny_bind (wpAny_pure ?_)))))
  show wpAny _ _ (match Builtin.Slice.sliceAdjust none none (-1) (n : Int) with | (lo, hi) => pure (lo, (-1 : Int), Builtin.Slice.slicePlaces lo hi (-1))) _ _ s
  rw [adjust_rev n]
  show wpAny _ _ (pure ((n : Int) - 1, (-1 : Int), Builtin.Slice.slicePlaces ((n : Int) - 1) (-1) (-1))) _ _ s
  rw [places_rev]
  exact wpAny_pure h
theorem getItem_tuple_rev {t sl : Addr} {items : Array Value} {vl vu vs : Value} {Q : Value → Shared → Prop} (ht : IsTup s.heap t items) (hs : s.heap.IsSliceOf sl vl vu vs) (pl : IsPart vl none) (pu : IsPart vu none) (ps : IsPart vs (some (-1)))
    (h : Q (.ref s.heap.objs.size) { s with heap := s.heap.push { cls := .type "tuple", data := .seq items.toList.reverse.toArray } }) (hsz : items.size ≤ sizeLine) : wpAny (model prog w) A (getItem (.ref t) (.ref sl)) Q E s := by
  have hz : sizeOk (.seq items.toList.reverse.toArray) := by
    show items.toList.reverse.toArray.size ≤ sizeLine
    rw [List.size_toArray, List.length_reverse, Array.length_toList]
    exact hsz
  obtain ⟨os, hos, hcs, hds⟩ := id hs
  have hTs : s.TypeIs (.ref sl) "slice" := ⟨os, hos, hcs⟩
  unfold getItem
  try with_reducible refine wpAny_holding ?_
  first | refine wpAny_bind (wpAny_pure ?_) | skip
  refine wpAny_bind (wpAny_sequenceKey ht.typeIs (by decide) ?_)
  refine wpAny_bind (wpAny_callSpecial?_slot (name := Str.ofString "__getitem__") ht.typeIs PyProof.Rows.slot_tuple_getitem (wpAny_call_entry PyProof.Rows.slot_tuple_getitem ht.typeIs entry_tuple_getitem ?_ (args_tuple_getitem _ _)))
  show wpAny _ _ (Builtin.Tuple.tupleItemsOf (.ref t) >>= _) _ _ s
  refine wpAny_bind (tupleItemsOf_ ht ?_)
  refine wpAny_bind (wpAny_typeOf hTs ?_)
  rw [if_pos (by decide)]
  refine wpAny_bind (applied_rev hs pl pu ps ?_)
  have hno : ¬ ((((items.size : Nat) : Int) - 1 == 0 && (-1 : Int) == 1 && items.size == items.size) = true) := by simp
  show wpAny _ _ (if (((items.size : Nat) : Int) - 1 == 0 && (-1 : Int) == 1 && items.size == items.size) = true then _ else _) _ _ s
  rw [if_neg hno, pick_rev]
  first
    | exact wpAny_bind (m := Builtin.Tuple.tupleExact _) (wpAny_newObj_type (wpAny_pure ⟨_, rfl, wpAny_pure h⟩) hz)
    | exact wpAny_bind (m := Builtin.Tuple.tupleExact _) (wpAny_newObj_type (wpAny_bind (wpAny_pure (wpAny_pure ⟨_, rfl, wpAny_pure h⟩))) hz)
    | exact wpAny_bind (wpAny_bind (m := Builtin.Tuple.tupleExact _) (wpAny_newObj_type (wpAny_pure (wpAny_pure ⟨_, rfl, wpAny_pure h⟩)) hz))
    | exact wpAny_bind (wpAny_bind (m := Builtin.Tuple.tupleExact _) (wpAny_newObj_type (wpAny_pure ⟨_, rfl, wpAny_pure h⟩) hz))
end
def tRevT (K : PySem.W.Frag) (te : TE) : TE := fun σ H Q => te σ H fun x H1 => ∃ a xs, x = .ref a ∧ SqT K H1 a xs ∧ ∀ p, H1 p = none → Q (.ref p) (upd H1 p (.tup xs.reverse))
theorem pe_revT {X : Cx} {e : Expr} {te : TE} {k : Nat} {p1 p2 p3 pos : Pos} (he : PE X e te) : PE X (.Subscript e (.Slice none none (some (.UnaryOp .USub (.Constant (.int 1) k p1) p2)) p3) pos) (tRevT X.K te) := ⟨fun pins s σ H Q I h => by
  refine Subscript_ (thn (he.run pins s σ H _ I h) ?_)
  rintro v s1 ⟨x, H1, I1, r1, a, xs, rfl, hx, q⟩
  cases r1
  have hst : PO X (some (.UnaryOp .USub (.Constant (.int 1) k p1) p2)) (tPart (tUn (rU fun i => .int (-i)) (tC (.int 1)))) := po_some (pe_un un_neg pe_int)
  refine wpAny_Slice (thn (po_none.run pins s1 σ H1 (fun o H2 => o = none ∧ H2 = H1) I1 ⟨rfl, rfl⟩) ?_)
  rintro vl s2 ⟨l, H2, I2, pl, rfl, rfl⟩
  refine thn (po_none.run pins s2 σ H2 (fun o H3 => o = none ∧ H3 = H2) I2 ⟨rfl, rfl⟩) ?_
  rintro vu s3 ⟨u, H3, I3, pu, rfl, rfl⟩
  refine thn (hst.run pins s3 σ H3 (fun o H4 => o = some (-1) ∧ H4 = H3) I3 ⟨1, rfl, -1, rfl, rfl, rfl⟩) ?_
  rintro vs s4 ⟨o, H4, I4, ps, rfl, rfl⟩
  have I5 : Inv X pins σ H4 { s4 with heap := s4.heap.push { cls := .type "slice", data := .fields #[vl, vu, vs] } } := I4.kept (t' := s4.toks) fun b ob q => Heap.get?_push_of_some _ q
  obtain ⟨its, r, ht, hz⟩ := I5.tuple hx
  have hlen := r.length
  show wpAny (model X.prog X.w) X.A (subscriptTail e (.Slice none none (some (.UnaryOp .USub (.Constant (.int 1) k p1) p2)) p3) (.ref a) (.ref s4.heap.objs.size)) (EP X pins σ Q) X.xe { s4 with heap := s4.heap.push { cls := .type "slice", data := .fields #[vl, vu, vs] } }
  refine tail_any (ops := [.ref a, .ref s4.heap.objs.size]) ht.typeIs (PyProof.Rows.slot_tuple_getitem.lookup) ?_ (by with_unfolding_all rfl)
  refine getItem_tuple_rev ht (Heap.IsSliceOf.new _ vl vu vs) pl pu ps ?_ (by rw [List.size_toArray]; omega)
  refine ⟨.ref _, _, I5.laid (t' := s4.toks) (o := .tup xs.reverse) (fun b ob q => Heap.get?_push_of_some _ q) (Nat.le_refl _) ?_, rfl, q _ (I5.hok.fresh (Nat.le_refl _))⟩
  exact ⟨by rw [List.length_reverse]; exact hz, _, r.reverse, IsTup.new _ _⟩⟩
def eRevT (f : ED) : ED := fun env st => (f env st).bind fun w st => match w with
  | .v (.tup ds) => .ok (.v (.tup ds.reverse)) st
  | _ => .bad
theorem de_revT {X : Cx} {ct : Nat → Value} {E : St → XK} {e : Expr} {f : ED} {k : Nat} {p1 p2 p3 pos : Pos} (h : PE X e (tE X.K ct E f)) : PE X (.Subscript e (.Slice none none (some (.UnaryOp .USub (.Constant (.int 1) k p1) p2)) p3) pos) (tE X.K ct E (eRevT f)) :=
  PE.of (pe_revT h) fun σ H Q q => by
    refine (tG.bind (rel := Rw) (k := fun w _ st => match w with | .v (.tup ds) => R.ok (W.v (D.tup ds.reverse)) st | _ => R.bad) q).mono fun v H1 ⟨ρ1, st1, env, w, a1, r1, q1⟩ => ?_
    split at q1
    · cases r1 with | v r1 =>
      cases r1 with
      | tup h1 n1 r2 => exact ⟨_, _, rfl, .of h1, fun p hp => okG.up q1 a1.1 (same_upd hp) (.v (.tup upd_same (a1.1.fresh hp) (r2.reverse.same (same_upd hp))))⟩
    · exact q1.elim
end Jv
end
section
namespace Jv
open PySem PySem.Spec L2 PyProof.Rows
/-! ### list + list: a new list -/
def lCat (f1 f2 : ED) : LD := fun env st => (f1 env st).bind fun a st => (f2 env st).bind fun b st => match asLst st a, asLst st b with
  | some xs, some ys => if xs.length + ys.length ≤ 100000 then .ok (xs ++ ys) st else .bad
  | _, _ => .bad
section
variable {X : Cx} {ct : Nat → Value} {E : St → XK} {a b : Expr} {fa fb : ED} {pos : Pos}
theorem op_catL : OpR X (binaryOp .Add) (fun x y H Q => ∃ l b xs zs, x = .ref l ∧ y = .ref b ∧ SqL X.K H l xs ∧ SqL X.K H b zs ∧ xs.length + zs.length ≤ sizeLine ∧ ∀ p, H p = none → Q (.ref p) (upd H p (.lst (xs ++ zs)))) := by
  intro pins s σ H x y v u Q I rx ry h
  obtain ⟨l, b, xs, zs, rfl, rfl, h1, h2, hz, q⟩ := h
  cases rx
  cases ry
  obtain ⟨its, r1, ⟨⟨cls, dd, data, sl⟩, n, ho, hc, _, hd⟩, _⟩ := I.list h1
  obtain ⟨its2, r2, ⟨⟨cls2, dd2, data2, sl2⟩, n2, ho2, hc2, _, hd2⟩, _⟩ := I.list h2
  simp only at hc hd hc2 hd2
  subst hc hd hc2 hd2
  have l1 := r1.length
  have l2 := r2.length
  have e : its.toArray ++ its2.toArray = (its ++ its2).toArray := by simp
  have sz : its.toArray.size + its2.toArray.size ≤ sizeLine := by rw [List.size_toArray, List.size_toArray]; omega
  have meets := list_addW l b its.toArray its2.toArray n n2 dd dd2 sl sl2 sz
  refine concat_meets ⟨_, ho, rfl⟩ ⟨_, ho2, rfl⟩ noFill_list_add seq_list_add PySem.F.slot_list_add PySem.F.entry_list_add (PySem.F.args_list_add_2 _ _) meets ⟨ho, ho2, ?_⟩
  rw [e]
  exact ⟨.ref _, _, I.lnew (t' := s.toks) (r1.append r2) (by rw [List.length_append]; exact hz), rfl, q _ I.fresh⟩
theorem df_cat (ha : PE X a (tE X.K ct E fa)) (hb : PE X b (tE X.K ct E fb)) : PE X (.BinOp a .Add b pos) (tF X.K ct E (lCat fa fb)) := PE.of (pe_op op_catL ha hb) fun σ H Q ⟨ρ, st, env, at', h⟩ => by
  refine ⟨ρ, st, env, at', ?_⟩
  unfold lCat at h
  cases e1 : fa env st with
  | exc x st' => rw [e1] at h; exact h
  | bad => rw [e1] at h; exact h.elim
  | ok w1 st1 =>
    rw [e1] at h
    simp only [R.bind_ok] at h
    intro ρ1 H1 v g1 s1 r1
    refine ⟨ρ1, st1, env, ⟨s1, at'.2.grow g1⟩, ?_⟩
    cases e2 : fb env st1 with
    | exc x st' => rw [e2] at h; exact fun ρ' H' cv od g => h ρ' H' cv od (g1.trans g)
    | bad => rw [e2] at h; exact h.elim
    | ok w2 st2 =>
      rw [e2] at h
      simp only [R.bind_ok] at h
      intro ρ2 H2 u g2 s2 r2
      split at h
      · rename_i xs ys ex ey
        split at h
        · rename_i hl
          obtain ⟨p, vs, rfl, h1, h2⟩ := lst_of s2 (r1.grow g2) ex
          obtain ⟨p', vs', rfl, h1', h2'⟩ := lst_of s2 r2 ey
          exact ⟨_, _, _, _, rfl, rfl, h1, h1', sl5 (by rw [h2.length, h2'.length]; exact hl), fun q hq => h ρ2 H2 q _ (g1.trans g2) s2 hq (h2.append h2')⟩
        · exact h.elim
      · exact h.elim
end
end Jv
end
section
namespace Jv
open PySem PySem.Spec L2 PyProof.Rows
theorem hu64 {A : Around} {k : Nat} (hr : Room k A) : A.units + 64 < cLine := by have := hr.un; omega
theorem hu65 {A : Around} {k : Nat} (hr : Room k A) : A.units + 65 < cLine := by have := hr.un; omega
theorem bt_len : bootBuiltins "len" = some (.builtin "len") := by decide +kernel
theorem bt_isinstance : bootBuiltins "isinstance" = some (.builtin "isinstance") := by decide +kernel
theorem bt_all : bootBuiltins "all" = some (.builtin "all") := by decide +kernel
theorem bt_any : bootBuiltins "any" = some (.builtin "any") := by decide +kernel
theorem bt_min : bootBuiltins "min" = some (.builtin "min") := by decide +kernel
theorem bt_max : bootBuiltins "max" = some (.builtin "max") := by decide +kernel
theorem bt_repr : bootBuiltins "repr" = some (.builtin "repr") := by decide +kernel
theorem bt_sorted : bootBuiltins "sorted" = some (.builtin "sorted") := by decide +kernel
theorem bt_str : bootBuiltins "str" = some (.type "str") := by decide +kernel
theorem bt_int : bootBuiltins "int" = some (.type "int") := by decide +kernel
theorem bt_bool : bootBuiltins "bool" = some (.type "bool") := by decide +kernel
theorem bt_list : bootBuiltins "list" = some (.type "list") := by decide +kernel
theorem bt_tuple : bootBuiltins "tuple" = some (.type "tuple") := by decide +kernel
theorem bt_dict : bootBuiltins "dict" = some (.type "dict") := by decide +kernel
/-- a def of the text, by its name -/
structure Cal (P : Program) (w : World) (K : PySem.W.Frag) (mg : Str → Option Value) (base : Heap) (ct : Nat → Value) (x : Str) (n k : Nat) (run : List W → Sto → R W) : Prop where
  ex : ∃ (f : Addr) (fd : FuncData) (ps : List Str), FnG P w K mg base CX0 k f fd ps (spG K ct n run) ∧ mg x = some (.ref f) ∧ PySem.W.keepIn K (.ref f) = true ∧ Binds K fd ps []
theorem cal_mk {P : Program} {w : World} {K : PySem.W.Frag} {mg : Str → Option Value} {base : Heap} {ct : Nat → Value} {x y qual : Str} {st : Stmt} {n k : Nat} {run : List W → Sto → R W} {f : Addr} {fd : FuncData} {ps : List Str}
    (F : Fun K y qual st f fd) (g : mg x = some (.ref f)) (b : Binds K fd ps []) (G : FnG P w K mg base CX0 k f fd ps (spG K ct n run)) : Cal P w K mg base ct x n k run := ⟨f, fd, ps, G, g, F.kp, b⟩
section
variable {X : Cx} {ct : Nat → Value} {E : St → XK} {k : Nat} {n : Nat} {run : List W → Sto → R W} {x : Str} {p pos : Pos} {e : Expr} {es : List Expr} {g : AD}
theorem de_calC (C : Cal X.prog X.w X.K X.mg X.base ct x n k run) (gd : X.A.guards = some []) (hr : Room k X.A) (hg : Gl X x) (hn : ∀ env st ws st', g env st = .ok ws st' → ws.length = n) (ha : PA X (e :: es) (tA X.K ct E g)) (hdb : (x == ("__debug__" : Str)) = false := by decide)
    (he : starEach (e :: es) X.env = (false, eval e X.env) :: starEach es X.env := by rfl) (hpl : (backTo pos (starEach es X.env)).any (·.1) = false := by rfl) : PE X (.Call (.Name x p) (e :: es) [] pos) (tE X.K ct E (eCall run g)) := by
  obtain ⟨f, fd, ps, G, m, kp, b⟩ := C.ex
  exact de_call G gd hr hg m kp b pass00 hn ha hdb he hpl
theorem de_calC0 (C : Cal X.prog X.w X.K X.mg X.base ct x 0 k run) (gd : X.A.guards = some []) (hr : Room k X.A) (hg : Gl X x) (hdb : (x == ("__debug__" : Str)) = false := by decide) : PE X (.Call (.Name x p) [] [] pos) (tE X.K ct E (eCall run aNil)) := by
  obtain ⟨f, fd, ps, G, m, kp, b⟩ := C.ex
  exact de_call0 G gd hr hg m kp b pass00 hdb
end
end Jv
end
section
namespace Jv
open PySem PySem.Spec L2 PyProof.Rows
/-! ### -x -/
def eNeg (f : ED) : ED := fun env st => (f env st).bind fun w st => match w with
  | .v (.int i) => .ok (.v (.int (-i))) st
  | _ => .bad
theorem de_neg {X : Cx} {ct : Nat → Value} {E : St → XK} {a : Expr} {fa : ED} {pos : Pos} (h : PE X a (tE X.K ct E fa)) : PE X (.UnaryOp .USub a pos) (tE X.K ct E (eNeg fa)) := PE.of (pe_un un_neg h) fun σ H Q q => by
  refine (tG.bind (rel := Rw) (k := fun w _ st => match w with | .v (.int i) => R.ok (W.v (D.int (-i))) st | _ => R.bad) q).mono fun v H1 ⟨ρ1, st1, env, w, a1, r1, q1⟩ => ?_
  split at q1
  · cases r1 with | v r1 => cases r1; exact ⟨_, rfl, q1.here a1.1 (.v (.int _))⟩
  · exact q1.elim

/-! ### enumerate of a tuple -/
theorem meets_enumT {v : Value} {o : Obj} {Hh : Heap → Prop} (B : Begins v o Hh) : Meets (Builtin.«enumerate.__new__» ⟨[.type "enumerate", v], []⟩) (fun _ R s => Hh s.heap ∧
      R (.ok (.ret (.ref (s.heap.push o).objs.size))) { s with heap := (s.heap.push o).push { cls := .type "enumerate", data := .fields #[.none, .bool false, .ref s.heap.objs.size, rawInt 0, .none, .none] } }) :=
  .of_wp fun prog w A R s hyp => by
    obtain ⟨hp, g, d, tk, os⟩ := s
    obtain ⟨h1, h⟩ := hyp
    have hsub := sub_enumerate
    have q1 : ∀ {A' : Around} {E : Value → Shared → Prop} {Q : Value → Shared → Prop}, Q (.ref hp.objs.size) ⟨hp.push o, g, d, tk, os⟩ → wpAny (model prog w) A' (pyIter v) Q E ⟨hp, g, d, tk, os⟩ := fun q => B.iter prog w _ _ ⟨hp, g, d, tk, os⟩ _ h1 q
    wp_walk using q1
    refine wpAny_stack_any fun st => wpAny_pure ?_
    split
    · rename_i c _ _ _ _ _
      cases (c == Value.type "enumerate") <;> (wp_walk using q1; exact ⟨_, rfl, h⟩)
    · wp_walk using q1
      exact ⟨_, rfl, h⟩
theorem call_enumT {prog : Program} {w : World} {A : Around} {E : Value → Shared → Prop} {s : Shared} {v : Value} {o : Obj} {Hh : Heap → Prop} {Q : Value → Shared → Prop} (B : Begins v o Hh) (h1 : Hh s.heap)
    (h : ∀ h', IsEnum h' (s.heap.objs.size + 1) s.heap.objs.size 0 .none → h'.get? s.heap.objs.size = some o → h'.objs.size = s.heap.objs.size + 2 → (∀ b o, s.heap.get? b = some o → h'.get? b = some o) → Q (.ref (s.heap.objs.size + 1)) { s with heap := h' }) :
    wpAny (model prog w) A (call (.type "enumerate") [v]) Q E s := by
  have hz : (s.heap.push o).objs.size = s.heap.objs.size + 1 := Heap.size_push ..
  refine callType_new F.called_enumerate (by decide) (F.typeCall_enumerate_1 _) (F.newCall_enumerate_1 _) (fun obj => F.args_object_init_2 obj _) F.entry_enumerate_new (meets_enumT B) ⟨h1, ?_⟩
  show _ ∧ _
  rw [hz]
  have he := Heap.get?_push_size (s.heap.push o) (o := { cls := .type "enumerate", data := .fields #[.none, .bool false, .ref s.heap.objs.size, rawInt 0, .none, .none] }) rfl
  rw [hz] at he
  exact ⟨⟨_, he, rfl⟩, h _ he (Heap.get?_push_of_some _ (Heap.get?_push_size _ B.free)) (by rw [Heap.size_push, hz]) fun b o x => Heap.get?_push_of_some _ (Heap.get?_push_of_some _ x)⟩
def IteT (K : PySem.W.Frag) (a : Addr) : It where
  go := fun i H => ∃ (xs : List V) (x : V), SqT K H a xs ∧ xs[i]? = some x
  yld := fun i H v H' => ∃ T x, v = .ref T ∧ H T = none ∧ H' = upd H T (.tup [.int (i : Nat), x]) ∧ ∀ xs, SqT K H a xs → xs[i]? = some x
  stop := fun i H => ∃ xs : List V, SqT K H a xs ∧ xs.length = i
theorem turn_enumT {P : Program} {w : World} {K : PySem.W.Frag} {elts : List Expr} {kk : Nat} {tpos : Pos} (a e it : Addr) : Turn P w K (.Tuple elts kk tpos) (IteT K a) [e, it] e (fun i h => (∃ old, IsEnum h e it ((i : Nat) : Int) old) ∧ h.IsTupleIter it a i ∧ e ≠ it ∧ a ≠ it ∧ e ≠ a) where
  mem := by simp
  obj := by
    rintro i h ⟨⟨old, he⟩, ⟨o, ho, hc, hd⟩, _⟩ b hb
    rcases (show b = e ∨ b = it by simpa using hb) with rfl | rfl
    · exact ⟨_, he, fun v q => nomatch q⟩
    · exact ⟨o, ho, fun v q => by rw [hd] at q; cases q⟩
  keep := by
    rintro i h h' ⟨⟨old, he⟩, hi, hne⟩ k
    exact ⟨⟨old, k e (by simp) _ he⟩, hi.at fun o q => k it (by simp) o q, hne⟩
  item := by
    intro X hP hw hK hc i pins s σ H E I hf st hg
    subst hP hw hK
    obtain ⟨⟨old, he⟩, hit, hne, hai, hea⟩ := st
    obtain ⟨xs, x, hq, hx⟩ := hg
    obtain ⟨its, rv, p, hz⟩ := I.tuple hq
    obtain ⟨u, hu, ru⟩ := rv.get hx
    have hel : e < s.heap.objs.size := Heap.lt_size he
    have hil : it < s.heap.objs.size := by obtain ⟨_, q, _⟩ := hit; exact Heap.lt_size q
    have hlt : i < its.toArray.size := by rw [List.size_toArray]; exact (List.getElem?_eq_some_iff.mp hu).1
    refine wpAny_pyNext_enum_itemD (Draws.tuple (A := X.A.in1) (I.ok.hd hc) it a hai its.toArray) he ⟨hit, p⟩ hlt hne (by simp [hne, hea]) fun x' h' tk hP ho hit' hT hsz hk => ?_
    have ex : x' = u := by
      have h1 : its.toArray[i]? = some x' := hP
      have h2 : its.toArray[i]? = some u := by simpa using hu
      rw [h1] at h2
      exact Option.some.inj h2
    subst ex
    refine ⟨_, rfl, wpAny_letOwnedTupleGo_enum (s := { s with heap := h', toks := tk + 1 }) ho fun h'' he' sb => ?_⟩
    have hT2 : h''.get? s.heap.objs.size = some { cls := .type "tuple", data := .seq #[.int i tk, x'] } := (sb.2 _ (Nat.ne_of_gt hel)).trans hT
    have new : ObjOk X.prog X.w (upd H s.heap.objs.size (.tup [.int (i : Nat), x])) h'' s.heap.objs.size (.tup [.int (i : Nat), x]) := ⟨by show 2 ≤ sizeLine; decide, [.int i tk, x'], .cons ⟨_, rfl⟩ (.cons ru .nil), ⟨_, hT2, rfl, _, rfl⟩⟩
    have I1 : Inv X pins σ (upd H s.heap.objs.size (.tup [.int (i : Nat), x])) { s with heap := h'', toks := tk + 1 } :=
      I.turnedNew (ch := [e, it]) (fun b ob hb q => (sb.2 b (fun z => hb (by simp [z]))).trans (hk b ob (fun z => hb (by simp [z])) (fun z => hb (by simp [z])) q)) hf (Nat.le_refl _) new
    refine ⟨.ref s.heap.objs.size, _, I1, rfl, ⟨_, x, rfl, I.hok.fresh (Nat.le_refl _), rfl, fun ys hy => by rw [I.tuple_inj hy hq]; exact hx⟩, ⟨⟨x', ?_⟩, hit'.1.at fun o q => (sb.2 it (Ne.symm hne)).trans q, hne, hai, hea⟩, fun b hb => ?_⟩
    · have e1 : ((i + 1 : Nat) : Int) = (i : Int) + 1 := by omega
      rw [e1]
      exact he'
    · have hb' : b < s.heap.objs.size := by
        rcases (show b = e ∨ b = it by simpa using hb) with rfl | rfl
        · exact hel
        · exact hil
      rw [upd_ne (Nat.ne_of_lt hb')]
      exact (hf b hb).1
  done := by
    intro X hP hw hK hc i pins s σ H E I hf st hg
    subst hP hw hK
    obtain ⟨⟨old, he⟩, hit, hne, hai, hea⟩ := st
    obtain ⟨xs, hq, hx⟩ := hg
    obtain ⟨its, rv, p, hz⟩ := I.tuple hq
    obtain ⟨f0, f1, f2, f3, f4, f5⟩ := hf it (by simp)
    have hl : xs.length = its.length := rv.length
    have hi : i = its.toArray.size := by simp; omega
    subst hi
    exact wpAny_pyNext_enum_endD (Draws.tuple (A := X.A.in1) (I.ok.hd hc) it a hai its.toArray) he ⟨hit, p⟩ fun h' eb => ⟨rfl, I.turned (t' := s.toks) (fun b o hb q => eb b o hb q) f0 f1 f3 f4 f5⟩
  self := fun A i s Q E st h => let ⟨⟨_, he⟩, _⟩ := st; wpAny_pyIter_enum he h

def iEnumT (K : PySem.W.Frag) (ta : TA) : TI := fun σ H R => ta σ H fun vs H1 => ∃ a xs, vs = [.ref a] ∧ SqT K H1 a xs ∧ R (IteT K a) H1
theorem pi_enumT {X : Cx} {e : Expr} {ta : TA} {p pos tpos : Pos} {elts : List Expr} {kk : Nat} (hg : Gl X "enumerate") (hm : X.mg "enumerate" = none) (ha : PA X [e] ta) (hs : starEach [e] X.env = [(false, eval e X.env)] := by rfl) :
    PI X (.Tuple elts kk tpos) (.Call (.Name "enumerate" p) [e] [] pos) (iEnumT X.K ta) := by
  constructor
  intro pins s σ H R I h
  refine Call_ (ld_blt I hg hm boot_enumerate (PyProof.Rows.callWith_type1 (thn (ha.run pos pins s σ H _ I h) ?_) hs rfl))
  rintro us s1 ⟨vs, H1, I1, r1, a, xs, rfl, hq, q⟩
  cases r1 with
  | cons r rr =>
    cases rr
    cases r
    obtain ⟨its, rv, p', hz⟩ := I1.tuple hq
    have hal : a < s1.heap.objs.size := by obtain ⟨_, z, _⟩ := p'; exact Heap.lt_size z
    refine call_enumT (begins_tuple a its.toArray) p' fun h' he hit hsz hk => wpAny_pyIter_enum he ?_
    have I2 : Inv X pins σ H1 { s1 with heap := h' } := I1.kept (t' := s1.toks) hk
    refine ⟨s1.heap.objs.size + 1, [s1.heap.objs.size + 1, s1.heap.objs.size], _, _, H1, rfl, I2, turn_enumT a (s1.heap.objs.size + 1) s1.heap.objs.size, ⟨⟨.none, he⟩, ⟨_, hit, rfl, rfl⟩, Nat.succ_ne_self _, Nat.ne_of_lt hal, Nat.ne_of_gt (Nat.lt_succ_of_lt hal)⟩, fun b hb => ?_, q⟩
    have hle : s1.heap.objs.size ≤ b := by
      rcases (show b = s1.heap.objs.size + 1 ∨ b = s1.heap.objs.size by simpa using hb) with rfl | rfl
      · exact Nat.le_add_right _ _
      · exact Nat.le_refl _
    exact I1.fpOk hle (I1.hok.fresh hle)
/-! ### enumerate -/
def enumF (k : Nat) : List D → List D
  | [] => []
  | d :: r => .tup [.int (k : Nat), d] :: enumF (k + 1) r
theorem enumF_get : ∀ (ds : List D) (k i : Nat), (enumF k ds)[i]? = (ds[i]?).map fun d => D.tup [.int ((k + i : Nat) : Int), d]
  | [], k, i => by simp [enumF]
  | d :: r, k, 0 => by simp [enumF]
  | d :: r, k, i + 1 => by
    simp only [enumF, List.getElem?_cons_succ, enumF_get r (k + 1) i]
    rw [show k + 1 + i = k + (i + 1) by omega]
theorem enumF_len : ∀ (ds : List D) (k : Nat), (enumF k ds).length = ds.length
  | [], _ => rfl
  | _ :: r, k => by simp [enumF, enumF_len r]
def enums (ws : List W) (st : Sto) : R (List D) := match ws with
  | [.v (.lst ds)] => .ok (enumF 0 ds) st
  | [.v (.tup ds)] => .ok (enumF 0 ds) st
  | _ => .bad
def itEnum (g : AD) : LD := fun env st => (g env st).bind enums
section
variable {K : PySem.W.Frag} {ρ : Rho} {H : Hp}
theorem pair_rel {st : Sto} (s : RelSt K ρ H st) {T : Addr} {i : Nat} {x : V} {d : D} (hT : H T = none) (r : Rl K ρ H x d) :
    Same H (upd H T (.tup [.int (i : Nat), x])) ∧ Rl K ρ (upd H T (.tup [.int (i : Nat), x])) (.ref T) (.tup [.int (i : Nat), d]) := by
  have sm : Same H (upd H T (.tup [.int (i : Nat), x])) := fun b o hb => by rw [upd_ne (ne_of_none hb hT)]; exact hb
  exact ⟨sm, .tup upd_same (s.fresh hT) (.cons (.int _) (.cons (r.same sm) .nil))⟩
theorem itOk_enumL {a : Addr} {xs : List V} {ds : List D} (h : LsR K ρ H a xs) (r : RlAll K ρ H xs ds) : ItOk K (Ite K a) ρ H (enumF 0 ds) := by
  intro ρ' H' st g s
  have h' : SqL K H' a xs := by
    rcases h with ⟨h | ⟨o, h⟩, n⟩ | h
    · exact .inl (.inl (g _ _ h n).1)
    · exact .inl (.inr ⟨o, (g _ _ h n).1⟩)
    · exact .inr h
  refine ⟨fun i d e => ?_, xs, h', by rw [enumF_len]; exact Nat.le_of_eq r.length⟩
  rw [enumF_get] at e
  cases q : ds[i]? with
  | none => rw [q] at e; cases e
  | some d0 =>
  rw [q] at e
  cases e
  obtain ⟨v, e1, rv⟩ := r.getD q
  refine ⟨⟨xs, v, h', e1⟩, ?_⟩
  rintro x H2 ⟨T, y, rfl, hT, rfl, hy⟩
  have := hy xs h'
  rw [e1] at this
  cases this
  rw [Nat.zero_add]
  exact pair_rel s hT (rv.ext g)
theorem itOk_enumT {a : Addr} {xs : List V} {ds : List D} (h : H a = some (.tup xs)) (n : ¬ ρ.mut a) (r : RlAll K ρ H xs ds) : ItOk K (IteT K a) ρ H (enumF 0 ds) := by
  intro ρ' H' st g s
  have h' : SqT K H' a xs := .of (g _ _ h n).1
  refine ⟨fun i d e => ?_, xs, h', by rw [enumF_len]; exact r.length⟩
  rw [enumF_get] at e
  cases q : ds[i]? with
  | none => rw [q] at e; cases e
  | some d0 =>
  rw [q] at e
  cases e
  obtain ⟨v, e1, rv⟩ := r.getD q
  refine ⟨⟨xs, v, h', e1⟩, ?_⟩
  rintro x H2 ⟨T, y, rfl, hT, rfl, hy⟩
  have := hy xs h'
  rw [e1] at this
  cases this
  rw [Nat.zero_add]
  exact pair_rel s hT (rv.ext g)
end
section
variable {X : Cx} {ct : Nat → Value} {E : St → XK} {e : Expr} {f : ED} {p pos tpos : Pos} {elts : List Expr} {kk : Nat}
theorem di_enum (hg : Gl X "enumerate") (hm : X.mg "enumerate" = none) (h : PE X e (tE X.K ct E f)) (hs : starEach [e] X.env = [(false, eval e X.env)] := by rfl) :
    PI X (.Tuple elts kk tpos) (.Call (.Name "enumerate" p) [e] [] pos) (iR X.K ct E (itEnum (aCons f aNil))) := by
  have ha : PA X [e] (tA X.K ct E (aCons f aNil)) := da_cons h da_nil hs
  refine PI.of (PI.or (pi_enum hg hm ha hs) (pi_enumT hg hm ha hs)) ?_
  rintro σ H R' ⟨ρ, st, env, a, q⟩
  unfold itEnum at q
  cases ef : aCons f aNil env st with
  | exc x st1 => rw [ef] at q; exact .inl ⟨ρ, st, env, a, by rw [ef]; exact q⟩
  | bad => rw [ef] at q; exact q.elim
  | ok ws st1 =>
    rw [ef] at q
    simp only [R.bind_ok, enums] at q
    split at q
    · refine .inl ⟨ρ, st, env, a, ?_⟩
      rw [ef]
      intro ρ1 H1 vs g s r
      obtain ⟨v, rfl, rv⟩ := r.one
      cases rv with | v rv =>
      cases rv with
      | lst h1 r1 => exact ⟨_, _, rfl, h1.sql, q ρ1 H1 _ g s (itOk_enumL h1 r1)⟩
    · refine .inr ⟨ρ, st, env, a, ?_⟩
      rw [ef]
      intro ρ1 H1 vs g s r
      obtain ⟨v, rfl, rv⟩ := r.one
      cases rv with | v rv =>
      cases rv with
      | tup h1 n1 r1 => exact ⟨_, _, rfl, .of h1, q ρ1 H1 _ g s (itOk_enumT h1 n1 r1)⟩
    · exact q.elim
end
end Jv
end
section
/-! comprehensions over a list that may change: the items are read turn by turn -/
namespace Jv
open PySem PySem.Spec L2 PyProof.Rows
abbrev Nth := Nat → Sto → Option (Option D)
def ExtR (ρ : Rho) (H : Hp) (ρ' : Rho) (H' : Hp) : Prop := Ext ρ H ρ' H' ∧ ∀ (l : Nat) (a : Addr), l < ρ.lc.length → ρ'.lc[l]? = some (some a) → ρ.lc[l]? = some (some a)
def ItN (K : PySem.W.Frag) (J : It) (ρ0 : Rho) (H0 : Hp) (nth : Nth) : Prop := ∀ ρ H st, ExtR ρ0 H0 ρ H → RelSt K ρ H st → ∀ i : Nat,
  (∀ d, nth i st = some (some d) → J.go i H ∧ ∀ x H', J.yld i H x H' → Same H H' ∧ Rl K ρ H' x d) ∧ (nth i st = some none → J.stop i H)
abbrev ND := Env → Sto → R Nth
def okN (K : PySem.W.Frag) (ct : Nat → Value) (ρ : Rho) (H : Hp) (E : XK) (R' : It → Hp → Prop) : R Nth → Prop
  | .ok nth st' => ∀ ρ' H' J, Grow ρ H ρ' H' → RelSt K ρ' H' st' → ItN K J ρ' H' nth → R' J H'
  | .exc x st' => ∀ ρ' H' cv od, Grow ρ H ρ' H' → RelSt K ρ' H' st' → XRl K ct ρ' H' cv od x → E cv od H'
  | .bad => False
def nR (K : PySem.W.Frag) (ct : Nat → Value) (E : St → XK) (f : ND) : TI := fun σ H R' => ∃ ρ st env, At K ρ H st σ env ∧ okN K ct ρ H (E σ) R' (f env st)
def lcN (nth : Nth) (g : GD) (t : BD) (e : ED) (env : Env) : Nat → Nat → Sto → List D → R (List D)
  | 0, _, _, _ => .bad
  | n + 1, i, st, acc => match nth i st with
    | none => .bad
    | some none => .ok acc st
    | some (some d) => match g (.v d) env with
      | none => .bad
      | some env1 => (noX (t env1 st)).bind fun b st => if b then (noX (e env1 st)).bind fun y st => (match y with
        | .v d => lcN nth g t e env n (i + 1) st (acc ++ [d])
        | .r _ => .bad) else lcN nth g t e env n (i + 1) st acc
def lLcR (vs : List Nat) (it : ND) (g : GD) (t : BD) (e : ED) : LD := fun env st => (it env st).bind fun nth st => lcN nth g t e (wipeE env vs) 100001 0 st []
section
variable {K : PySem.W.Frag} {ct : Nat → Value} {E : St → XK} {ρ : Rho} {H : Hp} {σ : St} {env : Env}
theorem lcR_read {vs : List Nat} {it : ND} {g : GD} {t : BD} {e : ED} {Q : VK} (h : tF K ct E (lLcR vs it g t e) σ H Q) :
    tLc (nR K ct E it) (gR K vs g) (tT K ct (fun _ => E0) t) (tE K ct (fun _ => E0) e) vs σ H Q := by
  obtain ⟨ρ, st, env, a, h⟩ := h
  refine ⟨ρ, st, env, a, ?_⟩
  unfold lLcR at h
  cases ei : it env st with
  | exc x st' => rw [ei] at h; exact h
  | bad => rw [ei] at h; exact h.elim
  | ok nth st1 =>
  rw [ei] at h
  simp only [R.bind_ok] at h
  intro ρ1 H1 J gr1 s1 itk p hp
  have he1 : RelEnv K ρ1 H1 (wipe σ vs) (wipeE env vs) := (a.2.grow gr1).wipes vs
  have hph : p ∉ ρ1.hid := fun z => by obtain ⟨o, q⟩ := s1.hidt p z; rw [hp] at q; cases q
  have h' : okF K ct ρ1 H1 (E σ) Q (lcN nth g t e (wipeE env vs) 100001 0 st1 []) := by
    revert h
    cases lcN nth g t e (wipeE env vs) 100001 0 st1 [] with
    | ok x y => exact fun h ρ' H' p' xs g' => h ρ' H' p' xs (gr1.trans g')
    | exc x y => exact fun h ρ' H' cv od g' => h ρ' H' cv od (gr1.trans g')
    | bad => exact id
  refine ⟨fun i m Hc => m + i = 100001 ∧ ∃ ρ2 st2 acc accD, RelSt K (ρ2.hide p) Hc st2 ∧ Hc p = some (.lst acc) ∧ RlAll K (ρ2.hide p) Hc acc accD ∧ RelEnv K (ρ2.hide p) Hc (wipe σ vs) (wipeE env vs) ∧
      Grow ρ1 H1 ρ2 (unD Hc p) ∧ accD.length ≤ i ∧ okF K ct ρ1 H1 (E σ) Q (lcN nth g t e (wipeE env vs) m i st2 accD), ?_, ?_⟩
  · refine ⟨100001, rfl, ρ1, st1, [], [], s1.hide hp, upd_same, .nil, he1.hide hp, ?_, Nat.le_refl _, h'⟩
    refine ⟨Nat.le_refl _, rfl, fun _ _ _ z => z, fun x o hx n => ⟨?_, n⟩⟩
    rw [unD_ne (ne_of_none hx hp), upd_ne (ne_of_none hx hp)]
    exact hx
  · rintro i m Hc ⟨hmi, ρ2, st2, acc, accD, s2, hacc, racc, he2, gr2, hal, hq⟩
    have hpl : some p ∉ ρ2.lc := fun z => s2.apart p z List.mem_cons_self
    have ext : Ext ρ1 H1 (ρ2.hide p) Hc := fun x o hx n => by
      have ne := ne_of_none hx hp
      obtain ⟨h1, n1⟩ := gr2.keep hx n
      rw [unD_ne ne] at h1
      refine ⟨h1, fun z => ?_⟩
      rcases z with z | z
      · exact n1 (.inl z)
      · rcases List.mem_cons.mp z with z | z
        · exact ne z
        · exact n1 (.inr z)
    obtain ⟨turn, stop⟩ := itk (ρ2.hide p) Hc st2 ⟨ext, fun l b hl q => gr2.ref l b hl q⟩ s2 i
    cases m with
    | zero => exact hq.elim
    | succ m =>
    simp only [lcN] at hq
    cases en : nth i st2 with
    | none => rw [en] at hq; exact hq.elim
    | some on =>
    rw [en] at hq
    cases on with
    | none =>
      refine .inl ⟨stop en, ?_⟩
      simp only at hq
      have q := hq ρ2 (unD Hc p) p acc gr2 (s2.unhide (H' := unD Hc p) (fun b hb => unD_ne hb) hpl (.inl (by rw [gr2.hid]; exact hph))) (if_pos rfl) (racc.unhide fun b hb => unD_ne hb)
      rw [unD_upd hacc] at q
      exact q
    | some d0 =>
      obtain ⟨go, yl⟩ := turn d0 en
      refine .inr ⟨go, fun Hn => ∃ ρ3 st3 acc' accD', RelSt K (ρ3.hide p) Hn st3 ∧ Hn p = some (.lst acc') ∧ RlAll K (ρ3.hide p) Hn acc' accD' ∧ RelEnv K (ρ3.hide p) Hn (wipe σ vs) (wipeE env vs) ∧
        Grow ρ1 H1 ρ3 (unD Hn p) ∧ accD'.length ≤ i + 1 ∧ okF K ct ρ1 H1 (E σ) Q (lcN nth g t e (wipeE env vs) m (i + 1) st3 accD'), ?_, ?_⟩
      · rintro Hn ⟨ρ3, st3, acc', accD', q⟩
        exact ⟨m, by omega, by omega, ρ3, st3, acc', accD', q⟩
      · intro x H' hy
        obtain ⟨sm, rx⟩ := yl x H' hy
        simp only at hq
        cases eg : g (.v d0) (wipeE env vs) with
        | none => rw [eg] at hq; exact hq.elim
        | some env1 =>
          rw [eg] at hq
          simp only at hq
          refine ⟨ρ2.hide p, st2, wipeE env vs, .v d0, env1, ⟨s2.same sm, he2.grow (.same sm)⟩, .v rx, eg, fun σ2 a2 ag => ⟨ag.wipe, ?_⟩⟩
          have gr2' : Grow ρ1 H1 ρ2 (unD H' p) := by
            refine ⟨gr2.len, gr2.hid, gr2.ref, fun y o hy n => ?_⟩
            have ne := ne_of_none hy hp
            obtain ⟨h1, n1⟩ := gr2.obj y o hy n
            rw [unD_ne ne] at h1 ⊢
            exact ⟨sm _ _ h1, n1⟩
          have racc2 := racc.same sm
          have he2' := he2.grow (.same sm)
          have hacc2 := sm _ _ hacc
          refine ⟨ρ2.hide p, st2, env1, a2, ?_⟩
          cases et : t env1 st2 with
          | exc x y => rw [et] at hq; exact hq.elim
          | bad => rw [et] at hq; exact hq.elim
          | ok b st3 =>
            rw [et] at hq
            simp only [noX_ok, R.bind_ok] at hq
            intro ρ3 H3 b' g3 s3 eb
            cases eb
            have e3 := g3.shown
            have gr3 := Grow.under hp gr2' g3
            have hacc3 := (g3.obj _ _ hacc2 hpl).1
            have racc3 := racc2.grow g3
            have he3 := he2'.grow g3
            have env3 := a2.2.grow g3
            cases b with
            | false =>
              simp only [Bool.false_eq_true, if_false] at hq ⊢
              rw [e3] at s3 racc3 he3
              exact ⟨⟨ρ3.lc, ρ2.hid⟩, st3, acc, accD, s3, hacc3, racc3, he3, gr3, by omega, hq⟩
            | true =>
              simp only [if_true] at hq ⊢
              refine ⟨ρ3, st3, env1, ⟨s3, env3⟩, ?_⟩
              cases ee : e env1 st3 with
              | exc x y => rw [ee] at hq; exact hq.elim
              | bad => rw [ee] at hq; exact hq.elim
              | ok w st4 =>
                rw [ee] at hq
                simp only [noX_ok, R.bind_ok] at hq
                intro ρ4 H4 y g4 s4 ry
                cases w with
                | r l => exact hq.elim
                | v d =>
                  simp only at hq
                  cases ry with | v ry =>
                  have hpl3 : some p ∉ ρ3.lc := (g3.obj _ _ hacc2 hpl).2
                  have hacc4 := (g4.obj _ _ hacc3 hpl3).1
                  have g34 := g3.trans g4
                  have e4 := g34.shown
                  have gr4 := Grow.under hp gr2' g34
                  have racc4 := racc3.grow g4
                  have he4 := he3.grow g4
                  have hpl4 : some p ∉ ρ4.lc := (g4.obj _ _ hacc3 hpl3).2
                  have hup : ∀ b, b ≠ p → upd H4 p (.lst (acc ++ [y])) b = H4 b := fun b hb => upd_ne hb
                  rw [e4] at s4 racc4 he4 ry
                  refine ⟨acc, hacc4, Nat.lt_of_lt_of_le (show acc.length < 100001 by rw [racc.length]; omega) (by decide), ⟨ρ4.lc, ρ2.hid⟩, st4, acc ++ [y], accD ++ [d], s4.refill hup hpl4 ⟨_, upd_same⟩, upd_same, (racc4.append (.cons ry .nil)).refill hup, ?_, ?_, ?_, hq⟩
                  · exact ⟨he4.len, fun j w' ej => let ⟨v, h1, h2⟩ := he4.get j w' ej; ⟨v, h1, h2.refill hup⟩⟩
                  · refine ⟨gr4.len, gr4.hid, gr4.ref, fun z o hz n => ?_⟩
                    have ne := ne_of_none hz hp
                    obtain ⟨h1, n1⟩ := gr4.obj z o hz n
                    rw [unD_ne ne] at h1 ⊢
                    exact ⟨by rw [upd_ne ne]; exact h1, n1⟩
                  · rw [List.length_append, List.length_singleton]
                    omega
end
/-! enumerate of a list that may change -/
def nthEnum (l : Nat) : Nth := fun i st => match st[l]? with
  | some (.lst es) => some ((es[i]?).map fun d => .tup [.int (i : Nat), d])
  | _ => none
def enumsN (ws : List W) (st : Sto) : R Nth := match ws with
  | [.r l] => match st[l]? with
    | some (.lst _) => .ok (nthEnum l) st
    | _ => .bad
  | _ => .bad
def nEnum (g : AD) : ND := fun env st => (g env st).bind enumsN
theorem itN_enum {K : PySem.W.Frag} {ρ : Rho} {H : Hp} {l : Nat} {a : Addr} (hl : ρ.lc[l]? = some (some a)) : ItN K (Ite K a) ρ H (nthEnum l) := by
  intro ρ' H' st ⟨g, gl⟩ s i
  have key : ∀ es, st[l]? = some (.lst es) → ∃ xs, H' a = some (.lst xs) ∧ RlAll K ρ' H' xs es := fun es q => by
    rcases s.obj l _ q with ⟨z, _⟩ | ⟨b, hb, ob⟩
    · cases z
    · have := gl l b (List.getElem?_eq_some_iff.mp hl).1 hb
      rw [hl] at this
      cases this
      exact ob
  unfold nthEnum
  cases q : st[l]? with
  | none => exact ⟨fun d e => by simp at e, fun e => by simp at e⟩
  | some ob =>
    cases ob with
    | dead => exact ⟨fun d e => by simp at e, fun e => by simp at e⟩
    | dct _ => exact ⟨fun d e => by simp at e, fun e => by simp at e⟩
    | kd _ _ => exact ⟨fun d e => by simp at e, fun e => by simp at e⟩
    | lst es =>
      obtain ⟨xs, h1, r1⟩ := key es q
      have h' : SqL K H' a xs := .inl (.inl h1)
      refine ⟨fun d e => ?_, fun e => ⟨xs, h', ?_⟩⟩
      · simp only [Option.some.injEq] at e
        cases q2 : es[i]? with
        | none => rw [q2] at e; cases e
        | some d0 =>
          rw [q2] at e
          cases e
          obtain ⟨v, e1, rv⟩ := r1.getD q2
          refine ⟨⟨xs, v, h', e1⟩, ?_⟩
          rintro x H2 ⟨T, y, rfl, hT, rfl, hy⟩
          have := hy xs h'
          rw [e1] at this
          cases this
          exact pair_rel s hT rv
      · simp only [Option.some.injEq, Option.map_eq_none_iff, List.getElem?_eq_none_iff] at e
        rw [r1.length]
        exact e
section
variable {X : Cx} {ct : Nat → Value} {E : St → XK}
theorem dn_enum {e : Expr} {f : ED} {p pos tpos : Pos} {elts : List Expr} {kk : Nat} (hg : Gl X "enumerate") (hm : X.mg "enumerate" = none) (h : PE X e (tE X.K ct E f)) (hs : starEach [e] X.env = [(false, eval e X.env)] := by rfl) :
    PI X (.Tuple elts kk tpos) (.Call (.Name "enumerate" p) [e] [] pos) (nR X.K ct E (nEnum (aCons f aNil))) := by
  have ha : PA X [e] (tA X.K ct E (aCons f aNil)) := da_cons h da_nil hs
  refine PI.of (pi_enum hg hm ha hs) ?_
  rintro σ H R' ⟨ρ, st, env, a, q⟩
  unfold nEnum at q
  refine ⟨ρ, st, env, a, ?_⟩
  cases ef : aCons f aNil env st with
  | exc x st1 => rw [ef] at q; exact q
  | bad => rw [ef] at q; exact q.elim
  | ok ws st1 =>
    rw [ef] at q
    simp only [R.bind_ok, enumsN] at q
    split at q
    · rename_i l
      split at q
      · rename_i es hes
        intro ρ1 H1 vs g s r
        obtain ⟨v, rfl, rv⟩ := r.one
        rcases s.obj l _ hes with ⟨z, _⟩ | ⟨b, hb, xs, ob, _⟩
        · cases z
        · cases rv with
          | r hl hx =>
            have := hx b hb
            subst this
            exact ⟨_, xs, rfl, .inl (.inl ob), q ρ1 H1 _ g s (itN_enum hb)⟩
      · exact q.elim
    · exact q.elim
variable {elt tg iter : Expr} {ifs : List Expr} {scope : Scope} {own : List (Str × Nat)} {pos : Pos} {it : ND} {g : GD} {t : BD} {f : ED}
theorem df_lcR (hc : X.calm = true) (hN : X.N.Nodup) (hi : PI X tg iter (nR X.K ct E it)) (ok : BlkOk X.N X.env.scope scope own)
    (hg : ∀ (s : Shared) (H : Hp) (C : Addr) (cl : List (Str × Addr)) (fp : List Addr), PG (X.blk s H scope (compEnvC scope cl C X.env) fp) tg (gR X.K (own.map (·.2)) g))
    (ht : ∀ (s : Shared) (H : Hp) (C : Addr) (cl : List (Str × Addr)) (fp : List Addr), PTs (X.blk s H scope (compEnvC scope cl C X.env) fp) ifs (tT X.K ct (fun _ => E0) t))
    (he : ∀ (s : Shared) (H : Hp) (C : Addr) (cl : List (Str × Addr)) (fp : List Addr), PE (X.blk s H scope (compEnvC scope cl C X.env) fp) elt (tE X.K ct (fun _ => E0) f)) (hs : ∀ x, foldedSetIterable iter X.env x = pure x := by intro _; rfl) :
    PE X (.ListComp elt [⟨tg, iter, ifs, 0⟩] scope pos) (tF X.K ct E (lLcR (own.map (·.2)) it g t f)) := PE.of (pe_lc hc hN hi ok hg ht he hs) fun σ H Q h => lcR_read h
theorem ds_setLcR {spos py : Pos} {i : Nat} {y : Str} (hc : X.calm = true) (hN : X.N.Nodup) (hy : X.N[i]? = some y) (hyl : X.env.scope.names.lookup y = some .local) (hsw : swapsWith (.ListComp elt [⟨tg, iter, ifs, 0⟩] scope pos) (some (.Name y py)) spos.line X.env = pure true)
    (hi : PI X tg iter (nR X.K ct E it)) (ok : BlkOk X.N X.env.scope scope own)
    (hg : ∀ (s : Shared) (H : Hp) (C : Addr) (cl : List (Str × Addr)) (fp : List Addr), PG (X.blk s H scope (compEnvC scope cl C X.env) fp) tg (gR X.K (own.map (·.2)) g))
    (ht : ∀ (s : Shared) (H : Hp) (C : Addr) (cl : List (Str × Addr)) (fp : List Addr), PTs (X.blk s H scope (compEnvC scope cl C X.env) fp) ifs (tT X.K ct (fun _ => E0) t))
    (he : ∀ (s : Shared) (H : Hp) (C : Addr) (cl : List (Str × Addr)) (fp : List Addr), PE (X.blk s H scope (compEnvC scope cl C X.env) fp) elt (tE X.K ct (fun _ => E0) f)) (hs : ∀ x, foldedSetIterable iter X.env x = pure x := by intro _; rfl) :
    PS X (.Assign [.Name y py] (.ListComp elt [⟨tg, iter, ifs, 0⟩] scope pos) spos) (tS X.K ct E (sSet i (eLst (lLcR (own.map (·.2)) it g t f)))) :=
  PS.of (ps_setLc hc hN hy hyl hsw hi ok hg ht he hs) fun D σ H h => lcR_read (setF_read h)
end
end Jv
end
section
/-! sorted(xs, key=f), f a def of the text -/
namespace Jv
open PySem PySem.Spec L2 PyProof.Rows PySem.W
section
variable {prog : Program} {w : World} {A : Around} {E : Value → Shared → Prop} {s : Shared} {a kS : Addr} {b : Bool} {vs : List Value} {e1 : Nat} {P : PySem.Fin → Shared → Prop}
theorem keyJ_rest {f : Value} (J : Nat → Array Value → Shared → Prop) (hZ : vs.length ≤ sizeLine) (J0 : J 0 #[] s)
    (turn : ∀ i v kA s', vs[i]? = some v → J i kA s' → wpAny (model prog w) A (call f [v])
      (fun u s'' => (∃ e, s''.heap.get? kS = some (seqObj "list" kA e)) ∧ kA.size ≤ vs.length ∧ J (i + 1) (kA.push u) { s'' with heap := s''.heap.update kS (Obj.mapSeq (·.push u)) }) (fun _ _ => False) s')
    (fin : ∀ kA s', J vs.length kA s' → (∃ e, s'.heap.get? kS = some (seqObj "list" kA e)) ∧ wpAny (model prog w) A (ksk_end a b vs.toArray e1 (.ref kS) kA) P E s') :
    wpAny (model prog w) A (ksk_rest a f b vs.toArray e1 (.ref kS)) P E s := by
  unfold ksk_rest
  refine wpAny_bind (wpAny_rule ?_)
  first
    | rw [List.forIn_toArray]
    | (rw [← Array.forIn_toList]; simp only [List.toList_toArray])
    | rw [← Array.forIn_toList]
  refine wpAny_bind (ksk_fold (fun i s' => ∃ kA, J i kA s') vs 0 s ⟨#[], J0⟩ ?_ ?_)
  · rintro j x s' hx ⟨kA, hJ⟩
    simp only [Nat.zero_add] at hJ ⊢
    refine wpAny_bind (wpAny_attempt (wpAny_mono (turn j x kA s' hx hJ) ?_ fun _ _ hF => hF.elim))
    rintro u s'' ⟨⟨e, hk⟩, hz, hJ'⟩
    try dsimp only
    exact wpAny_bind (listUpdate_at hk rfl (wpAny_pure ⟨rfl, _, hJ'⟩) (Nat.le_trans hz hZ) (Nat.le_trans (Nat.le_of_eq (Array.size_push ..)) (Nat.succ_le_succ (Nat.le_trans hz hZ))))
  · rintro s' ⟨kA, hJ⟩
    rw [Nat.zero_add] at hJ
    obtain ⟨⟨e, hk⟩, q⟩ := fin kA s' hJ
    try dsimp only
    exact wpAny_bind (listItems_at hk rfl q)
theorem keyJ_tree {f : Value} {n : Nat} (ho : s.heap.get? a = some (seqObj "list" vs.toArray n)) (hZ : vs.length ≤ sizeLine)
    (rest : ∀ e1, (sortingHeap s.heap a vs).get? a = some (seqObj "list" #[] e1) → (sortingHeap s.heap a vs).get? (s.heap.objs.size + 1) = some (seqObj "list" #[] 0) →
      wpAny (model prog w) A (ksk_rest a f b vs.toArray e1 (.ref (s.heap.objs.size + 1))) P E { s with heap := sortingHeap s.heap a vs }) :
    wpAny (model prog w) A (ksk_tree a f b) P E s := by
  obtain ⟨e1, ho1⟩ : ∃ e1, (s.heap.update a (Obj.mapSeq fun _ => (#[] : Array Value))).get? a = some (seqObj "list" #[] e1) := ⟨_, get?_update_seq ho fun _ => #[]⟩
  have hkS : ((s.heap.update a (Obj.mapSeq fun _ => (#[] : Array Value))).push (seqObj "tuple" vs.toArray 0)).objs.size = s.heap.objs.size + 1 := by rw [size_push', Heap.size_update]
  unfold ksk_tree
  refine wpAny_bind (listItems_at ho rfl ?_)
  refine wpAny_bind (listUpdate_at ho rfl ?_ (by rw [List.size_toArray]; exact hZ) (Nat.zero_le _))
  refine wpAny_bind (seqEpoch_at ho1 rfl ?_)
  refine wpAny_bind (wpAny_newTuple ?_ (by show vs.length ≤ _; exact hZ))
  refine wpAny_bind (wpAny_newList ?_ (Nat.zero_le _))
  refine wpAny_holding ?_
  have r := rest e1 (Heap.get?_push_of_some _ (Heap.get?_push_of_some _ ho1)) (by rw [← hkS]; exact Heap.get?_push_size _ rfl)
  rw [← hkS] at r
  exact r
end
/-- the object at a is gone -/
def without (h : Heap) (a : Addr) : Heap := h.update a fun o => { o with data := .freed }
theorem without_self (h : Heap) (a : Addr) : (without h a).get? a = none := by
  obtain ⟨objs, l⟩ := h
  simp only [without, Heap.update, Heap.get?, Array.getElem?_modify]
  cases objs[a]? <;> rfl
theorem without_ne {h : Heap} {a b : Addr} (n : b ≠ a) : (without h a).get? b = h.get? b := Heap.get?_update_other h _ (Ne.symm n)
/-- an object of our own is tracked from here on -/
theorem adopt {X : Cx} {pins : List (Addr × Obj)} {σ : St} {H : Hp} {s : Shared} {h' : Heap} {t' : Nat} {ch : List Addr} {T : Addr} {ob : HO} (I : Inv X pins σ H s) (k : ∀ b o, b ∉ ch → s.heap.get? b = some o → h'.get? b = some o)
    (hf : ∀ b ∈ ch, FpOk X pins H b) (hT : T ∈ ch) (new : ObjOk X.prog X.w (upd H T ob) h' T ob) : Inv X pins σ (upd H T ob) { s with heap := h', toks := t' } := by
  have hn : H T = none := (hf T hT).1
  have nit : ∀ b u, H b = some u → b ∉ ch := fun b u e z => by
    have q := (hf b z).1
    rw [q] at e
    cases e
  refine I.step (g' := s.gens) (d' := s.drawn) (ch := ch) (fun b hb => ?_) (fun b o _ _ hc e _ => k b o hc e) (fun b o _ _ hc e _ => ⟨o.slots, k b o hc e⟩) (fun b o hc e n => ?_) (fun b o hc e => ⟨o, k b o hc e⟩) (fun b xs e => ?_) (fun b o u e => ?_)
    (fun b ps e => ⟨#[], ?_⟩) (fun m hm => ?_) (fun b u e => ?_) I.bare
  · obtain ⟨_, f1, _, f3, f4, f5⟩ := hf b hb
    exact ⟨f3, f1, f4, f5⟩
  · rw [upd_ne (show b ≠ T from fun z => hc (by rw [z]; exact hT))]
    exact n
  · rw [upd_ne (ne_of_none e hn)]
    exact e
  · rw [upd_ne (ne_of_none e hn)]
    exact e
  · rw [upd_ne (ne_of_none e hn), e]
    simp
  · obtain ⟨o, es, ep, ho, r⟩ := hm
    exact ⟨o, es, ep, k _ o (fun z => (hf _ z).2.1 rfl) ho, r⟩
  · by_cases hb : b = T
    · subst hb
      rw [upd_same] at e
      cases e
      exact new
    · rw [upd_ne hb] at e
      refine (I.hok b u e).stay (fun c v hc q => k c v ?_ q) (fun c q => ?_) fun c xs q => ?_
      · rcases hc with z | z
        · rw [z]
          exact nit b u e
        · exact nit c _ z
      · rw [upd_ne (ne_of_none q hn)]
        exact q
      · rw [upd_ne (ne_of_none q hn)]
        exact q
/-! what it gives -/
def keysOf (run : List W → Sto → R W) : List D → Sto → R (List D)
  | [], st => .ok [] st
  | d :: r, st => (noX (run [.v d] st)).bind fun y st => match y with
    | .v k => (keysOf run r st).bind fun ks st => .ok (k :: ks) st
    | .r _ => .bad
def isRow : PyData → Bool
  | .tuple (_ :: _) => true
  | _ => false
def alikes (ks : List PyData) : Bool := ks.all fun x => ks.all fun y => alike x y
def keysOk (ks : List D) : Bool := alikes (ks.map D.py) && (ks.map D.py).all isRow && ks.all (fun k => decide (k.py.depth ≤ 60) && k.py.canLay0)
/-- a stable sort that computes -/
def ins {α : Type} (le : α → α → Bool) (x : α) : List α → List α
  | [] => [x]
  | y :: r => if le x y then x :: y :: r else y :: ins le x r
def isort {α : Type} (le : α → α → Bool) : List α → List α
  | [] => []
  | x :: r => ins le x (isort le r)
theorem ins_mem {α : Type} {le : α → α → Bool} {x : α} : ∀ {l : List α} {z : α}, z ∈ ins le x l → z = x ∨ z ∈ l
  | [], z, h => .inl (List.mem_singleton.mp h)
  | y :: r, z, h => by
    unfold ins at h
    split at h
    · exact List.mem_cons.mp h
    · rcases List.mem_cons.mp h with h | h
      · exact .inr (h ▸ List.mem_cons_self)
      · exact (ins_mem h).imp id (List.mem_cons_of_mem _)
theorem ins_sorted {α : Type} {le : α → α → Bool} (h : TotalLe le) {x : α} : ∀ {l : List α}, l.Pairwise (fun a b => le a b = true) → (ins le x l).Pairwise fun a b => le a b = true
  | [], _ => List.pairwise_singleton _ _
  | y :: r, p => by
    rw [List.pairwise_cons] at p
    unfold ins
    split
    · rename_i c
      rw [List.pairwise_cons]
      refine ⟨fun z hz => ?_, List.pairwise_cons.mpr p⟩
      rcases List.mem_cons.mp hz with rfl | hz
      · exact c
      · exact h.trans _ _ _ c (p.1 z hz)
    · rename_i c
      rw [List.pairwise_cons]
      refine ⟨fun z hz => ?_, ins_sorted h p.2⟩
      rcases ins_mem hz with rfl | hz
      · exact (h.total y z).resolve_right c
      · exact p.1 z hz
theorem ins_stable {α : Type} {le : α → α → Bool} (h : TotalLe le) {x c : α} : ∀ {l : List α}, (ins le x l).filter (sameRank le c) = (x :: l).filter (sameRank le c)
  | [] => rfl
  | y :: r => by
    unfold ins
    split
    · rfl
    · rename_i n
      rw [List.filter_cons, ins_stable h (l := r)]
      simp only [List.filter_cons]
      cases hx : sameRank le c x with
      | false => simp
      | true =>
        cases hy : sameRank le c y with
        | false => simp
        | true =>
          simp only [sameRank, Bool.and_eq_true] at hx hy
          exact absurd (h.trans _ _ _ hx.2 hy.1) n
theorem isort_eq {α : Type} {le : α → α → Bool} (h : TotalLe le) (l : List α) : isort le l = l.mergeSort le := by
  refine sort_unique h ?_ fun c => ?_
  · induction l with
    | nil => exact .nil
    | cons x r ih => exact ins_sorted h ih
  · induction l with
    | nil => rfl
    | cons x r ih =>
      show (ins le x (isort le r)).filter _ = _
      rw [ins_stable h, List.filter_cons, List.filter_cons, ih]
def sortD (ds ks : List D) : List D := (isort (dataLe false fun p => p.2.py) (ds.zip ks)).map (·.1)
def sortFin (ds ks : List D) (st : Sto) : R (List D) := if keysOk ks && decide (ds.length ≤ 100000) then .ok (sortD ds ks) st else .bad
def sortK (run : List W → Sto → R W) (ds : List D) (st : Sto) : R (List D) := (keysOf run ds st).bind fun ks st => sortFin ds ks st
def lSortK (run : List W → Sto → R W) (g : AD) : LD := fun env st => (g env st).bind fun ws st => match ws with
  | [w] => match asLst st w with
    | some ds => sortK run ds st
    | none => .bad
  | _ => .bad

/-! the call -/
theorem alikes_of {ks : List PyData} (h : alikes ks = true) : AllAlike ks := fun d hd d' hd' => by
  have h1 := List.all_eq_true.mp h d hd
  exact List.all_eq_true.mp h1 d' hd'
theorem sortable_of {ks : List PyData} (h : ks.all isRow = true) : PySem.W.Sortable ks := .inl fun d hd => by
  have h1 := List.all_eq_true.mp h d hd
  unfold isRow at h1
  split at h1
  · exact ⟨_, _, rfl⟩
  · cases h1
theorem each_of : ∀ {xs : List V} {us : List Value} {bs : List (V × D × D)}, Vals xs us → bs.map (·.1) = xs → EachIs (fun u b => RelV b.1 u) us bs
  | _, _, [], .nil, e => .nil
  | _, _, [], .cons _ _, e => by cases e
  | _, _, b :: bs, .nil, e => by cases e
  | _, _, b :: bs, .cons r t, e => by
    simp only [List.map_cons, List.cons.injEq] at e
    obtain ⟨e1, e2⟩ := e
    subst e1
    exact .cons r (each_of t e2)
theorem of_each : ∀ {us : List Value} {bs : List (V × D × D)}, EachIs (fun u b => RelV b.1 u) us bs → Vals (bs.map (·.1)) us
  | _, _, .nil => .nil
  | _, _, .cons r t => .cons r (of_each t)
section
variable {K : PySem.W.Frag} {ρ : Rho} {H : Hp}
theorem RlAll.zips : ∀ {xs : List V} {ds : List D} (ks : List D), RlAll K ρ H xs ds → ∀ b ∈ xs.zip (ds.zip ks), Rl K ρ H b.1 b.2.1
  | _, _, [], .cons _ _, b, hb => by simp at hb
  | _, _, _, .nil, b, hb => by simp at hb
  | _, _, k :: ks, .cons r t, b, hb => by
    simp only [List.zip_cons_cons, List.mem_cons] at hb
    rcases hb with rfl | hb
    · exact r
    · exact RlAll.zips ks t b hb
theorem RlAll.ofMem : ∀ {bs : List (V × D × D)}, (∀ b ∈ bs, Rl K ρ H b.1 b.2.1) → RlAll K ρ H (bs.map (·.1)) (bs.map (·.2.1))
  | [], _ => .nil
  | b :: bs, h => .cons (h b List.mem_cons_self) (RlAll.ofMem fun c hc => h c (List.mem_cons_of_mem _ hc))
end
theorem sortD_eq (xs : List V) (ds ks : List D) (h1 : xs.length = ds.length) (h2 : ks.length = ds.length) : ((xs.zip (ds.zip ks)).mergeSort (dataLe false fun b => b.2.2.py)).map (·.2.1) = sortD ds ks := by
  unfold sortD
  rw [isort_eq (show TotalLe (dataLe false fun p : D × D => p.2.py) from sortLe_total _ _ _)]
  have e : (xs.zip (ds.zip ks)).map (·.2) = ds.zip ks := by
    rw [List.map_snd_zip]
    simp [h1, h2]
  have m := List.map_mergeSort (l := xs.zip (ds.zip ks)) (r := dataLe false fun b : V × D × D => b.2.2.py) (s := dataLe false fun p : D × D => p.2.py) (f := fun b : V × D × D => b.2) (fun a _ b _ => rfl)
  rw [e] at m
  rw [← m, List.map_map]
  rfl
def rSortK (K : PySem.W.Frag) (f : Addr) (run : List W → Sto → R W) : List V → List V → Hp → VK → Prop := fun vs zs H Q => ∃ (ρ : Rho) (st : Sto) (a : Addr) (xs : List V) (ds : List D),
  vs = [.ref a] ∧ zs = [.ref f] ∧ SqL K H a xs ∧ RlAll K ρ H xs ds ∧ RelSt K ρ H st ∧ okF K (fun _ => .none) ρ H E0 Q (sortK run ds st)
theorem keysOf_len {run : List W → Sto → R W} : ∀ {ds : List D} {st st' : Sto} {ks : List D}, keysOf run ds st = .ok ks st' → ks.length = ds.length
  | [], _, _, _, e => by cases e; rfl
  | d :: r, st, st', ks, e => by
    simp only [keysOf] at e
    cases e1 : noX (run [.v d] st) with
    | exc x y => rw [e1] at e; cases e
    | bad => rw [e1] at e; cases e
    | ok y st1 =>
      rw [e1] at e
      simp only [R.bind_ok] at e
      cases y with
      | r l => cases e
      | v k =>
        simp only at e
        cases e2 : keysOf run r st1 with
        | exc x y => rw [e2] at e; cases e
        | bad => rw [e2] at e; cases e
        | ok ks1 st2 =>
          rw [e2] at e
          simp only [R.bind_ok, R.ok.injEq] at e
          rw [← e.1, List.length_cons, keysOf_len e2, List.length_cons]
theorem okF.grow {K : PySem.W.Frag} {ct : Nat → Value} {ρ ρ1 : Rho} {H H1 : Hp} {E : XK} {Q : VK} {r : R (List D)} (g : Grow ρ H ρ1 H1) (h : okF K ct ρ H E Q r) : okF K ct ρ1 H1 E Q r := by
  cases r with
  | ok ds st' => exact fun ρ' H' p xs g' => h ρ' H' p xs (g.trans g')
  | exc x st' => exact fun ρ' H' cv od g' => h ρ' H' cv od (g.trans g')
  | bad => exact h
theorem cr_sortK {X : Cx} {ct : Nat → Value} {k : Nat} {f : Addr} {fd : FuncData} {ps : List Str} {run : List W → Sto → R W} (F : FnG X.prog X.w X.K X.mg X.base CX0 k f fd ps (spG X.K ct 1 run)) (gd : X.A.guards = some []) (hr : Room (k + 1) X.A) (hb : Binds X.K fd ps []) :
    CallRK X (.builtin "sorted") [Str.ofString "key"] (rSortK X.K f run) := by
  intro pins s σ H vs zs us ws Q I r rz h
  obtain ⟨ρ1, st1, l, xs, ds, rfl, rfl, hq, rds, rs, hok⟩ := h
  obtain rfl := Vals.ref1 r
  obtain rfl := Vals.ref1 rz
  obtain ⟨its, rv, hl, hz⟩ := I.list hq
  have hlx : xs.length = ds.length := rds.length
  have hli : xs.length = its.length := rv.length
  have hZ : its.length ≤ sizeLine := by rw [← hli]; exact hz
  refine sorted_of_sort hl.isList hZ (ksk_s1 _ _) (fun x => ksk_l1 _ _) fun E' => ?_
  show wpAny _ _ (Builtin.«list.sort» ⟨[.ref (s.heap.objs.size + 1)], [(Str.ofString "key", .ref f)]⟩) _ _ _
  rw [ksk_t1]
  have hcs : (copyHeap s.heap its).objs.size = s.heap.objs.size + 2 := by
    unfold copyHeap
    rw [size_push', Heap.size_update, size_push']
  refine keyJ_tree (copyHeap_at s.heap its) hZ fun e1 ha hk => ?_
  show wpAny _ _ (ksk_rest _ _ _ _ _ (.ref ((copyHeap s.heap its).objs.size + 1))) _ _ _
  have keep0 : ∀ b o, s.heap.get? b = some o → (sortingHeap (copyHeap s.heap its) (s.heap.objs.size + 1) its).get? b = some o := fun b o e =>
    sortingHeap_old (Nat.ne_of_lt (Nat.lt_succ_of_lt (Heap.lt_size e))) (copyHeap_old e)
  generalize hkk : (copyHeap s.heap its).objs.size + 1 = kS at *
  generalize haa : s.heap.objs.size + 1 = a at *
  have hsk : s.heap.objs.size ≤ kS := by omega
  have hsa : s.heap.objs.size ≤ a := by omega
  have hka : kS ≠ a := by omega
  have fk : ∀ {H' : Hp}, H' kS = none → FpOk X pins H' kS := fun hn => I.fpOk hsk hn
  have fa : ∀ {H' : Hp}, H' a = none → FpOk X pins H' a := fun hn => I.fpOk hsa hn
  have repin : ∀ {H' : Hp} {s' : Shared} {kA : Array Value} {e : Nat}, Inv X pins σ H' s' → s'.heap.get? kS = some (seqObj "list" kA e) → s'.heap.get? a = some (seqObj "list" #[] e1) → H' kS = none → H' a = none →
      Inv X ((kS, seqObj "list" kA e) :: (a, seqObj "list" #[] e1) :: pins) σ H' s' := fun I' h1 h2 n1 n2 => I'.pins_of fun p hp => by
    rcases List.mem_cons.mp hp with z | hp
    · subst z
      exact ⟨h1, n1, (fk n1).2.1, (fk n1).2.2.1, fun v q => nomatch q⟩
    · rcases List.mem_cons.mp hp with z | hp
      · subst z
        exact ⟨h2, n2, (fa n2).2.1, (fa n2).2.2.1, fun v q => nomatch q⟩
      · exact I'.pin p (List.mem_append_right _ hp)
  have I0 : Inv X pins σ H { s with heap := sortingHeap (copyHeap s.heap its) a its } := I.kept (t' := s.toks) keep0
  refine keyJ_rest (fun i kA s' => ∃ (ρ' : Rho) (H' : Hp) (st' : Sto) (ks : List D) (kvs : List V) (e : Nat), Inv X ((kS, seqObj "list" kA e) :: (a, seqObj "list" #[] e1) :: pins) σ H' s' ∧ Grow ρ1 H ρ' H' ∧ RelSt X.K ρ' H' st' ∧
    Vals kvs kA.toList ∧ RlAll X.K ρ' H' kvs ks ∧ ks.length = i ∧ i ≤ ds.length ∧ okF X.K (fun _ => .none) ρ1 H E0 Q ((keysOf run (ds.drop i) st').bind fun ks' st => sortFin ds (ks ++ ks') st)) hZ ?_ ?_ ?_
  · exact ⟨ρ1, H, st1, [], [], 0, repin I0 hk ha (I.hok.fresh hsk) (I.hok.fresh hsa), .refl _ _, rs, .nil, .nil, rfl, Nat.zero_le _, hok⟩
  · rintro i v kA s' hv ⟨ρ', H', st', ks, kvs, e, I', gr, rs', rk, rks, hlen, hi, hq'⟩
    have hil : i < ds.length := by
      rw [← hlx, hli]
      exact (List.getElem?_eq_some_iff.mp hv).1
    obtain ⟨x, hx⟩ : ∃ x, xs[i]? = some x := ⟨_, List.getElem?_eq_getElem (by omega)⟩
    obtain ⟨u0, hu0, ru0⟩ := rv.get hx
    rw [hv] at hu0
    cases hu0
    obtain ⟨d, hd, rd⟩ := rds.get hx
    have hd' : ds[i] = d := by
      rw [List.getElem?_eq_getElem hil] at hd
      exact Option.some.inj hd
    have dr : ds.drop i = d :: ds.drop (i + 1) := by rw [List.drop_eq_getElem_cons hil, hd']
    rw [dr] at hq'
    simp only [keysOf] at hq'
    cases er : run [.v d] st' with
    | exc x y => rw [er] at hq'; exact hq'.elim
    | bad => rw [er] at hq'; exact hq'.elim
    | ok y st2 =>
    rw [er] at hq'
    simp only [noX_ok, R.bind_ok] at hq'
    cases y with
    | r l' => exact hq'.elim
    | v kd =>
    simp only at hq'
    have hb1 := hb s' [v] I'.kIn (by
      have := F.len [x] H' (fun _ _ => True) E0 ⟨ρ', st', [.v d], rs', .cons (.v (rd.grow gr)) .nil, rfl, by rw [er]; exact fun _ _ _ _ _ _ => trivial⟩
      simpa using this)
    rw [List.append_nil] at hb1
    apply wpAny_call
    refine codeAny_mono (F.run X.A.in1.in1 X.stack s' H' ⟨[v], []⟩ [v] [x] (fun y2 H2 => ∃ ρ2, Grow ρ' H' ρ2 H2 ∧ RelSt X.K ρ2 H2 st2 ∧ Rw X.K ρ2 H2 y2 (.v kd)) E0 gd ?_ ?_ hb1 (.cons ru0 .nil) ⟨ρ', st', [.v d], rs', .cons (.v (rd.grow gr)) .nil, rfl, ?_⟩) ?_
    · have h1 := hr.hd
      have h2 := hr.dp
      have h3 := hr.un
      exact ⟨h1, by show X.A.depth + 3 * k + 5 < _; omega, by show X.A.units + 1 + 1 + 16 * k + 200 < _; omega⟩
    · obtain ⟨q1, q2, q3, q4, q5, q6, q7, q8⟩ := I'.env0
      exact ⟨q1, q2, q3, q4, q5, q6, q7, q8⟩
    · rw [er]
      exact fun ρ2 H2 y2 g2 s2 r2 => ⟨ρ2, g2, s2, r2⟩
    · rintro (er' | (_ | _ | _ | u)) s'' q
      · exact q.elim
      · exact q.elim
      · exact q.elim
      · exact q.elim
      · obtain ⟨y2, H2, I2, ry, ρ2, g2, rs2, rw2⟩ := I'.after q
        have pk := (I2.pin _ (List.mem_append_right _ List.mem_cons_self))
        have pa := (I2.pin _ (List.mem_append_right _ (List.mem_cons_of_mem _ List.mem_cons_self)))
        have I3 : Inv X pins σ H2 s'' := I2.pins_of fun p hp => I2.pin p (List.mem_append_right _ (List.mem_cons_of_mem _ (List.mem_cons_of_mem _ hp)))
        cases rw2 with | v rw2 =>
        have hz' : kA.size = ks.length := by
          rw [← Array.length_toList, ← rk.length, rks.length]
        have sb := Heap.SameBut.update s''.heap kS (Obj.mapSeq (·.push u))
        have I4 : Inv X pins σ H2 { s'' with heap := s''.heap.update kS (Obj.mapSeq (·.push u)) } := I3.turnedL (t' := s''.toks) (ch := [kS]) (fun b o hc e => (sb.2 b (fun z => hc (by simp [z]))).trans e) fun b hb => by
          obtain rfl : b = kS := by simpa using hb
          exact fk pk.2.1
        refine ⟨⟨e, pk.1⟩, by omega, ρ2, H2, st2, ks ++ [kd], kvs ++ [y2], _, repin I4 (get?_update_seq pk.1 (·.push u)) ((sb.2 a (Ne.symm hka)).trans pa.1) pk.2.1 pa.2.1, gr.trans g2, rs2, ?_, (rks.grow g2).append (.cons rw2 .nil), by simp [hlen], hil, ?_⟩
        · rw [show (kA.push u).toList = kA.toList ++ [u] by simp]
          exact Paired.snoc rk ry
        · revert hq'
          cases keysOf run (ds.drop (i + 1)) st2 with
          | ok ks' st3 =>
            simp only [R.bind_ok, List.append_assoc, List.singleton_append]
            exact id
          | exc x y => exact id
          | bad => exact id
  · rintro kA s' ⟨ρ', H', st', ks, kvs, e, I', gr, rs', rk, rks, hlen, hi, hq'⟩
    have pk := (I'.pin _ (List.mem_append_right _ List.mem_cons_self))
    have pa := (I'.pin _ (List.mem_append_right _ (List.mem_cons_of_mem _ List.mem_cons_self)))
    refine ⟨⟨e, pk.1⟩, ?_⟩
    have I3 : Inv X pins σ H' s' := I'.pins_of fun p hp => I'.pin p (List.mem_append_right _ (List.mem_cons_of_mem _ (List.mem_cons_of_mem _ hp)))
    rw [List.drop_of_length_le (by omega)] at hq'
    simp only [keysOf, R.bind_ok, List.append_nil, sortFin] at hq'
    split at hq'
    rotate_left
    · exact hq'.elim
    rename_i hc
    simp only [Bool.and_eq_true, decide_eq_true_eq, keysOk] at hc
    obtain ⟨⟨⟨hal, hrow⟩, hdp⟩, hlim⟩ := hc
    have hal' := alikes_of hal
    have hsr := sortable_of hrow
    have hlk : ks.length = ds.length := by omega
    have hks : EachIs (fun v d => ∃ as, Reads s'.heap v d as) kA.toList (ks.map D.py) := by
      have gen : ∀ {kvs : List V} {us : List Value} {ks : List D}, Vals kvs us → RlAll X.K ρ' H' kvs ks → (ks.all fun k => decide (k.py.depth ≤ 60) && k.py.canLay0) = true → EachIs (fun v d => ∃ as, Reads s'.heap v d as) us (ks.map D.py) := by
        intro kvs us ks r1 r2
        induction r1 generalizing ks with
        | nil => intro _; cases r2; exact .nil
        | cons r _ ih =>
          intro hc
          cases r2 with
          | cons q t =>
            simp only [List.all_cons, Bool.and_eq_true] at hc
            exact .cons (Dp.reads I3 _ _ _ (q.dp hc.1.2) r) (ih t hc.2)
      exact gen rk rks hdp
    have hksz : kA.size = its.length := by
      have := hks.length
      rw [Array.length_toList, List.length_map] at this
      omega
    have hun : ∀ d, d ∈ ks.map D.py → X.A.in1.in1.units + d.depth < cLine := fun d hd => by
      obtain ⟨k0, hk0, rfl⟩ := List.mem_map.mp hd
      have := List.all_eq_true.mp hdp k0 hk0
      simp only [Bool.and_eq_true, decide_eq_true_eq] at this
      have h3 := hr.un
      show X.A.units + 1 + 1 + _ < _
      omega
    refine keyH_end (κ := dataKind s'.heap (ks.map D.py)) (h₁ := without s'.heap kS) (a := a) (e := e) (fun b o hb eb => ?_) (without_self _ _) pk.1 pa.1 hka (SortsAt.data hks hal' hsr hun) hksz hZ fun h3 tk3 c k3 n3 => ⟨rfl, ?_⟩
    · by_cases hbk : b = kS
      · subst hbk
        rw [without_self] at eb
        cases eb
      · rw [without_ne hbk] at eb
        exact eb
    let bs := xs.zip (ds.zip ks)
    have hzl : (ds.zip ks).length = ds.length := by simp [hlk]
    have eb1 : bs.map (·.1) = xs := by
      show (xs.zip (ds.zip ks)).map Prod.fst = xs
      rw [List.map_fst_zip]
      omega
    have eb2 : bs.map (fun b => b.2.2.py) = ks.map D.py := by
      show (xs.zip (ds.zip ks)).map (fun b => b.2.2.py) = _
      have h1 : (xs.zip (ds.zip ks)).map (·.2) = ds.zip ks := by rw [List.map_snd_zip]; omega
      have h2 : (ds.zip ks).map (·.2) = ks := by rw [List.map_snd_zip]; omega
      calc (xs.zip (ds.zip ks)).map (fun b => b.2.2.py) = (((xs.zip (ds.zip ks)).map (·.2)).map (·.2)).map D.py := by simp [List.map_map, Function.comp_def]
        _ = _ := by rw [h1, h2]
    have ko : KeyedOut false (bs.map fun b => b.2.2.py) its (sortVals (dataKind s'.heap (ks.map D.py)) false kA.toList its) := by
      rw [eb2]
      exact ⟨s'.heap, kA.toList, hal', rfl, hks⟩
    have each := keyedOut_each (R := fun u (b : V × D × D) => RelV b.1 u) (fun b => b.2.2.py) ko (each_of rv eb1)
    have vout := of_each each
    have hmem : ∀ b ∈ bs.mergeSort (dataLe false fun b => b.2.2.py), Rl X.K ρ' H' b.1 b.2.1 := fun b hb => (RlAll.zips ks rds b ((List.mergeSort_perm bs _).mem_iff.mp hb)).grow gr
    have rout := RlAll.ofMem hmem
    rw [sortD_eq xs ds ks hlx hlk] at rout
    have hk3 : ∀ b o, b ∉ [kS, a] → s'.heap.get? b = some o → h3.get? b = some o := fun b o hb q => by
      simp only [List.mem_cons, List.not_mem_nil, or_false, not_or] at hb
      exact k3 b o hb.2 (by rw [without_ne hb.1]; exact q)
    have hl3 : (List.map (fun b => b.1) (bs.mergeSort (dataLe false fun b => b.2.2.py))).length ≤ sizeLine := by
      rw [List.length_map, List.length_mergeSort]
      show (xs.zip (ds.zip ks)).length ≤ _
      rw [List.length_zip]
      omega
    have new : ObjOk X.prog X.w (upd H' a (.lst (List.map (fun b => b.1) (bs.mergeSort (dataLe false fun b => b.2.2.py))))) h3 a (.lst (List.map (fun b => b.1) (bs.mergeSort (dataLe false fun b => b.2.2.py)))) := ⟨hl3, _, c, vout, n3⟩
    refine ⟨.ref a, _, adopt (t' := tk3) I3 hk3 (fun b hb => ?_) (by simp) new, rfl, hq' ρ' H' a _ gr rs' pa.2.1 rout⟩
    rcases (show b = kS ∨ b = a by simpa using hb) with rfl | rfl
    · exact fk pk.2.1
    · exact fa pa.2.1
section
variable {X : Cx} {ct : Nat → Value} {E : St → XK} {k : Nat} {run : List W → Sto → R W} {x : Str} {p pos xpos kpos : Pos} {e : Expr} {f : ED}
theorem okF_ct {K : PySem.W.Frag} {ct : Nat → Value} {ρ : Rho} {H : Hp} {E : XK} {Q : VK} {run : List W → Sto → R W} {ds : List D} {st : Sto} (h : okF K ct ρ H E Q (sortK run ds st)) : okF K (fun _ => .none) ρ H E0 Q (sortK run ds st) := by
  have nx : ∀ (ds : List D) (st : Sto) (x : Xc) (y : Sto), keysOf run ds st ≠ .exc x y := by
    intro ds
    induction ds with
    | nil => intro st x y h; cases h
    | cons d r ih =>
      intro st x y h
      simp only [keysOf] at h
      cases e1 : run [.v d] st with
      | exc x y => rw [e1] at h; cases h
      | bad => rw [e1] at h; cases h
      | ok w st1 =>
        rw [e1] at h
        simp only [noX_ok, R.bind_ok] at h
        cases w with
        | r l => cases h
        | v k0 =>
          simp only at h
          cases e2 : keysOf run r st1 with
          | exc x' y' => exact ih _ _ _ e2
          | bad => rw [e2] at h; cases h
          | ok ks st2 => rw [e2] at h; cases h
  cases q : sortK run ds st with
  | ok es st' => rw [q] at h; exact h
  | bad => rw [q] at h; exact h.elim
  | exc x y =>
    exfalso
    unfold sortK at q
    cases e2 : keysOf run ds st with
    | exc x' y' => exact nx _ _ _ _ e2
    | bad => rw [e2] at q; cases q
    | ok ks st2 =>
      rw [e2] at q
      simp only [R.bind_ok, sortFin] at q
      split at q <;> cases q
theorem df_sortK (C : Cal X.prog X.w X.K X.mg X.base ct x 1 k run) (gd : X.A.guards = some []) (hr : Room (k + 1) X.A) (hgs : Gl X "sorted") (hm : X.mg "sorted" = none) (hg : Gl X x) (h : PE X e (tE X.K ct E f)) (hdb : (x == ("__debug__" : Str)) = false := by decide)
    (hs : starEach [e] X.env = [(false, eval e X.env)] := by rfl)
    (he : backTo pos (starEach [e] X.env) = (false, eval e X.env) :: backTo pos (starEach [] X.env) := by rfl) (hpl : (backTo pos (starEach [e] X.env)).any (·.1) = false := by rfl)
    (hall : (backToKw pos (keywordEach [⟨some (Str.ofString "key"), .Name x xpos, kpos⟩] X.env)).all (·.1.isSome) = true := by rfl) (hnone : (backToKw pos (keywordEach [⟨some (Str.ofString "key"), .Name x xpos, kpos⟩] X.env)).any (·.1.isNone) = false := by rfl) (hks : (backToKw pos (keywordEach [⟨some (Str.ofString "key"), .Name x xpos, kpos⟩] X.env)).filterMap (·.1) = [Str.ofString "key"] := by rfl) :
    PE X (.Call (.Name "sorted" p) [e] [⟨some (Str.ofString "key"), .Name x xpos, kpos⟩] pos) (tF X.K ct E (lSortK run (aCons f aNil))) := by
  obtain ⟨fa, fd, ps, G, m, kp, b⟩ := C.ex
  have ha : PA X [e] (tA X.K ct E (aCons f aNil)) := da_cons h da_nil hs
  refine PE.of (pe_callBK (cr_sortK G gd hr b) hgs hm bt_sorted ha (pk_cons (pe_glob hg m (v := .ref fa) rfl hdb) pk_nil) (by decide) (by decide) he hpl hall hnone hks) ?_
  rintro σ H Q ⟨ρ, st, env, a, q⟩
  refine ⟨ρ, st, env, a, ?_⟩
  unfold lSortK at q
  cases ef : aCons f aNil env st with
  | exc x st1 => rw [ef] at q; exact q
  | bad => rw [ef] at q; exact q.elim
  | ok ws st1 =>
    rw [ef] at q
    simp only [R.bind_ok] at q
    split at q
    · rename_i w
      intro ρ1 H1 vs g s r
      cases ea : asLst st1 w with
      | none => rw [ea] at q; exact q.elim
      | some ds =>
        rw [ea] at q
        simp only at q
        obtain ⟨v, rfl, rv⟩ := r.one
        obtain ⟨l, xs, rfl, h1, h2⟩ := lst_of s rv ea
        exact ⟨ρ1, st1, l, xs, ds, rfl, rfl, h1, h2, s, okF_ct (q.grow g)⟩
    · exact q.elim
end
end Jv
end
section
/-! dicts whose keys are tuples; tuples by <; join; a list unpacked -/
namespace Jv
open PySem PySem.Spec L2 PyProof.Rows PySem.W
section
variable {X : Cx} {pins : List (Addr × Obj)} {σ : St} {H : Hp} {s : Shared} {ρ : Rho}
mutual
theorem nested_of (I : Inv X pins σ H s) : ∀ (d : D) (v : V) (u : Value), Rl X.K ρ H v d → RelV v u → d.hb = true → NestedIs s.heap d.nk u
  | .non, _, _, r, q, _ => by cases r; cases q; exact .none
  | .bl b, _, _, r, q, _ => by cases r; cases q; exact .bool rfl
  | .int i, _, _, r, q, _ => by cases r; obtain ⟨t, rfl⟩ := q; exact .int i t
  | .str x, _, _, r, q, _ => by cases r; obtain ⟨t, rfl⟩ := q; exact .text x t
  | .tup ds, v, u, r, q, c => by
    cases r with
    | tup h n r1 =>
      cases q
      obtain ⟨its, rv, ⟨o, e1, e2, m, e3⟩, _⟩ := I.tuple (.of h)
      simp only [D.nk]
      exact .tup e1 e2 e3 (nesteds_of I ds _ _ r1 rv (by simpa [D.hb] using c))
  | .lst _, _, _, _, _, c => by simp [D.hb] at c
  | .dct _, _, _, _, _, c => by simp [D.hb] at c
  | .ty _, _, _, _, _, c => by simp [D.hb] at c
theorem nesteds_of (I : Inv X pins σ H s) : ∀ (ds : List D) (vs : List V) (us : List Value), RlAll X.K ρ H vs ds → Vals vs us → D.hbL ds = true → NestedAll s.heap (D.nkL ds) us
  | [], _, _, r, q, _ => by cases r; cases q; exact .nil
  | d :: ds, _, _, r, q, c => by
    cases r with
    | cons r rs =>
      cases q with
      | cons q qs =>
        simp only [D.hbL, Bool.and_eq_true] at c
        exact .cons (nested_of I d _ _ r q c.1) (nesteds_of I ds _ _ rs qs c.2)
end
theorem KdR.keys {K : PySem.W.Frag} {xs : List (NestedKey × Addr × Value)} {ds : List (D × D)} (h : KdR K ρ H xs ds) : xs.map (·.1) = ds.map (·.1.nk) := by
  induction h with
  | nil => rfl
  | cons _ _ _ _ ih => simp [ih]
theorem kd_dict (I : Inv X pins σ H s) {a : Addr} {kvs : List (D × D)} (o : ObR X.K ρ H a (.kd (fun k => k.hash X.w) kvs)) :
    ∃ xs, H a = some (.ext (KdAt (fun k => k.hash X.w) a xs)) ∧ KdR X.K ρ H xs kvs ∧ s.heap.DictOfH (nestedKind X.prog X.w) a xs ∧ (a == sysModules) = false := by
  obtain ⟨xs, h1, h2, h3, h4, h5⟩ := o
  obtain ⟨⟨o, es, ep, e1, e2, e3, e4⟩, hx⟩ := I.hok a _ h1
  clear hx
  refine ⟨xs, h1, h2, ⟨o, es, ep, e1, e2, e3, e4, ?_, by rw [h2.keys]; exact h4⟩, h5⟩
  clear h1 e4 h4
  induction h2 with
  | nil => intro x hx; cases hx
  | cons r q1 q2 _ ih =>
    intro x hx
    rcases List.mem_cons.mp hx with rfl | hx
    · have := h3 _ List.mem_cons_self
      exact ⟨nested_of I _ _ _ r rfl this.1, this.2⟩
    · exact ih (fun p hp => h3 p (List.mem_cons_of_mem _ hp)) x hx
end
/-! k in d -/
def hasK (kvs : List (D × D)) (k : D) : Bool := kvs.any fun p => decide (p.1.nk = k.nk)
def okK (k : D) : Bool := k.hb && decide (k.nk.depth ≤ 8)
open Classical in
noncomputable def inKD (w : World) : O2 := fun st a b => match a, b with
  | .v (.tup ds), .r l => match st[l]? with
    | some (.kd hf kvs) => if hf = (fun k => k.hash w) then (if okK (.tup ds) then some (.bl (hasK kvs (.tup ds))) else none) else none
    | _ => none
  | _, _ => none
theorem has_value {K : PySem.W.Frag} {ρ : Rho} {H : Hp} {xs : List (NestedKey × Addr × Value)} {ds : List (D × D)} (k : D) (h : KdR K ρ H xs ds) : (valueAt (pairsH xs) k.nk).isSome = hasK ds k := by
  induction h with
  | nil => rfl
  | @cons b u v k0 d xs ds r q1 q2 t ih =>
    simp only [pairsH, List.map_cons, hasK, List.any_cons] at ih ⊢
    by_cases e : k0.nk = k.nk
    · simp [valueAt, e]
    · simp only [valueAt, e, if_false, decide_false, Bool.false_or] at ih ⊢
      rw [← ih]
      simp [valueAt, e]
theorem op_inK {X : Cx} (hu : X.A.units + 65 < cLine) : OpR X (compareOp .In) (rOf X.K (inKD X.w)) := by
  intro pins s σ H x y v u Q I rx ry h
  obtain ⟨ρ, st, d1, d2, d, rs, r1, r2, e, q⟩ := h
  unfold inKD at e
  split at e
  · rename_i ds l
    split at e
    · rename_i hf kvs hl
      split at e
      · rename_i hw
        split at e
        · rename_i c
          cases e
          subst hw
          simp only [okK, Bool.and_eq_true, decide_eq_true_eq] at c
          rcases rs.obj l _ hl with ⟨z, _⟩ | ⟨a, ha, ob⟩
          · cases z
          obtain ⟨xs, h1, h2, h3, h4⟩ := kd_dict I ob
          cases r2 with | r hl2 hv =>
          have := hv a ha
          subst this
          cases ry
          cases r1 with | v r1 =>
          cases r1 with
          | tup t1 t2 t3 =>
            cases rx
            refine in_keyed (knd := nestedKind X.prog X.w) (k := (D.tup ds).nk) (show X.A.units + 1 + 8 < cLine by omega) ⟨nested_of I _ _ _ (.tup t1 t2 t3) rfl c.1, c.2⟩ h4 ⟨xs, h3, rfl⟩ ?_
            rw [has_value _ h2]
            exact ⟨.bl _, H, I.kept fun _ _ z => z, rfl, q H _ (.refl _) (.bl _)⟩
        · cases e
      · cases e
    · cases e
  · cases e
/-! {} -/
noncomputable def eKNew (w : World) : ED := fun env st => .ok (.r st.length) (st ++ [.kd (fun k => k.hash w) []])
theorem pushK {K : PySem.W.Frag} {ρ : Rho} {H : Hp} {st : Sto} {p : Addr} {o : HO} {ob : Ob} (s : RelSt K ρ H st) (hp : H p = none) (r : ObR K (ρ.push p) (upd H p o) p ob) (u : ob.under st.length) : RelSt K (ρ.push p) (upd H p o) (st ++ [ob]) := by
  have s1 := s.push (xs := []) (ds := []) hp .nil
  have hl : (ρ.push p).lc[st.length]? = some (some p) := by rw [← s.len]; simp [Rho.push]
  have := s1.write (o := o) (ob := ob) hl (by rw [upd_upd]; exact r) u
  rw [upd_upd] at this
  rwa [List.set_append_right _ _ (Nat.le_refl _), Nat.sub_self] at this
theorem de_knew {X : Cx} {ct : Nat → Value} {E : St → XK} {pos : Pos} : PE X (.Dict [] [] pos) (tE X.K ct E (eKNew X.w)) := ⟨fun pins s σ H Q I ⟨ρ, st, env, a, h⟩ => by
  have hp : H s.heap.objs.size = none := I.hok.fresh (Nat.le_refl _)
  have hk : KdAt (fun k => k.hash X.w) s.heap.objs.size [] (s.heap.push { cls := .type "dict", data := .dict #[] }) := ⟨_, _, _, Heap.get?_push_size _ rfl, ⟨rfl, rfl, rfl⟩, rfl, rfl⟩
  have new : ObjOk X.prog X.w (upd H s.heap.objs.size (.ext (KdAt (fun k => k.hash X.w) s.heap.objs.size []))) (s.heap.push { cls := .type "dict", data := .dict #[] }) s.heap.objs.size (.ext (KdAt (fun k => k.hash X.w) s.heap.objs.size [])) := by
    refine ⟨hk, ⟨_, Heap.get?_push_size _ rfl⟩, ?_⟩
    rintro h1 h2 ⟨o, es, ep, e1, e2⟩ st
    exact ⟨o, es, ep, st o e1, e2⟩
  refine wpAny_Dict_empty ⟨.ref s.heap.objs.size, _, I.laid (t' := s.toks) (fun _ _ q => Heap.get?_push_of_some _ q) (Nat.le_refl _) new, rfl, ?_⟩
  have hb : (s.heap.objs.size == sysModules) = false := beq_eq_false_iff_ne.mpr (Ne.symm (Nat.ne_of_lt I.big))
  refine h (ρ.push s.heap.objs.size) _ _ (.push hp) (pushK a.1 hp ⟨[], upd_same, .nil, (fun p hp => nomatch hp), List.nodup_nil, hb⟩ trivial) (.r (by rw [← a.1.len]; simp [Rho.push]) fun x hx => ?_)
  rw [← a.1.len] at hx
  simp [Rho.push] at hx
  rw [hx]⟩
/-! d[k] = v -/
def storeK (kvs : List (D × D)) (k d : D) : List (D × D) := if hasK kvs k then kvs.map fun p => if p.1.nk = k.nk then (p.1, d) else p else kvs ++ [(k, d)]
open Classical in
noncomputable def kPut (w : World) (o k v : W) (env : Env) (st : Sto) : Fl := match o, k, v with
  | .r l, .v (.tup ds), .v d => match st[l]? with
    | some (.kd hf kvs) => if hf = (fun k => k.hash w) then (if okK (.tup ds) && decide (kvs.length ≤ 1000) then .nx env (st.set l (.kd hf (storeK kvs (.tup ds) d))) else .bad) else .bad
    | _ => .bad
  | _, _, _ => .bad
noncomputable def sKPut (w : World) (fo fi fv : ED) : SD := fun env st => (fv env st).thenS env fun v st => (fo env st).thenS env fun o st => (fi env st).thenS env fun k st => kPut w o k v env st
theorem KdR.length {K : PySem.W.Frag} {ρ : Rho} {H : Hp} {xs : List (NestedKey × Addr × Value)} {ds : List (D × D)} (h : KdR K ρ H xs ds) : xs.length = ds.length := by
  induction h with
  | nil => rfl
  | cons _ _ _ _ ih => simp [ih]
theorem KdR.append {K : PySem.W.Frag} {ρ : Rho} {H : Hp} {xs ys : List (NestedKey × Addr × Value)} {ds es : List (D × D)} (h : KdR K ρ H xs ds) (h2 : KdR K ρ H ys es) : KdR K ρ H (xs ++ ys) (ds ++ es) := by
  induction h with
  | nil => exact h2
  | cons r q1 q2 _ ih => exact .cons r q1 q2 ih
theorem KdR.maps {K : PySem.W.Frag} {ρ : Rho} {H : Hp} {xs : List (NestedKey × Addr × Value)} {ds : List (D × D)} {k d : D} {v : V} {u : Value} (h : KdR K ρ H xs ds) (ru : RelV v u) (rv : Rl K ρ H v d) :
    KdR K ρ H (xs.map (putAt k.nk u)) (ds.map fun p => if p.1.nk = k.nk then (p.1, d) else p) := by
  induction h with
  | nil => exact .nil
  | @cons b u0 v0 k0 d0 xs ds r q1 q2 t ih =>
    simp only [List.map_cons]
    by_cases z : k0.nk = k.nk
    · rw [if_pos z]
      have : putAt k.nk u (k0.nk, b, u0) = (k0.nk, b, u) := if_pos z
      rw [this]
      exact .cons r ru rv ih
    · rw [if_neg z]
      have : putAt k.nk u (k0.nk, b, u0) = (k0.nk, b, u0) := if_neg z
      rw [this]
      exact .cons r q1 q2 ih
theorem KdR.put {K : PySem.W.Frag} {ρ : Rho} {H : Hp} {xs : List (NestedKey × Addr × Value)} {ds : List (D × D)} {k d : D} {a : Addr} {v : V} {u : Value} (h : KdR K ρ H xs ds) (rk : Rl K ρ H (.ref a) k) (ru : RelV v u) (rv : Rl K ρ H v d) :
    KdR K ρ H (storedH xs k.nk a u) (storeK ds k d) := by
  have e : (atKey xs k.nk).isSome = hasK ds k := by
    rw [← has_value k h, valueAt_pairsH, Option.isSome_map]
  unfold storedH storeK
  rw [e]
  split
  · exact h.maps ru rv
  · exact h.append (.cons rk ru rv .nil)
theorem storeK_mem {ds : List (D × D)} {k d : D} (h : ∀ p ∈ ds, p.1.hb = true ∧ p.1.nk.depth ≤ 8) (hk : k.hb = true ∧ k.nk.depth ≤ 8) : ∀ p ∈ storeK ds k d, p.1.hb = true ∧ p.1.nk.depth ≤ 8 := by
  intro p hp
  unfold storeK at hp
  split at hp
  · obtain ⟨q, hq, rfl⟩ := List.mem_map.mp hp
    split
    · exact h q hq
    · exact h q hq
  · rcases List.mem_append.mp hp with hp | hp
    · exact h p hp
    · obtain rfl := List.mem_singleton.mp hp
      exact hk
theorem storeK_nodup {ds : List (D × D)} {k d : D} (h : (ds.map (·.1.nk)).Nodup) : ((storeK ds k d).map (·.1.nk)).Nodup := by
  unfold storeK
  split
  · rw [List.map_map]
    have e : ((fun p : D × D => p.1.nk) ∘ fun p : D × D => if p.1.nk = k.nk then (p.1, d) else p) = fun p => p.1.nk := by
      funext p
      simp only [Function.comp]
      split <;> rfl
    rw [e]
    exact h
  · rename_i hn
    rw [List.map_append, List.nodup_append]
    refine ⟨h, by simp, fun x hx y hy => ?_⟩
    simp only [List.map_cons, List.map_nil, List.mem_singleton] at hy
    subst hy
    obtain ⟨q, hq, rfl⟩ := List.mem_map.mp hx
    intro z
    exact hn (List.any_eq_true.mpr ⟨q, hq, decide_eq_true z⟩)
section
variable {X : Cx} {ct : Nat → Value} {E : St → XK} {o e i v : Expr} {fi fv fo : ED} {pos pos' : Pos}
theorem ds_kput (hu : X.A.units + 65 < cLine) (ho : PE X o (tE X.K ct E fo)) (hi : PE X i (tE X.K ct E fi)) (hv : PE X v (tE X.K ct E fv)) (hs : swapsWith v (some (.Subscript o i pos')) pos.line X.env = pure false := by rfl) :
    PS X (.Assign [.Subscript o i pos'] v pos) (tS X.K ct E (sKPut X.w fo fi fv)) := by
  constructor
  rintro pins s σ H D I ⟨ρ, st, env, a, h⟩
  refine wpAny_Assign_Subscript (thn (hv.run pins s σ H _ I ⟨ρ, st, env, a, okS.first (rel := Rw) h a.2⟩) ?_) hs
  rintro u1 s1 ⟨v1, H1, I1, ru1, ρ1, st1, w1, a1, g1, r1, q1⟩
  refine thn (ho.run pins s1 σ H1 _ I1 ⟨ρ1, st1, env, a1, okS.first (rel := Rw) q1 a1.2⟩) ?_
  rintro u2 s2 ⟨v2, H2, I2, ru2, ρ2, st2, w2, a2, g2, r2, q2⟩
  refine thn (hi.run pins s2 σ H2 _ I2 ⟨ρ2, st2, env, a2, okS.first (rel := Rw) q2 a2.2⟩) ?_
  rintro u3 s3 ⟨v3, H3, I3, ru3, ρ3, st3, w3, a3, g3, r3, q3⟩
  unfold kPut at q3
  split at q3
  · rename_i l ds d
    split at q3
    · rename_i hf kvs hl
      split at q3
      · rename_i hw
        split at q3
        · rename_i c
          subst hw
          simp only [okK, Bool.and_eq_true, decide_eq_true_eq] at c
          rcases a3.1.obj l _ hl with ⟨z, _⟩ | ⟨p, hp, ob⟩
          · cases z
          obtain ⟨xs, h1, h2, h3, h4⟩ := kd_dict I3 ob
          obtain ⟨_, h1', h2', hd1, hd2, _⟩ := ob
          rw [h1] at h1'
          cases r2 with | r hl2 hv2 =>
          have := hv2 p (g3.ref l p hl2 hp)
          subst this
          cases ru2
          cases r1 with | v r1 =>
          cases r3 with | v r3 =>
          have rd := (r1.grow g2).grow g3
          cases r3 with
          | @tup ka _ _ t1 t2 t3 =>
            cases ru3
            have hxl : xs.length ≤ sizeLine := by
              rw [h2.length]
              exact Nat.le_trans c.2 (by decide)
            refine wpAny_setItem_heap (knd := nestedKind X.prog X.w) (k := (Jv.D.tup ds).nk) (hsz := hxl) (show X.A.units + 1 + 8 < cLine by omega) ⟨nested_of I3 _ _ _ (.tup t1 t2 t3) rfl c.1.1, c.1.2⟩ h3 fun h' hm sb => ?_
            obtain ⟨o', es', ep', e1, e2, e3, e4, _⟩ := hm
            have new : ObjOk X.prog X.w (upd H3 p (.ext (KdAt (fun k => k.hash X.w) p (storedH xs (Jv.D.tup ds).nk ka u1)))) h' p (.ext (KdAt (fun k => k.hash X.w) p (storedH xs (Jv.D.tup ds).nk ka u1))) := by
              refine ⟨⟨o', es', ep', e1, e2, e3, e4⟩, ⟨_, e1⟩, ?_⟩
              rintro g1 g2 ⟨o, es, ep, f1, f2⟩ stt
              exact ⟨o, es, ep, stt o f1, f2⟩
            have gw : Grow ρ3 H3 ρ3 (upd H3 p (.ext (KdAt (fun k => k.hash X.w) p (storedH xs (Jv.D.tup ds).nk ka u1)))) := .write hp
            refine ⟨σ, _, I3.write (e := p) (t' := s3.toks + (nestedKind X.prog X.w).draws (Jv.D.tup ds).nk) (by rw [h1]; trivial) (.inl rfl) (fun b o hb q => (sb.2 b hb).trans q) ⟨_, e1⟩ new, ?_⟩
            refine q3 ρ3 _ σ gw ⟨a3.1.write hp ⟨_, upd_same, ((h2.put (.tup t1 t2 t3) ru1 rd)).mono (fun _ _ z => z.grow gw), storeK_mem hd1 c.1, storeK_nodup hd2, h4⟩ trivial, a3.2.grow gw⟩
        · exact q3.elim
      · exact q3.elim
    · exact q3.elim
  · exact q3.elim
end
/-! ### tuples by < -/
def ltT : O2 := onV fun a b => if alike a.py b.py && isRow a.py && (decide (a.py.depth ≤ 60) && a.py.canLay0 && b.py.canLay0) then some (.bl (dataLt a.py b.py)) else none
theorem op_ltTT {X : Cx} (hu : X.A.units + 65 < cLine) : OpR X (compareOp .Lt) (rOf X.K ltT) := by
  refine OpR.v ?_
  intro pins s σ H x y v u Q I rx ry h
  obtain ⟨ρ, st, d1, d2, d, rs, r1, r2, e, q⟩ := h
  simp only at e
  split at e
  · rename_i c
    simp only [Bool.and_eq_true, decide_eq_true_eq] at c
    cases e
    obtain ⟨as, ra⟩ := Dp.reads I _ _ _ (r1.dp c.2.1.2) rx
    obtain ⟨bs, rb⟩ := Dp.reads I _ _ _ (r2.dp c.2.2) ry
    refine lt_data ra rb c.1.1 (fun z => ?_) ?_ ⟨.bl _, H, I, rfl, q H _ (.refl _) (.bl _)⟩
    · have := c.1.2
      rw [z] at this
      cases this
    · have := c.2.1.1
      have := Nat.min_le_left d1.py.depth d2.py.depth
      omega
  · cases e
/-! ### join -/
def txtsD : List D → Option (List Str)
  | [] => some []
  | .str x :: r => (txtsD r).map (x :: ·)
  | _ => none
def joinG (a : Str) (w : W) (st : Sto) : R W := match asLst st w with
  | some ds => match txtsD ds with
    | some ys => if (ys.map (·.length)).sum + ys.length * a.length ≤ 1000000 then .ok (.v (.str (Txt.join a ys))) st else .bad
    | none => .bad
  | none => .bad
def eJoin (f g : ED) : ED := fun env st => (f env st).bind fun w st => match w with
  | .v (.str a) => (g env st).bind fun w st => joinG a w st
  | _ => .bad
theorem txts_rel {K : PySem.W.Frag} {ρ : Rho} {H : Hp} : ∀ {xs : List V} {ds : List D} {ys : List Str}, RlAll K ρ H xs ds → txtsD ds = some ys → xs = ys.map V.str
  | _, [], _, .nil, e => by cases e; rfl
  | _, d :: ds, ys, .cons r t, e => by
    cases d with
    | str x =>
      simp only [txtsD] at e
      cases q : txtsD ds with
      | none => rw [q] at e; cases e
      | some zs =>
        rw [q] at e
        cases e
        cases r
        rw [txts_rel t q]
        rfl
    | _ => cases e
section
variable {X : Cx} {ct : Nat → Value} {E : St → XK} {o e : Expr} {f g : ED} {apos pos : Pos}
theorem de_join (ho : PE X o (tE X.K ct E f)) (he : PE X e (tE X.K ct E g)) (hs : starEach [e] X.env = [(false, eval e X.env)] := by rfl) (hbase : attributeBase o "join" X.env (eval o X.env) = eval o X.env := by rfl) (hline : (apos.endLine == pos.line) = true := by rfl) :
    PE X (.Call (.Attribute o "join" apos) [e] [] pos) (tE X.K ct E (eJoin f g)) := PE.of (pe_join ho he hs hbase hline) fun σ H Q h => by
  refine (tG.bind (rel := Rw) (k := fun w env st => match w with | .v (.str a) => (g env st).bind fun w st => joinG a w st | _ => .bad) h).mono fun v H1 ⟨ρ1, st1, env, w1, a1, r1, q1⟩ => ?_
  split at q1
  · rename_i a
    cases r1 with | v r1 =>
    cases r1
    refine ⟨⟨a, rfl⟩, ρ1, st1, env, a1, (okG.bind (rel := Rw) q1 a1.2).mono fun v2 H2 ⟨ρ2, st2, w2, a2, g2, r2, q2⟩ => ?_⟩
    unfold joinG at q2
    split at q2
    · rename_i ds hds
      split at q2
      · rename_i ys hys
        split at q2
        · rename_i hl
          obtain ⟨p, xs, rfl, h1, h2⟩ := lst_of a2.1 r2 hds
          refine ⟨a, p, ys, rfl, rfl, .inl ?_, Nat.le_trans hl (by decide), q2.here a2.1 (.v (.str _))⟩
          rw [← txts_rel h2 hys]
          exact h1
        · exact q2.elim
      · exact q2.elim
    · exact q2.elim
  · exact q1.elim
end
/-! ### a, b, .. = a list -/
def gTl (n : Nat) (gs : GsD) : GD := fun w env => match w with
  | .v (.lst ds) => if ds.length = n then gs (ds.map .v) env else none
  | _ => none
theorem dg_lst {X : Cx} {es : List Expr} {k n : Nat} {pos : Pos} {gs : GsD} {vs : List Nat} (hc : X.calm = true) (h : PGs X es (gsR X.K vs gs)) (hn : (assignEach es X.env).length = n := by rfl) (hst : (assignEach es X.env).findIdx? (·.1) = none := by rfl) :
    PG X (.Tuple es k pos) (gR X.K vs (gTl n gs)) := PG.of (pg_lst hc h hn hst) fun v σ H Q ⟨ρ, st, env, w, env', a, r, e, q⟩ => by
  unfold gTl at e
  split at e
  · split at e
    · rename_i hl
      cases r with | v r =>
      cases r with
      | lst h1 r1 => exact ⟨_, _, rfl, h1.sql, by rw [r1.length]; exact hl, ρ, st, env, _, env', a, r1.toW, e, q⟩
    · cases e
  · cases e
theorem bt_enumerate : bootBuiltins "enumerate" = some (.type "enumerate") := by decide +kernel
end Jv
end
section
namespace Jv
open PySem PySem.Spec L2 PyProof.Rows
/-- a name's list, no longer one that changes, from here on -/
def sFrzV (i : Nat) (den : SD) : SD := fun env st => match env[i]? with
  | some (some (.r l)) => match st[l]? with
    | some (.lst ds) => den (env.set i (some (.v (.lst ds)))) (st.set l .dead)
    | _ => .bad
  | _ => den env st
theorem ds_frzV {X : Cx} {ct : Nat → Value} {E : St → XK} {s : Stmt} {den : SD} (i : Nat) (h : PS X s (tS X.K ct E den)) : PS X s (tS X.K ct E (sFrzV i den)) := PS.of h fun D σ H ⟨ρ, st, env, a, q⟩ => by
  unfold sFrzV at q
  split at q
  · rename_i l hi
    split at q
    · rename_i ds hl
      rcases a.1.obj l _ hl with ⟨z, _⟩ | ⟨p, hp, xs, h1, h2⟩
      · cases z
      have hll : l < ρ.lc.length := (List.getElem?_eq_some_iff.mp hp).1
      have n : ¬ (ρ.drop l).mut p := fun z => by
        rcases z with z | z
        · obtain ⟨j, hj, ej⟩ := List.getElem_of_mem z
          have ej' : (ρ.lc.set l none)[j]? = some (some p) := by
            have q := List.getElem?_eq_getElem hj
            rw [ej] at q
            exact q
          by_cases hlj : l = j
          · subst hlj
            rw [List.getElem?_set_self hll] at ej'
            cases ej'
          · rw [List.getElem?_set_ne hlj] at ej'
            exact hlj (a.1.inj l j p hp ej')
        · exact a.1.apart p (List.mem_of_getElem? hp) z
      have r : Rw X.K (ρ.drop l) H (.ref p) (.v (.lst ds)) := .v (.lst (.inl ⟨.inl h1, n⟩) (h2.grow .drop))
      have e1 := a.2.grow (Grow.drop (l := l))
      refine ⟨ρ.drop l, st.set l .dead, env.set i (some (.v (.lst ds))), ⟨a.1.drop, ⟨by simp [e1.len], fun j w ej => ?_⟩⟩, okS.grow .drop q⟩
      obtain ⟨v0, hv0, rv0⟩ := a.2.get i _ hi
      by_cases hij : i = j
      · subst hij
        have hil : i < env.length := (List.getElem?_eq_some_iff.mp hi).1
        rw [List.getElem?_set_self hil] at ej
        cases ej
        cases rv0 with | r _ hv => 
        rw [hv p hp] at hv0
        exact ⟨_, hv0, r⟩
      · rw [List.getElem?_set_ne hij] at ej
        exact e1.get j w ej
    · exact q.elim
  · exact ⟨ρ, st, env, a, q⟩
/-- a, b = x, y by way of the pair itself -/
theorem ds_parC {X : Cx} {ct : Nat → Value} {E : St → XK} {i j : Nat} {x y : Str} {a b : Expr} {ta : AD} {px py pt pos : Pos} {kt k2 pt2} (hc : X.calm = true) (hN : X.N.Nodup) (hi : X.N[i]? = some x) (hj : X.N[j]? = some y)
    (ha : PA X [a, b] (tA X.K ct E ta)) (hx : Loc X.env.scope x := by first | exact Or.inl rfl | exact Or.inr rfl) (hy : Loc X.env.scope y := by first | exact Or.inl rfl | exact Or.inr rfl)
    (hfx : X.fn x = true ∨ X.env.scope.names.lookup x = some .local := by first | exact .inl rfl | exact .inr rfl | assumption) (hfy : X.fn y = true ∨ X.env.scope.names.lookup y = some .local := by first | exact .inl rfl | exact .inr rfl | assumption)
    (hs : swapsWithSole [.Tuple [.Name x px, .Name y py] kt pt] (.Tuple [a, b] k2 pt2) pos.line X.env = pure false := by rfl) (hw : swappedStores [.Tuple [.Name x px, .Name y py] kt pt] (.Tuple [a, b] k2 pt2) X.env = pure none := by rfl)
    (h1 : (assignEach [.Tuple [.Name x px, .Name y py] kt pt] X.env).map (·.2) = [assign (.Tuple [.Name x px, .Name y py] kt pt) X.env] := by rfl) (hn : (assignEach [.Name x px, .Name y py] X.env).length = 2 := by rfl) (hst : (assignEach [.Name x px, .Name y py] X.env).findIdx? (·.1) = none := by rfl)
    (hs1 : (assignEach [.Name x px, .Name y py] X.env).map (·.2) = assign (.Name x px) X.env :: (assignEach [.Name y py] X.env).map (·.2) := by rfl) (hs2 : (assignEach [.Name y py] X.env).map (·.2) = assign (.Name y py) X.env :: (assignEach [] X.env).map (·.2) := by rfl) :
    PS X (.Assign [.Tuple [.Name x px, .Name y py] kt pt] (.Tuple [a, b] k2 pt2) pos) (tS X.K ct E (sPar i j ta)) :=
  PS.of (ps_asg (pe_tup ha) (pg_tup hc (pgs_cons (pg_name hN hi hx hfx) (pgs_cons (pg_name hN hj hy hfy) pgs_nil hs2) hs1) hn hst) hs hw h1) fun D σ H ⟨ρ, st, env, a, h⟩ => by
  refine ⟨ρ, st, env, a, (okS.first (rel := RwAll) h a.2).mono fun vs H1 ⟨ρ1, st1, ws, a1, g1, r1, q1⟩ => ?_⟩
  split at q1
  · obtain ⟨v, v', rfl, rv, rv'⟩ := r1.two
    refine ⟨by show 2 ≤ sizeLine; decide, fun p hp => ⟨p, [v, v'], rfl, .of upd_same, rfl, v, [v'], rfl, v', [], rfl, rfl, ?_⟩⟩
    have sm : Same H1 (upd H1 p (.tup [v, v'])) := same_upd hp
    exact q1 ρ1 _ _ (.same sm) ⟨a1.1.same sm, ((a1.2.grow (.same sm)).set (rv.same sm) i).set (rv'.same sm) j⟩
  · exact q1.elim
end Jv
end
section
namespace K5
open PySem PySem.Spec L2 PyProof.Rows Jv
abbrev D := Jv.D
abbrev W := Jv.W
def top (i : Nat) : Stmt := PySem.Challenge.pw_jarvisits_k05_visits_by_hand.main.body.getD i (.Pass ⟨0, 0, 0, 0⟩)
abbrev s_is_of : Stmt := top 7
theorem sc_is_of : FnScope ["thing", "signs", "sign"] ["thing", "signs"] (defScope s_is_of) := ⟨rfl, rfl, rfl, by decide +kernel, rfl, by decide +kernel, by decide +kernel⟩
def dn_is_of : SD := (sSeq (sIf (bOr (bNot (tVal (eBlt isiB (aCons (eVar 0) (aCons (eCon (.ty "str")) aNil))))) (bNot (tVal (eChain leD leD (eCon (.int 1)) (eBlt lenB (aCons (eVar 0) aNil)) (eCon (.int 6)))))) (sRet (eCon (.bl false))) sNil) (sRet (eBlt allB (aCons (eLst (lLc [2] (itE (eVar 0)) (gNm 2) bYes (eBin inD (eVar 2) (eVar 1)))) aNil))))
def rn_is_of : List W → Sto → R W := fun ws st => noX (runS 3 dn_is_of ws st)
theorem ok_is_of {P : Program} {w : World} {K : PySem.W.Frag} {mg : Str → Option Value} {base : Heap} {ct : Nat → Value} {f : Addr} {fd : FuncData} (F : Fun K "is_of" "is_of" s_is_of f fd) (z_len : mg "len" = none) (m_MOST_SIGNS : ∃ t, mg "MOST_SIGNS" = some (.int 6 t)) (z_str : mg "str" = none) (z_isinstance : mg "isinstance" = none) (z_all : mg "all" = none) :
    FnG P w K mg base CX0 1 f fd ["thing", "signs"] (spG K ct 2 rn_is_of) := by
  refine fn_den0 F sc_is_of (fun cdv A outer s H E gd hr => ?_)
  exact (dss_cons (ds_if (PW.pt (dw_or (dt_not (dt_val (de_callB cb_isi (by rfl) z_isinstance bt_isinstance (da_cons (de_var 0) (da_cons (de_ty (by rfl) z_str bt_str) da_nil))))) (dw_or1 (dt_not (dt_chain op_leD op_leD de_int (de_callB cb_len (by rfl) z_len bt_len (da_cons (de_var 0) da_nil)) (de_globI (by rfl) m_MOST_SIGNS.choose_spec)))))) (dss_one (ds_ret de_bl)) dss_nil) (dss_one (ds_ret (de_callB (cb_all rfl) (by rfl) z_all bt_all (da_cons (de_val (df_lc (own := [("sign", 2)]) rfl sc_is_of.nd (di_e (de_var 0)) (blkOk_by (own := [("sign", 2)]) (N := ["thing", "signs", "sign"]) (sc := defScope s_is_of) (by decide +kernel)) (fun _ _ _ _ _ => (dg_name (i := 2) sc_is_of.nd)) (fun _ _ _ _ _ => dts_nil) (fun _ _ _ _ _ => (de_cmp (op_inDD (hu65 hr)) (de_var 2) (de_var 1))))) da_nil)))))

abbrev s_is_name : Stmt := top 8
theorem sc_is_name : FnScope ["thing"] ["thing"] (defScope s_is_name) := ⟨rfl, rfl, rfl, by decide +kernel, rfl, by decide +kernel, by decide +kernel⟩
def dn_is_name : SD := (sRet (eCall rn_is_of (aCons (eVar 0) (aCons (eCon (.str "abcdefghijklmnopqrstuvwxyz")) aNil))))
def rn_is_name : List W → Sto → R W := fun ws st => noX (runS 1 dn_is_name ws st)
theorem ok_is_name {P : Program} {w : World} {K : PySem.W.Frag} {mg : Str → Option Value} {base : Heap} {ct : Nat → Value} {f : Addr} {fd : FuncData} (F : Fun K "is_name" "is_name" s_is_name f fd) (m_LETTERS : ∃ t, mg "LETTERS" = some (.str "abcdefghijklmnopqrstuvwxyz" t)) (C_is_of : Cal P w K mg base ct "is_of" 2 1 rn_is_of) :
    FnG P w K mg base CX0 2 f fd ["thing"] (spG K ct 1 rn_is_name) := by
  refine fn_den0 F sc_is_name (fun cdv A outer s H E gd hr => ?_)
  exact (dss_one (ds_ret (de_calC C_is_of gd (Room.mono hr (by decide)) (by rfl) (aCons_len (aCons_len aNil_len)) (da_cons (de_var 0) (da_cons (de_globS (by rfl) m_LETTERS.choose_spec) da_nil)))))

abbrev s_are_words : Stmt := top 9
theorem sc_are_words : FnScope ["thing", "least", "most", "word"] ["thing", "least", "most"] (defScope s_are_words) := ⟨rfl, rfl, rfl, by decide +kernel, rfl, by decide +kernel, by decide +kernel⟩
def dn_are_words : SD := (sSeq (sIf (bOr (bNot (tVal (eBlt isiB (aCons (eVar 0) (aCons (eCon (.ty "tuple")) aNil))))) (bNot (tVal (eChain leD leD (eVar 1) (eBlt lenB (aCons (eVar 0) aNil)) (eVar 2))))) (sRet (eCon (.bl false))) sNil) (sRet (eBlt allB (aCons (eLst (lLc [3] (itE (eVar 0)) (gNm 3) bYes (eCall rn_is_of (aCons (eVar 3) (aCons (eCon (.str "abcdefghijklmnopqrstuvwxyz0123456789")) aNil))))) aNil))))
def rn_are_words : List W → Sto → R W := fun ws st => noX (runS 4 dn_are_words ws st)
theorem ok_are_words {P : Program} {w : World} {K : PySem.W.Frag} {mg : Str → Option Value} {base : Heap} {ct : Nat → Value} {f : Addr} {fd : FuncData} (F : Fun K "are_words" "are_words" s_are_words f fd) (z_len : mg "len" = none) (z_tuple : mg "tuple" = none) (z_isinstance : mg "isinstance" = none) (m_SIGNS : ∃ t, mg "SIGNS" = some (.str "abcdefghijklmnopqrstuvwxyz0123456789" t)) (C_is_of : Cal P w K mg base ct "is_of" 2 1 rn_is_of) (z_all : mg "all" = none) :
    FnG P w K mg base CX0 2 f fd ["thing", "least", "most"] (spG K ct 3 rn_are_words) := by
  refine fn_den0 F sc_are_words (fun cdv A outer s H E gd hr => ?_)
  exact (dss_cons (ds_if (PW.pt (dw_or (dt_not (dt_val (de_callB cb_isi (by rfl) z_isinstance bt_isinstance (da_cons (de_var 0) (da_cons (de_ty (by rfl) z_tuple bt_tuple) da_nil))))) (dw_or1 (dt_not (dt_chain op_leD op_leD (de_var 1) (de_callB cb_len (by rfl) z_len bt_len (da_cons (de_var 0) da_nil)) (de_var 2)))))) (dss_one (ds_ret de_bl)) dss_nil) (dss_one (ds_ret (de_callB (cb_all rfl) (by rfl) z_all bt_all (da_cons (de_val (df_lc (own := [("word", 3)]) rfl sc_are_words.nd (di_e (de_var 0)) (blkOk_by (own := [("word", 3)]) (N := ["thing", "least", "most", "word"]) (sc := defScope s_are_words) (by decide +kernel)) (fun _ _ _ _ _ => (dg_name (i := 3) sc_are_words.nd)) (fun _ _ _ _ _ => dts_nil) (fun _ _ _ _ _ => (de_calC C_is_of gd (Room.mono hr (by decide)) (by rfl) (aCons_len (aCons_len aNil_len)) (da_cons (de_var 3) (da_cons (de_globS (by rfl) m_SIGNS.choose_spec) da_nil)))))) da_nil)))))

abbrev s_is_host : Stmt := top 10
theorem sc_is_host : FnScope ["thing"] ["thing"] (defScope s_is_host) := ⟨rfl, rfl, rfl, by decide +kernel, rfl, by decide +kernel, by decide +kernel⟩
def dn_is_host : SD := (sRet (eCall rn_are_words (aCons (eVar 0) (aCons (eCon (.int 2)) (aCons (eCon (.int 5)) aNil)))))
def rn_is_host : List W → Sto → R W := fun ws st => noX (runS 1 dn_is_host ws st)
theorem ok_is_host {P : Program} {w : World} {K : PySem.W.Frag} {mg : Str → Option Value} {base : Heap} {ct : Nat → Value} {f : Addr} {fd : FuncData} (F : Fun K "is_host" "is_host" s_is_host f fd) (m_MOST_LABELS : ∃ t, mg "MOST_LABELS" = some (.int 5 t)) (m_LEAST_LABELS : ∃ t, mg "LEAST_LABELS" = some (.int 2 t)) (C_are_words : Cal P w K mg base ct "are_words" 3 2 rn_are_words) :
    FnG P w K mg base CX0 3 f fd ["thing"] (spG K ct 1 rn_is_host) := by
  refine fn_den0 F sc_is_host (fun cdv A outer s H E gd hr => ?_)
  exact (dss_one (ds_ret (de_calC C_are_words gd (Room.mono hr (by decide)) (by rfl) (aCons_len (aCons_len (aCons_len aNil_len))) (da_cons (de_var 0) (da_cons (de_globI (by rfl) m_LEAST_LABELS.choose_spec) (da_cons (de_globI (by rfl) m_MOST_LABELS.choose_spec) da_nil))))))

abbrev s_is_path : Stmt := top 11
theorem sc_is_path : FnScope ["thing"] ["thing"] (defScope s_is_path) := ⟨rfl, rfl, rfl, by decide +kernel, rfl, by decide +kernel, by decide +kernel⟩
def dn_is_path : SD := (sRet (eCall rn_are_words (aCons (eVar 0) (aCons (eCon (.int 0)) (aCons (eCon (.int 4)) aNil)))))
def rn_is_path : List W → Sto → R W := fun ws st => noX (runS 1 dn_is_path ws st)
theorem ok_is_path {P : Program} {w : World} {K : PySem.W.Frag} {mg : Str → Option Value} {base : Heap} {ct : Nat → Value} {f : Addr} {fd : FuncData} (F : Fun K "is_path" "is_path" s_is_path f fd) (m_MOST_SEGMENTS : ∃ t, mg "MOST_SEGMENTS" = some (.int 4 t)) (C_are_words : Cal P w K mg base ct "are_words" 3 2 rn_are_words) :
    FnG P w K mg base CX0 3 f fd ["thing"] (spG K ct 1 rn_is_path) := by
  refine fn_den0 F sc_is_path (fun cdv A outer s H E gd hr => ?_)
  exact (dss_one (ds_ret (de_calC C_are_words gd (Room.mono hr (by decide)) (by rfl) (aCons_len (aCons_len (aCons_len aNil_len))) (da_cons (de_var 0) (da_cons de_int (da_cons (de_globI (by rfl) m_MOST_SEGMENTS.choose_spec) da_nil))))))

abbrev s_is_address : Stmt := top 12
theorem sc_is_address : FnScope ["thing"] ["thing"] (defScope s_is_address) := ⟨rfl, rfl, rfl, by decide +kernel, rfl, by decide +kernel, by decide +kernel⟩
def dn_is_address : SD := (sSeq (sIf (bOr (bNot (tVal (eBlt isiB (aCons (eVar 0) (aCons (eCon (.ty "tuple")) aNil))))) (tVal (eBin neD (eBlt lenB (aCons (eVar 0) aNil)) (eCon (.int 3))))) (sRet (eCon (.bl false))) sNil) (sRet (eAnd (eCall rn_is_host (aCons (eBin ixD (eVar 0) (eCon (.int 0))) aNil)) (eAnd (eCall rn_is_path (aCons (eBin ixD (eVar 0) (eCon (.int 1))) aNil)) (eBlt isiB (aCons (eBin ixD (eVar 0) (eCon (.int 2))) (aCons (eCon (.ty "bool")) aNil)))))))
def rn_is_address : List W → Sto → R W := fun ws st => noX (runS 1 dn_is_address ws st)
theorem ok_is_address {P : Program} {w : World} {K : PySem.W.Frag} {mg : Str → Option Value} {base : Heap} {ct : Nat → Value} {f : Addr} {fd : FuncData} (F : Fun K "is_address" "is_address" s_is_address f fd) (z_len : mg "len" = none) (z_tuple : mg "tuple" = none) (z_isinstance : mg "isinstance" = none) (z_bool : mg "bool" = none) (C_is_path : Cal P w K mg base ct "is_path" 1 3 rn_is_path) (C_is_host : Cal P w K mg base ct "is_host" 1 3 rn_is_host) :
    FnG P w K mg base CX0 4 f fd ["thing"] (spG K ct 1 rn_is_address) := by
  refine fn_den0 F sc_is_address (fun cdv A outer s H E gd hr => ?_)
  exact (dss_cons (ds_if (PW.pt (dw_or (dt_not (dt_val (de_callB cb_isi (by rfl) z_isinstance bt_isinstance (da_cons (de_var 0) (da_cons (de_ty (by rfl) z_tuple bt_tuple) da_nil))))) (dw_or1 (dt_cmp (op_neDD (hu64 hr)) (de_callB cb_len (by rfl) z_len bt_len (da_cons (de_var 0) da_nil)) de_int)))) (dss_one (ds_ret de_bl)) dss_nil) (dss_one (ds_ret (de_and (de_calC C_is_host gd (Room.mono hr (by decide)) (by rfl) (aCons_len aNil_len) (da_cons (de_ix (de_var 0) de_int) da_nil)) (de_and (de_calC C_is_path gd (Room.mono hr (by decide)) (by rfl) (aCons_len aNil_len) (da_cons (de_ix (de_var 0) de_int) da_nil)) (de_one (de_callB cb_isi (by rfl) z_isinstance bt_isinstance (da_cons (de_ix (de_var 0) de_int) (da_cons (de_ty (by rfl) z_bool bt_bool) da_nil)))))))))

abbrev s_is_within : Stmt := top 13
theorem sc_is_within : FnScope ["host", "other"] ["host", "other"] (defScope s_is_within) := ⟨rfl, rfl, rfl, by decide +kernel, rfl, by decide +kernel, by decide +kernel⟩
def dn_is_within : SD := (sRet (eAnd (eBin leD (eBlt lenB (aCons (eVar 1) aNil)) (eBlt lenB (aCons (eVar 0) aNil))) (eBin eqD (eSlc (eVar 0) (pSo (eBin subD (eBlt lenB (aCons (eVar 0) aNil)) (eBlt lenB (aCons (eVar 1) aNil)))) pNo) (eVar 1))))
def rn_is_within : List W → Sto → R W := fun ws st => noX (runS 2 dn_is_within ws st)
theorem ok_is_within {P : Program} {w : World} {K : PySem.W.Frag} {mg : Str → Option Value} {base : Heap} {ct : Nat → Value} {f : Addr} {fd : FuncData} (F : Fun K "is_within" "is_within" s_is_within f fd) (z_len : mg "len" = none) :
    FnG P w K mg base CX0 1 f fd ["host", "other"] (spG K ct 2 rn_is_within) := by
  refine fn_den0 F sc_is_within (fun cdv A outer s H E gd hr => ?_)
  exact (dss_one (ds_ret (de_and (de_cmp op_leD (de_callB cb_len (by rfl) z_len bt_len (da_cons (de_var 1) da_nil)) (de_callB cb_len (by rfl) z_len bt_len (da_cons (de_var 0) da_nil))) (de_one (de_cmp (op_eqDD (hu64 hr)) (de_slc (de_var 0) (dp_so (de_bin op_subD (de_callB cb_len (by rfl) z_len bt_len (da_cons (de_var 0) da_nil)) (de_callB cb_len (by rfl) z_len bt_len (da_cons (de_var 1) da_nil)))) dp_no) (de_var 1))))))

abbrev s_is_below : Stmt := top 14
theorem sc_is_below : FnScope ["path", "other"] ["path", "other"] (defScope s_is_below) := ⟨rfl, rfl, rfl, by decide +kernel, rfl, by decide +kernel, by decide +kernel⟩
def dn_is_below : SD := (sRet (eBin eqD (eSlc (eVar 0) pNo (pSo (eBlt lenB (aCons (eVar 1) aNil)))) (eVar 1)))
def rn_is_below : List W → Sto → R W := fun ws st => noX (runS 2 dn_is_below ws st)
theorem ok_is_below {P : Program} {w : World} {K : PySem.W.Frag} {mg : Str → Option Value} {base : Heap} {ct : Nat → Value} {f : Addr} {fd : FuncData} (F : Fun K "is_below" "is_below" s_is_below f fd) (z_len : mg "len" = none) :
    FnG P w K mg base CX0 1 f fd ["path", "other"] (spG K ct 2 rn_is_below) := by
  refine fn_den0 F sc_is_below (fun cdv A outer s H E gd hr => ?_)
  exact (dss_one (ds_ret (de_cmp (op_eqDD (hu64 hr)) (de_slc (de_var 0) dp_no (dp_so (de_callB cb_len (by rfl) z_len bt_len (da_cons (de_var 1) da_nil)))) (de_var 1))))

abbrev s_is_whole : Stmt := top 26
theorem sc_is_whole : FnScope ["thing", "least", "most"] ["thing", "least", "most"] (defScope s_is_whole) := ⟨rfl, rfl, rfl, by decide +kernel, rfl, by decide +kernel, by decide +kernel⟩
def dn_is_whole : SD := (sRet (eAnd (eBlt isiB (aCons (eVar 0) (aCons (eCon (.ty "int")) aNil))) (eAnd (eNot (eBlt isiB (aCons (eVar 0) (aCons (eCon (.ty "bool")) aNil)))) (eChain leD leD (eVar 1) (eVar 0) (eVar 2)))))
def rn_is_whole : List W → Sto → R W := fun ws st => noX (runS 3 dn_is_whole ws st)
theorem ok_is_whole {P : Program} {w : World} {K : PySem.W.Frag} {mg : Str → Option Value} {base : Heap} {ct : Nat → Value} {f : Addr} {fd : FuncData} (F : Fun K "is_whole" "is_whole" s_is_whole f fd) (z_bool : mg "bool" = none) (z_isinstance : mg "isinstance" = none) (z_int : mg "int" = none) :
    FnG P w K mg base CX0 1 f fd ["thing", "least", "most"] (spG K ct 3 rn_is_whole) := by
  refine fn_den0 F sc_is_whole (fun cdv A outer s H E gd hr => ?_)
  exact (dss_one (ds_ret (de_and (de_callB cb_isi (by rfl) z_isinstance bt_isinstance (da_cons (de_var 0) (da_cons (de_ty (by rfl) z_int bt_int) da_nil))) (de_and (de_not (de_callB cb_isi (by rfl) z_isinstance bt_isinstance (da_cons (de_var 0) (da_cons (de_ty (by rfl) z_bool bt_bool) da_nil)))) (de_one (de_chain op_leD op_leD (de_var 1) (de_var 0) (de_var 2)))))))

abbrev s_is_value : Stmt := top 27
theorem sc_is_value : FnScope ["thing"] ["thing"] (defScope s_is_value) := ⟨rfl, rfl, rfl, by decide +kernel, rfl, by decide +kernel, by decide +kernel⟩
def dn_is_value : SD := (sRet (eCall rn_is_of (aCons (eVar 0) (aCons (eCon (.str "abcdefghijklmnopqrstuvwxyz0123456789")) aNil))))
def rn_is_value : List W → Sto → R W := fun ws st => noX (runS 1 dn_is_value ws st)
theorem ok_is_value {P : Program} {w : World} {K : PySem.W.Frag} {mg : Str → Option Value} {base : Heap} {ct : Nat → Value} {f : Addr} {fd : FuncData} (F : Fun K "is_value" "is_value" s_is_value f fd) (m_SIGNS : ∃ t, mg "SIGNS" = some (.str "abcdefghijklmnopqrstuvwxyz0123456789" t)) (C_is_of : Cal P w K mg base ct "is_of" 2 1 rn_is_of) :
    FnG P w K mg base CX0 2 f fd ["thing"] (spG K ct 1 rn_is_value) := by
  refine fn_den0 F sc_is_value (fun cdv A outer s H E gd hr => ?_)
  exact (dss_one (ds_ret (de_calC C_is_of gd (Room.mono hr (by decide)) (by rfl) (aCons_len (aCons_len aNil_len)) (da_cons (de_var 0) (da_cons (de_globS (by rfl) m_SIGNS.choose_spec) da_nil)))))

abbrev s_is_write : Stmt := top 28
theorem sc_is_write : FnScope ["thing"] ["thing"] (defScope s_is_write) := ⟨rfl, rfl, rfl, by decide +kernel, rfl, by decide +kernel, by decide +kernel⟩
def dn_is_write : SD := (sSeq (sIf (bOr (bNot (tVal (eBlt isiB (aCons (eVar 0) (aCons (eCon (.ty "tuple")) aNil))))) (bOr (tVal (eBin neD (eBlt lenB (aCons (eVar 0) aNil)) (eCon (.int 5)))) (bNot (tVal (eCall rn_is_name (aCons (eBin ixD (eVar 0) (eCon (.int 0))) aNil)))))) (sRet (eCon (.bl false))) sNil) (sSeq (sIf (bAnd (tVal (eBin isNotD (eBin ixD (eVar 0) (eCon (.int 1))) (eCon .non))) (bNot (tVal (eCall rn_is_value (aCons (eBin ixD (eVar 0) (eCon (.int 1))) aNil))))) (sRet (eCon (.bl false))) sNil) (sSeq (sIf (bAnd (tVal (eBin isNotD (eBin ixD (eVar 0) (eCon (.int 2))) (eCon .non))) (bNot (tVal (eCall rn_is_host (aCons (eBin ixD (eVar 0) (eCon (.int 2))) aNil))))) (sRet (eCon (.bl false))) sNil) (sSeq (sIf (bAnd (tVal (eBin isNotD (eBin ixD (eVar 0) (eCon (.int 3))) (eCon .non))) (bNot (tVal (eCall rn_is_path (aCons (eBin ixD (eVar 0) (eCon (.int 3))) aNil))))) (sRet (eCon (.bl false))) sNil) (sRet (eBlt isiB (aCons (eBin ixD (eVar 0) (eCon (.int 4))) (aCons (eCon (.ty "bool")) aNil))))))))
def rn_is_write : List W → Sto → R W := fun ws st => noX (runS 1 dn_is_write ws st)
theorem ok_is_write {P : Program} {w : World} {K : PySem.W.Frag} {mg : Str → Option Value} {base : Heap} {ct : Nat → Value} {f : Addr} {fd : FuncData} (F : Fun K "is_write" "is_write" s_is_write f fd) (C_is_name : Cal P w K mg base ct "is_name" 1 2 rn_is_name) (z_len : mg "len" = none) (z_tuple : mg "tuple" = none) (z_isinstance : mg "isinstance" = none) (C_is_value : Cal P w K mg base ct "is_value" 1 2 rn_is_value) (C_is_host : Cal P w K mg base ct "is_host" 1 3 rn_is_host) (C_is_path : Cal P w K mg base ct "is_path" 1 3 rn_is_path) (z_bool : mg "bool" = none) :
    FnG P w K mg base CX0 4 f fd ["thing"] (spG K ct 1 rn_is_write) := by
  refine fn_den0 F sc_is_write (fun cdv A outer s H E gd hr => ?_)
  exact (dss_cons (ds_if (PW.pt (dw_or (dt_not (dt_val (de_callB cb_isi (by rfl) z_isinstance bt_isinstance (da_cons (de_var 0) (da_cons (de_ty (by rfl) z_tuple bt_tuple) da_nil))))) (dw_or (dt_cmp (op_neDD (hu64 hr)) (de_callB cb_len (by rfl) z_len bt_len (da_cons (de_var 0) da_nil)) de_int) (dw_or1 (dt_not (dt_val (de_calC C_is_name gd (Room.mono hr (by decide)) (by rfl) (aCons_len aNil_len) (da_cons (de_ix (de_var 0) de_int) da_nil)))))))) (dss_one (ds_ret de_bl)) dss_nil) (dss_cons (ds_if (PW.pt (dw_and (dt_cmp op_isNotDD (de_ix (de_var 0) de_int) de_non) (dw_and1 (dt_not (dt_val (de_calC C_is_value gd (Room.mono hr (by decide)) (by rfl) (aCons_len aNil_len) (da_cons (de_ix (de_var 0) de_int) da_nil))))))) (dss_one (ds_ret de_bl)) dss_nil) (dss_cons (ds_if (PW.pt (dw_and (dt_cmp op_isNotDD (de_ix (de_var 0) de_int) de_non) (dw_and1 (dt_not (dt_val (de_calC C_is_host gd (Room.mono hr (by decide)) (by rfl) (aCons_len aNil_len) (da_cons (de_ix (de_var 0) de_int) da_nil))))))) (dss_one (ds_ret de_bl)) dss_nil) (dss_cons (ds_if (PW.pt (dw_and (dt_cmp op_isNotDD (de_ix (de_var 0) de_int) de_non) (dw_and1 (dt_not (dt_val (de_calC C_is_path gd (Room.mono hr (by decide)) (by rfl) (aCons_len aNil_len) (da_cons (de_ix (de_var 0) de_int) da_nil))))))) (dss_one (ds_ret de_bl)) dss_nil) (dss_one (ds_ret (de_callB cb_isi (by rfl) z_isinstance bt_isinstance (da_cons (de_ix (de_var 0) de_int) (da_cons (de_ty (by rfl) z_bool bt_bool) da_nil)))))))))

abbrev s_need_site : Stmt := top 29
theorem sc_need_site : FnScope ["thing", "number", "page", "place", "write"] ["thing"] (defScope s_need_site) := ⟨rfl, rfl, rfl, by decide +kernel, rfl, by decide +kernel, by decide +kernel⟩
def dn_need_site : SD := (sSeq (sIf (bOr (bNot (tVal (eBlt isiB (aCons (eVar 0) (aCons (eCon (.ty "tuple")) aNil))))) (bNot (tVal (eChain leD leD (eCon (.int 1)) (eBlt lenB (aCons (eVar 0) aNil)) (eCon (.int 5)))))) sNo sNil) (sSeq (sFor (itEnum (aCons (eVar 0) aNil)) (gTp 2 (gsCons (gNm 1) (gsCons (gNm 2) gsNil))) (sSeq (sIf (bOr (bNot (tVal (eBlt isiB (aCons (eVar 2) (aCons (eCon (.ty "tuple")) aNil))))) (bOr (tVal (eBin neD (eBlt lenB (aCons (eVar 2) aNil)) (eCon (.int 2)))) (bNot (tVal (eCall rn_is_address (aCons (eBin ixD (eVar 2) (eCon (.int 0))) aNil)))))) sNo sNil) (sSeq (sIf (bOr (bNot (tVal (eBlt isiB (aCons (eBin ixD (eVar 2) (eCon (.int 1))) (aCons (eCon (.ty "tuple")) aNil))))) (tVal (eBin gtD (eBlt lenB (aCons (eBin ixD (eVar 2) (eCon (.int 1))) aNil)) (eCon (.int 5))))) sNo sNil) (sFor (itEnum (aCons (eBin ixD (eVar 2) (eCon (.int 1))) aNil)) (gTp 2 (gsCons (gNm 3) (gsCons (gNm 4) gsNil))) (sIf (bNot (tVal (eCall rn_is_write (aCons (eVar 4) aNil)))) sNo sNil))))) (sRet (eVar 0))))
def rn_need_site : List W → Sto → R W := fun ws st => noX (runS 5 dn_need_site ws st)
theorem ok_need_site {P : Program} {w : World} {K : PySem.W.Frag} {mg : Str → Option Value} {base : Heap} {ct : Nat → Value} {f : Addr} {fd : FuncData} (F : Fun K "need_site" "need_site" s_need_site f fd) (z_len : mg "len" = none) (m_MOST_PAGES : ∃ t, mg "MOST_PAGES" = some (.int 5 t)) (z_tuple : mg "tuple" = none) (z_isinstance : mg "isinstance" = none) (z_enumerate : mg "enumerate" = none) (C_is_address : Cal P w K mg base ct "is_address" 1 4 rn_is_address) (m_MOST_WRITES : ∃ t, mg "MOST_WRITES" = some (.int 5 t)) (C_is_write : Cal P w K mg base ct "is_write" 1 4 rn_is_write) :
    FnG P w K mg base CX0 5 f fd ["thing"] (spG K ct 1 rn_need_site) := by
  refine fn_den0 F sc_need_site (fun cdv A outer s H E gd hr => ?_)
  exact (dss_cons (ds_if (PW.pt (dw_or (dt_not (dt_val (de_callB cb_isi (by rfl) z_isinstance bt_isinstance (da_cons (de_var 0) (da_cons (de_ty (by rfl) z_tuple bt_tuple) da_nil))))) (dw_or1 (dt_not (dt_chain op_leD op_leD de_int (de_callB cb_len (by rfl) z_len bt_len (da_cons (de_var 0) da_nil)) (de_globI (by rfl) m_MOST_PAGES.choose_spec)))))) (dss_one ds_no) dss_nil) (dss_cons (ds_for PassesOwn.never rfl (di_enum (by rfl) z_enumerate (de_var 0)) (dg_tup (n := 2) rfl (dgs_cons (dg_name (i := 1) sc_need_site.nd) (dgs_cons (dg_name (i := 2) sc_need_site.nd) dgs_nil))) (dss_cons (ds_if (PW.pt (dw_or (dt_not (dt_val (de_callB cb_isi (by rfl) z_isinstance bt_isinstance (da_cons (de_var 2) (da_cons (de_ty (by rfl) z_tuple bt_tuple) da_nil))))) (dw_or (dt_cmp (op_neDD (hu64 hr)) (de_callB cb_len (by rfl) z_len bt_len (da_cons (de_var 2) da_nil)) de_int) (dw_or1 (dt_not (dt_val (de_calC C_is_address gd (Room.mono hr (by decide)) (by rfl) (aCons_len aNil_len) (da_cons (de_ix (de_var 2) de_int) da_nil)))))))) (dss_one ds_no) dss_nil) (dss_cons (ds_if (PW.pt (dw_or (dt_not (dt_val (de_callB cb_isi (by rfl) z_isinstance bt_isinstance (da_cons (de_ix (de_var 2) de_int) (da_cons (de_ty (by rfl) z_tuple bt_tuple) da_nil))))) (dw_or1 (dt_cmp op_gtD (de_callB cb_len (by rfl) z_len bt_len (da_cons (de_ix (de_var 2) de_int) da_nil)) (de_globI (by rfl) m_MOST_WRITES.choose_spec))))) (dss_one ds_no) dss_nil) (dss_one (ds_for PassesOwn.never rfl (di_enum (by rfl) z_enumerate (de_ix (de_var 2) de_int)) (dg_tup (n := 2) rfl (dgs_cons (dg_name (i := 3) sc_need_site.nd) (dgs_cons (dg_name (i := 4) sc_need_site.nd) dgs_nil))) (dss_one (ds_if (dt_not (dt_val (de_calC C_is_write gd (Room.mono hr (by decide)) (by rfl) (aCons_len aNil_len) (da_cons (de_var 4) da_nil)))) (dss_one ds_no) dss_nil))))))) (dss_one (ds_ret (de_var 0)))))

abbrev s_need_page : Stmt := top 30
theorem sc_need_page : FnScope ["site", "page"] ["site", "page"] (defScope s_need_page) := ⟨rfl, rfl, rfl, by decide +kernel, rfl, by decide +kernel, by decide +kernel⟩
def dn_need_page : SD := (sSeq (sIf (bNot (tVal (eCall rn_is_whole (aCons (eVar 1) (aCons (eCon (.int 0)) (aCons (eBin subD (eBlt lenB (aCons (eVar 0) aNil)) (eCon (.int 1))) aNil)))))) sNo sNil) (sRet (eVar 1)))
def rn_need_page : List W → Sto → R W := fun ws st => noX (runS 2 dn_need_page ws st)
theorem ok_need_page {P : Program} {w : World} {K : PySem.W.Frag} {mg : Str → Option Value} {base : Heap} {ct : Nat → Value} {f : Addr} {fd : FuncData} (F : Fun K "need_page" "need_page" s_need_page f fd) (z_len : mg "len" = none) (C_is_whole : Cal P w K mg base ct "is_whole" 3 1 rn_is_whole) :
    FnG P w K mg base CX0 2 f fd ["site", "page"] (spG K ct 2 rn_need_page) := by
  refine fn_den0 F sc_need_page (fun cdv A outer s H E gd hr => ?_)
  exact (dss_cons (ds_if (dt_not (dt_val (de_calC C_is_whole gd (Room.mono hr (by decide)) (by rfl) (aCons_len (aCons_len (aCons_len aNil_len))) (da_cons (de_var 1) (da_cons de_int (da_cons (de_bin op_subD (de_callB cb_len (by rfl) z_len bt_len (da_cons (de_var 0) da_nil)) de_int) da_nil)))))) (dss_one ds_no) dss_nil) (dss_one (ds_ret (de_var 1))))

abbrev s_need_name : Stmt := top 31
theorem sc_need_name : FnScope ["thing"] ["thing"] (defScope s_need_name) := ⟨rfl, rfl, rfl, by decide +kernel, rfl, by decide +kernel, by decide +kernel⟩
def dn_need_name : SD := (sSeq (sIf (bNot (tVal (eCall rn_is_name (aCons (eVar 0) aNil)))) sNo sNil) (sRet (eVar 0)))
def rn_need_name : List W → Sto → R W := fun ws st => noX (runS 1 dn_need_name ws st)
theorem ok_need_name {P : Program} {w : World} {K : PySem.W.Frag} {mg : Str → Option Value} {base : Heap} {ct : Nat → Value} {f : Addr} {fd : FuncData} (F : Fun K "need_name" "need_name" s_need_name f fd) (C_is_name : Cal P w K mg base ct "is_name" 1 2 rn_is_name) :
    FnG P w K mg base CX0 3 f fd ["thing"] (spG K ct 1 rn_need_name) := by
  refine fn_den0 F sc_need_name (fun cdv A outer s H E gd hr => ?_)
  exact (dss_cons (ds_if (dt_not (dt_val (de_calC C_is_name gd (Room.mono hr (by decide)) (by rfl) (aCons_len aNil_len) (da_cons (de_var 0) da_nil)))) (dss_one ds_no) dss_nil) (dss_one (ds_ret (de_var 0))))

abbrev s_key_in : Stmt := top 32
theorem sc_key_in : FnScope ["address", "write", "own", "host", "path", "is_secure", "name", "value", "domain", "folder", "is_guarded"] ["address", "write"] (defScope s_key_in) := ⟨rfl, rfl, rfl, by decide +kernel, rfl, by decide +kernel, by decide +kernel⟩
def dn_key_in : SD := (sSeq (sAsg (eVar 0) (gTp 3 (gsCons (gNm 3) (gsCons (gNm 4) (gsCons (gNm 5) gsNil))))) (sSeq (sAsg (eVar 1) (gTp 5 (gsCons (gNm 6) (gsCons (gNm 7) (gsCons (gNm 8) (gsCons (gNm 9) (gsCons (gNm 10) gsNil))))))) (sSeq (sIf (bOr (bAnd (tVal (eVar 10)) (bNot (tVal (eVar 5)))) (bAnd (tVal (eBin isNotD (eVar 8) (eCon .non))) (bNot (tVal (eCall rn_is_within (aCons (eVar 3) (aCons (eVar 8) aNil))))))) (sRet (eCon .non)) sNil) (sSeq (sSet 2 (eIf (tVal (eBin isD (eVar 9) (eCon .non))) (eSlc (eVar 4) pNo (pSo (eNeg (eCon (.int 1))))) (eVar 9))) (sRet (eTup (aCons (eVar 6) (aCons (eIf (tVal (eBin isD (eVar 8) (eCon .non))) (eVar 3) (eVar 8)) (aCons (eVar 2) (aCons (eBin isD (eVar 8) (eCon .non)) aNil))))))))))
def rn_key_in : List W → Sto → R W := fun ws st => noX (runS 11 dn_key_in ws st)
theorem ok_key_in {P : Program} {w : World} {K : PySem.W.Frag} {mg : Str → Option Value} {base : Heap} {ct : Nat → Value} {f : Addr} {fd : FuncData} (F : Fun K "key_in" "key_in" s_key_in f fd) (C_is_within : Cal P w K mg base ct "is_within" 2 1 rn_is_within) :
    FnG P w K mg base CX0 2 f fd ["address", "write"] (spG K ct 2 rn_key_in) := by
  refine fn_den0 F sc_key_in (fun cdv A outer s H E gd hr => ?_)
  exact (dss_cons (ds_asg (de_var 0) (dg_tup (n := 3) rfl (dgs_cons (dg_name (i := 3) sc_key_in.nd) (dgs_cons (dg_name (i := 4) sc_key_in.nd) (dgs_cons (dg_name (i := 5) sc_key_in.nd) dgs_nil))))) (dss_cons (ds_asg (de_var 1) (dg_tup (n := 5) rfl (dgs_cons (dg_name (i := 6) sc_key_in.nd) (dgs_cons (dg_name (i := 7) sc_key_in.nd) (dgs_cons (dg_name (i := 8) sc_key_in.nd) (dgs_cons (dg_name (i := 9) sc_key_in.nd) (dgs_cons (dg_name (i := 10) sc_key_in.nd) dgs_nil))))))) (dss_cons (ds_if (PW.pt (dw_or (PW.pt (dw_and (dt_val (de_var 10)) (dw_and1 (dt_not (dt_val (de_var 5)))))) (dw_or1 (PW.pt (dw_and (dt_cmp op_isNotDD (de_var 8) de_non) (dw_and1 (dt_not (dt_val (de_calC C_is_within gd (Room.mono hr (by decide)) (by rfl) (aCons_len (aCons_len aNil_len)) (da_cons (de_var 3) (da_cons (de_var 8) da_nil))))))))))) (dss_one (ds_ret de_non)) dss_nil) (dss_cons (ds_set (i := 2) sc_key_in.nd (de_if (dt_cmp op_isDD (de_var 9) de_non) (de_slc (de_var 4) dp_no (dp_so (de_neg de_int))) (de_var 9))) (dss_one (ds_ret (de_tup (da_cons (de_var 6) (da_cons (de_if (dt_cmp op_isDD (de_var 8) de_non) (de_var 3) (de_var 8)) (da_cons (de_var 2) (da_cons (de_cmp op_isDD (de_var 8) de_non) da_nil)))))))))))

abbrev s_taken_in : Stmt := top 33
theorem sc_taken_in : FnScope ["page", "found", "write", "key"] ["page"] (defScope s_taken_in) := ⟨rfl, rfl, rfl, by decide +kernel, rfl, by decide +kernel, by decide +kernel⟩
def dn_taken_in : SD := (sSeq (sSet 1 (eNew (aLim aNil))) (sSeq (sFor (itE (eBin ixD (eVar 0) (eCon (.int 1)))) (gNm 2) (sSeq (sSet 3 (eCall rn_key_in (aCons (eBin ixD (eVar 0) (eCon (.int 0))) (aCons (eVar 2) aNil)))) (sIf (tVal (eBin isNotD (eVar 3) (eCon .non))) (sExpr (eApp (eVar 1) (aCons (eTup (aCons (eVar 3) (aCons (eBin ixD (eVar 2) (eCon (.int 1))) (aCons (eBin ixD (eVar 2) (eCon (.int 4))) aNil)))) aNil))) sNil))) (sRet (eFrz (eVar 1)))))
def rn_taken_in : List W → Sto → R W := fun ws st => noX (runS 4 dn_taken_in ws st)
theorem ok_taken_in {P : Program} {w : World} {K : PySem.W.Frag} {mg : Str → Option Value} {base : Heap} {ct : Nat → Value} {f : Addr} {fd : FuncData} (F : Fun K "taken_in" "taken_in" s_taken_in f fd) (C_key_in : Cal P w K mg base ct "key_in" 2 2 rn_key_in) :
    FnG P w K mg base CX0 3 f fd ["page"] (spG K ct 1 rn_taken_in) := by
  refine fn_den0 F sc_taken_in (fun cdv A outer s H E gd hr => ?_)
  exact (dss_cons (ds_set (i := 1) sc_taken_in.nd (de_new (df_lst da_nil))) (dss_cons (ds_for PassesOwn.never rfl (di_e (de_ix (de_var 0) de_int)) (dg_name (i := 2) sc_taken_in.nd) (dss_cons (ds_set (i := 3) sc_taken_in.nd (de_calC C_key_in gd (Room.mono hr (by decide)) (by rfl) (aCons_len (aCons_len aNil_len)) (da_cons (de_ix (de_var 0) de_int) (da_cons (de_var 2) da_nil)))) (dss_one (ds_if (dt_cmp op_isNotDD (de_var 3) de_non) (dss_one (ds_expr (de_app (de_var 1) (da_cons (de_tup (da_cons (de_var 3) (da_cons (de_ix (de_var 2) de_int) (da_cons (de_ix (de_var 2) de_int) da_nil)))) da_nil)))) dss_nil)))) (dss_one (ds_ret (de_frz (de_var 1))))))

abbrev s_is_key : Stmt := top 35
theorem sc_is_key : FnScope ["thing"] ["thing"] (defScope s_is_key) := ⟨rfl, rfl, rfl, by decide +kernel, rfl, by decide +kernel, by decide +kernel⟩
def dn_is_key : SD := (sSeq (sIf (bOr (bNot (tVal (eBlt isiB (aCons (eVar 0) (aCons (eCon (.ty "tuple")) aNil))))) (bOr (tVal (eBin neD (eBlt lenB (aCons (eVar 0) aNil)) (eCon (.int 4)))) (bNot (tVal (eCall rn_is_name (aCons (eBin ixD (eVar 0) (eCon (.int 0))) aNil)))))) (sRet (eCon (.bl false))) sNil) (sRet (eAnd (eCall rn_is_host (aCons (eBin ixD (eVar 0) (eCon (.int 1))) aNil)) (eAnd (eCall rn_is_path (aCons (eBin ixD (eVar 0) (eCon (.int 2))) aNil)) (eBlt isiB (aCons (eBin ixD (eVar 0) (eCon (.int 3))) (aCons (eCon (.ty "bool")) aNil)))))))
def rn_is_key : List W → Sto → R W := fun ws st => noX (runS 1 dn_is_key ws st)
theorem ok_is_key {P : Program} {w : World} {K : PySem.W.Frag} {mg : Str → Option Value} {base : Heap} {ct : Nat → Value} {f : Addr} {fd : FuncData} (F : Fun K "is_key" "is_key" s_is_key f fd) (C_is_name : Cal P w K mg base ct "is_name" 1 2 rn_is_name) (z_len : mg "len" = none) (z_tuple : mg "tuple" = none) (z_isinstance : mg "isinstance" = none) (z_bool : mg "bool" = none) (C_is_path : Cal P w K mg base ct "is_path" 1 3 rn_is_path) (C_is_host : Cal P w K mg base ct "is_host" 1 3 rn_is_host) :
    FnG P w K mg base CX0 4 f fd ["thing"] (spG K ct 1 rn_is_key) := by
  refine fn_den0 F sc_is_key (fun cdv A outer s H E gd hr => ?_)
  exact (dss_cons (ds_if (PW.pt (dw_or (dt_not (dt_val (de_callB cb_isi (by rfl) z_isinstance bt_isinstance (da_cons (de_var 0) (da_cons (de_ty (by rfl) z_tuple bt_tuple) da_nil))))) (dw_or (dt_cmp (op_neDD (hu64 hr)) (de_callB cb_len (by rfl) z_len bt_len (da_cons (de_var 0) da_nil)) de_int) (dw_or1 (dt_not (dt_val (de_calC C_is_name gd (Room.mono hr (by decide)) (by rfl) (aCons_len aNil_len) (da_cons (de_ix (de_var 0) de_int) da_nil)))))))) (dss_one (ds_ret de_bl)) dss_nil) (dss_one (ds_ret (de_and (de_calC C_is_host gd (Room.mono hr (by decide)) (by rfl) (aCons_len aNil_len) (da_cons (de_ix (de_var 0) de_int) da_nil)) (de_and (de_calC C_is_path gd (Room.mono hr (by decide)) (by rfl) (aCons_len aNil_len) (da_cons (de_ix (de_var 0) de_int) da_nil)) (de_one (de_callB cb_isi (by rfl) z_isinstance bt_isinstance (da_cons (de_ix (de_var 0) de_int) (da_cons (de_ty (by rfl) z_bool bt_bool) da_nil)))))))))

abbrev s_is_kept : Stmt := top 36
theorem sc_is_kept : FnScope ["thing"] ["thing"] (defScope s_is_kept) := ⟨rfl, rfl, rfl, by decide +kernel, rfl, by decide +kernel, by decide +kernel⟩
def dn_is_kept : SD := (sSeq (sIf (bOr (bNot (tVal (eBlt isiB (aCons (eVar 0) (aCons (eCon (.ty "tuple")) aNil))))) (bOr (tVal (eBin neD (eBlt lenB (aCons (eVar 0) aNil)) (eCon (.int 3)))) (bNot (tVal (eCall rn_is_key (aCons (eBin ixD (eVar 0) (eCon (.int 0))) aNil)))))) (sRet (eCon (.bl false))) sNil) (sRet (eAnd (eCall rn_is_value (aCons (eBin ixD (eVar 0) (eCon (.int 1))) aNil)) (eBlt isiB (aCons (eBin ixD (eVar 0) (eCon (.int 2))) (aCons (eCon (.ty "bool")) aNil))))))
def rn_is_kept : List W → Sto → R W := fun ws st => noX (runS 1 dn_is_kept ws st)
theorem ok_is_kept {P : Program} {w : World} {K : PySem.W.Frag} {mg : Str → Option Value} {base : Heap} {ct : Nat → Value} {f : Addr} {fd : FuncData} (F : Fun K "is_kept" "is_kept" s_is_kept f fd) (C_is_key : Cal P w K mg base ct "is_key" 1 4 rn_is_key) (z_len : mg "len" = none) (z_tuple : mg "tuple" = none) (z_isinstance : mg "isinstance" = none) (z_bool : mg "bool" = none) (C_is_value : Cal P w K mg base ct "is_value" 1 2 rn_is_value) :
    FnG P w K mg base CX0 5 f fd ["thing"] (spG K ct 1 rn_is_kept) := by
  refine fn_den0 F sc_is_kept (fun cdv A outer s H E gd hr => ?_)
  exact (dss_cons (ds_if (PW.pt (dw_or (dt_not (dt_val (de_callB cb_isi (by rfl) z_isinstance bt_isinstance (da_cons (de_var 0) (da_cons (de_ty (by rfl) z_tuple bt_tuple) da_nil))))) (dw_or (dt_cmp (op_neDD (hu64 hr)) (de_callB cb_len (by rfl) z_len bt_len (da_cons (de_var 0) da_nil)) de_int) (dw_or1 (dt_not (dt_val (de_calC C_is_key gd (Room.mono hr (by decide)) (by rfl) (aCons_len aNil_len) (da_cons (de_ix (de_var 0) de_int) da_nil)))))))) (dss_one (ds_ret de_bl)) dss_nil) (dss_one (ds_ret (de_and (de_calC C_is_value gd (Room.mono hr (by decide)) (by rfl) (aCons_len aNil_len) (da_cons (de_ix (de_var 0) de_int) da_nil)) (de_one (de_callB cb_isi (by rfl) z_isinstance bt_isinstance (da_cons (de_ix (de_var 0) de_int) (da_cons (de_ty (by rfl) z_bool bt_bool) da_nil))))))))

abbrev s_rank : Stmt := top 37
theorem sc_rank : FnScope ["kept", "name", "host", "folder", "is_alone"] ["kept"] (defScope s_rank) := ⟨rfl, rfl, rfl, by decide +kernel, rfl, by decide +kernel, by decide +kernel⟩
def dn_rank : SD := (sSeq (sAsg (eBin ixD (eVar 0) (eCon (.int 0))) (gTp 4 (gsCons (gNm 1) (gsCons (gNm 2) (gsCons (gNm 3) (gsCons (gNm 4) gsNil)))))) (sRet (eTup (aCons (eVar 1) (aCons (eNeg (eBlt lenB (aCons (eVar 3) aNil))) (aCons (eVar 3) aNil))))))
def rn_rank : List W → Sto → R W := fun ws st => noX (runS 5 dn_rank ws st)
theorem ok_rank {P : Program} {w : World} {K : PySem.W.Frag} {mg : Str → Option Value} {base : Heap} {ct : Nat → Value} {f : Addr} {fd : FuncData} (F : Fun K "rank" "rank" s_rank f fd) (z_len : mg "len" = none) :
    FnG P w K mg base CX0 1 f fd ["kept"] (spG K ct 1 rn_rank) := by
  refine fn_den0 F sc_rank (fun cdv A outer s H E gd hr => ?_)
  exact (dss_cons (ds_asg (de_ix (de_var 0) de_int) (dg_tup (n := 4) rfl (dgs_cons (dg_name (i := 1) sc_rank.nd) (dgs_cons (dg_name (i := 2) sc_rank.nd) (dgs_cons (dg_name (i := 3) sc_rank.nd) (dgs_cons (dg_name (i := 4) sc_rank.nd) dgs_nil)))))) (dss_one (ds_ret (de_tup (da_cons (de_var 1) (da_cons (de_neg (de_callB cb_len (by rfl) z_len bt_len (da_cons (de_var 3) da_nil))) (da_cons (de_var 3) da_nil)))))))

abbrev s_need_jar : Stmt := top 38
theorem sc_need_jar : FnScope ["thing", "seen", "number", "kept"] ["thing"] (defScope s_need_jar) := ⟨rfl, rfl, rfl, by decide +kernel, rfl, by decide +kernel, by decide +kernel⟩
noncomputable def dn_need_jar (w : World) : SD := (sSeq (sIf (bNot (tVal (eBlt isiB (aCons (eVar 0) (aCons (eCon (.ty "tuple")) aNil))))) sNo sNil) (sSeq (sSet 1 (eKNew w)) (sSeq (sFor (itEnum (aCons (eVar 0) aNil)) (gTp 2 (gsCons (gNm 2) (gsCons (gNm 3) gsNil))) (sSeq (sIf (bOr (bNot (tVal (eCall rn_is_kept (aCons (eVar 3) aNil)))) (tVal (eBin (inKD w) (eBin ixD (eVar 3) (eCon (.int 0))) (eVar 1)))) sNo sNil) (sSeq (sIf (bAnd (tVal (eBin gtD (eVar 2) (eCon (.int 0)))) (tVal (eBin ltT (eCall rn_rank (aCons (eVar 3) aNil)) (eCall rn_rank (aCons (eBin ixD (eVar 0) (eBin subD (eVar 2) (eCon (.int 1)))) aNil))))) sNo sNil) (sKPut w (eVar 1) (eBin ixD (eVar 3) (eCon (.int 0))) (eCon (.bl true)))))) (sRet (eVar 0)))))
noncomputable def rn_need_jar (w : World) : List W → Sto → R W := fun ws st => noX (runS 4 (dn_need_jar w) ws st)
theorem ok_need_jar {P : Program} {w : World} {K : PySem.W.Frag} {mg : Str → Option Value} {base : Heap} {ct : Nat → Value} {f : Addr} {fd : FuncData} (F : Fun K "need_jar" "need_jar" s_need_jar f fd) (z_tuple : mg "tuple" = none) (z_isinstance : mg "isinstance" = none) (z_enumerate : mg "enumerate" = none) (C_is_kept : Cal P w K mg base ct "is_kept" 1 5 rn_is_kept) (C_rank : Cal P w K mg base ct "rank" 1 1 rn_rank) :
    FnG P w K mg base CX0 6 f fd ["thing"] (spG K ct 1 (rn_need_jar w)) := by
  refine fn_den0 F sc_need_jar (fun cdv A outer s H E gd hr => ?_)
  exact (dss_cons (ds_if (dt_not (dt_val (de_callB cb_isi (by rfl) z_isinstance bt_isinstance (da_cons (de_var 0) (da_cons (de_ty (by rfl) z_tuple bt_tuple) da_nil))))) (dss_one ds_no) dss_nil) (dss_cons (ds_set (i := 1) sc_need_jar.nd de_knew) (dss_cons (ds_for PassesOwn.never rfl (di_enum (by rfl) z_enumerate (de_var 0)) (dg_tup (n := 2) rfl (dgs_cons (dg_name (i := 2) sc_need_jar.nd) (dgs_cons (dg_name (i := 3) sc_need_jar.nd) dgs_nil))) (dss_cons (ds_if (PW.pt (dw_or (dt_not (dt_val (de_calC C_is_kept gd (Room.mono hr (by decide)) (by rfl) (aCons_len aNil_len) (da_cons (de_var 3) da_nil)))) (dw_or1 (dt_cmp (op_inK (hu65 hr)) (de_ix (de_var 3) de_int) (de_var 1))))) (dss_one ds_no) dss_nil) (dss_cons (ds_if (PW.pt (dw_and (dt_cmp op_gtD (de_var 2) de_int) (dw_and1 (dt_cmp (op_ltTT (hu65 hr)) (de_calC C_rank gd (Room.mono hr (by decide)) (by rfl) (aCons_len aNil_len) (da_cons (de_var 3) da_nil)) (de_calC C_rank gd (Room.mono hr (by decide)) (by rfl) (aCons_len aNil_len) (da_cons (de_ix (de_var 0) (de_bin op_subD (de_var 2) de_int)) da_nil)))))) (dss_one ds_no) dss_nil) (dss_one (ds_kput (hu65 hr) (de_var 1) (de_ix (de_var 3) de_int) de_bl))))) (dss_one (ds_ret (de_var 0))))))

abbrev s_need_address : Stmt := top 39
theorem sc_need_address : FnScope ["thing"] ["thing"] (defScope s_need_address) := ⟨rfl, rfl, rfl, by decide +kernel, rfl, by decide +kernel, by decide +kernel⟩
def dn_need_address : SD := (sSeq (sIf (bNot (tVal (eCall rn_is_address (aCons (eVar 0) aNil)))) sNo sNil) (sRet (eVar 0)))
def rn_need_address : List W → Sto → R W := fun ws st => noX (runS 1 dn_need_address ws st)
theorem ok_need_address {P : Program} {w : World} {K : PySem.W.Frag} {mg : Str → Option Value} {base : Heap} {ct : Nat → Value} {f : Addr} {fd : FuncData} (F : Fun K "need_address" "need_address" s_need_address f fd) (C_is_address : Cal P w K mg base ct "is_address" 1 4 rn_is_address) :
    FnG P w K mg base CX0 5 f fd ["thing"] (spG K ct 1 rn_need_address) := by
  refine fn_den0 F sc_need_address (fun cdv A outer s H E gd hr => ?_)
  exact (dss_cons (ds_if (dt_not (dt_val (de_calC C_is_address gd (Room.mono hr (by decide)) (by rfl) (aCons_len aNil_len) (da_cons (de_var 0) da_nil)))) (dss_one ds_no) dss_nil) (dss_one (ds_ret (de_var 0))))

abbrev s_need_row : Stmt := top 40
theorem sc_need_row : FnScope ["site", "thing", "page"] ["site", "thing"] (defScope s_need_row) := ⟨rfl, rfl, rfl, by decide +kernel, rfl, by decide +kernel, by decide +kernel⟩
def dn_need_row : SD := (sSeq (sIf (bOr (bNot (tVal (eBlt isiB (aCons (eVar 1) (aCons (eCon (.ty "tuple")) aNil))))) (bNot (tVal (eBlt allB (aCons (eLst (lLc [2] (itE (eVar 1)) (gNm 2) bYes (eCall rn_is_whole (aCons (eVar 2) (aCons (eCon (.int 0)) (aCons (eBin subD (eBlt lenB (aCons (eVar 0) aNil)) (eCon (.int 1))) aNil)))))) aNil))))) sNo sNil) (sRet (eVar 1)))
def rn_need_row : List W → Sto → R W := fun ws st => noX (runS 3 dn_need_row ws st)
theorem ok_need_row {P : Program} {w : World} {K : PySem.W.Frag} {mg : Str → Option Value} {base : Heap} {ct : Nat → Value} {f : Addr} {fd : FuncData} (F : Fun K "need_row" "need_row" s_need_row f fd) (z_len : mg "len" = none) (C_is_whole : Cal P w K mg base ct "is_whole" 3 1 rn_is_whole) (z_all : mg "all" = none) (z_tuple : mg "tuple" = none) (z_isinstance : mg "isinstance" = none) :
    FnG P w K mg base CX0 2 f fd ["site", "thing"] (spG K ct 2 rn_need_row) := by
  refine fn_den0 F sc_need_row (fun cdv A outer s H E gd hr => ?_)
  exact (dss_cons (ds_if (PW.pt (dw_or (dt_not (dt_val (de_callB cb_isi (by rfl) z_isinstance bt_isinstance (da_cons (de_var 1) (da_cons (de_ty (by rfl) z_tuple bt_tuple) da_nil))))) (dw_or1 (dt_not (dt_val (de_callB (cb_all rfl) (by rfl) z_all bt_all (da_cons (de_val (df_lc (own := [("page", 2)]) rfl sc_need_row.nd (di_e (de_var 1)) (blkOk_by (own := [("page", 2)]) (N := ["site", "thing", "page"]) (sc := defScope s_need_row) (by decide +kernel)) (fun _ _ _ _ _ => (dg_name (i := 2) sc_need_row.nd)) (fun _ _ _ _ _ => dts_nil) (fun _ _ _ _ _ => (de_calC C_is_whole gd (Room.mono hr (by decide)) (by rfl) (aCons_len (aCons_len (aCons_len aNil_len))) (da_cons (de_var 2) (da_cons de_int (da_cons (de_bin op_subD (de_callB cb_len (by rfl) z_len bt_len (da_cons (de_var 0) da_nil)) de_int) da_nil))))))) da_nil))))))) (dss_one ds_no) dss_nil) (dss_one (ds_ret (de_var 1))))

abbrev s_after : Stmt := top 41
theorem sc_after : FnScope ["jar", "page", "found", "key", "value", "is_guarded", "places", "place", "kept"] ["jar", "page"] (defScope s_after) := ⟨rfl, rfl, rfl, by decide +kernel, rfl, by decide +kernel, by decide +kernel⟩
def dn_after : SD := (sSeq (sSet 2 (eNew (lBlt listF (aCons (eVar 0) aNil)))) (sSeq (sFor (itE (eCall rn_taken_in (aCons (eVar 1) aNil))) (gTp 3 (gsCons (gNm 3) (gsCons (gNm 4) (gsCons (gNm 5) gsNil)))) (sSeq (sSet 6 (eLst (lLcR [7, 8] (nEnum (aCons (eVar 2) aNil)) (gTp 2 (gsCons (gNm 7) (gsCons (gNm 8) gsNil))) (tVal (eBin eqD (eBin ixD (eVar 8) (eCon (.int 0))) (eVar 3))) (eVar 7)))) (sIf (tVal (eBin isD (eVar 4) (eCon .non))) (sSet 2 (eNew (lLc [8] (itE (eFrz (eVar 2))) (gNm 8) (tVal (eBin neD (eBin ixD (eVar 8) (eCon (.int 0))) (eVar 3))) (eVar 8)))) (sIf (tVal (eBin neD (eVar 6) (eLst (aLim aNil)))) (sLPut (eVar 2) (eBin ixD (eVar 6) (eCon (.int 0))) (eTup (aCons (eVar 3) (aCons (eVar 4) (aCons (eVar 5) aNil))))) (sSet 2 (eNew (lSortK rn_rank (aCons (eLst (lCat (eVar 2) (eLst (aLim (aCons (eTup (aCons (eVar 3) (aCons (eVar 4) (aCons (eVar 5) aNil)))) aNil))))) aNil)))))))) (sRet (eBlt tupleB (aCons (eVar 2) aNil)))))
def rn_after : List W → Sto → R W := fun ws st => noX (runS 9 dn_after ws st)
theorem ok_after {P : Program} {w : World} {K : PySem.W.Frag} {mg : Str → Option Value} {base : Heap} {ct : Nat → Value} {f : Addr} {fd : FuncData} (F : Fun K "after" "after" s_after f fd) (z_list : mg "list" = none) (C_taken_in : Cal P w K mg base ct "taken_in" 1 3 rn_taken_in) (z_enumerate : mg "enumerate" = none) (z_sorted : mg "sorted" = none) (C_rank : Cal P w K mg base ct "rank" 1 1 rn_rank) (z_tuple : mg "tuple" = none) :
    FnG P w K mg base CX0 4 f fd ["jar", "page"] (spG K ct 2 rn_after) := by
  refine fn_den0 F sc_after (fun cdv A outer s H E gd hr => ?_)
  exact (dss_cons (ds_set (i := 2) sc_after.nd (de_new (df_callT cf_list (by rfl) z_list bt_list (da_cons (de_var 0) da_nil)))) (dss_cons (ds_for PassesOwn.never rfl (di_e (de_calC C_taken_in gd (Room.mono hr (by decide)) (by rfl) (aCons_len aNil_len) (da_cons (de_var 1) da_nil))) (dg_tup (n := 3) rfl (dgs_cons (dg_name (i := 3) sc_after.nd) (dgs_cons (dg_name (i := 4) sc_after.nd) (dgs_cons (dg_name (i := 5) sc_after.nd) dgs_nil)))) (dss_cons (ds_setLcR (i := 6) (own := [("place", 7), ("kept", 8)]) rfl sc_after.nd rfl rfl (sw_true rfl rfl rfl (by decide +kernel)) (dn_enum (by rfl) z_enumerate (de_var 2)) (blkOk_by (own := [("place", 7), ("kept", 8)]) (N := ["jar", "page", "found", "key", "value", "is_guarded", "places", "place", "kept"]) (sc := defScope s_after) (by decide +kernel)) (fun _ _ _ _ _ => (dg_tup (n := 2) rfl (dgs_cons (dg_name (i := 7) sc_after.nd) (dgs_cons (dg_name (i := 8) sc_after.nd) dgs_nil)))) (fun _ _ _ _ _ => (dts_one (dt_cmp (op_eqDD (hu64 hr)) (de_ix (de_var 8) de_int) (de_var 3)))) (fun _ _ _ _ _ => (de_var 7))) (dss_one (ds_if (dt_cmp op_isDD (de_var 4) de_non) (dss_one (ds_setLcN (i := 2) (own := [("kept", 8)]) rfl sc_after.nd rfl rfl (sw_true rfl rfl rfl (by decide +kernel)) (di_e (de_frz (de_var 2))) (blkOk_by (own := [("kept", 8)]) (N := ["jar", "page", "found", "key", "value", "is_guarded", "places", "place", "kept"]) (sc := defScope s_after) (by decide +kernel)) (fun _ _ _ _ _ => (dg_name (i := 8) sc_after.nd)) (fun _ _ _ _ _ => (dts_one (dt_cmp (op_neDD (hu64 hr)) (de_ix (de_var 8) de_int) (de_var 3)))) (fun _ _ _ _ _ => (de_var 8)))) (dss_one (ds_if (dt_cmp (op_neDD (hu64 hr)) (de_var 6) (de_val (df_lst da_nil))) (dss_one (ds_lput (de_var 2) (de_ix (de_var 6) de_int) (de_tup (da_cons (de_var 3) (da_cons (de_var 4) (da_cons (de_var 5) da_nil)))))) (dss_one (ds_set (i := 2) sc_after.nd (de_new (df_sortK C_rank gd (Room.mono hr (by decide)) (by rfl) z_sorted (by rfl) (de_val (df_cat (de_var 2) (de_val (df_lst (da_cons (de_tup (da_cons (de_var 3) (da_cons (de_var 4) (da_cons (de_var 5) da_nil)))) da_nil))))))))))))))) (dss_one (ds_ret (de_callT cb_tuple (by rfl) z_tuple bt_tuple (da_cons (de_var 2) da_nil))))))

abbrev s_goes : Stmt := top 42
theorem sc_goes : FnScope ["kept", "address", "name", "own", "folder", "is_alone", "host", "path", "is_secure"] ["kept", "address"] (defScope s_goes) := ⟨rfl, rfl, rfl, by decide +kernel, rfl, by decide +kernel, by decide +kernel⟩
def dn_goes : SD := (sSeq (sAsg (eBin ixD (eVar 0) (eCon (.int 0))) (gTp 4 (gsCons (gNm 2) (gsCons (gNm 3) (gsCons (gNm 4) (gsCons (gNm 5) gsNil)))))) (sSeq (sAsg (eVar 1) (gTp 3 (gsCons (gNm 6) (gsCons (gNm 7) (gsCons (gNm 8) gsNil))))) (sSeq (sIf (bOr (bAnd (tVal (eBin ixD (eVar 0) (eCon (.int 2)))) (bNot (tVal (eVar 8)))) (bNot (tVal (eCall rn_is_below (aCons (eVar 7) (aCons (eVar 4) aNil)))))) (sRet (eCon (.bl false))) sNil) (sRet (eOr (eBin eqD (eVar 6) (eVar 3)) (eAnd (eNot (eVar 5)) (eCall rn_is_within (aCons (eVar 6) (aCons (eVar 3) aNil)))))))))
def rn_goes : List W → Sto → R W := fun ws st => noX (runS 9 dn_goes ws st)
theorem ok_goes {P : Program} {w : World} {K : PySem.W.Frag} {mg : Str → Option Value} {base : Heap} {ct : Nat → Value} {f : Addr} {fd : FuncData} (F : Fun K "goes" "goes" s_goes f fd) (C_is_below : Cal P w K mg base ct "is_below" 2 1 rn_is_below) (C_is_within : Cal P w K mg base ct "is_within" 2 1 rn_is_within) :
    FnG P w K mg base CX0 2 f fd ["kept", "address"] (spG K ct 2 rn_goes) := by
  refine fn_den0 F sc_goes (fun cdv A outer s H E gd hr => ?_)
  exact (dss_cons (ds_asg (de_ix (de_var 0) de_int) (dg_tup (n := 4) rfl (dgs_cons (dg_name (i := 2) sc_goes.nd) (dgs_cons (dg_name (i := 3) sc_goes.nd) (dgs_cons (dg_name (i := 4) sc_goes.nd) (dgs_cons (dg_name (i := 5) sc_goes.nd) dgs_nil)))))) (dss_cons (ds_asg (de_var 1) (dg_tup (n := 3) rfl (dgs_cons (dg_name (i := 6) sc_goes.nd) (dgs_cons (dg_name (i := 7) sc_goes.nd) (dgs_cons (dg_name (i := 8) sc_goes.nd) dgs_nil))))) (dss_cons (ds_if (PW.pt (dw_or (PW.pt (dw_and (dt_val (de_ix (de_var 0) de_int)) (dw_and1 (dt_not (dt_val (de_var 8)))))) (dw_or1 (dt_not (dt_val (de_calC C_is_below gd (Room.mono hr (by decide)) (by rfl) (aCons_len (aCons_len aNil_len)) (da_cons (de_var 7) (da_cons (de_var 4) da_nil)))))))) (dss_one (ds_ret de_bl)) dss_nil) (dss_one (ds_ret (de_or (de_cmp (op_eqDD (hu64 hr)) (de_var 6) (de_var 3)) (de_one (de_and (de_not (de_var 5)) (de_one (de_calC C_is_within gd (Room.mono hr (by decide)) (by rfl) (aCons_len (aCons_len aNil_len)) (da_cons (de_var 6) (da_cons (de_var 3) da_nil))))))))))))

abbrev s_sent_in : Stmt := top 43
theorem sc_sent_in : FnScope ["jar", "address", "kept"] ["jar", "address"] (defScope s_sent_in) := ⟨rfl, rfl, rfl, by decide +kernel, rfl, by decide +kernel, by decide +kernel⟩
def dn_sent_in : SD := (sRet (eBlt tupleB (aCons (eLst (lLc [2] (itE (eVar 0)) (gNm 2) (tVal (eCall rn_goes (aCons (eVar 2) (aCons (eVar 1) aNil)))) (eTup (aCons (eBin ixD (eBin ixD (eVar 2) (eCon (.int 0))) (eCon (.int 0))) (aCons (eBin ixD (eVar 2) (eCon (.int 1))) aNil))))) aNil)))
def rn_sent_in : List W → Sto → R W := fun ws st => noX (runS 3 dn_sent_in ws st)
theorem ok_sent_in {P : Program} {w : World} {K : PySem.W.Frag} {mg : Str → Option Value} {base : Heap} {ct : Nat → Value} {f : Addr} {fd : FuncData} (F : Fun K "sent_in" "sent_in" s_sent_in f fd) (C_goes : Cal P w K mg base ct "goes" 2 2 rn_goes) (z_tuple : mg "tuple" = none) :
    FnG P w K mg base CX0 3 f fd ["jar", "address"] (spG K ct 2 rn_sent_in) := by
  refine fn_den0 F sc_sent_in (fun cdv A outer s H E gd hr => ?_)
  exact (dss_one (ds_ret (de_callT cb_tuple (by rfl) z_tuple bt_tuple (da_cons (de_val (df_lc (own := [("kept", 2)]) rfl sc_sent_in.nd (di_e (de_var 0)) (blkOk_by (own := [("kept", 2)]) (N := ["jar", "address", "kept"]) (sc := defScope s_sent_in) (by decide +kernel)) (fun _ _ _ _ _ => (dg_name (i := 2) sc_sent_in.nd)) (fun _ _ _ _ _ => (dts_one (dt_val (de_calC C_goes gd (Room.mono hr (by decide)) (by rfl) (aCons_len (aCons_len aNil_len)) (da_cons (de_var 2) (da_cons (de_var 1) da_nil)))))) (fun _ _ _ _ _ => (de_tup (da_cons (de_ix (de_ix (de_var 2) de_int) de_int) (da_cons (de_ix (de_var 2) de_int) da_nil)))))) da_nil))))

abbrev s_read_in : Stmt := top 44
theorem sc_read_in : FnScope ["jar", "address", "name", "found", "own", "value"] ["jar", "address", "name"] (defScope s_read_in) := ⟨rfl, rfl, rfl, by decide +kernel, rfl, by decide +kernel, by decide +kernel⟩
def dn_read_in : SD := (sSeq (sSet 3 (eLst (lLc [4, 5] (itE (eCall rn_sent_in (aCons (eVar 0) (aCons (eVar 1) aNil)))) (gTp 2 (gsCons (gNm 4) (gsCons (gNm 5) gsNil))) (tVal (eBin eqD (eVar 4) (eVar 2))) (eVar 5)))) (sRet (eIf (tVal (eBin neD (eVar 3) (eLst (aLim aNil)))) (eBin ixD (eVar 3) (eCon (.int 0))) (eCon .non))))
def rn_read_in : List W → Sto → R W := fun ws st => noX (runS 6 dn_read_in ws st)
theorem ok_read_in {P : Program} {w : World} {K : PySem.W.Frag} {mg : Str → Option Value} {base : Heap} {ct : Nat → Value} {f : Addr} {fd : FuncData} (F : Fun K "read_in" "read_in" s_read_in f fd) (C_sent_in : Cal P w K mg base ct "sent_in" 2 3 rn_sent_in) :
    FnG P w K mg base CX0 4 f fd ["jar", "address", "name"] (spG K ct 3 rn_read_in) := by
  refine fn_den0 F sc_read_in (fun cdv A outer s H E gd hr => ?_)
  exact (dss_cons (ds_setLc (i := 3) (own := [("own", 4), ("value", 5)]) rfl sc_read_in.nd rfl rfl (sw_true rfl rfl rfl (by decide +kernel)) (di_e (de_calC C_sent_in gd (Room.mono hr (by decide)) (by rfl) (aCons_len (aCons_len aNil_len)) (da_cons (de_var 0) (da_cons (de_var 1) da_nil)))) (blkOk_by (own := [("own", 4), ("value", 5)]) (N := ["jar", "address", "name", "found", "own", "value"]) (sc := defScope s_read_in) (by decide +kernel)) (fun _ _ _ _ _ => (dg_tup (n := 2) rfl (dgs_cons (dg_name (i := 4) sc_read_in.nd) (dgs_cons (dg_name (i := 5) sc_read_in.nd) dgs_nil)))) (fun _ _ _ _ _ => (dts_one (dt_cmp (op_eqDD (hu64 hr)) (de_var 4) (de_var 2)))) (fun _ _ _ _ _ => (de_var 5))) (dss_one (ds_ret (de_if (dt_cmp (op_neDD (hu64 hr)) (de_var 3) (de_val (df_lst da_nil))) (de_ix (de_var 3) de_int) de_non))))

abbrev s_behind_in : Stmt := top 45
theorem sc_behind_in : FnScope ["site", "row", "jar", "page"] ["site", "row"] (defScope s_behind_in) := ⟨rfl, rfl, rfl, by decide +kernel, rfl, by decide +kernel, by decide +kernel⟩
def dn_behind_in : SD := (sSeq (sSet 2 (eTup aNil)) (sSeq (sFor (itE (eVar 1)) (gNm 3) (sSet 2 (eCall rn_after (aCons (eVar 2) (aCons (eBin ixD (eVar 0) (eVar 3)) aNil))))) (sRet (eVar 2))))
def rn_behind_in : List W → Sto → R W := fun ws st => noX (runS 4 dn_behind_in ws st)
theorem ok_behind_in {P : Program} {w : World} {K : PySem.W.Frag} {mg : Str → Option Value} {base : Heap} {ct : Nat → Value} {f : Addr} {fd : FuncData} (F : Fun K "behind_in" "behind_in" s_behind_in f fd) (C_after : Cal P w K mg base ct "after" 2 4 rn_after) :
    FnG P w K mg base CX0 5 f fd ["site", "row"] (spG K ct 2 rn_behind_in) := by
  refine fn_den0 F sc_behind_in (fun cdv A outer s H E gd hr => ?_)
  exact (dss_cons (ds_set (i := 2) sc_behind_in.nd (de_tup da_nil)) (dss_cons (ds_for PassesOwn.never rfl (di_e (de_var 1)) (dg_name (i := 3) sc_behind_in.nd) (dss_one (ds_set (i := 2) sc_behind_in.nd (de_calC C_after gd (Room.mono hr (by decide)) (by rfl) (aCons_len (aCons_len aNil_len)) (da_cons (de_var 2) (da_cons (de_ix (de_var 0) (de_var 3)) da_nil)))))) (dss_one (ds_ret (de_var 2)))))

abbrev s_visited : Stmt := top 46
theorem sc_visited : FnScope ["jar", "site", "page"] ["jar", "site", "page"] (defScope s_visited) := ⟨rfl, rfl, rfl, by decide +kernel, rfl, by decide +kernel, by decide +kernel⟩
noncomputable def dn_visited (w : World) : SD := (sSeq (sExpr (eCall (rn_need_jar w) (aCons (eVar 0) aNil))) (sSeq (sExpr (eCall rn_need_site (aCons (eVar 1) aNil))) (sRet (eCall rn_after (aCons (eVar 0) (aCons (eBin ixD (eVar 1) (eCall rn_need_page (aCons (eVar 1) (aCons (eVar 2) aNil)))) aNil))))))
noncomputable def rn_visited (w : World) : List W → Sto → R W := fun ws st => noX (runS 3 (dn_visited w) ws st)
theorem ok_visited {P : Program} {w : World} {K : PySem.W.Frag} {mg : Str → Option Value} {base : Heap} {ct : Nat → Value} {f : Addr} {fd : FuncData} (F : Fun K "visited" "visited" s_visited f fd) (C_need_jar : Cal P w K mg base ct "need_jar" 1 6 (rn_need_jar w)) (C_need_site : Cal P w K mg base ct "need_site" 1 5 rn_need_site) (C_need_page : Cal P w K mg base ct "need_page" 2 2 rn_need_page) (C_after : Cal P w K mg base ct "after" 2 4 rn_after) :
    FnG P w K mg base CX0 7 f fd ["jar", "site", "page"] (spG K ct 3 (rn_visited w)) := by
  refine fn_den0 F sc_visited (fun cdv A outer s H E gd hr => ?_)
  exact (dss_cons (ds_expr (de_calC C_need_jar gd (Room.mono hr (by decide)) (by rfl) (aCons_len aNil_len) (da_cons (de_var 0) da_nil))) (dss_cons (ds_expr (de_calC C_need_site gd (Room.mono hr (by decide)) (by rfl) (aCons_len aNil_len) (da_cons (de_var 1) da_nil))) (dss_one (ds_ret (de_calC C_after gd (Room.mono hr (by decide)) (by rfl) (aCons_len (aCons_len aNil_len)) (da_cons (de_var 0) (da_cons (de_ix (de_var 1) (de_calC C_need_page gd (Room.mono hr (by decide)) (by rfl) (aCons_len (aCons_len aNil_len)) (da_cons (de_var 1) (da_cons (de_var 2) da_nil)))) da_nil)))))))

abbrev s_behind : Stmt := top 47
theorem sc_behind : FnScope ["site", "row"] ["site", "row"] (defScope s_behind) := ⟨rfl, rfl, rfl, by decide +kernel, rfl, by decide +kernel, by decide +kernel⟩
def dn_behind : SD := (sSeq (sExpr (eCall rn_need_site (aCons (eVar 0) aNil))) (sRet (eCall rn_behind_in (aCons (eVar 0) (aCons (eCall rn_need_row (aCons (eVar 0) (aCons (eVar 1) aNil))) aNil)))))
def rn_behind : List W → Sto → R W := fun ws st => noX (runS 2 dn_behind ws st)
theorem ok_behind {P : Program} {w : World} {K : PySem.W.Frag} {mg : Str → Option Value} {base : Heap} {ct : Nat → Value} {f : Addr} {fd : FuncData} (F : Fun K "behind" "behind" s_behind f fd) (C_need_site : Cal P w K mg base ct "need_site" 1 5 rn_need_site) (C_need_row : Cal P w K mg base ct "need_row" 2 2 rn_need_row) (C_behind_in : Cal P w K mg base ct "behind_in" 2 5 rn_behind_in) :
    FnG P w K mg base CX0 6 f fd ["site", "row"] (spG K ct 2 rn_behind) := by
  refine fn_den0 F sc_behind (fun cdv A outer s H E gd hr => ?_)
  exact (dss_cons (ds_expr (de_calC C_need_site gd (Room.mono hr (by decide)) (by rfl) (aCons_len aNil_len) (da_cons (de_var 0) da_nil))) (dss_one (ds_ret (de_calC C_behind_in gd (Room.mono hr (by decide)) (by rfl) (aCons_len (aCons_len aNil_len)) (da_cons (de_var 0) (da_cons (de_calC C_need_row gd (Room.mono hr (by decide)) (by rfl) (aCons_len (aCons_len aNil_len)) (da_cons (de_var 0) (da_cons (de_var 1) da_nil))) da_nil))))))

abbrev s_sent : Stmt := top 48
theorem sc_sent : FnScope ["jar", "address"] ["jar", "address"] (defScope s_sent) := ⟨rfl, rfl, rfl, by decide +kernel, rfl, by decide +kernel, by decide +kernel⟩
noncomputable def dn_sent (w : World) : SD := (sSeq (sExpr (eCall (rn_need_jar w) (aCons (eVar 0) aNil))) (sRet (eCall rn_sent_in (aCons (eVar 0) (aCons (eCall rn_need_address (aCons (eVar 1) aNil)) aNil)))))
noncomputable def rn_sent (w : World) : List W → Sto → R W := fun ws st => noX (runS 2 (dn_sent w) ws st)
theorem ok_sent {P : Program} {w : World} {K : PySem.W.Frag} {mg : Str → Option Value} {base : Heap} {ct : Nat → Value} {f : Addr} {fd : FuncData} (F : Fun K "sent" "sent" s_sent f fd) (C_need_jar : Cal P w K mg base ct "need_jar" 1 6 (rn_need_jar w)) (C_need_address : Cal P w K mg base ct "need_address" 1 5 rn_need_address) (C_sent_in : Cal P w K mg base ct "sent_in" 2 3 rn_sent_in) :
    FnG P w K mg base CX0 7 f fd ["jar", "address"] (spG K ct 2 (rn_sent w)) := by
  refine fn_den0 F sc_sent (fun cdv A outer s H E gd hr => ?_)
  exact (dss_cons (ds_expr (de_calC C_need_jar gd (Room.mono hr (by decide)) (by rfl) (aCons_len aNil_len) (da_cons (de_var 0) da_nil))) (dss_one (ds_ret (de_calC C_sent_in gd (Room.mono hr (by decide)) (by rfl) (aCons_len (aCons_len aNil_len)) (da_cons (de_var 0) (da_cons (de_calC C_need_address gd (Room.mono hr (by decide)) (by rfl) (aCons_len aNil_len) (da_cons (de_var 1) da_nil)) da_nil))))))

abbrev s_read : Stmt := top 49
theorem sc_read : FnScope ["jar", "address", "name"] ["jar", "address", "name"] (defScope s_read) := ⟨rfl, rfl, rfl, by decide +kernel, rfl, by decide +kernel, by decide +kernel⟩
noncomputable def dn_read (w : World) : SD := (sSeq (sExpr (eCall (rn_need_jar w) (aCons (eVar 0) aNil))) (sSeq (sExpr (eCall rn_need_address (aCons (eVar 1) aNil))) (sRet (eCall rn_read_in (aCons (eVar 0) (aCons (eVar 1) (aCons (eCall rn_need_name (aCons (eVar 2) aNil)) aNil)))))))
noncomputable def rn_read (w : World) : List W → Sto → R W := fun ws st => noX (runS 3 (dn_read w) ws st)
theorem ok_read {P : Program} {w : World} {K : PySem.W.Frag} {mg : Str → Option Value} {base : Heap} {ct : Nat → Value} {f : Addr} {fd : FuncData} (F : Fun K "read" "read" s_read f fd) (C_need_jar : Cal P w K mg base ct "need_jar" 1 6 (rn_need_jar w)) (C_need_address : Cal P w K mg base ct "need_address" 1 5 rn_need_address) (C_need_name : Cal P w K mg base ct "need_name" 1 3 rn_need_name) (C_read_in : Cal P w K mg base ct "read_in" 3 4 rn_read_in) :
    FnG P w K mg base CX0 7 f fd ["jar", "address", "name"] (spG K ct 3 (rn_read w)) := by
  refine fn_den0 F sc_read (fun cdv A outer s H E gd hr => ?_)
  exact (dss_cons (ds_expr (de_calC C_need_jar gd (Room.mono hr (by decide)) (by rfl) (aCons_len aNil_len) (da_cons (de_var 0) da_nil))) (dss_cons (ds_expr (de_calC C_need_address gd (Room.mono hr (by decide)) (by rfl) (aCons_len aNil_len) (da_cons (de_var 1) da_nil))) (dss_one (ds_ret (de_calC C_read_in gd (Room.mono hr (by decide)) (by rfl) (aCons_len (aCons_len (aCons_len aNil_len))) (da_cons (de_var 0) (da_cons (de_var 1) (da_cons (de_calC C_need_name gd (Room.mono hr (by decide)) (by rfl) (aCons_len aNil_len) (da_cons (de_var 2) da_nil)) da_nil))))))))

abbrev s__law_mixed : Stmt := top 51
theorem sc__law_mixed : FnScope ["cell", "k"] ["cell", "k"] (defScope s__law_mixed) := ⟨rfl, rfl, rfl, by decide +kernel, rfl, by decide +kernel, by decide +kernel⟩
def dn__law_mixed : SD := (sSeq (sSet 0 (eBin modD (eBlt intB (aCons (eVar 0) aNil)) (eCon (.int 2147483647)))) (sRet (eBin modD (eBin mulD (eBin modD (eBin addD (eBin addD (eBin mulD (eVar 0) (eBin addD (eCon (.int 48271)) (eBin mulD (eBin mulD (eCon (.int 2)) (eVar 1)) (eVar 1)))) (eBin mulD (eCon (.int 69621)) (eVar 1))) (eCon (.int 11))) (eCon (.int 2147483647))) (eCon (.int 69621))) (eCon (.int 2147483629)))))
def rn__law_mixed : List W → Sto → R W := fun ws st => noX (runS 2 dn__law_mixed ws st)
theorem ok__law_mixed {P : Program} {w : World} {K : PySem.W.Frag} {mg : Str → Option Value} {base : Heap} {ct : Nat → Value} {f : Addr} {fd : FuncData} (F : Fun K "_law_mixed" "_law_mixed" s__law_mixed f fd) (z_int : mg "int" = none) :
    FnG P w K mg base CX0 1 f fd ["cell", "k"] (spG K ct 2 rn__law_mixed) := by
  refine fn_den0 F sc__law_mixed (fun cdv A outer s H E gd hr => ?_)
  exact (dss_cons (ds_set (i := 0) sc__law_mixed.nd (de_bin op_modD (de_callT cb_int (by rfl) z_int bt_int (da_cons (de_var 0) da_nil)) de_int)) (dss_one (ds_ret (de_bin op_modD (de_bin op_mulD (de_bin op_modD (de_bin op_addD (de_bin op_addD (de_bin op_mulD (de_var 0) (de_bin op_addD de_int (de_bin op_mulD (de_bin op_mulD de_int (de_var 1)) (de_var 1)))) (de_bin op_mulD de_int (de_var 1))) de_int) de_int) de_int) de_int))))

abbrev s__law_begin : Stmt := top 52
theorem sc__law_begin : FnScope ["script", "cells", "cell"] ["script"] (defScope s__law_begin) := ⟨rfl, rfl, rfl, by decide +kernel, rfl, by decide +kernel, by decide +kernel⟩
def dn__law_begin : SD := (sSeq (sSet 1 (eIf (tVal (eBin neD (eVar 0) (eLst (aLim aNil)))) (eLst (lBlt listF (aCons (eVar 0) aNil))) (eLst (aLim (aCons (eCon (.int 0)) aNil))))) (sRet (eDct (kOf [("cells", (eVar 1)), ("lefts", (eNew (lLc [2] (itE (eVar 1)) (gNm 2) bYes (eIf (tVal (eBin geD (eVar 2) (eBin powD (eCon (.int 10)) (eCon (.int 18))))) (eVar 2) (eCon (.int 0)))))), ("at", (eCon (.int 0))), ("room", (eCon (.int 0)))]))))
def rn__law_begin : List W → Sto → R W := fun ws st => noX (runS 3 dn__law_begin ws st)
theorem ok__law_begin {P : Program} {w : World} {K : PySem.W.Frag} {mg : Str → Option Value} {base : Heap} {ct : Nat → Value} {f : Addr} {fd : FuncData} (F : Fun K "_law_begin" "_law_begin" s__law_begin f fd) (z_list : mg "list" = none) :
    FnG P w K mg base CX0 1 f fd ["script"] (spG K ct 1 rn__law_begin) := by
  refine fn_den0 F sc__law_begin (fun cdv A outer s H E gd hr => ?_)
  exact (dss_cons (ds_set (i := 1) sc__law_begin.nd (de_if (dt_cmp (op_neDD (hu64 hr)) (de_var 0) (de_val (df_lst da_nil))) (de_val (df_callT cf_list (by rfl) z_list bt_list (da_cons (de_var 0) da_nil))) (de_val (df_lst (da_cons de_int da_nil))))) (dss_one (ds_ret (de_dct (fs := [("cells", (eVar 1)), ("lefts", (eNew (lLc [2] (itE (eVar 1)) (gNm 2) bYes (eIf (tVal (eBin geD (eVar 2) (eBin powD (eCon (.int 10)) (eCon (.int 18))))) (eVar 2) (eCon (.int 0)))))), ("at", (eCon (.int 0))), ("room", (eCon (.int 0)))]) (pps_ind (de_var 1) (pps_ind (de_new (df_lc (own := [("cell", 2)]) rfl sc__law_begin.nd (di_e (de_var 1)) (blkOk_by (own := [("cell", 2)]) (N := ["script", "cells", "cell"]) (sc := defScope s__law_begin) (by decide +kernel)) (fun _ _ _ _ _ => (dg_name (i := 2) sc__law_begin.nd)) (fun _ _ _ _ _ => dts_nil) (fun _ _ _ _ _ => (de_if (dt_cmp op_geD (de_var 2) (de_bin op_powD de_int de_int)) (de_var 2) de_int)))) (pps_ind de_int (pps_ind de_int pps_nil))))))))

abbrev s__law_draw : Stmt := top 53
theorem sc__law_draw : FnScope ["state", "many", "at", "place", "left", "number"] ["state", "many"] (defScope s__law_draw) := ⟨rfl, rfl, rfl, by decide +kernel, rfl, by decide +kernel, by decide +kernel⟩
def dn__law_draw : SD := (sSeq (sSet 2 (eDGet (eVar 0) (eCon (.str "at")))) (sSeq (sDPut (eVar 0) (eCon (.str "at")) (eBin addD (eVar 2) (eCon (.int 1)))) (sSeq (sSet 3 (eBin modD (eBlt intB (aCons (eVar 2) aNil)) (eBlt lenB (aCons (eDGet (eVar 0) (eCon (.str "cells"))) aNil)))) (sSeq (sSet 4 (eBin ixD (eDGet (eVar 0) (eCon (.str "lefts"))) (eVar 3))) (sSeq (sIf (tVal (eBin gtD (eVar 4) (eCon (.int 0)))) (sSeq (sLPut (eDGet (eVar 0) (eCon (.str "lefts"))) (eVar 3) (eBin fdivD (eVar 4) (eVar 1))) (sRet (eBin modD (eBlt intB (aCons (eVar 4) aNil)) (eVar 1)))) sNil) (sSeq (sSet 5 (eCall rn__law_mixed (aCons (eCall rn__law_mixed (aCons (eBin ixD (eDGet (eVar 0) (eCon (.str "cells"))) (eVar 3)) (aCons (eVar 2) aNil))) (aCons (eBin addD (eCon (.int 40)) (eVar 2)) aNil)))) (sRet (eBin modD (eBin fdivD (eBlt intB (aCons (eBin addD (eBin mulD (eVar 5) (eCon (.int 2147483647))) (eCall rn__law_mixed (aCons (eVar 5) (aCons (eBin addD (eCon (.int 7)) (eVar 2)) aNil)))) aNil)) (eCon (.int 64))) (eVar 1)))))))))
def rn__law_draw : List W → Sto → R W := fun ws st => noX (runS 6 dn__law_draw ws st)
theorem ok__law_draw {P : Program} {w : World} {K : PySem.W.Frag} {mg : Str → Option Value} {base : Heap} {ct : Nat → Value} {f : Addr} {fd : FuncData} (F : Fun K "_law_draw" "_law_draw" s__law_draw f fd) (z_int : mg "int" = none) (z_len : mg "len" = none) (C__law_mixed : Cal P w K mg base ct "_law_mixed" 2 1 rn__law_mixed) :
    FnG P w K mg base CX0 2 f fd ["state", "many"] (spG K ct 2 rn__law_draw) := by
  refine fn_den0 F sc__law_draw (fun cdv A outer s H E gd hr => ?_)
  exact (dss_cons (ds_set (i := 2) sc__law_draw.nd (de_dget (hu_of hr) (de_var 0) de_str)) (dss_cons (ds_dput (hu_of hr) (de_var 0) de_str (de_bin op_addD (de_var 2) de_int)) (dss_cons (ds_set (i := 3) sc__law_draw.nd (de_bin op_modD (de_callT cb_int (by rfl) z_int bt_int (da_cons (de_var 2) da_nil)) (de_callB cb_len (by rfl) z_len bt_len (da_cons (de_dget (hu_of hr) (de_var 0) de_str) da_nil)))) (dss_cons (ds_set (i := 4) sc__law_draw.nd (de_ix (de_dget (hu_of hr) (de_var 0) de_str) (de_var 3))) (dss_cons (ds_if (dt_cmp op_gtD (de_var 4) de_int) (dss_cons (ds_lput (de_dget (hu_of hr) (de_var 0) de_str) (de_var 3) (de_bin op_fdivD (de_var 4) (de_var 1))) (dss_one (ds_ret (de_bin op_modD (de_callT cb_int (by rfl) z_int bt_int (da_cons (de_var 4) da_nil)) (de_var 1))))) dss_nil) (dss_cons (ds_set (i := 5) sc__law_draw.nd (de_calC C__law_mixed gd (Room.mono hr (by decide)) (by rfl) (aCons_len (aCons_len aNil_len)) (da_cons (de_calC C__law_mixed gd (Room.mono hr (by decide)) (by rfl) (aCons_len (aCons_len aNil_len)) (da_cons (de_ix (de_dget (hu_of hr) (de_var 0) de_str) (de_var 3)) (da_cons (de_var 2) da_nil))) (da_cons (de_bin op_addD de_int (de_var 2)) da_nil)))) (dss_one (ds_ret (de_bin op_modD (de_bin op_fdivD (de_callT cb_int (by rfl) z_int bt_int (da_cons (de_bin op_addD (de_bin op_mulD (de_var 5) de_int) (de_calC C__law_mixed gd (Room.mono hr (by decide)) (by rfl) (aCons_len (aCons_len aNil_len)) (da_cons (de_var 5) (da_cons (de_bin op_addD de_int (de_var 2)) da_nil)))) da_nil)) de_int) (de_var 1))))))))))

abbrev s__law_of : Stmt := top 54
theorem sc__law_of : FnScope ["state", "some"] ["state", "some"] (defScope s__law_of) := ⟨rfl, rfl, rfl, by decide +kernel, rfl, by decide +kernel, by decide +kernel⟩
def dn__law_of : SD := (sRet (eBin ixD (eVar 1) (eCall rn__law_draw (aCons (eVar 0) (aCons (eBlt lenB (aCons (eVar 1) aNil)) aNil)))))
def rn__law_of : List W → Sto → R W := fun ws st => noX (runS 2 dn__law_of ws st)
theorem ok__law_of {P : Program} {w : World} {K : PySem.W.Frag} {mg : Str → Option Value} {base : Heap} {ct : Nat → Value} {f : Addr} {fd : FuncData} (F : Fun K "_law_of" "_law_of" s__law_of f fd) (z_len : mg "len" = none) (C__law_draw : Cal P w K mg base ct "_law_draw" 2 2 rn__law_draw) :
    FnG P w K mg base CX0 3 f fd ["state", "some"] (spG K ct 2 rn__law_of) := by
  refine fn_den0 F sc__law_of (fun cdv A outer s H E gd hr => ?_)
  exact (dss_one (ds_ret (de_ix (de_var 1) (de_calC C__law_draw gd (Room.mono hr (by decide)) (by rfl) (aCons_len (aCons_len aNil_len)) (da_cons (de_var 0) (da_cons (de_callB cb_len (by rfl) z_len bt_len (da_cons (de_var 1) da_nil)) da_nil))))))

abbrev s__law_values : Stmt := top 55
theorem sc__law_values : FnScope ["state", "signs", "word", "k"] ["state"] (defScope s__law_values) := ⟨rfl, rfl, rfl, by decide +kernel, rfl, by decide +kernel, by decide +kernel⟩
def dn__law_values : SD := (sSeq (sSet 1 (eCon (.str "abcxyz0189"))) (sSeq (sSet 2 (eJoin (eCon (.str "")) (eLst (lLc [3] (itRange (aCons (eBin addD (eCon (.int 1)) (eCall rn__law_draw (aCons (eVar 0) (aCons (eCon (.int 5)) aNil)))) aNil)) (gNm 3) bYes (eBin ixD (eVar 1) (eCall rn__law_draw (aCons (eVar 0) (aCons (eCon (.int 10)) aNil)))))))) (sRet (eLst (aLim (aCons (eBin addD (eSlc (eVar 2) pNo (pSo (eCon (.int 5)))) (eCon (.str "1"))) (aCons (eBin addD (eSlc (eVar 2) pNo (pSo (eCon (.int 5)))) (eCon (.str "2"))) (aCons (eBin addD (eSlc (eVar 2) pNo (pSo (eCon (.int 4)))) (eCon (.str "33"))) aNil))))))))
def rn__law_values : List W → Sto → R W := fun ws st => noX (runS 4 dn__law_values ws st)
theorem ok__law_values {P : Program} {w : World} {K : PySem.W.Frag} {mg : Str → Option Value} {base : Heap} {ct : Nat → Value} {f : Addr} {fd : FuncData} (F : Fun K "_law_values" "_law_values" s__law_values f fd) (C__law_draw : Cal P w K mg base ct "_law_draw" 2 2 rn__law_draw) (z_range : mg "range" = none) :
    FnG P w K mg base CX0 3 f fd ["state"] (spG K ct 1 rn__law_values) := by
  refine fn_den0 F sc__law_values (fun cdv A outer s H E gd hr => ?_)
  exact (dss_cons (ds_set (i := 1) sc__law_values.nd de_str) (dss_cons (ds_set (i := 2) sc__law_values.nd (de_join de_str (de_val (df_lc (own := [("k", 3)]) rfl sc__law_values.nd (di_range1 (by rfl) z_range (de_bin op_addD de_int (de_calC C__law_draw gd (Room.mono hr (by decide)) (by rfl) (aCons_len (aCons_len aNil_len)) (da_cons (de_var 0) (da_cons de_int da_nil))))) (blkOk_by (own := [("k", 3)]) (N := ["state", "signs", "word", "k"]) (sc := defScope s__law_values) (by decide +kernel)) (fun _ _ _ _ _ => (dg_name (i := 3) sc__law_values.nd)) (fun _ _ _ _ _ => dts_nil) (fun _ _ _ _ _ => (de_ix (de_var 1) (de_calC C__law_draw gd (Room.mono hr (by decide)) (by rfl) (aCons_len (aCons_len aNil_len)) (da_cons (de_var 0) (da_cons de_int da_nil))))))))) (dss_one (ds_ret (de_val (df_lst (da_cons (de_bin op_addD (de_slc (de_var 2) dp_no (dp_so de_int)) de_str) (da_cons (de_bin op_addD (de_slc (de_var 2) dp_no (dp_so de_int)) de_str) (da_cons (de_bin op_addD (de_slc (de_var 2) dp_no (dp_so de_int)) de_str) da_nil)))))))))

abbrev s__law_two_right : Stmt := top 56
theorem sc__law_two_right : FnScope ["one", "two", "page", "goner", "far", "site", "jar", "heard", "host", "near", "alone", "wide"] ["one", "two"] (defScope s__law_two_right) := ⟨rfl, rfl, rfl, by decide +kernel, rfl, by decide +kernel, by decide +kernel⟩
noncomputable def dn__law_two_right (w : World) : SD := (sSeq (sAsg (eTup (aCons (eTup (aCons (eCon (.str "www")) (aCons (eCon (.str "b")) (aCons (eCon (.str "c")) aNil)))) (aCons (eTup (aCons (eCon (.str "b")) (aCons (eCon (.str "c")) aNil))) aNil))) (gTp 2 (gsCons (gNm 8) (gsCons (gNm 9) gsNil)))) (sSeq (sPar 10 11 (aCons (eTup (aCons (eCon (.str "id")) (aCons (eVar 8) (aCons (eTup aNil) (aCons (eCon (.bl true)) aNil))))) (aCons (eTup (aCons (eCon (.str "id")) (aCons (eVar 8) (aCons (eTup aNil) (aCons (eCon (.bl false)) aNil))))) aNil))) (sSeq (sSet 2 (eTup (aCons (eTup (aCons (eVar 8) (aCons (eTup (aCons (eCon (.str "p")) aNil)) (aCons (eCon (.bl true)) aNil)))) (aCons (eTup (aCons (eTup (aCons (eCon (.str "id")) (aCons (eVar 0) (aCons (eCon .non) (aCons (eCon .non) (aCons (eCon (.bl false)) aNil)))))) (aCons (eTup (aCons (eCon (.str "id")) (aCons (eVar 1) (aCons (eVar 8) (aCons (eCon .non) (aCons (eCon (.bl false)) aNil)))))) aNil))) aNil)))) (sSeq (sSet 3 (eTup (aCons (eTup (aCons (eVar 8) (aCons (eTup aNil) (aCons (eCon (.bl false)) aNil)))) (aCons (eTup (aCons (eTup (aCons (eCon (.str "id")) (aCons (eCon .non) (aCons (eCon .non) (aCons (eCon .non) (aCons (eCon (.bl false)) aNil)))))) aNil)) aNil)))) (sSeq (sSet 4 (eTup (aCons (eTup (aCons (eVar 9) (aCons (eTup aNil) (aCons (eCon (.bl false)) aNil)))) (aCons (eTup (aCons (eTup (aCons (eCon (.str "id")) (aCons (eCon .non) (aCons (eVar 9) (aCons (eCon .non) (aCons (eCon (.bl false)) aNil)))))) (aCons (eTup (aCons (eCon (.str "id")) (aCons (eVar 0) (aCons (eVar 9) (aCons (eCon .non) (aCons (eCon (.bl false)) aNil)))))) aNil))) aNil)))) (sSeq (sSet 5 (eTup (aCons (eVar 2) (aCons (eVar 3) (aCons (eVar 4) aNil))))) (sSeq (sIf (tVal (eBin neD (eCall rn_behind (aCons (eVar 5) (aCons (eTup (aCons (eCon (.int 0)) aNil)) aNil))) (eTup (aCons (eTup (aCons (eVar 10) (aCons (eVar 0) (aCons (eCon (.bl false)) aNil)))) (aCons (eTup (aCons (eVar 11) (aCons (eVar 1) (aCons (eCon (.bl false)) aNil)))) aNil))))) (sRet (eCon (.bl false))) sNil) (sSeq (sIf (bOr (tVal (eBin neD (eCall rn_behind (aCons (eVar 5) (aCons (eTup (aCons (eCon (.int 0)) (aCons (eCon (.int 1)) aNil))) aNil))) (eTup (aCons (eTup (aCons (eVar 11) (aCons (eVar 1) (aCons (eCon (.bl false)) aNil)))) aNil)))) (tVal (eBin neD (eCall rn_behind (aCons (eVar 5) (aCons (eTup (aCons (eCon (.int 1)) (aCons (eCon (.int 0)) (aCons (eCon (.int 1)) (aCons (eCon (.int 1)) aNil))))) aNil))) (eTup (aCons (eTup (aCons (eVar 11) (aCons (eVar 1) (aCons (eCon (.bl false)) aNil)))) aNil))))) (sRet (eCon (.bl false))) sNil) (sSeq (sIf (tVal (eBin neD (eCall rn_behind (aCons (eVar 5) (aCons (eTup (aCons (eCon (.int 0)) (aCons (eCon (.int 2)) aNil))) aNil))) (eTup (aCons (eTup (aCons (eVar 10) (aCons (eVar 0) (aCons (eCon (.bl false)) aNil)))) (aCons (eTup (aCons (eVar 11) (aCons (eVar 1) (aCons (eCon (.bl false)) aNil)))) (aCons (eTup (aCons (eTup (aCons (eCon (.str "id")) (aCons (eVar 9) (aCons (eTup aNil) (aCons (eCon (.bl false)) aNil))))) (aCons (eVar 0) (aCons (eCon (.bl false)) aNil)))) aNil)))))) (sRet (eCon (.bl false))) sNil) (sSeq (sSet 6 (eCall rn_behind (aCons (eVar 5) (aCons (eTup (aCons (eCon (.int 2)) (aCons (eCon (.int 0)) aNil))) aNil)))) (sSeq (sIf (tVal (eBin neD (eVar 6) (eTup (aCons (eTup (aCons (eTup (aCons (eCon (.str "id")) (aCons (eVar 9) (aCons (eTup aNil) (aCons (eCon (.bl false)) aNil))))) (aCons (eVar 0) (aCons (eCon (.bl false)) aNil)))) (aCons (eTup (aCons (eVar 10) (aCons (eVar 0) (aCons (eCon (.bl false)) aNil)))) (aCons (eTup (aCons (eVar 11) (aCons (eVar 1) (aCons (eCon (.bl false)) aNil)))) aNil)))))) (sRet (eCon (.bl false))) sNil) (sSeq (sSet 7 (eLst (aLim (aCons (eCall (rn_sent w) (aCons (eVar 6) (aCons (eTup (aCons (eVar 8) (aCons (eTup aNil) (aCons (eCon (.bl true)) aNil)))) aNil))) (aCons (eCall (rn_sent w) (aCons (eVar 6) (aCons (eTup (aCons (eBin addD (eTup (aCons (eCon (.str "x")) aNil)) (eVar 8)) (aCons (eTup aNil) (aCons (eCon (.bl false)) aNil)))) aNil))) (aCons (eCall (rn_sent w) (aCons (eVar 6) (aCons (eTup (aCons (eVar 9) (aCons (eTup (aCons (eCon (.str "q")) aNil)) (aCons (eCon (.bl false)) aNil)))) aNil))) aNil)))))) (sSeq (sIf (tVal (eBin neD (eVar 7) (eLst (aLim (aCons (eTup (aCons (eTup (aCons (eCon (.str "id")) (aCons (eVar 0) aNil))) (aCons (eTup (aCons (eCon (.str "id")) (aCons (eVar 0) aNil))) (aCons (eTup (aCons (eCon (.str "id")) (aCons (eVar 1) aNil))) aNil)))) (aCons (eTup (aCons (eTup (aCons (eCon (.str "id")) (aCons (eVar 0) aNil))) (aCons (eTup (aCons (eCon (.str "id")) (aCons (eVar 1) aNil))) aNil))) (aCons (eTup (aCons (eTup (aCons (eCon (.str "id")) (aCons (eVar 0) aNil))) aNil)) aNil))))))) (sRet (eCon (.bl false))) sNil) (sRet (eAnd (eBin eqD (eCall (rn_sent w) (aCons (eVar 6) (aCons (eTup (aCons (eTup (aCons (eCon (.str "b")) (aCons (eCon (.str "d")) aNil))) (aCons (eTup aNil) (aCons (eCon (.bl true)) aNil)))) aNil))) (eTup aNil)) (eBin isD (eCall (rn_read w) (aCons (eVar 6) (aCons (eTup (aCons (eTup (aCons (eCon (.str "b")) (aCons (eCon (.str "d")) aNil))) (aCons (eTup aNil) (aCons (eCon (.bl true)) aNil)))) (aCons (eCon (.str "id")) aNil)))) (eCon .non)))))))))))))))))
noncomputable def rn__law_two_right (w : World) : List W → Sto → R W := fun ws st => noX (runS 12 (dn__law_two_right w) ws st)
theorem ok__law_two_right {P : Program} {w : World} {K : PySem.W.Frag} {mg : Str → Option Value} {base : Heap} {ct : Nat → Value} {f : Addr} {fd : FuncData} (F : Fun K "_law_two_right" "_law_two_right" s__law_two_right f fd) (C_behind : Cal P w K mg base ct "behind" 2 6 rn_behind) (C_sent : Cal P w K mg base ct "sent" 2 7 (rn_sent w)) (C_read : Cal P w K mg base ct "read" 3 7 (rn_read w)) :
    FnG P w K mg base CX0 8 f fd ["one", "two"] (spG K ct 2 (rn__law_two_right w)) := by
  refine fn_den0 F sc__law_two_right (fun cdv A outer s H E gd hr => ?_)
  exact (dss_cons (ds_asg (de_tup (da_cons (de_tup (da_cons de_str (da_cons de_str (da_cons de_str da_nil)))) (da_cons (de_tup (da_cons de_str (da_cons de_str da_nil))) da_nil))) (dg_tup (n := 2) rfl (dgs_cons (dg_name (i := 8) sc__law_two_right.nd) (dgs_cons (dg_name (i := 9) sc__law_two_right.nd) dgs_nil)))) (dss_cons (ds_par (i := 10) (j := 11) rfl sc__law_two_right.nd rfl rfl (by decide) rfl rfl (da_cons (de_tup (da_cons de_str (da_cons (de_var 8) (da_cons (de_tup da_nil) (da_cons de_bl da_nil))))) (da_cons (de_tup (da_cons de_str (da_cons (de_var 8) (da_cons (de_tup da_nil) (da_cons de_bl da_nil))))) da_nil)) rfl) (dss_cons (ds_set (i := 2) sc__law_two_right.nd (de_tup (da_cons (de_tup (da_cons (de_var 8) (da_cons (de_tup (da_cons de_str da_nil)) (da_cons de_bl da_nil)))) (da_cons (de_tup (da_cons (de_tup (da_cons de_str (da_cons (de_var 0) (da_cons de_non (da_cons de_non (da_cons de_bl da_nil)))))) (da_cons (de_tup (da_cons de_str (da_cons (de_var 1) (da_cons (de_var 8) (da_cons de_non (da_cons de_bl da_nil)))))) da_nil))) da_nil)))) (dss_cons (ds_set (i := 3) sc__law_two_right.nd (de_tup (da_cons (de_tup (da_cons (de_var 8) (da_cons (de_tup da_nil) (da_cons de_bl da_nil)))) (da_cons (de_tup (da_cons (de_tup (da_cons de_str (da_cons de_non (da_cons de_non (da_cons de_non (da_cons de_bl da_nil)))))) da_nil)) da_nil)))) (dss_cons (ds_set (i := 4) sc__law_two_right.nd (de_tup (da_cons (de_tup (da_cons (de_var 9) (da_cons (de_tup da_nil) (da_cons de_bl da_nil)))) (da_cons (de_tup (da_cons (de_tup (da_cons de_str (da_cons de_non (da_cons (de_var 9) (da_cons de_non (da_cons de_bl da_nil)))))) (da_cons (de_tup (da_cons de_str (da_cons (de_var 0) (da_cons (de_var 9) (da_cons de_non (da_cons de_bl da_nil)))))) da_nil))) da_nil)))) (dss_cons (ds_set (i := 5) sc__law_two_right.nd (de_tup (da_cons (de_var 2) (da_cons (de_var 3) (da_cons (de_var 4) da_nil))))) (dss_cons (ds_if (dt_cmp (op_neDD (hu64 hr)) (de_calC C_behind gd (Room.mono hr (by decide)) (by rfl) (aCons_len (aCons_len aNil_len)) (da_cons (de_var 5) (da_cons (de_tup (da_cons de_int da_nil)) da_nil))) (de_tup (da_cons (de_tup (da_cons (de_var 10) (da_cons (de_var 0) (da_cons de_bl da_nil)))) (da_cons (de_tup (da_cons (de_var 11) (da_cons (de_var 1) (da_cons de_bl da_nil)))) da_nil)))) (dss_one (ds_ret de_bl)) dss_nil) (dss_cons (ds_if (PW.pt (dw_or (dt_cmp (op_neDD (hu64 hr)) (de_calC C_behind gd (Room.mono hr (by decide)) (by rfl) (aCons_len (aCons_len aNil_len)) (da_cons (de_var 5) (da_cons (de_tup (da_cons de_int (da_cons de_int da_nil))) da_nil))) (de_tup (da_cons (de_tup (da_cons (de_var 11) (da_cons (de_var 1) (da_cons de_bl da_nil)))) da_nil))) (dw_or1 (dt_cmp (op_neDD (hu64 hr)) (de_calC C_behind gd (Room.mono hr (by decide)) (by rfl) (aCons_len (aCons_len aNil_len)) (da_cons (de_var 5) (da_cons (de_tup (da_cons de_int (da_cons de_int (da_cons de_int (da_cons de_int da_nil))))) da_nil))) (de_tup (da_cons (de_tup (da_cons (de_var 11) (da_cons (de_var 1) (da_cons de_bl da_nil)))) da_nil)))))) (dss_one (ds_ret de_bl)) dss_nil) (dss_cons (ds_if (dt_cmp (op_neDD (hu64 hr)) (de_calC C_behind gd (Room.mono hr (by decide)) (by rfl) (aCons_len (aCons_len aNil_len)) (da_cons (de_var 5) (da_cons (de_tup (da_cons de_int (da_cons de_int da_nil))) da_nil))) (de_tup (da_cons (de_tup (da_cons (de_var 10) (da_cons (de_var 0) (da_cons de_bl da_nil)))) (da_cons (de_tup (da_cons (de_var 11) (da_cons (de_var 1) (da_cons de_bl da_nil)))) (da_cons (de_tup (da_cons (de_tup (da_cons de_str (da_cons (de_var 9) (da_cons (de_tup da_nil) (da_cons de_bl da_nil))))) (da_cons (de_var 0) (da_cons de_bl da_nil)))) da_nil))))) (dss_one (ds_ret de_bl)) dss_nil) (dss_cons (ds_set (i := 6) sc__law_two_right.nd (de_calC C_behind gd (Room.mono hr (by decide)) (by rfl) (aCons_len (aCons_len aNil_len)) (da_cons (de_var 5) (da_cons (de_tup (da_cons de_int (da_cons de_int da_nil))) da_nil)))) (dss_cons (ds_if (dt_cmp (op_neDD (hu64 hr)) (de_var 6) (de_tup (da_cons (de_tup (da_cons (de_tup (da_cons de_str (da_cons (de_var 9) (da_cons (de_tup da_nil) (da_cons de_bl da_nil))))) (da_cons (de_var 0) (da_cons de_bl da_nil)))) (da_cons (de_tup (da_cons (de_var 10) (da_cons (de_var 0) (da_cons de_bl da_nil)))) (da_cons (de_tup (da_cons (de_var 11) (da_cons (de_var 1) (da_cons de_bl da_nil)))) da_nil))))) (dss_one (ds_ret de_bl)) dss_nil) (dss_cons (ds_set (i := 7) sc__law_two_right.nd (de_val (df_lst (da_cons (de_calC C_sent gd (Room.mono hr (by decide)) (by rfl) (aCons_len (aCons_len aNil_len)) (da_cons (de_var 6) (da_cons (de_tup (da_cons (de_var 8) (da_cons (de_tup da_nil) (da_cons de_bl da_nil)))) da_nil))) (da_cons (de_calC C_sent gd (Room.mono hr (by decide)) (by rfl) (aCons_len (aCons_len aNil_len)) (da_cons (de_var 6) (da_cons (de_tup (da_cons (de_bin op_addD (de_tup (da_cons de_str da_nil)) (de_var 8)) (da_cons (de_tup da_nil) (da_cons de_bl da_nil)))) da_nil))) (da_cons (de_calC C_sent gd (Room.mono hr (by decide)) (by rfl) (aCons_len (aCons_len aNil_len)) (da_cons (de_var 6) (da_cons (de_tup (da_cons (de_var 9) (da_cons (de_tup (da_cons de_str da_nil)) (da_cons de_bl da_nil)))) da_nil))) da_nil)))))) (dss_cons (ds_if (dt_cmp (op_neDD (hu64 hr)) (de_var 7) (de_val (df_lst (da_cons (de_tup (da_cons (de_tup (da_cons de_str (da_cons (de_var 0) da_nil))) (da_cons (de_tup (da_cons de_str (da_cons (de_var 0) da_nil))) (da_cons (de_tup (da_cons de_str (da_cons (de_var 1) da_nil))) da_nil)))) (da_cons (de_tup (da_cons (de_tup (da_cons de_str (da_cons (de_var 0) da_nil))) (da_cons (de_tup (da_cons de_str (da_cons (de_var 1) da_nil))) da_nil))) (da_cons (de_tup (da_cons (de_tup (da_cons de_str (da_cons (de_var 0) da_nil))) da_nil)) da_nil)))))) (dss_one (ds_ret de_bl)) dss_nil) (dss_one (ds_ret (de_and (de_cmp (op_eqDD (hu64 hr)) (de_calC C_sent gd (Room.mono hr (by decide)) (by rfl) (aCons_len (aCons_len aNil_len)) (da_cons (de_var 6) (da_cons (de_tup (da_cons (de_tup (da_cons de_str (da_cons de_str da_nil))) (da_cons (de_tup da_nil) (da_cons de_bl da_nil)))) da_nil))) (de_tup da_nil)) (de_one (de_cmp op_isDD (de_calC C_read gd (Room.mono hr (by decide)) (by rfl) (aCons_len (aCons_len (aCons_len aNil_len))) (da_cons (de_var 6) (da_cons (de_tup (da_cons (de_tup (da_cons de_str (da_cons de_str da_nil))) (da_cons (de_tup da_nil) (da_cons de_bl da_nil)))) (da_cons de_str da_nil)))) de_non))))))))))))))))))

abbrev s__law_ages_right : Stmt := top 57
theorem sc__law_ages_right : FnScope ["one", "two", "three", "host", "keys", "first", "second", "goner", "site", "due"] ["one", "two", "three"] (defScope s__law_ages_right) := ⟨rfl, rfl, rfl, by decide +kernel, rfl, by decide +kernel, by decide +kernel⟩
noncomputable def dn__law_ages_right (w : World) : SD := (sSeq (sSet 3 (eTup (aCons (eCon (.str "a")) (aCons (eCon (.str "b")) (aCons (eCon (.str "c")) aNil))))) (sSeq (sSet 4 (eLst (aLim (aCons (eTup (aCons (eCon (.str "id")) (aCons (eVar 3) (aCons (eTup aNil) (aCons (eCon (.bl true)) aNil))))) (aCons (eTup (aCons (eCon (.str "id")) (aCons (eVar 3) (aCons (eTup aNil) (aCons (eCon (.bl false)) aNil))))) (aCons (eTup (aCons (eCon (.str "id")) (aCons (eSlc (eVar 3) (pSo (eCon (.int 1))) pNo) (aCons (eTup aNil) (aCons (eCon (.bl false)) aNil))))) aNil)))))) (sSeq (sSet 5 (eTup (aCons (eTup (aCons (eVar 3) (aCons (eTup aNil) (aCons (eCon (.bl true)) aNil)))) (aCons (eTup (aCons (eTup (aCons (eCon (.str "id")) (aCons (eVar 0) (aCons (eCon .non) (aCons (eCon .non) (aCons (eCon (.bl false)) aNil)))))) (aCons (eTup (aCons (eCon (.str "id")) (aCons (eVar 0) (aCons (eVar 3) (aCons (eCon .non) (aCons (eCon (.bl false)) aNil)))))) aNil))) aNil)))) (sSeq (sSet 6 (eTup (aCons (eTup (aCons (eVar 3) (aCons (eTup aNil) (aCons (eCon (.bl true)) aNil)))) (aCons (eTup (aCons (eTup (aCons (eCon (.str "id")) (aCons (eVar 1) (aCons (eSlc (eVar 3) (pSo (eCon (.int 1))) pNo) (aCons (eCon .non) (aCons (eCon (.bl false)) aNil)))))) (aCons (eTup (aCons (eCon (.str "id")) (aCons (eVar 2) (aCons (eCon .non) (aCons (eCon .non) (aCons (eCon (.bl true)) aNil)))))) aNil))) aNil)))) (sSeq (sSet 7 (eTup (aCons (eTup (aCons (eVar 3) (aCons (eTup aNil) (aCons (eCon (.bl true)) aNil)))) (aCons (eTup (aCons (eTup (aCons (eCon (.str "id")) (aCons (eCon .non) (aCons (eCon .non) (aCons (eCon .non) (aCons (eCon (.bl false)) aNil)))))) (aCons (eTup (aCons (eCon (.str "id")) (aCons (eVar 2) (aCons (eCon .non) (aCons (eCon .non) (aCons (eCon (.bl false)) aNil)))))) aNil))) aNil)))) (sSeq (sSet 8 (eTup (aCons (eVar 5) (aCons (eVar 6) (aCons (eVar 7) aNil))))) (sSeq (sSet 9 (eTup (aCons (eTup (aCons (eBin ixD (eVar 4) (eCon (.int 0))) (aCons (eVar 2) (aCons (eCon (.bl true)) aNil)))) (aCons (eTup (aCons (eBin ixD (eVar 4) (eCon (.int 1))) (aCons (eVar 0) (aCons (eCon (.bl false)) aNil)))) (aCons (eTup (aCons (eBin ixD (eVar 4) (eCon (.int 2))) (aCons (eVar 1) (aCons (eCon (.bl false)) aNil)))) aNil))))) (sSeq (sIf (bOr (tVal (eBin neD (eCall rn_behind (aCons (eVar 8) (aCons (eTup (aCons (eCon (.int 0)) (aCons (eCon (.int 1)) aNil))) aNil))) (eVar 9))) (tVal (eBin neD (eCall rn_behind (aCons (eVar 8) (aCons (eTup (aCons (eCon (.int 0)) (aCons (eCon (.int 1)) (aCons (eCon (.int 1)) aNil)))) aNil))) (eVar 9)))) (sRet (eCon (.bl false))) sNil) (sSeq (sIf (tVal (eBin neD (eCall rn_behind (aCons (eVar 8) (aCons (eTup (aCons (eCon (.int 1)) (aCons (eCon (.int 0)) aNil))) aNil))) (eTup (aCons (eTup (aCons (eBin ixD (eVar 4) (eCon (.int 2))) (aCons (eVar 1) (aCons (eCon (.bl false)) aNil)))) (aCons (eTup (aCons (eBin ixD (eVar 4) (eCon (.int 0))) (aCons (eVar 0) (aCons (eCon (.bl false)) aNil)))) (aCons (eTup (aCons (eBin ixD (eVar 4) (eCon (.int 1))) (aCons (eVar 0) (aCons (eCon (.bl false)) aNil)))) aNil)))))) (sRet (eCon (.bl false))) sNil) (sSeq (sSet 9 (eTup (aCons (eTup (aCons (eBin ixD (eVar 4) (eCon (.int 1))) (aCons (eVar 0) (aCons (eCon (.bl false)) aNil)))) (aCons (eTup (aCons (eBin ixD (eVar 4) (eCon (.int 2))) (aCons (eVar 1) (aCons (eCon (.bl false)) aNil)))) (aCons (eTup (aCons (eBin ixD (eVar 4) (eCon (.int 0))) (aCons (eVar 2) (aCons (eCon (.bl false)) aNil)))) aNil))))) (sSeq (sIf (bOr (tVal (eBin neD (eCall rn_behind (aCons (eVar 8) (aCons (eTup (aCons (eCon (.int 0)) (aCons (eCon (.int 1)) (aCons (eCon (.int 2)) aNil)))) aNil))) (eVar 9))) (tVal (eBin neD (eCall rn_behind (aCons (eVar 8) (aCons (eTup (aCons (eCon (.int 0)) (aCons (eCon (.int 1)) (aCons (eCon (.int 2)) (aCons (eCon (.int 2)) aNil))))) aNil))) (eVar 9)))) (sRet (eCon (.bl false))) sNil) (sSeq (sIf (tVal (eBin neD (eCall (rn_sent w) (aCons (eVar 9) (aCons (eTup (aCons (eVar 3) (aCons (eTup (aCons (eCon (.str "q")) aNil)) (aCons (eCon (.bl false)) aNil)))) aNil))) (eTup (aCons (eTup (aCons (eCon (.str "id")) (aCons (eVar 0) aNil))) (aCons (eTup (aCons (eCon (.str "id")) (aCons (eVar 1) aNil))) (aCons (eTup (aCons (eCon (.str "id")) (aCons (eVar 2) aNil))) aNil)))))) (sRet (eCon (.bl false))) sNil) (sRet (eAnd (eBin eqD (eCall (rn_read w) (aCons (eVar 9) (aCons (eTup (aCons (eVar 3) (aCons (eTup aNil) (aCons (eCon (.bl true)) aNil)))) (aCons (eCon (.str "id")) aNil)))) (eVar 0)) (eBin eqD (eCall (rn_read w) (aCons (eVar 9) (aCons (eTup (aCons (eSlc (eVar 3) (pSo (eCon (.int 1))) pNo) (aCons (eTup aNil) (aCons (eCon (.bl true)) aNil)))) (aCons (eCon (.str "id")) aNil)))) (eVar 1))))))))))))))))
noncomputable def rn__law_ages_right (w : World) : List W → Sto → R W := fun ws st => noX (runS 10 (dn__law_ages_right w) ws st)
theorem ok__law_ages_right {P : Program} {w : World} {K : PySem.W.Frag} {mg : Str → Option Value} {base : Heap} {ct : Nat → Value} {f : Addr} {fd : FuncData} (F : Fun K "_law_ages_right" "_law_ages_right" s__law_ages_right f fd) (C_behind : Cal P w K mg base ct "behind" 2 6 rn_behind) (C_sent : Cal P w K mg base ct "sent" 2 7 (rn_sent w)) (C_read : Cal P w K mg base ct "read" 3 7 (rn_read w)) :
    FnG P w K mg base CX0 8 f fd ["one", "two", "three"] (spG K ct 3 (rn__law_ages_right w)) := by
  refine fn_den0 F sc__law_ages_right (fun cdv A outer s H E gd hr => ?_)
  exact (dss_cons (ds_set (i := 3) sc__law_ages_right.nd (de_tup (da_cons de_str (da_cons de_str (da_cons de_str da_nil))))) (dss_cons (ds_set (i := 4) sc__law_ages_right.nd (de_val (df_lst (da_cons (de_tup (da_cons de_str (da_cons (de_var 3) (da_cons (de_tup da_nil) (da_cons de_bl da_nil))))) (da_cons (de_tup (da_cons de_str (da_cons (de_var 3) (da_cons (de_tup da_nil) (da_cons de_bl da_nil))))) (da_cons (de_tup (da_cons de_str (da_cons (de_slc (de_var 3) (dp_so de_int) dp_no) (da_cons (de_tup da_nil) (da_cons de_bl da_nil))))) da_nil)))))) (dss_cons (ds_set (i := 5) sc__law_ages_right.nd (de_tup (da_cons (de_tup (da_cons (de_var 3) (da_cons (de_tup da_nil) (da_cons de_bl da_nil)))) (da_cons (de_tup (da_cons (de_tup (da_cons de_str (da_cons (de_var 0) (da_cons de_non (da_cons de_non (da_cons de_bl da_nil)))))) (da_cons (de_tup (da_cons de_str (da_cons (de_var 0) (da_cons (de_var 3) (da_cons de_non (da_cons de_bl da_nil)))))) da_nil))) da_nil)))) (dss_cons (ds_set (i := 6) sc__law_ages_right.nd (de_tup (da_cons (de_tup (da_cons (de_var 3) (da_cons (de_tup da_nil) (da_cons de_bl da_nil)))) (da_cons (de_tup (da_cons (de_tup (da_cons de_str (da_cons (de_var 1) (da_cons (de_slc (de_var 3) (dp_so de_int) dp_no) (da_cons de_non (da_cons de_bl da_nil)))))) (da_cons (de_tup (da_cons de_str (da_cons (de_var 2) (da_cons de_non (da_cons de_non (da_cons de_bl da_nil)))))) da_nil))) da_nil)))) (dss_cons (ds_set (i := 7) sc__law_ages_right.nd (de_tup (da_cons (de_tup (da_cons (de_var 3) (da_cons (de_tup da_nil) (da_cons de_bl da_nil)))) (da_cons (de_tup (da_cons (de_tup (da_cons de_str (da_cons de_non (da_cons de_non (da_cons de_non (da_cons de_bl da_nil)))))) (da_cons (de_tup (da_cons de_str (da_cons (de_var 2) (da_cons de_non (da_cons de_non (da_cons de_bl da_nil)))))) da_nil))) da_nil)))) (dss_cons (ds_set (i := 8) sc__law_ages_right.nd (de_tup (da_cons (de_var 5) (da_cons (de_var 6) (da_cons (de_var 7) da_nil))))) (dss_cons (ds_set (i := 9) sc__law_ages_right.nd (de_tup (da_cons (de_tup (da_cons (de_ix (de_var 4) de_int) (da_cons (de_var 2) (da_cons de_bl da_nil)))) (da_cons (de_tup (da_cons (de_ix (de_var 4) de_int) (da_cons (de_var 0) (da_cons de_bl da_nil)))) (da_cons (de_tup (da_cons (de_ix (de_var 4) de_int) (da_cons (de_var 1) (da_cons de_bl da_nil)))) da_nil))))) (dss_cons (ds_if (PW.pt (dw_or (dt_cmp (op_neDD (hu64 hr)) (de_calC C_behind gd (Room.mono hr (by decide)) (by rfl) (aCons_len (aCons_len aNil_len)) (da_cons (de_var 8) (da_cons (de_tup (da_cons de_int (da_cons de_int da_nil))) da_nil))) (de_var 9)) (dw_or1 (dt_cmp (op_neDD (hu64 hr)) (de_calC C_behind gd (Room.mono hr (by decide)) (by rfl) (aCons_len (aCons_len aNil_len)) (da_cons (de_var 8) (da_cons (de_tup (da_cons de_int (da_cons de_int (da_cons de_int da_nil)))) da_nil))) (de_var 9))))) (dss_one (ds_ret de_bl)) dss_nil) (dss_cons (ds_if (dt_cmp (op_neDD (hu64 hr)) (de_calC C_behind gd (Room.mono hr (by decide)) (by rfl) (aCons_len (aCons_len aNil_len)) (da_cons (de_var 8) (da_cons (de_tup (da_cons de_int (da_cons de_int da_nil))) da_nil))) (de_tup (da_cons (de_tup (da_cons (de_ix (de_var 4) de_int) (da_cons (de_var 1) (da_cons de_bl da_nil)))) (da_cons (de_tup (da_cons (de_ix (de_var 4) de_int) (da_cons (de_var 0) (da_cons de_bl da_nil)))) (da_cons (de_tup (da_cons (de_ix (de_var 4) de_int) (da_cons (de_var 0) (da_cons de_bl da_nil)))) da_nil))))) (dss_one (ds_ret de_bl)) dss_nil) (dss_cons (ds_set (i := 9) sc__law_ages_right.nd (de_tup (da_cons (de_tup (da_cons (de_ix (de_var 4) de_int) (da_cons (de_var 0) (da_cons de_bl da_nil)))) (da_cons (de_tup (da_cons (de_ix (de_var 4) de_int) (da_cons (de_var 1) (da_cons de_bl da_nil)))) (da_cons (de_tup (da_cons (de_ix (de_var 4) de_int) (da_cons (de_var 2) (da_cons de_bl da_nil)))) da_nil))))) (dss_cons (ds_if (PW.pt (dw_or (dt_cmp (op_neDD (hu64 hr)) (de_calC C_behind gd (Room.mono hr (by decide)) (by rfl) (aCons_len (aCons_len aNil_len)) (da_cons (de_var 8) (da_cons (de_tup (da_cons de_int (da_cons de_int (da_cons de_int da_nil)))) da_nil))) (de_var 9)) (dw_or1 (dt_cmp (op_neDD (hu64 hr)) (de_calC C_behind gd (Room.mono hr (by decide)) (by rfl) (aCons_len (aCons_len aNil_len)) (da_cons (de_var 8) (da_cons (de_tup (da_cons de_int (da_cons de_int (da_cons de_int (da_cons de_int da_nil))))) da_nil))) (de_var 9))))) (dss_one (ds_ret de_bl)) dss_nil) (dss_cons (ds_if (dt_cmp (op_neDD (hu64 hr)) (de_calC C_sent gd (Room.mono hr (by decide)) (by rfl) (aCons_len (aCons_len aNil_len)) (da_cons (de_var 9) (da_cons (de_tup (da_cons (de_var 3) (da_cons (de_tup (da_cons de_str da_nil)) (da_cons de_bl da_nil)))) da_nil))) (de_tup (da_cons (de_tup (da_cons de_str (da_cons (de_var 0) da_nil))) (da_cons (de_tup (da_cons de_str (da_cons (de_var 1) da_nil))) (da_cons (de_tup (da_cons de_str (da_cons (de_var 2) da_nil))) da_nil))))) (dss_one (ds_ret de_bl)) dss_nil) (dss_one (ds_ret (de_and (de_cmp (op_eqDD (hu64 hr)) (de_calC C_read gd (Room.mono hr (by decide)) (by rfl) (aCons_len (aCons_len (aCons_len aNil_len))) (da_cons (de_var 9) (da_cons (de_tup (da_cons (de_var 3) (da_cons (de_tup da_nil) (da_cons de_bl da_nil)))) (da_cons de_str da_nil)))) (de_var 0)) (de_one (de_cmp (op_eqDD (hu64 hr)) (de_calC C_read gd (Room.mono hr (by decide)) (by rfl) (aCons_len (aCons_len (aCons_len aNil_len))) (da_cons (de_var 9) (da_cons (de_tup (da_cons (de_slc (de_var 3) (dp_so de_int) dp_no) (da_cons (de_tup da_nil) (da_cons de_bl da_nil)))) (da_cons de_str da_nil)))) (de_var 1))))))))))))))))))

abbrev s__law_folders_right : Stmt := top 58
theorem sc__law_folders_right : FnScope ["one", "two", "three", "host", "own", "page", "jar", "due", "heard"] ["one", "two", "three"] (defScope s__law_folders_right) := ⟨rfl, rfl, rfl, by decide +kernel, rfl, by decide +kernel, by decide +kernel⟩
noncomputable def dn__law_folders_right (w : World) : SD := (sSeq (sSet 3 (eTup (aCons (eCon (.str "b")) (aCons (eCon (.str "c")) aNil)))) (sSeq (sSet 4 (eTup (aCons (eTup (aCons (eCon (.str "id")) (aCons (eVar 0) (aCons (eCon .non) (aCons (eTup aNil) (aCons (eCon (.bl false)) aNil)))))) (aCons (eTup (aCons (eCon (.str "id")) (aCons (eVar 1) (aCons (eVar 3) (aCons (eTup (aCons (eCon (.str "p")) aNil)) (aCons (eCon (.bl false)) aNil)))))) (aCons (eTup (aCons (eCon (.str "id")) (aCons (eVar 2) (aCons (eCon .non) (aCons (eTup (aCons (eCon (.str "p")) (aCons (eCon (.str "q")) aNil))) (aCons (eCon (.bl true)) aNil)))))) aNil))))) (sSeq (sSet 5 (eTup (aCons (eTup (aCons (eVar 3) (aCons (eTup (aCons (eCon (.str "p")) (aCons (eCon (.str "q")) (aCons (eCon (.str "r")) aNil)))) (aCons (eCon (.bl true)) aNil)))) (aCons (eBin addD (eVar 4) (eTup (aCons (eTup (aCons (eCon (.str "a")) (aCons (eVar 0) (aCons (eCon .non) (aCons (eCon .non) (aCons (eCon (.bl false)) aNil)))))) (aCons (eTup (aCons (eCon (.str "id")) (aCons (eVar 1) (aCons (eCon .non) (aCons (eTup (aCons (eCon (.str "q")) aNil)) (aCons (eCon (.bl false)) aNil)))))) aNil)))) aNil)))) (sSeq (sSet 6 (eCall rn_behind (aCons (eTup (aCons (eVar 5) aNil)) (aCons (eTup (aCons (eCon (.int 0)) aNil)) aNil)))) (sSeq (sSet 7 (eTup (aCons (eTup (aCons (eTup (aCons (eCon (.str "a")) (aCons (eVar 3) (aCons (eTup (aCons (eCon (.str "p")) (aCons (eCon (.str "q")) aNil))) (aCons (eCon (.bl true)) aNil))))) (aCons (eVar 0) (aCons (eCon (.bl false)) aNil)))) (aCons (eTup (aCons (eTup (aCons (eCon (.str "id")) (aCons (eVar 3) (aCons (eTup (aCons (eCon (.str "p")) (aCons (eCon (.str "q")) aNil))) (aCons (eCon (.bl true)) aNil))))) (aCons (eVar 2) (aCons (eCon (.bl true)) aNil)))) aNil)))) (sSeq (sSet 7 (eBin addD (eVar 7) (eTup (aCons (eTup (aCons (eTup (aCons (eCon (.str "id")) (aCons (eVar 3) (aCons (eTup (aCons (eCon (.str "p")) aNil)) (aCons (eCon (.bl false)) aNil))))) (aCons (eVar 1) (aCons (eCon (.bl false)) aNil)))) (aCons (eTup (aCons (eTup (aCons (eCon (.str "id")) (aCons (eVar 3) (aCons (eTup (aCons (eCon (.str "q")) aNil)) (aCons (eCon (.bl true)) aNil))))) (aCons (eVar 1) (aCons (eCon (.bl false)) aNil)))) aNil))))) (sSeq (sIf (tVal (eBin neD (eVar 6) (eBin addD (eVar 7) (eTup (aCons (eTup (aCons (eTup (aCons (eCon (.str "id")) (aCons (eVar 3) (aCons (eTup aNil) (aCons (eCon (.bl true)) aNil))))) (aCons (eVar 0) (aCons (eCon (.bl false)) aNil)))) aNil))))) (sRet (eCon (.bl false))) sNil) (sSeq (sSet 8 (eNew (aLim (aCons (eCall (rn_sent w) (aCons (eVar 6) (aCons (eTup (aCons (eVar 3) (aCons (eTup (aCons (eCon (.str "p")) (aCons (eCon (.str "q")) aNil))) (aCons (eCon (.bl true)) aNil)))) aNil))) (aCons (eCall (rn_sent w) (aCons (eVar 6) (aCons (eTup (aCons (eVar 3) (aCons (eTup (aCons (eCon (.str "p")) (aCons (eCon (.str "q")) (aCons (eCon (.str "z")) aNil)))) (aCons (eCon (.bl false)) aNil)))) aNil))) aNil))))) (sSeq (sExpr (eApp (eVar 8) (aCons (eCall (rn_sent w) (aCons (eVar 6) (aCons (eTup (aCons (eVar 3) (aCons (eTup (aCons (eCon (.str "pq")) aNil)) (aCons (eCon (.bl true)) aNil)))) aNil))) aNil))) (sSeq (sIf (tVal (eBin neD (eBin ixD (eVar 8) (eCon (.int 0))) (eTup (aCons (eTup (aCons (eCon (.str "a")) (aCons (eVar 0) aNil))) (aCons (eTup (aCons (eCon (.str "id")) (aCons (eVar 2) aNil))) (aCons (eTup (aCons (eCon (.str "id")) (aCons (eVar 1) aNil))) (aCons (eTup (aCons (eCon (.str "id")) (aCons (eVar 0) aNil))) aNil))))))) (sRet (eCon (.bl false))) sNil) (sSeq (sIf (tVal (eBin neD (eSlc (eVar 8) (pSo (eCon (.int 1))) pNo) (eLst (aLim (aCons (eTup (aCons (eTup (aCons (eCon (.str "a")) (aCons (eVar 0) aNil))) (aCons (eTup (aCons (eCon (.str "id")) (aCons (eVar 1) aNil))) (aCons (eTup (aCons (eCon (.str "id")) (aCons (eVar 0) aNil))) aNil)))) (aCons (eTup (aCons (eTup (aCons (eCon (.str "id")) (aCons (eVar 0) aNil))) aNil)) aNil)))))) (sRet (eCon (.bl false))) sNil) (sSeq (sSet 8 (eNew (aLim (aCons (eCall (rn_read w) (aCons (eVar 6) (aCons (eTup (aCons (eVar 3) (aCons (eTup (aCons (eCon (.str "p")) aNil)) (aCons (eCon (.bl true)) aNil)))) (aCons (eCon (.str "id")) aNil)))) (aCons (eCall (rn_read w) (aCons (eVar 6) (aCons (eTup (aCons (eVar 3) (aCons (eTup (aCons (eCon (.str "p")) (aCons (eCon (.str "q")) aNil))) (aCons (eCon (.bl true)) aNil)))) (aCons (eCon (.str "id")) aNil)))) aNil))))) (sSeq (sExpr (eApp (eVar 8) (aCons (eCall (rn_read w) (aCons (eVar 6) (aCons (eTup (aCons (eVar 3) (aCons (eTup aNil) (aCons (eCon (.bl true)) aNil)))) (aCons (eCon (.str "a")) aNil)))) aNil))) (sRet (eBin eqD (eVar 8) (eLst (aLim (aCons (eVar 1) (aCons (eVar 2) (aCons (eCon .non) aNil))))))))))))))))))))
noncomputable def rn__law_folders_right (w : World) : List W → Sto → R W := fun ws st => noX (runS 9 (dn__law_folders_right w) ws st)
theorem ok__law_folders_right {P : Program} {w : World} {K : PySem.W.Frag} {mg : Str → Option Value} {base : Heap} {ct : Nat → Value} {f : Addr} {fd : FuncData} (F : Fun K "_law_folders_right" "_law_folders_right" s__law_folders_right f fd) (C_behind : Cal P w K mg base ct "behind" 2 6 rn_behind) (C_sent : Cal P w K mg base ct "sent" 2 7 (rn_sent w)) (C_read : Cal P w K mg base ct "read" 3 7 (rn_read w)) :
    FnG P w K mg base CX0 8 f fd ["one", "two", "three"] (spG K ct 3 (rn__law_folders_right w)) := by
  refine fn_den0 F sc__law_folders_right (fun cdv A outer s H E gd hr => ?_)
  exact (dss_cons (ds_set (i := 3) sc__law_folders_right.nd (de_tup (da_cons de_str (da_cons de_str da_nil)))) (dss_cons (ds_set (i := 4) sc__law_folders_right.nd (de_tup (da_cons (de_tup (da_cons de_str (da_cons (de_var 0) (da_cons de_non (da_cons (de_tup da_nil) (da_cons de_bl da_nil)))))) (da_cons (de_tup (da_cons de_str (da_cons (de_var 1) (da_cons (de_var 3) (da_cons (de_tup (da_cons de_str da_nil)) (da_cons de_bl da_nil)))))) (da_cons (de_tup (da_cons de_str (da_cons (de_var 2) (da_cons de_non (da_cons (de_tup (da_cons de_str (da_cons de_str da_nil))) (da_cons de_bl da_nil)))))) da_nil))))) (dss_cons (ds_set (i := 5) sc__law_folders_right.nd (de_tup (da_cons (de_tup (da_cons (de_var 3) (da_cons (de_tup (da_cons de_str (da_cons de_str (da_cons de_str da_nil)))) (da_cons de_bl da_nil)))) (da_cons (de_bin op_addD (de_var 4) (de_tup (da_cons (de_tup (da_cons de_str (da_cons (de_var 0) (da_cons de_non (da_cons de_non (da_cons de_bl da_nil)))))) (da_cons (de_tup (da_cons de_str (da_cons (de_var 1) (da_cons de_non (da_cons (de_tup (da_cons de_str da_nil)) (da_cons de_bl da_nil)))))) da_nil)))) da_nil)))) (dss_cons (ds_set (i := 6) sc__law_folders_right.nd (de_calC C_behind gd (Room.mono hr (by decide)) (by rfl) (aCons_len (aCons_len aNil_len)) (da_cons (de_tup (da_cons (de_var 5) da_nil)) (da_cons (de_tup (da_cons de_int da_nil)) da_nil)))) (dss_cons (ds_set (i := 7) sc__law_folders_right.nd (de_tup (da_cons (de_tup (da_cons (de_tup (da_cons de_str (da_cons (de_var 3) (da_cons (de_tup (da_cons de_str (da_cons de_str da_nil))) (da_cons de_bl da_nil))))) (da_cons (de_var 0) (da_cons de_bl da_nil)))) (da_cons (de_tup (da_cons (de_tup (da_cons de_str (da_cons (de_var 3) (da_cons (de_tup (da_cons de_str (da_cons de_str da_nil))) (da_cons de_bl da_nil))))) (da_cons (de_var 2) (da_cons de_bl da_nil)))) da_nil)))) (dss_cons (ds_set (i := 7) sc__law_folders_right.nd (de_bin op_addD (de_var 7) (de_tup (da_cons (de_tup (da_cons (de_tup (da_cons de_str (da_cons (de_var 3) (da_cons (de_tup (da_cons de_str da_nil)) (da_cons de_bl da_nil))))) (da_cons (de_var 1) (da_cons de_bl da_nil)))) (da_cons (de_tup (da_cons (de_tup (da_cons de_str (da_cons (de_var 3) (da_cons (de_tup (da_cons de_str da_nil)) (da_cons de_bl da_nil))))) (da_cons (de_var 1) (da_cons de_bl da_nil)))) da_nil))))) (dss_cons (ds_if (dt_cmp (op_neDD (hu64 hr)) (de_var 6) (de_bin op_addD (de_var 7) (de_tup (da_cons (de_tup (da_cons (de_tup (da_cons de_str (da_cons (de_var 3) (da_cons (de_tup da_nil) (da_cons de_bl da_nil))))) (da_cons (de_var 0) (da_cons de_bl da_nil)))) da_nil)))) (dss_one (ds_ret de_bl)) dss_nil) (dss_cons (ds_set (i := 8) sc__law_folders_right.nd (de_new (df_lst (da_cons (de_calC C_sent gd (Room.mono hr (by decide)) (by rfl) (aCons_len (aCons_len aNil_len)) (da_cons (de_var 6) (da_cons (de_tup (da_cons (de_var 3) (da_cons (de_tup (da_cons de_str (da_cons de_str da_nil))) (da_cons de_bl da_nil)))) da_nil))) (da_cons (de_calC C_sent gd (Room.mono hr (by decide)) (by rfl) (aCons_len (aCons_len aNil_len)) (da_cons (de_var 6) (da_cons (de_tup (da_cons (de_var 3) (da_cons (de_tup (da_cons de_str (da_cons de_str (da_cons de_str da_nil)))) (da_cons de_bl da_nil)))) da_nil))) da_nil))))) (dss_cons (ds_expr (de_app (de_var 8) (da_cons (de_calC C_sent gd (Room.mono hr (by decide)) (by rfl) (aCons_len (aCons_len aNil_len)) (da_cons (de_var 6) (da_cons (de_tup (da_cons (de_var 3) (da_cons (de_tup (da_cons de_str da_nil)) (da_cons de_bl da_nil)))) da_nil))) da_nil))) (dss_cons (ds_if (dt_cmp (op_neDD (hu64 hr)) (de_ix (de_var 8) de_int) (de_tup (da_cons (de_tup (da_cons de_str (da_cons (de_var 0) da_nil))) (da_cons (de_tup (da_cons de_str (da_cons (de_var 2) da_nil))) (da_cons (de_tup (da_cons de_str (da_cons (de_var 1) da_nil))) (da_cons (de_tup (da_cons de_str (da_cons (de_var 0) da_nil))) da_nil)))))) (dss_one (ds_ret de_bl)) dss_nil) (dss_cons (ds_if (dt_cmp (op_neDD (hu64 hr)) (de_slc (de_var 8) (dp_so de_int) dp_no) (de_val (df_lst (da_cons (de_tup (da_cons (de_tup (da_cons de_str (da_cons (de_var 0) da_nil))) (da_cons (de_tup (da_cons de_str (da_cons (de_var 1) da_nil))) (da_cons (de_tup (da_cons de_str (da_cons (de_var 0) da_nil))) da_nil)))) (da_cons (de_tup (da_cons (de_tup (da_cons de_str (da_cons (de_var 0) da_nil))) da_nil)) da_nil))))) (dss_one (ds_ret de_bl)) dss_nil) (dss_cons (ds_set (i := 8) sc__law_folders_right.nd (de_new (df_lst (da_cons (de_calC C_read gd (Room.mono hr (by decide)) (by rfl) (aCons_len (aCons_len (aCons_len aNil_len))) (da_cons (de_var 6) (da_cons (de_tup (da_cons (de_var 3) (da_cons (de_tup (da_cons de_str da_nil)) (da_cons de_bl da_nil)))) (da_cons de_str da_nil)))) (da_cons (de_calC C_read gd (Room.mono hr (by decide)) (by rfl) (aCons_len (aCons_len (aCons_len aNil_len))) (da_cons (de_var 6) (da_cons (de_tup (da_cons (de_var 3) (da_cons (de_tup (da_cons de_str (da_cons de_str da_nil))) (da_cons de_bl da_nil)))) (da_cons de_str da_nil)))) da_nil))))) (dss_cons (ds_expr (de_app (de_var 8) (da_cons (de_calC C_read gd (Room.mono hr (by decide)) (by rfl) (aCons_len (aCons_len (aCons_len aNil_len))) (da_cons (de_var 6) (da_cons (de_tup (da_cons (de_var 3) (da_cons (de_tup da_nil) (da_cons de_bl da_nil)))) (da_cons de_str da_nil)))) da_nil))) (dss_one (ds_ret (de_cmp (op_eqDD (hu64 hr)) (de_var 8) (de_val (df_lst (da_cons (de_var 1) (da_cons (de_var 2) (da_cons de_non da_nil)))))))))))))))))))))

abbrev s__law_untaken_right : Stmt := top 59
theorem sc__law_untaken_right : FnScope ["one", "two", "own", "site", "jar", "host", "far"] ["one", "two"] (defScope s__law_untaken_right) := ⟨rfl, rfl, rfl, by decide +kernel, rfl, by decide +kernel, by decide +kernel⟩
noncomputable def dn__law_untaken_right (w : World) : SD := (sSeq (sAsg (eTup (aCons (eTup (aCons (eCon (.str "www")) (aCons (eCon (.str "b")) (aCons (eCon (.str "c")) aNil)))) (aCons (eTup (aCons (eCon (.str "shop")) (aCons (eCon (.str "b")) (aCons (eCon (.str "c")) aNil)))) aNil))) (gTp 2 (gsCons (gNm 5) (gsCons (gNm 6) gsNil)))) (sSeq (sSet 2 (eTup (aCons (eTup (aCons (eCon (.str "id")) (aCons (eVar 1) (aCons (eVar 6) (aCons (eCon .non) (aCons (eCon (.bl false)) aNil)))))) (aCons (eTup (aCons (eCon (.str "id")) (aCons (eVar 1) (aCons (eCon .non) (aCons (eCon .non) (aCons (eCon (.bl true)) aNil)))))) (aCons (eTup (aCons (eCon (.str "id")) (aCons (eCon .non) (aCons (eCon .non) (aCons (eCon .non) (aCons (eCon (.bl true)) aNil)))))) aNil))))) (sSeq (sSet 3 (eTup (aCons (eTup (aCons (eTup (aCons (eVar 5) (aCons (eTup aNil) (aCons (eCon (.bl true)) aNil)))) (aCons (eTup (aCons (eTup (aCons (eCon (.str "id")) (aCons (eVar 0) (aCons (eCon .non) (aCons (eCon .non) (aCons (eCon (.bl true)) aNil)))))) aNil)) aNil))) (aCons (eTup (aCons (eTup (aCons (eVar 5) (aCons (eTup aNil) (aCons (eCon (.bl false)) aNil)))) (aCons (eVar 2) aNil))) aNil)))) (sSeq (sSet 4 (eCall rn_behind (aCons (eVar 3) (aCons (eTup (aCons (eCon (.int 0)) aNil)) aNil)))) (sSeq (sIf (bOr (tVal (eBin neD (eVar 4) (eTup (aCons (eTup (aCons (eTup (aCons (eCon (.str "id")) (aCons (eVar 5) (aCons (eTup aNil) (aCons (eCon (.bl true)) aNil))))) (aCons (eVar 0) (aCons (eCon (.bl true)) aNil)))) aNil)))) (bOr (tVal (eBin neD (eCall rn_behind (aCons (eVar 3) (aCons (eTup (aCons (eCon (.int 0)) (aCons (eCon (.int 1)) aNil))) aNil))) (eVar 4))) (tVal (eBin neD (eCall rn_behind (aCons (eVar 3) (aCons (eTup (aCons (eCon (.int 1)) aNil)) aNil))) (eTup aNil))))) (sRet (eCon (.bl false))) sNil) (sSeq (sIf (bOr (tVal (eBin neD (eCall (rn_sent w) (aCons (eVar 4) (aCons (eTup (aCons (eVar 5) (aCons (eTup aNil) (aCons (eCon (.bl false)) aNil)))) aNil))) (eTup aNil))) (tVal (eBin neD (eCall (rn_sent w) (aCons (eVar 4) (aCons (eTup (aCons (eVar 5) (aCons (eTup (aCons (eCon (.str "x")) aNil)) (aCons (eCon (.bl true)) aNil)))) aNil))) (eTup (aCons (eTup (aCons (eCon (.str "id")) (aCons (eVar 0) aNil))) aNil))))) (sRet (eCon (.bl false))) sNil) (sRet (eAnd (eBin eqD (eCall (rn_visited w) (aCons (eVar 4) (aCons (eVar 3) (aCons (eCon (.int 1)) aNil)))) (eVar 4)) (eAnd (eBin eqD (eCall (rn_visited w) (aCons (eTup aNil) (aCons (eVar 3) (aCons (eCon (.int 0)) aNil)))) (eVar 4)) (eBin eqD (eCall rn_behind (aCons (eVar 3) (aCons (eTup aNil) aNil))) (eTup aNil)))))))))))
noncomputable def rn__law_untaken_right (w : World) : List W → Sto → R W := fun ws st => noX (runS 7 (dn__law_untaken_right w) ws st)
theorem ok__law_untaken_right {P : Program} {w : World} {K : PySem.W.Frag} {mg : Str → Option Value} {base : Heap} {ct : Nat → Value} {f : Addr} {fd : FuncData} (F : Fun K "_law_untaken_right" "_law_untaken_right" s__law_untaken_right f fd) (C_behind : Cal P w K mg base ct "behind" 2 6 rn_behind) (C_sent : Cal P w K mg base ct "sent" 2 7 (rn_sent w)) (C_visited : Cal P w K mg base ct "visited" 3 7 (rn_visited w)) :
    FnG P w K mg base CX0 8 f fd ["one", "two"] (spG K ct 2 (rn__law_untaken_right w)) := by
  refine fn_den0 F sc__law_untaken_right (fun cdv A outer s H E gd hr => ?_)
  exact (dss_cons (ds_asg (de_tup (da_cons (de_tup (da_cons de_str (da_cons de_str (da_cons de_str da_nil)))) (da_cons (de_tup (da_cons de_str (da_cons de_str (da_cons de_str da_nil)))) da_nil))) (dg_tup (n := 2) rfl (dgs_cons (dg_name (i := 5) sc__law_untaken_right.nd) (dgs_cons (dg_name (i := 6) sc__law_untaken_right.nd) dgs_nil)))) (dss_cons (ds_set (i := 2) sc__law_untaken_right.nd (de_tup (da_cons (de_tup (da_cons de_str (da_cons (de_var 1) (da_cons (de_var 6) (da_cons de_non (da_cons de_bl da_nil)))))) (da_cons (de_tup (da_cons de_str (da_cons (de_var 1) (da_cons de_non (da_cons de_non (da_cons de_bl da_nil)))))) (da_cons (de_tup (da_cons de_str (da_cons de_non (da_cons de_non (da_cons de_non (da_cons de_bl da_nil)))))) da_nil))))) (dss_cons (ds_set (i := 3) sc__law_untaken_right.nd (de_tup (da_cons (de_tup (da_cons (de_tup (da_cons (de_var 5) (da_cons (de_tup da_nil) (da_cons de_bl da_nil)))) (da_cons (de_tup (da_cons (de_tup (da_cons de_str (da_cons (de_var 0) (da_cons de_non (da_cons de_non (da_cons de_bl da_nil)))))) da_nil)) da_nil))) (da_cons (de_tup (da_cons (de_tup (da_cons (de_var 5) (da_cons (de_tup da_nil) (da_cons de_bl da_nil)))) (da_cons (de_var 2) da_nil))) da_nil)))) (dss_cons (ds_set (i := 4) sc__law_untaken_right.nd (de_calC C_behind gd (Room.mono hr (by decide)) (by rfl) (aCons_len (aCons_len aNil_len)) (da_cons (de_var 3) (da_cons (de_tup (da_cons de_int da_nil)) da_nil)))) (dss_cons (ds_if (PW.pt (dw_or (dt_cmp (op_neDD (hu64 hr)) (de_var 4) (de_tup (da_cons (de_tup (da_cons (de_tup (da_cons de_str (da_cons (de_var 5) (da_cons (de_tup da_nil) (da_cons de_bl da_nil))))) (da_cons (de_var 0) (da_cons de_bl da_nil)))) da_nil))) (dw_or (dt_cmp (op_neDD (hu64 hr)) (de_calC C_behind gd (Room.mono hr (by decide)) (by rfl) (aCons_len (aCons_len aNil_len)) (da_cons (de_var 3) (da_cons (de_tup (da_cons de_int (da_cons de_int da_nil))) da_nil))) (de_var 4)) (dw_or1 (dt_cmp (op_neDD (hu64 hr)) (de_calC C_behind gd (Room.mono hr (by decide)) (by rfl) (aCons_len (aCons_len aNil_len)) (da_cons (de_var 3) (da_cons (de_tup (da_cons de_int da_nil)) da_nil))) (de_tup da_nil)))))) (dss_one (ds_ret de_bl)) dss_nil) (dss_cons (ds_if (PW.pt (dw_or (dt_cmp (op_neDD (hu64 hr)) (de_calC C_sent gd (Room.mono hr (by decide)) (by rfl) (aCons_len (aCons_len aNil_len)) (da_cons (de_var 4) (da_cons (de_tup (da_cons (de_var 5) (da_cons (de_tup da_nil) (da_cons de_bl da_nil)))) da_nil))) (de_tup da_nil)) (dw_or1 (dt_cmp (op_neDD (hu64 hr)) (de_calC C_sent gd (Room.mono hr (by decide)) (by rfl) (aCons_len (aCons_len aNil_len)) (da_cons (de_var 4) (da_cons (de_tup (da_cons (de_var 5) (da_cons (de_tup (da_cons de_str da_nil)) (da_cons de_bl da_nil)))) da_nil))) (de_tup (da_cons (de_tup (da_cons de_str (da_cons (de_var 0) da_nil))) da_nil)))))) (dss_one (ds_ret de_bl)) dss_nil) (dss_one (ds_ret (de_and (de_cmp (op_eqDD (hu64 hr)) (de_calC C_visited gd (Room.mono hr (by decide)) (by rfl) (aCons_len (aCons_len (aCons_len aNil_len))) (da_cons (de_var 4) (da_cons (de_var 3) (da_cons de_int da_nil)))) (de_var 4)) (de_and (de_cmp (op_eqDD (hu64 hr)) (de_calC C_visited gd (Room.mono hr (by decide)) (by rfl) (aCons_len (aCons_len (aCons_len aNil_len))) (da_cons (de_tup da_nil) (da_cons (de_var 3) (da_cons de_int da_nil)))) (de_var 4)) (de_one (de_cmp (op_eqDD (hu64 hr)) (de_calC C_behind gd (Room.mono hr (by decide)) (by rfl) (aCons_len (aCons_len aNil_len)) (da_cons (de_var 3) (da_cons (de_tup da_nil) da_nil))) (de_tup da_nil)))))))))))))

abbrev s__law_wide_right : Stmt := top 60
theorem sc__law_wide_right : FnScope ["one", "far", "due", "page", "host", "pages", "some", "jar", "site", "k", "kept", "write"] ["one"] (defScope s__law_wide_right) := ⟨rfl, rfl, rfl, by decide +kernel, rfl, by decide +kernel, by decide +kernel⟩
noncomputable def dn__law_wide_right (w : World) : SD := (sSeq (sPar 4 5 (aCons (eTup (aCons (eCon (.str "a")) (aCons (eCon (.str "b")) (aCons (eCon (.str "c")) aNil)))) (aCons (eNew (aLim aNil)) aNil))) (sSeq (sFor (itRange (aCons (eCon (.int 5)) aNil)) (gNm 1) (sSeq (sSet 6 (eLst (lLc [9] (itRange (aCons (eCon (.int 5)) aNil)) (gNm 9) bYes (eTup (aCons (eBin addD (eBin addD (eCon (.str "id")) (eBin ixD (eCon (.str "abcde")) (eVar 1))) (eBin ixD (eCon (.str "vwxyz")) (eVar 9))) (aCons (eVar 0) (aCons (eCon .non) (aCons (eTup aNil) (aCons (eCon (.bl false)) aNil))))))))) (sExpr (eApp (eVar 5) (aCons (eTup (aCons (eTup (aCons (eVar 4) (aCons (eTup aNil) (aCons (eCon (.bl true)) aNil)))) (aCons (eBlt tupleB (aCons (eVar 6) aNil)) aNil))) aNil))))) (sSeq (sSet 2 (eTup aNil)) (sSeq (sFrzV 5 (sFor (itE (eVar 5)) (gNm 3) (sSet 2 (eBin addD (eVar 2) (eBlt tupleB (aCons (eLst (lLc [11] (itE (eBin ixD (eVar 3) (eCon (.int 1)))) (gNm 11) bYes (eTup (aCons (eTup (aCons (eBin ixD (eVar 11) (eCon (.int 0))) (aCons (eVar 4) (aCons (eTup aNil) (aCons (eCon (.bl true)) aNil))))) (aCons (eVar 0) (aCons (eCon (.bl false)) aNil)))))) aNil)))))) (sSeq (sPar 7 8 (aCons (eTup aNil) (aCons (eBlt tupleB (aCons (eVar 5) aNil)) aNil))) (sSeq (sFor (itRange (aCons (eCon (.int 5)) aNil)) (gNm 1) (sSet 7 (eCall (rn_visited w) (aCons (eVar 7) (aCons (eVar 8) (aCons (eVar 1) aNil)))))) (sSeq (sIf (bOr (tVal (eBin neD (eVar 7) (eVar 2))) (tVal (eBin neD (eCall rn_behind (aCons (eVar 8) (aCons (eTup (aCons (eCon (.int 4)) (aCons (eCon (.int 3)) (aCons (eCon (.int 2)) (aCons (eCon (.int 1)) (aCons (eCon (.int 0)) aNil)))))) aNil))) (eVar 2)))) (sRet (eCon (.bl false))) sNil) (sRet (eBin eqD (eCall (rn_sent w) (aCons (eVar 7) (aCons (eTup (aCons (eVar 4) (aCons (eTup (aCons (eCon (.str "q")) aNil)) (aCons (eCon (.bl false)) aNil)))) aNil))) (eBlt tupleB (aCons (eLst (lLc [10] (itE (eVar 2)) (gNm 10) bYes (eTup (aCons (eBin ixD (eBin ixD (eVar 10) (eCon (.int 0))) (eCon (.int 0))) (aCons (eVar 0) aNil))))) aNil)))))))))))
noncomputable def rn__law_wide_right (w : World) : List W → Sto → R W := fun ws st => noX (runS 12 (dn__law_wide_right w) ws st)
theorem ok__law_wide_right {P : Program} {w : World} {K : PySem.W.Frag} {mg : Str → Option Value} {base : Heap} {ct : Nat → Value} {f : Addr} {fd : FuncData} (F : Fun K "_law_wide_right" "_law_wide_right" s__law_wide_right f fd) (z_range : mg "range" = none) (z_tuple : mg "tuple" = none) (C_visited : Cal P w K mg base ct "visited" 3 7 (rn_visited w)) (C_behind : Cal P w K mg base ct "behind" 2 6 rn_behind) (C_sent : Cal P w K mg base ct "sent" 2 7 (rn_sent w)) :
    FnG P w K mg base CX0 8 f fd ["one"] (spG K ct 1 (rn__law_wide_right w)) := by
  refine fn_den0 F sc__law_wide_right (fun cdv A outer s H E gd hr => ?_)
  exact (dss_cons (ds_parC (i := 4) (j := 5) rfl sc__law_wide_right.nd rfl rfl (da_cons (de_tup (da_cons de_str (da_cons de_str (da_cons de_str da_nil)))) (da_cons (de_new (df_lst da_nil)) da_nil))) (dss_cons (ds_for PassesOwn.never rfl (di_range1 (by rfl) z_range de_int) (dg_name (i := 1) sc__law_wide_right.nd) (dss_cons (ds_setLc (i := 6) (own := [("k", 9)]) rfl sc__law_wide_right.nd rfl rfl (sw_true rfl rfl rfl (by decide +kernel)) (di_range1 (by rfl) z_range de_int) (blkOk_by (own := [("k", 9)]) (N := ["one", "far", "due", "page", "host", "pages", "some", "jar", "site", "k", "kept", "write"]) (sc := defScope s__law_wide_right) (by decide +kernel)) (fun _ _ _ _ _ => (dg_name (i := 9) sc__law_wide_right.nd)) (fun _ _ _ _ _ => dts_nil) (fun _ _ _ _ _ => (de_tup (da_cons (de_bin op_addD (de_bin op_addD de_str (de_ix de_str (de_var 1))) (de_ix de_str (de_var 9))) (da_cons (de_var 0) (da_cons de_non (da_cons (de_tup da_nil) (da_cons de_bl da_nil)))))))) (dss_one (ds_expr (de_app (de_var 5) (da_cons (de_tup (da_cons (de_tup (da_cons (de_var 4) (da_cons (de_tup da_nil) (da_cons de_bl da_nil)))) (da_cons (de_callT cb_tuple (by rfl) z_tuple bt_tuple (da_cons (de_var 6) da_nil)) da_nil))) da_nil)))))) (dss_cons (ds_set (i := 2) sc__law_wide_right.nd (de_tup da_nil)) (dss_cons (ds_frzV 5 (ds_for PassesOwn.never rfl (di_e (de_var 5)) (dg_name (i := 3) sc__law_wide_right.nd) (dss_one (ds_set (i := 2) sc__law_wide_right.nd (de_bin op_addD (de_var 2) (de_callT cb_tuple (by rfl) z_tuple bt_tuple (da_cons (de_val (df_lc (own := [("write", 11)]) rfl sc__law_wide_right.nd (di_e (de_ix (de_var 3) de_int)) (blkOk_by (own := [("write", 11)]) (N := ["one", "far", "due", "page", "host", "pages", "some", "jar", "site", "k", "kept", "write"]) (sc := defScope s__law_wide_right) (by decide +kernel)) (fun _ _ _ _ _ => (dg_name (i := 11) sc__law_wide_right.nd)) (fun _ _ _ _ _ => dts_nil) (fun _ _ _ _ _ => (de_tup (da_cons (de_tup (da_cons (de_ix (de_var 11) de_int) (da_cons (de_var 4) (da_cons (de_tup da_nil) (da_cons de_bl da_nil))))) (da_cons (de_var 0) (da_cons de_bl da_nil))))))) da_nil))))))) (dss_cons (ds_par (i := 7) (j := 8) rfl sc__law_wide_right.nd rfl rfl (by decide) rfl rfl (da_cons (de_tup da_nil) (da_cons (de_callT cb_tuple (by rfl) z_tuple bt_tuple (da_cons (de_var 5) da_nil)) da_nil)) rfl) (dss_cons (ds_for PassesOwn.never rfl (di_range1 (by rfl) z_range de_int) (dg_name (i := 1) sc__law_wide_right.nd) (dss_one (ds_set (i := 7) sc__law_wide_right.nd (de_calC C_visited gd (Room.mono hr (by decide)) (by rfl) (aCons_len (aCons_len (aCons_len aNil_len))) (da_cons (de_var 7) (da_cons (de_var 8) (da_cons (de_var 1) da_nil))))))) (dss_cons (ds_if (PW.pt (dw_or (dt_cmp (op_neDD (hu64 hr)) (de_var 7) (de_var 2)) (dw_or1 (dt_cmp (op_neDD (hu64 hr)) (de_calC C_behind gd (Room.mono hr (by decide)) (by rfl) (aCons_len (aCons_len aNil_len)) (da_cons (de_var 8) (da_cons (de_tup (da_cons de_int (da_cons de_int (da_cons de_int (da_cons de_int (da_cons de_int da_nil)))))) da_nil))) (de_var 2))))) (dss_one (ds_ret de_bl)) dss_nil) (dss_one (ds_ret (de_cmp (op_eqDD (hu64 hr)) (de_calC C_sent gd (Room.mono hr (by decide)) (by rfl) (aCons_len (aCons_len aNil_len)) (da_cons (de_var 7) (da_cons (de_tup (da_cons (de_var 4) (da_cons (de_tup (da_cons de_str da_nil)) (da_cons de_bl da_nil)))) da_nil))) (de_callT cb_tuple (by rfl) z_tuple bt_tuple (da_cons (de_val (df_lc (own := [("kept", 10)]) rfl sc__law_wide_right.nd (di_e (de_var 2)) (blkOk_by (own := [("kept", 10)]) (N := ["one", "far", "due", "page", "host", "pages", "some", "jar", "site", "k", "kept", "write"]) (sc := defScope s__law_wide_right) (by decide +kernel)) (fun _ _ _ _ _ => (dg_name (i := 10) sc__law_wide_right.nd)) (fun _ _ _ _ _ => dts_nil) (fun _ _ _ _ _ => (de_tup (da_cons (de_ix (de_ix (de_var 10) de_int) de_int) (da_cons (de_var 0) da_nil)))))) da_nil))))))))))))

abbrev s_law : Stmt := top 61
theorem sc_law : FnScope ["script", "state", "turn", "page", "due", "host", "near", "one", "two", "three"] ["script"] (defScope s_law) := ⟨rfl, rfl, rfl, by decide +kernel, rfl, by decide +kernel, by decide +kernel⟩
noncomputable def dn_law (w : World) : SD := (sSeq (sSet 1 (eCall rn__law_begin (aCons (eVar 0) aNil))) (sSeq (sFor (itRange (aCons (eBin addD (eCon (.int 3)) (eBlt minB (aCons (eCon (.int 3)) (aCons (eBlt lenB (aCons (eVar 0) aNil)) aNil)))) aNil)) (gNm 2) (sSeq (sAsg (eCall rn__law_values (aCons (eVar 1) aNil)) (gTl 3 (gsCons (gNm 7) (gsCons (gNm 8) (gsCons (gNm 9) gsNil))))) (sSeq (sIf (bOr (bNot (tVal (eCall (rn__law_two_right w) (aCons (eVar 7) (aCons (eVar 8) aNil))))) (bNot (tVal (eCall (rn__law_ages_right w) (aCons (eVar 7) (aCons (eVar 8) (aCons (eVar 9) aNil))))))) (sRet (eCon (.bl false))) sNil) (sIf (bOr (bNot (tVal (eCall (rn__law_folders_right w) (aCons (eVar 7) (aCons (eVar 8) (aCons (eVar 9) aNil)))))) (bOr (bNot (tVal (eCall (rn__law_untaken_right w) (aCons (eVar 7) (aCons (eVar 8) aNil))))) (bNot (tVal (eCall (rn__law_wide_right w) (aCons (eVar 7) aNil)))))) (sRet (eCon (.bl false))) sNil)))) (sSeq (sAsg (eTup (aCons (eTup (aCons (eCon (.str "www")) (aCons (eCon (.str "shop")) (aCons (eCon (.str "org")) aNil)))) (aCons (eTup (aCons (eCon (.str "shop")) (aCons (eCon (.str "org")) aNil))) aNil))) (gTp 2 (gsCons (gNm 5) (gsCons (gNm 6) gsNil)))) (sSeq (sSet 3 (eTup (aCons (eTup (aCons (eVar 5) (aCons (eTup (aCons (eCon (.str "in")) aNil)) (aCons (eCon (.bl true)) aNil)))) (aCons (eTup (aCons (eTup (aCons (eCon (.str "id")) (aCons (eCon (.str "a1")) (aCons (eVar 6) (aCons (eCon .non) (aCons (eCon (.bl true)) aNil)))))) (aCons (eTup (aCons (eCon (.str "id")) (aCons (eCon (.str "b2")) (aCons (eCon .non) (aCons (eTup (aCons (eCon (.str "in")) aNil)) (aCons (eCon (.bl false)) aNil)))))) aNil))) aNil)))) (sSeq (sSet 4 (eTup (aCons (eTup (aCons (eTup (aCons (eCon (.str "id")) (aCons (eVar 5) (aCons (eTup (aCons (eCon (.str "in")) aNil)) (aCons (eCon (.bl true)) aNil))))) (aCons (eCon (.str "b2")) (aCons (eCon (.bl false)) aNil)))) (aCons (eTup (aCons (eTup (aCons (eCon (.str "id")) (aCons (eVar 6) (aCons (eTup aNil) (aCons (eCon (.bl false)) aNil))))) (aCons (eCon (.str "a1")) (aCons (eCon (.bl true)) aNil)))) aNil)))) (sRet (eAnd (eBin eqD (eCall rn_behind (aCons (eTup (aCons (eVar 3) aNil)) (aCons (eTup (aCons (eCon (.int 0)) aNil)) aNil))) (eVar 4)) (eBin eqD (eCall (rn_sent w) (aCons (eVar 4) (aCons (eBin ixD (eVar 3) (eCon (.int 0))) aNil))) (eTup (aCons (eTup (aCons (eCon (.str "id")) (aCons (eCon (.str "b2")) aNil))) (aCons (eTup (aCons (eCon (.str "id")) (aCons (eCon (.str "a1")) aNil))) aNil)))))))))))
noncomputable def rn_law (w : World) : List W → Sto → R W := fun ws st => noX (runS 10 (dn_law w) ws st)
theorem ok_law {P : Program} {w : World} {K : PySem.W.Frag} {mg : Str → Option Value} {base : Heap} {ct : Nat → Value} {f : Addr} {fd : FuncData} (F : Fun K "law" "law" s_law f fd) (C__law_begin : Cal P w K mg base ct "_law_begin" 1 1 rn__law_begin) (z_len : mg "len" = none) (z_min : mg "min" = none) (z_range : mg "range" = none) (C__law_values : Cal P w K mg base ct "_law_values" 1 3 rn__law_values) (C__law_ages_right : Cal P w K mg base ct "_law_ages_right" 3 8 (rn__law_ages_right w)) (C__law_two_right : Cal P w K mg base ct "_law_two_right" 2 8 (rn__law_two_right w)) (C__law_wide_right : Cal P w K mg base ct "_law_wide_right" 1 8 (rn__law_wide_right w)) (C__law_untaken_right : Cal P w K mg base ct "_law_untaken_right" 2 8 (rn__law_untaken_right w)) (C__law_folders_right : Cal P w K mg base ct "_law_folders_right" 3 8 (rn__law_folders_right w)) (C_sent : Cal P w K mg base ct "sent" 2 7 (rn_sent w)) (C_behind : Cal P w K mg base ct "behind" 2 6 rn_behind) :
    FnG P w K mg base CX0 9 f fd ["script"] (spG K ct 1 (rn_law w)) := by
  refine fn_den0 F sc_law (fun cdv A outer s H E gd hr => ?_)
  exact (dss_cons (ds_set (i := 1) sc_law.nd (de_calC C__law_begin gd (Room.mono hr (by decide)) (by rfl) (aCons_len aNil_len) (da_cons (de_var 0) da_nil))) (dss_cons (ds_for PassesOwn.never rfl (di_range1 (by rfl) z_range (de_bin op_addD de_int (de_callB (cb_min rfl) (by rfl) z_min bt_min (da_cons de_int (da_cons (de_callB cb_len (by rfl) z_len bt_len (da_cons (de_var 0) da_nil)) da_nil))))) (dg_name (i := 2) sc_law.nd) (dss_cons (ds_asg (de_calC C__law_values gd (Room.mono hr (by decide)) (by rfl) (aCons_len aNil_len) (da_cons (de_var 1) da_nil)) (dg_lst (n := 3) rfl (dgs_cons (dg_name (i := 7) sc_law.nd) (dgs_cons (dg_name (i := 8) sc_law.nd) (dgs_cons (dg_name (i := 9) sc_law.nd) dgs_nil))))) (dss_cons (ds_if (PW.pt (dw_or (dt_not (dt_val (de_calC C__law_two_right gd (Room.mono hr (by decide)) (by rfl) (aCons_len (aCons_len aNil_len)) (da_cons (de_var 7) (da_cons (de_var 8) da_nil))))) (dw_or1 (dt_not (dt_val (de_calC C__law_ages_right gd (Room.mono hr (by decide)) (by rfl) (aCons_len (aCons_len (aCons_len aNil_len))) (da_cons (de_var 7) (da_cons (de_var 8) (da_cons (de_var 9) da_nil))))))))) (dss_one (ds_ret de_bl)) dss_nil) (dss_one (ds_if (PW.pt (dw_or (dt_not (dt_val (de_calC C__law_folders_right gd (Room.mono hr (by decide)) (by rfl) (aCons_len (aCons_len (aCons_len aNil_len))) (da_cons (de_var 7) (da_cons (de_var 8) (da_cons (de_var 9) da_nil)))))) (dw_or (dt_not (dt_val (de_calC C__law_untaken_right gd (Room.mono hr (by decide)) (by rfl) (aCons_len (aCons_len aNil_len)) (da_cons (de_var 7) (da_cons (de_var 8) da_nil))))) (dw_or1 (dt_not (dt_val (de_calC C__law_wide_right gd (Room.mono hr (by decide)) (by rfl) (aCons_len aNil_len) (da_cons (de_var 7) da_nil)))))))) (dss_one (ds_ret de_bl)) dss_nil))))) (dss_cons (ds_asg (de_tup (da_cons (de_tup (da_cons de_str (da_cons de_str (da_cons de_str da_nil)))) (da_cons (de_tup (da_cons de_str (da_cons de_str da_nil))) da_nil))) (dg_tup (n := 2) rfl (dgs_cons (dg_name (i := 5) sc_law.nd) (dgs_cons (dg_name (i := 6) sc_law.nd) dgs_nil)))) (dss_cons (ds_set (i := 3) sc_law.nd (de_tup (da_cons (de_tup (da_cons (de_var 5) (da_cons (de_tup (da_cons de_str da_nil)) (da_cons de_bl da_nil)))) (da_cons (de_tup (da_cons (de_tup (da_cons de_str (da_cons de_str (da_cons (de_var 6) (da_cons de_non (da_cons de_bl da_nil)))))) (da_cons (de_tup (da_cons de_str (da_cons de_str (da_cons de_non (da_cons (de_tup (da_cons de_str da_nil)) (da_cons de_bl da_nil)))))) da_nil))) da_nil)))) (dss_cons (ds_set (i := 4) sc_law.nd (de_tup (da_cons (de_tup (da_cons (de_tup (da_cons de_str (da_cons (de_var 5) (da_cons (de_tup (da_cons de_str da_nil)) (da_cons de_bl da_nil))))) (da_cons de_str (da_cons de_bl da_nil)))) (da_cons (de_tup (da_cons (de_tup (da_cons de_str (da_cons (de_var 6) (da_cons (de_tup da_nil) (da_cons de_bl da_nil))))) (da_cons de_str (da_cons de_bl da_nil)))) da_nil)))) (dss_one (ds_ret (de_and (de_cmp (op_eqDD (hu64 hr)) (de_calC C_behind gd (Room.mono hr (by decide)) (by rfl) (aCons_len (aCons_len aNil_len)) (da_cons (de_tup (da_cons (de_var 3) da_nil)) (da_cons (de_tup (da_cons de_int da_nil)) da_nil))) (de_var 4)) (de_one (de_cmp (op_eqDD (hu64 hr)) (de_calC C_sent gd (Room.mono hr (by decide)) (by rfl) (aCons_len (aCons_len aNil_len)) (da_cons (de_var 4) (da_cons (de_ix (de_var 3) de_int) da_nil))) (de_tup (da_cons (de_tup (da_cons de_str (da_cons de_str da_nil))) (da_cons (de_tup (da_cons de_str (da_cons de_str da_nil))) da_nil)))))))))))))

end K5
end
section
namespace K5
open PySem Jv
abbrev T (xs : List D) : D := .tup xs
abbrev LET : Str := "abcdefghijklmnopqrstuvwxyz"
abbrev SIG : Str := "abcdefghijklmnopqrstuvwxyz0123456789"
abbrev tt (st : Sto) : R W := .ok (.v (.bl true)) st
/-- a word of the signs s -/
def wordB (s x : Str) : Bool := decide (1 ≤ x.cps.size) && decide (x.cps.size ≤ 6) && x.cps.toList.all fun c => decide (c ∈ s.cps.toList)
theorem lcGo_all {g : GD} {t : BD} {e : ED} {env : Jv.Env} {st : Sto} : ∀ (ds : List D) (acc : List D), (∀ d ∈ ds, ∃ env1, g (.v d) env = some env1 ∧ t env1 st = .ok true st ∧ e env1 st = tt st) → lcGo g t e env ds st acc = .ok (acc ++ List.replicate ds.length (.bl true)) st
  | [], acc, _ => by simp [lcGo]
  | d :: r, acc, h => by
    obtain ⟨env1, h1, h2, h3⟩ := h d List.mem_cons_self
    simp only [lcGo, h1, h2, h3, tt, noX_ok, R.bind_ok, if_true]
    rw [lcGo_all r _ fun x hx => h x (List.mem_cons_of_mem _ hx)]
    simp [List.replicate_succ]
theorem allBl_rep : ∀ n : Nat, allBl (List.replicate n (D.bl true)) = some (List.replicate n true)
  | 0 => rfl
  | n + 1 => by simp [List.replicate_succ, allBl, allBl_rep n]
theorem allB_rep (st : Sto) (n : Nat) : allB st [.v (.lst (List.replicate n (D.bl true)))] = some (.bl true) := by
  simp [allB, asLst, allBl_rep]
theorem is_of_ok {s x : Str} (h : wordB s x = true) (st : Sto) : rn_is_of [.v (.str x), .v (.str s)] st = tt st := by
  simp only [wordB, Bool.and_eq_true, decide_eq_true_eq, List.all_eq_true] at h
  obtain ⟨⟨h1, h2⟩, h3⟩ := h
  have l1 : x.length = x.cps.size := rfl
  have lc := lcGo_all (g := gNm 2) (t := bYes) (e := eBin inD (eVar 2) (eVar 1)) (env := [some (.v (.str x)), some (.v (.str s)), none]) (st := st) (signs x) [] (by
    intro d hd
    obtain ⟨c, hc, rfl⟩ := List.mem_map.mp hd
    refine ⟨_, rfl, rfl, ?_⟩
    simp [runS, Jv.envOf, fin, noX, sSeq, sAsg, sIf, sPar, sSet, sRet, sNil, sExpr, sNo, tVal, bOr, bNot, bAnd, bYes, eAnd, eOr, eNot, eIf, eBin, eCall, eTup, eCon, eVar, eBlt, eLst, eNeg, eChain, aCons, aNil, aLim, gTp, gNm, gsCons, gsNil, allV, ofOp, R.thenS, R.bind, List.replicate, inD]
    simpa using h3 c hc)
  have hl : (signs x).length ≤ 100000 := by simp [signs]; omega
  have h6 : ((x.cps.size : Nat) : Int) ≤ 6 := by omega
  have h1' : (1 : Int) ≤ ((x.cps.size : Nat) : Int) := by omega
  have h5 : x.cps.size ≤ 100000 := by omega
  have iy : isSub "str" "str" = some true := by kernel_rfl
  simp [runS, Jv.envOf, fin, noX, sSeq, sAsg, sIf, sPar, sSet, sRet, sNil, sExpr, sNo, tVal, bOr, bNot, bAnd, bYes, eAnd, eOr, eNot, eIf, eBin, eCall, eTup, eCon, eVar, eBlt, eLst, eNeg, eChain, aCons, aNil, aLim, gTp, gNm, gsCons, gsNil, allV, ofOp, R.thenS, R.bind, List.replicate, rn_is_of, dn_is_of, isiB, tyN, iy, lenB, l1, h5, onV, int2, h6, h1', lLc, itE, items, wipeE, hl]
  have lc' : lcGo (gNm 2) bYes (eBin inD (eVar 2) (eVar 1)) [some (.v (.str x)), some (.v (.str s)), none] (signs x) st [] = .ok (List.replicate (signs x).length (.bl true)) st := by simpa using lc
  rw [lc']
  simp [allB_rep]
def wordD : D → Bool
  | .str x => wordB SIG x
  | _ => false
def nameB : D → Bool
  | .str x => wordB LET x
  | _ => false
def wordsB (lo hi : Nat) : D → Bool
  | .tup ws => ws.all wordD && decide (lo ≤ ws.length) && decide (ws.length ≤ hi)
  | _ => false
theorem wordD_is {d : D} (h : wordD d = true) : ∃ x, d = .str x ∧ wordB SIG x = true := by
  cases d <;> first | exact ⟨_, rfl, h⟩ | cases h
theorem nameB_is {d : D} (h : nameB d = true) : ∃ x, d = .str x ∧ wordB LET x = true := by
  cases d <;> first | exact ⟨_, rfl, h⟩ | cases h
theorem wordsB_is {lo hi : Nat} {d : D} (h : wordsB lo hi d = true) : ∃ ws, d = .tup ws ∧ (∀ x ∈ ws, wordD x = true) ∧ lo ≤ ws.length ∧ ws.length ≤ hi := by
  cases d <;> first | cases h | skip
  simp only [wordsB, Bool.and_eq_true, decide_eq_true_eq, List.all_eq_true] at h
  exact ⟨_, rfl, h.1.1, h.1.2, h.2⟩
theorem is_name_ok {d : D} (h : nameB d = true) (st : Sto) : rn_is_name [.v d] st = tt st := by
  obtain ⟨x, rfl, hx⟩ := nameB_is h
  have q := is_of_ok hx st
  simp [runS, Jv.envOf, fin, noX, sSeq, sAsg, sIf, sPar, sSet, sRet, sNil, sExpr, sNo, tVal, bOr, bNot, bAnd, bYes, eAnd, eOr, eNot, eIf, eBin, eCall, eTup, eCon, eVar, eBlt, eLst, eNeg, eChain, aCons, aNil, aLim, gTp, gNm, gsCons, gsNil, allV, ofOp, R.thenS, R.bind, List.replicate, rn_is_name, dn_is_name, q]
theorem is_value_ok {x : Str} (h : wordB SIG x = true) (st : Sto) : rn_is_value [.v (.str x)] st = tt st := by
  have q := is_of_ok h st
  simp [runS, Jv.envOf, fin, noX, sSeq, sAsg, sIf, sPar, sSet, sRet, sNil, sExpr, sNo, tVal, bOr, bNot, bAnd, bYes, eAnd, eOr, eNot, eIf, eBin, eCall, eTup, eCon, eVar, eBlt, eLst, eNeg, eChain, aCons, aNil, aLim, gTp, gNm, gsCons, gsNil, allV, ofOp, R.thenS, R.bind, List.replicate, rn_is_value, dn_is_value, q]
theorem are_words_ok {lo hi : Nat} {d : D} (h : wordsB lo hi d = true) (hh : hi ≤ 1000) (st : Sto) : rn_are_words [.v d, .v (.int lo), .v (.int hi)] st = tt st := by
  obtain ⟨ws, rfl, h1, h2, h3⟩ := wordsB_is h
  have lc := lcGo_all (g := gNm 3) (t := bYes) (e := eCall rn_is_of (aCons (eVar 3) (aCons (eCon (.str SIG)) aNil))) (env := [some (.v (.tup ws)), some (.v (.int lo)), some (.v (.int hi)), none]) (st := st) ws [] (by
    intro d hd
    obtain ⟨x, rfl, hx⟩ := wordD_is (h1 d hd)
    have q := is_of_ok hx st
    refine ⟨_, rfl, rfl, ?_⟩
    simp [runS, Jv.envOf, fin, noX, sSeq, sAsg, sIf, sPar, sSet, sRet, sNil, sExpr, sNo, tVal, bOr, bNot, bAnd, bYes, eAnd, eOr, eNot, eIf, eBin, eCall, eTup, eCon, eVar, eBlt, eLst, eNeg, eChain, aCons, aNil, aLim, gTp, gNm, gsCons, gsNil, allV, ofOp, R.thenS, R.bind, List.replicate, q])
  have lc' : lcGo (gNm 3) bYes (eCall rn_is_of (aCons (eVar 3) (aCons (eCon (.str SIG)) aNil))) [some (.v (.tup ws)), some (.v (.int lo)), some (.v (.int hi)), none] ws st [] = .ok (List.replicate ws.length (.bl true)) st := by simpa using lc
  have hl : ws.length ≤ 100000 := by omega
  have i1 : ((lo : Nat) : Int) ≤ ((ws.length : Nat) : Int) := by omega
  have i2 : ((ws.length : Nat) : Int) ≤ ((hi : Nat) : Int) := by omega
  have iy : isSub "tuple" "tuple" = some true := by kernel_rfl
  simp [runS, Jv.envOf, fin, noX, sSeq, sAsg, sIf, sPar, sSet, sRet, sNil, sExpr, sNo, tVal, bOr, bNot, bAnd, bYes, eAnd, eOr, eNot, eIf, eBin, eCall, eTup, eCon, eVar, eBlt, eLst, eNeg, eChain, aCons, aNil, aLim, gTp, gNm, gsCons, gsNil, allV, ofOp, R.thenS, R.bind, List.replicate, rn_are_words, dn_are_words, isiB, tyN, iy, lenB, onV, int2, i1, i2, lLc, itE, items, wipeE, hl]
  have : (String.toList "abcdefghijklmnopqrstuvwxyz0123456789") = String.toList "abcdefghijklmnopqrstuvwxyz0123456789" := rfl
  rw [lc']
  simp [allB_rep]
abbrev hostB := wordsB 2 5
abbrev pathB := wordsB 0 4
theorem is_host_ok {d : D} (h : hostB d = true) (st : Sto) : rn_is_host [.v d] st = tt st := by
  have q := are_words_ok h (by decide) st
  simp [runS, Jv.envOf, fin, noX, sSeq, sAsg, sIf, sPar, sSet, sRet, sNil, sExpr, sNo, tVal, bOr, bNot, bAnd, bYes, eAnd, eOr, eNot, eIf, eBin, eCall, eTup, eCon, eVar, eBlt, eLst, eNeg, eChain, aCons, aNil, aLim, gTp, gNm, gsCons, gsNil, allV, ofOp, R.thenS, R.bind, List.replicate, rn_is_host, dn_is_host]
  simp at q
  simp [q]
theorem is_path_ok {d : D} (h : pathB d = true) (st : Sto) : rn_is_path [.v d] st = tt st := by
  have q := are_words_ok h (by decide) st
  simp [runS, Jv.envOf, fin, noX, sSeq, sAsg, sIf, sPar, sSet, sRet, sNil, sExpr, sNo, tVal, bOr, bNot, bAnd, bYes, eAnd, eOr, eNot, eIf, eBin, eCall, eTup, eCon, eVar, eBlt, eLst, eNeg, eChain, aCons, aNil, aLim, gTp, gNm, gsCons, gsNil, allV, ofOp, R.thenS, R.bind, List.replicate, rn_is_path, dn_is_path]
  simp at q
  simp [q]
def boolB : D → Bool
  | .bl _ => true
  | _ => false
theorem boolB_is {d : D} (h : boolB d = true) : ∃ b, d = .bl b := by
  cases d <;> first | exact ⟨_, rfl⟩ | cases h
theorem neI (st : Sto) (n : Int) : neD st (.v (.int n)) (.v (.int n)) = some (.bl false) := by
  unfold neD
  have e1 : SeqAt.shaped (deref st (.v (.int n))).py = true := by kernel_rfl
  rw [e1]
  have e2 : PyData.eqv (deref st (.v (.int n))).py (deref st (.v (.int n))).py = true := by
    show PyData.eqv (.int n) (.int n) = true
    simp [PyData.eqv]
  rw [e2]
  rfl
def addrB : D → Bool
  | .tup [h, p, b] => hostB h && pathB p && boolB b
  | _ => false
theorem addrB_is {d : D} (h : addrB d = true) : ∃ a p b, d = .tup [a, p, .bl b] ∧ hostB a = true ∧ pathB p = true := by
  unfold addrB at h
  split at h
  · simp only [Bool.and_eq_true] at h
    obtain ⟨b, rfl⟩ := boolB_is h.2
    exact ⟨_, _, b, rfl, h.1.1, h.1.2⟩
  · cases h
theorem at0 {α : Type} (a : α) (r : List α) : L2.atI (a :: r) 0 = some a := by
  simp [L2.atI, L2.ixN]
theorem at1 {α : Type} (a b : α) (r : List α) : L2.atI (a :: b :: r) 1 = some b := by
  simp [L2.atI, L2.ixN]
  rw [if_pos (by omega)]
  rfl
theorem at2 {α : Type} (a b c : α) (r : List α) : L2.atI (a :: b :: c :: r) 2 = some c := by
  simp [L2.atI, L2.ixN]
  rw [if_pos (by omega)]
  rfl
theorem at3 {α : Type} (a b c d : α) (r : List α) : L2.atI (a :: b :: c :: d :: r) 3 = some d := by
  simp [L2.atI, L2.ixN]
  rw [if_pos (by omega)]
  rfl
theorem at4 {α : Type} (a b c d e : α) (r : List α) : L2.atI (a :: b :: c :: d :: e :: r) 4 = some e := by
  simp [L2.atI, L2.ixN]
  rw [if_pos (by omega)]
  rfl
theorem is_address_ok {d : D} (h : addrB d = true) (st : Sto) : rn_is_address [.v d] st = tt st := by
  obtain ⟨a, p, b, rfl, h1, h2⟩ := addrB_is h
  have q1 := is_host_ok h1 st
  have q2 := is_path_ok h2 st
  have iy : isSub "tuple" "tuple" = some true := by kernel_rfl
  have iz : isSub "bool" "bool" = some true := by kernel_rfl
  have n3 := neI st 3
  simp [runS, Jv.envOf, fin, noX, sSeq, sAsg, sIf, sPar, sSet, sRet, sNil, sExpr, sNo, tVal, bOr, bNot, bAnd, bYes, eAnd, eOr, eNot, eIf, eBin, eCall, eTup, eCon, eVar, eBlt, eLst, eNeg, eChain, aCons, aNil, aLim, gTp, gNm, gsCons, gsNil, allV, ofOp, R.thenS, R.bind, List.replicate, rn_is_address, dn_is_address, isiB, tyN, iy, iz, lenB, ixD, at0, at1, at2, q1, q2, n3]
def optB (p : D → Bool) : D → Bool
  | .non => true
  | .tup xs => p (.tup xs)
  | _ => false
def valS : D → Bool
  | .non => true
  | .str _ => true
  | _ => false
def valL : D → List Str
  | .str x => [x]
  | _ => []
def writeB : D → Bool
  | .tup [n, v, h, p, b] => nameB n && valS v && optB hostB h && optB pathB p && boolB b
  | _ => false
def writeL : D → List Str
  | .tup [_, v, _, _, _] => valL v
  | _ => []
theorem isN_non (st : Sto) : isNotD st (.v .non) (.v .non) = some (.bl false) := rfl
theorem isN_str (st : Sto) (x : Str) : isNotD st (.v (.str x)) (.v .non) = some (.bl true) := rfl
theorem isN_tup (st : Sto) (x : List D) : isNotD st (.v (.tup x)) (.v .non) = some (.bl true) := rfl
theorem is_write_ok {d : D} (h : writeB d = true) (hv : ∀ x ∈ writeL d, wordB SIG x = true) (st : Sto) : rn_is_write [.v d] st = tt st := by
  unfold writeB at h
  split at h
  rotate_left
  · cases h
  rename_i n v hh pp bb
  simp only [Bool.and_eq_true] at h
  obtain ⟨⟨⟨⟨h1, h2⟩, h3⟩, h4⟩, h5⟩ := h
  obtain ⟨b, rfl⟩ := boolB_is h5
  have q1 := is_name_ok h1 st
  have iy : isSub "tuple" "tuple" = some true := by kernel_rfl
  have iz : isSub "bool" "bool" = some true := by kernel_rfl
  have n5 := neI st 5
  have hV : v = .non ∨ ∃ x, v = .str x ∧ rn_is_value [.v (.str x)] st = tt st := by
    cases v <;> first | exact .inl rfl | exact .inr ⟨_, rfl, is_value_ok (hv _ (by simp [writeL, valL])) st⟩ | cases h2
  have hH : hh = .non ∨ ∃ x, hh = .tup x ∧ rn_is_host [.v (.tup x)] st = tt st := by
    cases hh <;> first | exact .inl rfl | exact .inr ⟨_, rfl, is_host_ok (d := .tup _) h3 st⟩ | cases h3
  have hP : pp = .non ∨ ∃ x, pp = .tup x ∧ rn_is_path [.v (.tup x)] st = tt st := by
    cases pp <;> first | exact .inl rfl | exact .inr ⟨_, rfl, is_path_ok (d := .tup _) h4 st⟩ | cases h4
  rcases hV with rfl | ⟨x, rfl, qv⟩ <;> rcases hH with rfl | ⟨y, rfl, qh⟩ <;> rcases hP with rfl | ⟨z, rfl, qp⟩ <;>
    simp [runS, Jv.envOf, fin, noX, sSeq, sAsg, sIf, sPar, sSet, sRet, sNil, sExpr, sNo, tVal, bOr, bNot, bAnd, bYes, eAnd, eOr, eNot, eIf, eBin, eCall, eTup, eCon, eVar, eBlt, eLst, eNeg, eChain, aCons, aNil, aLim, gTp, gNm, gsCons, gsNil, allV, ofOp, R.thenS, R.bind, List.replicate, rn_is_write, dn_is_write, isiB, tyN, iy, iz, lenB, ixD, at0, at1, at2, at3, at4, n5, isN_non, isN_str, isN_tup, *]
def keyB : D → Bool
  | .tup [n, h, p, b] => nameB n && hostB h && pathB p && boolB b
  | _ => false
theorem is_key_ok {d : D} (h : keyB d = true) (st : Sto) : rn_is_key [.v d] st = tt st := by
  unfold keyB at h
  split at h
  rotate_left
  · cases h
  simp only [Bool.and_eq_true] at h
  obtain ⟨⟨⟨h1, h2⟩, h3⟩, h5⟩ := h
  obtain ⟨b, rfl⟩ := boolB_is h5
  have q1 := is_name_ok h1 st
  have q2 := is_host_ok h2 st
  have q3 := is_path_ok h3 st
  have iy : isSub "tuple" "tuple" = some true := by kernel_rfl
  have iz : isSub "bool" "bool" = some true := by kernel_rfl
  have n5 := neI st 4
  simp [runS, Jv.envOf, fin, noX, sSeq, sAsg, sIf, sPar, sSet, sRet, sNil, sExpr, sNo, tVal, bOr, bNot, bAnd, bYes, eAnd, eOr, eNot, eIf, eBin, eCall, eTup, eCon, eVar, eBlt, eLst, eNeg, eChain, aCons, aNil, aLim, gTp, gNm, gsCons, gsNil, allV, ofOp, R.thenS, R.bind, List.replicate, rn_is_key, dn_is_key, isiB, tyN, iy, iz, lenB, ixD, at0, at1, at2, at3, n5, q1, q2, q3]
def keptB : D → Bool
  | .tup [k, .str _, b] => keyB k && boolB b
  | _ => false
def keptL : D → List Str
  | .tup [_, v, _] => valL v
  | _ => []
theorem is_kept_ok {d : D} (h : keptB d = true) (hv : ∀ x ∈ keptL d, wordB SIG x = true) (st : Sto) : rn_is_kept [.v d] st = tt st := by
  unfold keptB at h
  split at h
  rotate_left
  · cases h
  simp only [Bool.and_eq_true] at h
  obtain ⟨b, rfl⟩ := boolB_is h.2
  rename_i k0 x0
  have q1 := is_key_ok h.1 st
  have q2 := is_value_ok (hv x0 (by simp [keptL, valL])) st
  have iy : isSub "tuple" "tuple" = some true := by kernel_rfl
  have iz : isSub "bool" "bool" = some true := by kernel_rfl
  have n5 := neI st 3
  simp [runS, Jv.envOf, fin, noX, sSeq, sAsg, sIf, sPar, sSet, sRet, sNil, sExpr, sNo, tVal, bOr, bNot, bAnd, bYes, eAnd, eOr, eNot, eIf, eBin, eCall, eTup, eCon, eVar, eBlt, eLst, eNeg, eChain, aCons, aNil, aLim, gTp, gNm, gsCons, gsNil, allV, ofOp, R.thenS, R.bind, List.replicate, rn_is_kept, dn_is_kept, isiB, tyN, iy, iz, lenB, ixD, at0, at1, at2, n5, q1, q2]
/-! need_site -/
theorem forGo_nx {g : GD} {body : SD} {st : Sto} (P : Jv.Env → Prop) : ∀ (ds : List D) (env : Jv.Env), P env → (∀ d ∈ ds, ∀ env, P env → ∃ env1, g (.v d) env = some env1 ∧ ∃ env2, body env1 st = .nx env2 st ∧ P env2) → ∃ env2, forGo g body ds env st = .nx env2 st ∧ P env2
  | [], env, h, _ => ⟨env, rfl, h⟩
  | d :: r, env, h, f => by
    obtain ⟨env1, h1, env2, h2, h3⟩ := f d List.mem_cons_self env h
    simp only [forGo, h1, h2]
    exact forGo_nx P r env2 h3 fun x hx => f x (List.mem_cons_of_mem _ hx)
theorem enumF_mem : ∀ {ds : List D} {k : Nat} {d : D}, d ∈ enumF k ds → ∃ i x, d = .tup [.int i, x] ∧ x ∈ ds
  | [], _, _, h => nomatch h
  | x :: r, k, d, h => by
    rcases List.mem_cons.mp h with rfl | h
    · exact ⟨_, x, rfl, List.mem_cons_self⟩
    · obtain ⟨i, y, e, hy⟩ := enumF_mem h
      exact ⟨i, y, e, List.mem_cons_of_mem _ hy⟩
def pageB : D → Bool
  | .tup [a, .tup ws] => addrB a && decide (ws.length ≤ 5) && ws.all writeB
  | _ => false
def pageL : D → List Str
  | .tup [_, .tup ws] => ws.flatMap writeL
  | _ => []
def siteB : D → Bool
  | .tup ps => decide (1 ≤ ps.length) && decide (ps.length ≤ 5) && ps.all pageB
  | _ => false
def siteL : D → List Str
  | .tup ps => ps.flatMap pageL
  | _ => []
theorem need_site_ok {d : D} (h : siteB d = true) (hv : ∀ x ∈ siteL d, wordB SIG x = true) (st : Sto) : rn_need_site [.v d] st = .ok (.v d) st := by
  unfold siteB at h
  split at h
  rotate_left
  · cases h
  rename_i ps
  simp only [Bool.and_eq_true, decide_eq_true_eq, List.all_eq_true] at h
  obtain ⟨⟨h1, h2⟩, h3⟩ := h
  have iy : isSub "tuple" "tuple" = some true := by kernel_rfl
  have i1 : (1 : Int) ≤ ((ps.length : Nat) : Int) := by omega
  have i2 : ((ps.length : Nat) : Int) ≤ 5 := by omega
  have n2 := neI st 2
  have inner : ∀ (ws : List D) (env : Jv.Env), (∀ x ∈ ws, rn_is_write [.v x] st = tt st) → (∃ a b c e, env = [some (.v (.tup ps)), a, b, c, e]) →
      ∃ env2, forGo (gTp 2 (gsCons (gNm 3) (gsCons (gNm 4) gsNil))) (sIf (bNot (tVal (eCall rn_is_write (aCons (eVar 4) aNil)))) sNo sNil) (enumF 0 ws) env st = .nx env2 st ∧ ∃ a b c e, env2 = [some (.v (.tup ps)), a, b, c, e] := by
    intro ws env hw he
    refine forGo_nx (fun env => ∃ a b c e, env = [some (.v (.tup ps)), a, b, c, e]) _ env he ?_
    rintro d hd env ⟨a, b, c, e, rfl⟩
    obtain ⟨i, x, rfl, hx⟩ := enumF_mem hd
    have q := hw x hx
    refine ⟨_, rfl, [some (.v (.tup ps)), a, b, some (.v (.int i)), some (.v x)], ?_, _, _, _, _, rfl⟩
    simp [runS, Jv.envOf, fin, noX, sSeq, sAsg, sIf, sPar, sSet, sRet, sNil, sExpr, sNo, tVal, bOr, bNot, bAnd, bYes, eAnd, eOr, eNot, eIf, eBin, eCall, eTup, eCon, eVar, eBlt, eLst, eNeg, eChain, aCons, aNil, aLim, gTp, gNm, gsCons, gsNil, allV, ofOp, R.thenS, R.bind, List.replicate, q]
  obtain ⟨env2, e1, a, b, c, e, rfl⟩ := forGo_nx (g := gTp 2 (gsCons (gNm 1) (gsCons (gNm 2) gsNil))) (body := (sSeq (sIf (bOr (bNot (tVal (eBlt isiB (aCons (eVar 2) (aCons (eCon (.ty "tuple")) aNil))))) (bOr (tVal (eBin neD (eBlt lenB (aCons (eVar 2) aNil)) (eCon (.int 2)))) (bNot (tVal (eCall rn_is_address (aCons (eBin ixD (eVar 2) (eCon (.int 0))) aNil)))))) sNo sNil) (sSeq (sIf (bOr (bNot (tVal (eBlt isiB (aCons (eBin ixD (eVar 2) (eCon (.int 1))) (aCons (eCon (.ty "tuple")) aNil))))) (tVal (eBin gtD (eBlt lenB (aCons (eBin ixD (eVar 2) (eCon (.int 1))) aNil)) (eCon (.int 5))))) sNo sNil) (sFor (itEnum (aCons (eBin ixD (eVar 2) (eCon (.int 1))) aNil)) (gTp 2 (gsCons (gNm 3) (gsCons (gNm 4) gsNil))) (sIf (bNot (tVal (eCall rn_is_write (aCons (eVar 4) aNil)))) sNo sNil))))) (st := st) (fun env => ∃ a b c e, env = [some (.v (.tup ps)), a, b, c, e]) (enumF 0 ps) [some (.v (.tup ps)), none, none, none, none] ⟨_, _, _, _, rfl⟩ (by
    rintro d hd env ⟨a, b, c, e, rfl⟩
    obtain ⟨i, x, rfl, hx⟩ := enumF_mem hd
    have px := h3 x hx
    unfold pageB at px
    split at px
    rotate_left
    · cases px
    rename_i ad ws
    simp only [Bool.and_eq_true, decide_eq_true_eq, List.all_eq_true] at px
    obtain ⟨⟨p1, p2⟩, p3⟩ := px
    have q1 := is_address_ok p1 st
    have i5 : ¬ ((5 : Int) < ((ws.length : Nat) : Int)) := by omega
    obtain ⟨env2, e1, ex⟩ := inner ws [some (.v (.tup ps)), some (.v (.int i)), some (.v (.tup [ad, .tup ws])), c, e] (fun y hy => is_write_ok (p3 y hy) (fun z hz => hv z (by
      simp only [siteL, List.mem_flatMap]
      exact ⟨_, hx, by simp only [pageL, List.mem_flatMap]; exact ⟨y, hy, hz⟩⟩)) st) ⟨_, _, _, _, rfl⟩
    refine ⟨_, rfl, env2, ?_, ex⟩
    simp [runS, Jv.envOf, fin, noX, sSeq, sAsg, sIf, sPar, sSet, sRet, sNil, sExpr, sNo, tVal, bOr, bNot, bAnd, bYes, eAnd, eOr, eNot, eIf, eBin, eCall, eTup, eCon, eVar, eBlt, eLst, eNeg, eChain, aCons, aNil, aLim, gTp, gNm, gsCons, gsNil, allV, ofOp, R.thenS, R.bind, List.replicate, isiB, tyN, iy, lenB, onV, int2, ixD, at0, at1, n2, q1, i5, sFor, itEnum, enums, e1])
  simp [runS, Jv.envOf, fin, noX, sSeq, sAsg, sIf, sPar, sSet, sRet, sNil, sExpr, sNo, tVal, bOr, bNot, bAnd, bYes, eAnd, eOr, eNot, eIf, eBin, eCall, eTup, eCon, eVar, eBlt, eLst, eNeg, eChain, aCons, aNil, aLim, gTp, gNm, gsCons, gsNil, allV, ofOp, R.thenS, R.bind, List.replicate, rn_need_site, dn_need_site, isiB, tyN, iy, lenB, onV, int2, i1, i2, sFor, itEnum, enums, e1]
end K5
end
section
namespace K5
open PySem Jv
def rankM : D → D
  | .tup (.tup [n, _, .tup f, _] :: _) => .tup [n, .int (-(f.length : Int)), .tup f]
  | _ => .non
def keyOf : D → D
  | .tup (k :: _) => k
  | _ => .non
theorem keptB_is {d : D} (h : keptB d = true) : ∃ n hh f b x g, d = .tup [.tup [n, hh, .tup f, b], .str x, .bl g] := by
  unfold keptB at h
  split at h
  rotate_left
  · cases h
  simp only [Bool.and_eq_true] at h
  obtain ⟨g, rfl⟩ := boolB_is h.2
  have h1 := h.1
  unfold keyB at h1
  split at h1
  rotate_left
  · cases h1
  simp only [Bool.and_eq_true] at h1
  obtain ⟨ws, rfl, _⟩ := wordsB_is h1.1.2
  exact ⟨_, _, _, _, _, _, rfl⟩
theorem rank_ok {d : D} (h : keptB d = true) (st : Sto) : rn_rank [.v d] st = .ok (.v (rankM d)) st := by
  obtain ⟨n, hh, f, b, x, g, rfl⟩ := keptB_is h
  simp [runS, Jv.envOf, fin, noX, sSeq, sAsg, sIf, sPar, sSet, sRet, sNil, sExpr, sNo, tVal, bOr, bNot, bAnd, bYes, eAnd, eOr, eNot, eIf, eBin, eCall, eTup, eCon, eVar, eBlt, eLst, eNeg, eChain, aCons, aNil, aLim, gTp, gNm, gsCons, gsNil, allV, ofOp, R.thenS, R.bind, List.replicate, rn_rank, dn_rank, ixD, at0, lenB, rankM]
def ltN (a b : D) : Bool := match ltT [] (.v a) (.v b) with
  | some (.bl false) => true
  | _ => false
theorem ltN_is {a b : D} (h : ltN a b = true) (st : Sto) : ltT st (.v a) (.v b) = some (.bl false) := by
  have e : ltT st (.v a) (.v b) = ltT [] (.v a) (.v b) := rfl
  rw [e]
  unfold ltN at h
  split at h
  · assumption
  · cases h
def jarB : Option D → List (D × D) → List D → Bool
  | _, _, [] => true
  | p, kvs, k :: r => keptB k && okK (keyOf k) && !hasK kvs (keyOf k) && (match p with | none => true | some q => ltN (rankM k) (rankM q)) && decide (kvs.length ≤ 1000) && jarB (some k) (storeK kvs (keyOf k) (.bl true)) r
theorem inK_no {w : World} {st : Sto} {kvs : List (D × D)} {ds : List D} (h1 : okK (.tup ds) = true) (h2 : hasK kvs (.tup ds) = false) : inKD w (st ++ [.kd (fun k => k.hash w) kvs]) (.v (.tup ds)) (.r st.length) = some (.bl false) := by
  unfold inKD
  simp [h1, h2]
theorem kPut_ok {w : World} {st : Sto} {kvs : List (D × D)} {ds : List D} {env : Jv.Env} {d : D} (h1 : okK (.tup ds) = true) (h2 : kvs.length ≤ 1000) :
    kPut w (.r st.length) (.v (.tup ds)) (.v d) env (st ++ [.kd (fun k => k.hash w) kvs]) = .nx env (st ++ [.kd (fun k => k.hash w) (storeK kvs (.tup ds) d)]) := by
  unfold kPut
  simp [h1, h2]
theorem jar_loop {w : World} {st : Sto} {all : List D} : ∀ (rest : List D) (k : Nat) (p : Option D) (kvs : List (D × D)) (a b : Option W), jarB p kvs rest = true → (∀ x ∈ rest.flatMap keptL, wordB SIG x = true) →
    ((k = 0 ∧ p = none) ∨ ∃ q, p = some q ∧ 0 < k ∧ L2.atI all ((k : Int) - 1) = some q ∧ keptB q = true) → (∀ (i : Nat) (x : D), rest[i]? = some x → L2.atI all ((k : Int) + (i : Int)) = some x) →
    ∃ a' b' kvs', forGo (gTp 2 (gsCons (gNm 2) (gsCons (gNm 3) gsNil))) (sSeq (sIf (bOr (bNot (tVal (eCall rn_is_kept (aCons (eVar 3) aNil)))) (tVal (eBin (inKD w) (eBin ixD (eVar 3) (eCon (.int 0))) (eVar 1)))) sNo sNil) (sSeq (sIf (bAnd (tVal (eBin gtD (eVar 2) (eCon (.int 0)))) (tVal (eBin ltT (eCall rn_rank (aCons (eVar 3) aNil)) (eCall rn_rank (aCons (eBin ixD (eVar 0) (eBin subD (eVar 2) (eCon (.int 1)))) aNil))))) sNo sNil) (sKPut w (eVar 1) (eBin ixD (eVar 3) (eCon (.int 0))) (eCon (.bl true))))) (enumF k rest) [some (.v (.tup all)), some (.r st.length), a, b] (st ++ [.kd (fun k => k.hash w) kvs]) =
      .nx [some (.v (.tup all)), some (.r st.length), a', b'] (st ++ [.kd (fun k => k.hash w) kvs'])
  | [], k, p, kvs, a, b, _, _, _, _ => ⟨a, b, kvs, rfl⟩
  | x :: r, k, p, kvs, a, b, h, hv, hp, hi => by
    simp only [jarB, Bool.and_eq_true, decide_eq_true_eq, Bool.not_eq_true'] at h
    obtain ⟨⟨⟨⟨⟨h1, h2⟩, h3⟩, h4⟩, h5⟩, h6⟩ := h
    have q1 := is_kept_ok h1 (fun y hy => hv y (by simp only [List.flatMap_cons, List.mem_append]; exact .inl hy)) (st ++ [.kd (fun k => k.hash w) kvs])
    have q2 := rank_ok h1 (st ++ [.kd (fun k => k.hash w) kvs])
    have hk1 := h1
    obtain ⟨n, hh, f, b0, x0, g, rfl⟩ := keptB_is h1
    simp only [keyOf] at h2 h3 h6
    have q3 := inK_no (w := w) (st := st) h2 h3
    have q4 := fun env d => kPut_ok (w := w) (st := st) (env := env) (d := d) h2 h5
    have step : forGo (gTp 2 (gsCons (gNm 2) (gsCons (gNm 3) gsNil))) (sSeq (sIf (bOr (bNot (tVal (eCall rn_is_kept (aCons (eVar 3) aNil)))) (tVal (eBin (inKD w) (eBin ixD (eVar 3) (eCon (.int 0))) (eVar 1)))) sNo sNil) (sSeq (sIf (bAnd (tVal (eBin gtD (eVar 2) (eCon (.int 0)))) (tVal (eBin ltT (eCall rn_rank (aCons (eVar 3) aNil)) (eCall rn_rank (aCons (eBin ixD (eVar 0) (eBin subD (eVar 2) (eCon (.int 1)))) aNil))))) sNo sNil) (sKPut w (eVar 1) (eBin ixD (eVar 3) (eCon (.int 0))) (eCon (.bl true))))) (enumF k (.tup [.tup [n, hh, .tup f, b0], .str x0, .bl g] :: r)) [some (.v (.tup all)), some (.r st.length), a, b] (st ++ [.kd (fun k => k.hash w) kvs]) =
        forGo (gTp 2 (gsCons (gNm 2) (gsCons (gNm 3) gsNil))) (sSeq (sIf (bOr (bNot (tVal (eCall rn_is_kept (aCons (eVar 3) aNil)))) (tVal (eBin (inKD w) (eBin ixD (eVar 3) (eCon (.int 0))) (eVar 1)))) sNo sNil) (sSeq (sIf (bAnd (tVal (eBin gtD (eVar 2) (eCon (.int 0)))) (tVal (eBin ltT (eCall rn_rank (aCons (eVar 3) aNil)) (eCall rn_rank (aCons (eBin ixD (eVar 0) (eBin subD (eVar 2) (eCon (.int 1)))) aNil))))) sNo sNil) (sKPut w (eVar 1) (eBin ixD (eVar 3) (eCon (.int 0))) (eCon (.bl true))))) (enumF (k + 1) r) [some (.v (.tup all)), some (.r st.length), some (.v (.int k)), some (.v (.tup [.tup [n, hh, .tup f, b0], .str x0, .bl g]))] (st ++ [.kd (fun k => k.hash w) (storeK kvs (.tup [n, hh, .tup f, b0]) (.bl true))]) := by
      rcases hp with ⟨rfl, rfl⟩ | ⟨q, rfl, hk, hq, kq⟩
      · simp [runS, Jv.envOf, fin, noX, sSeq, sAsg, sIf, sPar, sSet, sRet, sNil, sExpr, sNo, tVal, bOr, bNot, bAnd, bYes, eAnd, eOr, eNot, eIf, eBin, eCall, eTup, eCon, eVar, eBlt, eLst, eNeg, eChain, aCons, aNil, aLim, gTp, gNm, gsCons, gsNil, allV, ofOp, R.thenS, R.bind, List.replicate, enumF, forGo, q1, q2, q3, q4, ixD, at0, onV, int2, sKPut]
      · have q5 := rank_ok kq (st ++ [.kd (fun k => k.hash w) kvs])
        have q6 := ltN_is h4 (st ++ [.kd (fun k => k.hash w) kvs])
        have q7 : (0 : Int) < (k : Int) := by omega
        simp [runS, Jv.envOf, fin, noX, sSeq, sAsg, sIf, sPar, sSet, sRet, sNil, sExpr, sNo, tVal, bOr, bNot, bAnd, bYes, eAnd, eOr, eNot, eIf, eBin, eCall, eTup, eCon, eVar, eBlt, eLst, eNeg, eChain, aCons, aNil, aLim, gTp, gNm, gsCons, gsNil, allV, ofOp, R.thenS, R.bind, List.replicate, enumF, forGo, q1, q2, q3, q4, q5, q6, q7, hq, ixD, at0, onV, int2, sKPut]
    obtain ⟨a', b', kvs', e⟩ := jar_loop r (k + 1) (some (.tup [.tup [n, hh, .tup f, b0], .str x0, .bl g])) (storeK kvs (.tup [n, hh, .tup f, b0]) (.bl true)) (some (.v (.int k))) (some (.v (.tup [.tup [n, hh, .tup f, b0], .str x0, .bl g]))) h6
      (fun y hy => hv y (by simp only [List.flatMap_cons, List.mem_append]; exact .inr hy))
      (.inr ⟨_, rfl, by omega, by have := hi 0 _ rfl; simpa using this, hk1⟩)
      (fun i y hy => by
        have := hi (i + 1) y (by simpa using hy)
        rw [← this]
        congr 1
        omega)
    exact ⟨a', b', kvs', step.trans e⟩
def jarK : D → Bool
  | .tup ks => jarB none [] ks && decide (ks.length ≤ 1000)
  | _ => false
def jarL : D → List Str
  | .tup ks => ks.flatMap keptL
  | _ => []
theorem need_jar_ok {d : D} (w : World) (h : jarK d = true) (hv : ∀ x ∈ jarL d, wordB SIG x = true) (st : Sto) : rn_need_jar w [.v d] st = .ok (.v d) st := by
  unfold jarK at h
  split at h
  rotate_left
  · cases h
  rename_i ks
  simp only [Bool.and_eq_true, decide_eq_true_eq] at h
  have iy : isSub "tuple" "tuple" = some true := by kernel_rfl
  obtain ⟨a, b, kvs, e⟩ := jar_loop (w := w) (st := st) (all := ks) ks 0 none [] none none h.1 hv (.inl ⟨rfl, rfl⟩) (fun i x hx => by
    have hl := (List.getElem?_eq_some_iff.mp hx).1
    simp only [L2.atI, L2.ixN]
    have e1 : ((0 : Nat) : Int) + (i : Int) = (i : Int) := by omega
    rw [e1, if_pos (by omega)]
    simp [hl]
    simpa [hl] using hx)
  simp [runS, Jv.envOf, fin, noX, sSeq, sAsg, sIf, sPar, sSet, sRet, sNil, sExpr, sNo, tVal, bOr, bNot, bAnd, bYes, eAnd, eOr, eNot, eIf, eBin, eCall, eTup, eCon, eVar, eBlt, eLst, eNeg, eChain, aCons, aNil, aLim, gTp, gNm, gsCons, gsNil, allV, ofOp, R.thenS, R.bind, List.replicate, rn_need_jar, dn_need_jar, isiB, tyN, iy, eKNew, sFor, itEnum, enums, e]
end K5
end
section
namespace K5
open PySem Jv
theorem need_address_ok {d : D} (h : addrB d = true) (st : Sto) : rn_need_address [.v d] st = .ok (.v d) st := by
  have q := is_address_ok h st
  simp [runS, Jv.envOf, fin, noX, sSeq, sAsg, sIf, sPar, sSet, sRet, sNil, sExpr, sNo, tVal, bOr, bNot, bAnd, bYes, eAnd, eOr, eNot, eIf, eBin, eCall, eTup, eCon, eVar, eBlt, eLst, eNeg, eChain, aCons, aNil, aLim, gTp, gNm, gsCons, gsNil, allV, ofOp, R.thenS, R.bind, List.replicate, rn_need_address, dn_need_address, q]
theorem need_name_ok {d : D} (h : nameB d = true) (st : Sto) : rn_need_name [.v d] st = .ok (.v d) st := by
  have q := is_name_ok h st
  simp [runS, Jv.envOf, fin, noX, sSeq, sAsg, sIf, sPar, sSet, sRet, sNil, sExpr, sNo, tVal, bOr, bNot, bAnd, bYes, eAnd, eOr, eNot, eIf, eBin, eCall, eTup, eCon, eVar, eBlt, eLst, eNeg, eChain, aCons, aNil, aLim, gTp, gNm, gsCons, gsNil, allV, ofOp, R.thenS, R.bind, List.replicate, rn_need_name, dn_need_name, q]
theorem behind_ok {site row jar : D} {st : Sto} (h : siteB site = true) (hv : ∀ x ∈ siteL site, wordB SIG x = true) (hr : rn_need_row [.v site, .v row] st = .ok (.v row) st) (hb : rn_behind_in [.v site, .v row] st = .ok (.v jar) st) :
    rn_behind [.v site, .v row] st = .ok (.v jar) st := by
  have q := need_site_ok h hv st
  simp [runS, Jv.envOf, fin, noX, sSeq, sAsg, sIf, sPar, sSet, sRet, sNil, sExpr, sNo, tVal, bOr, bNot, bAnd, bYes, eAnd, eOr, eNot, eIf, eBin, eCall, eTup, eCon, eVar, eBlt, eLst, eNeg, eChain, aCons, aNil, aLim, gTp, gNm, gsCons, gsNil, allV, ofOp, R.thenS, R.bind, List.replicate, rn_behind, dn_behind, q, hr, hb]
theorem sent_ok {jar addr out : D} {st : Sto} (w : World) (h : jarK jar = true) (hv : ∀ x ∈ jarL jar, wordB SIG x = true) (ha : addrB addr = true) (hs : rn_sent_in [.v jar, .v addr] st = .ok (.v out) st) : rn_sent w [.v jar, .v addr] st = .ok (.v out) st := by
  have q := need_jar_ok w h hv st
  have q2 := need_address_ok ha st
  simp [runS, Jv.envOf, fin, noX, sSeq, sAsg, sIf, sPar, sSet, sRet, sNil, sExpr, sNo, tVal, bOr, bNot, bAnd, bYes, eAnd, eOr, eNot, eIf, eBin, eCall, eTup, eCon, eVar, eBlt, eLst, eNeg, eChain, aCons, aNil, aLim, gTp, gNm, gsCons, gsNil, allV, ofOp, R.thenS, R.bind, List.replicate, rn_sent, dn_sent, q, q2, hs]
theorem read_ok {jar addr name out : D} {st : Sto} (w : World) (h : jarK jar = true) (hv : ∀ x ∈ jarL jar, wordB SIG x = true) (ha : addrB addr = true) (hn : nameB name = true) (hs : rn_read_in [.v jar, .v addr, .v name] st = .ok (.v out) st) :
    rn_read w [.v jar, .v addr, .v name] st = .ok (.v out) st := by
  have q := need_jar_ok w h hv st
  have q2 := need_address_ok ha st
  have q3 := need_name_ok hn st
  simp [runS, Jv.envOf, fin, noX, sSeq, sAsg, sIf, sPar, sSet, sRet, sNil, sExpr, sNo, tVal, bOr, bNot, bAnd, bYes, eAnd, eOr, eNot, eIf, eBin, eCall, eTup, eCon, eVar, eBlt, eLst, eNeg, eChain, aCons, aNil, aLim, gTp, gNm, gsCons, gsNil, allV, ofOp, R.thenS, R.bind, List.replicate, rn_read, dn_read, q, q2, q3, hs]
theorem visited_ok {jar site page pg out : D} {st : Sto} (w : World) (h : jarK jar = true) (hv : ∀ x ∈ jarL jar, wordB SIG x = true) (h2 : siteB site = true) (hv2 : ∀ x ∈ siteL site, wordB SIG x = true) (hp : rn_need_page [.v site, .v page] st = .ok (.v page) st)
    (hx : ixD st (.v site) (.v page) = some pg) (hs : rn_after [.v jar, .v pg] st = .ok (.v out) st) : rn_visited w [.v jar, .v site, .v page] st = .ok (.v out) st := by
  have q := need_jar_ok w h hv st
  have q2 := need_site_ok h2 hv2 st
  simp [runS, Jv.envOf, fin, noX, sSeq, sAsg, sIf, sPar, sSet, sRet, sNil, sExpr, sNo, tVal, bOr, bNot, bAnd, bYes, eAnd, eOr, eNot, eIf, eBin, eCall, eTup, eCon, eVar, eBlt, eLst, eNeg, eChain, aCons, aNil, aLim, gTp, gNm, gsCons, gsNil, allV, ofOp, R.thenS, R.bind, List.replicate, rn_visited, dn_visited, q, q2, hp, hx, hs]
theorem neS (st : Sto) (d : D) (h : SeqAt.shaped d.py = true) : neD st (.v d) (.v d) = some (.bl false) := by
  have e : PyData.eqv d.py d.py = true := SeqAt.eqv_refl d.py (SeqAt.canLay_of_shaped h)
  simp [neD, deref, h, e]
theorem eqS (st : Sto) (d : D) (h : SeqAt.shaped d.py = true) : eqD st (.v d) (.v d) = some (.bl true) := by
  have e : PyData.eqv d.py d.py = true := SeqAt.eqv_refl d.py (SeqAt.canLay_of_shaped h)
  simp [eqD, deref, h, e]
theorem lit_id : PyData.strOk "id" = true := by kernel_rfl
theorem lit_www : PyData.strOk "www" = true := by kernel_rfl
theorem lit_b : PyData.strOk "b" = true := by kernel_rfl
theorem lit_c : PyData.strOk "c" = true := by kernel_rfl
theorem lit_p : PyData.strOk "p" = true := by kernel_rfl
theorem lit_q : PyData.strOk "q" = true := by kernel_rfl
theorem lit_x : PyData.strOk "x" = true := by kernel_rfl
theorem lit_d : PyData.strOk "d" = true := by kernel_rfl
theorem lit_a : PyData.strOk "a" = true := by kernel_rfl
theorem lit_shop : PyData.strOk "shop" = true := by kernel_rfl
theorem lit_r : PyData.strOk "r" = true := by kernel_rfl
theorem lit_z : PyData.strOk "z" = true := by kernel_rfl
theorem lit_pq : PyData.strOk "pq" = true := by kernel_rfl
theorem lit_org : PyData.strOk "org" = true := by kernel_rfl
theorem lit_in : PyData.strOk "in" = true := by kernel_rfl
theorem lit_a1 : PyData.strOk "a1" = true := by kernel_rfl
theorem lit_b2 : PyData.strOk "b2" = true := by kernel_rfl
theorem sig_ok : ∀ c ∈ SIG.cps.toList, c < 1114112 := by decide +kernel
theorem word_ok {x : Str} (h : wordB SIG x = true) : PyData.strOk x = true := by
  simp only [wordB, Bool.and_eq_true, decide_eq_true_eq, List.all_eq_true] at h
  unfold PyData.strOk
  rw [← Array.all_toList, List.all_eq_true]
  exact fun c hc => decide_eq_true (sig_ok c (h.2 c hc))
/-! two -/
abbrev host : D := T [.str "www", .str "b", .str "c"]
abbrev near : D := T [.str "b", .str "c"]
abbrev kp (k : D) (v : Str) (b : Bool) : D := T [k, .str v, .bl b]
abbrev pr (n : Str) (v : Str) : D := T [.str n, .str v]
abbrev site2 (a b : Str) : D := T [T [T [host, T [.str "p"], .bl true], T [T [.str "id", .str a, .non, .non, .bl false], T [.str "id", .str b, host, .non, .bl false]]],
  T [T [host, T [], .bl false], T [T [.str "id", .non, .non, .non, .bl false]]],
  T [T [near, T [], .bl false], T [T [.str "id", .non, near, .non, .bl false], T [.str "id", .str a, near, .non, .bl false]]]]
abbrev alone : D := T [.str "id", host, T [], .bl true]
abbrev wide : D := T [.str "id", host, T [], .bl false]
abbrev knear : D := T [.str "id", near, T [], .bl false]
abbrev jar2 (a b : Str) : D := T [kp knear a false, kp alone a false, kp wide b false]
theorem two_ok (w : World) {a b : Str} (ha : wordB SIG a = true) (hb : wordB SIG b = true) (o1 o2 : Ob) : rn__law_two_right w [.v (.str a), .v (.str b)] [o1, o2] = tt [o1, o2] := by
  have sB : siteB (site2 a b) = true := by kernel_rfl
  have sL : siteL (site2 a b) = [a, b, a] := by kernel_rfl
  have sV : ∀ x ∈ siteL (site2 a b), wordB SIG x = true := by rw [sL]; simp [ha, hb]
  have jB : jarK (jar2 a b) = true := by kernel_rfl
  have jL : jarL (jar2 a b) = [a, a, b] := by kernel_rfl
  have jV : ∀ x ∈ jarL (jar2 a b), wordB SIG x = true := by rw [jL]; simp [ha, hb]
  have h1 := behind_ok (row := T [.int 0]) (jar := T [kp alone a false, kp wide b false]) (st := [o1, o2]) sB sV (by kernel_rfl) (by kernel_rfl)
  have h2 := behind_ok (row := T [.int 0, .int 1]) (jar := T [kp wide b false]) (st := [o1, o2]) sB sV (by kernel_rfl) (by kernel_rfl)
  have h3 := behind_ok (row := T [.int 1, .int 0, .int 1, .int 1]) (jar := T [kp wide b false]) (st := [o1, o2]) sB sV (by kernel_rfl) (by kernel_rfl)
  have h4 := behind_ok (row := T [.int 0, .int 2]) (jar := T [kp alone a false, kp wide b false, kp knear a false]) (st := [o1, o2]) sB sV (by kernel_rfl) (by kernel_rfl)
  have h5 := behind_ok (row := T [.int 2, .int 0]) (jar := jar2 a b) (st := [o1, o2]) sB sV (by kernel_rfl) (by kernel_rfl)
  have s1 := sent_ok (addr := T [host, T [], .bl true]) (out := T [pr "id" a, pr "id" a, pr "id" b]) (st := [o1, o2]) w jB jV (by kernel_rfl) (by kernel_rfl)
  have s2 := sent_ok (addr := T [T [.str "x", .str "www", .str "b", .str "c"], T [], .bl false]) (out := T [pr "id" a, pr "id" b]) (st := [o1, o2]) w jB jV (by kernel_rfl) (by kernel_rfl)
  have s3 := sent_ok (addr := T [near, T [.str "q"], .bl false]) (out := T [pr "id" a]) (st := [o1, o2]) w jB jV (by kernel_rfl) (by kernel_rfl)
  have s4 := sent_ok (addr := T [T [.str "b", .str "d"], T [], .bl true]) (out := T []) (st := [o1, o2]) w jB jV (by kernel_rfl) (by kernel_rfl)
  have r1 := read_ok (addr := T [T [.str "b", .str "d"], T [], .bl true]) (name := .str "id") (out := .non) (st := [o1, o2]) w jB jV (by kernel_rfl) (by kernel_rfl) (by kernel_rfl)
  have sa := word_ok ha
  have sb := word_ok hb
  have e1 := neS [o1, o2] (T [kp alone a false, kp wide b false]) (by simp [SeqAt.shaped, D.py, D.pyL, PyData.canLay0, PyData.canLayAll0, PyData.depth, PyData.depthAll, lit_id, lit_www, lit_b, lit_c, lit_p, lit_q, lit_x, lit_d, lit_a, lit_shop, lit_r, lit_z, lit_pq, lit_org, lit_in, lit_a1, lit_b2, sa, sb])
  have e2 := neS [o1, o2] (T [kp wide b false]) (by simp [SeqAt.shaped, D.py, D.pyL, PyData.canLay0, PyData.canLayAll0, PyData.depth, PyData.depthAll, lit_id, lit_www, lit_b, lit_c, lit_p, lit_q, lit_x, lit_d, lit_a, lit_shop, lit_r, lit_z, lit_pq, lit_org, lit_in, lit_a1, lit_b2, sa, sb])
  have e4 := neS [o1, o2] (T [kp alone a false, kp wide b false, kp knear a false]) (by simp [SeqAt.shaped, D.py, D.pyL, PyData.canLay0, PyData.canLayAll0, PyData.depth, PyData.depthAll, lit_id, lit_www, lit_b, lit_c, lit_p, lit_q, lit_x, lit_d, lit_a, lit_shop, lit_r, lit_z, lit_pq, lit_org, lit_in, lit_a1, lit_b2, sa, sb])
  have e5 := neS [o1, o2] (jar2 a b) (by simp [SeqAt.shaped, D.py, D.pyL, PyData.canLay0, PyData.canLayAll0, PyData.depth, PyData.depthAll, lit_id, lit_www, lit_b, lit_c, lit_p, lit_q, lit_x, lit_d, lit_a, lit_shop, lit_r, lit_z, lit_pq, lit_org, lit_in, lit_a1, lit_b2, sa, sb])
  have e6 := neS [o1, o2] (.lst [T [pr "id" a, pr "id" a, pr "id" b], T [pr "id" a, pr "id" b], T [pr "id" a]]) (by simp [SeqAt.shaped, D.py, D.pyL, PyData.canLay0, PyData.canLayAll0, PyData.depth, PyData.depthAll, lit_id, lit_www, lit_b, lit_c, lit_p, lit_q, lit_x, lit_d, lit_a, lit_shop, lit_r, lit_z, lit_pq, lit_org, lit_in, lit_a1, lit_b2, sa, sb])
  have e7 := eqS [o1, o2] (T []) (by simp [SeqAt.shaped, D.py, D.pyL, PyData.canLay0, PyData.canLayAll0, PyData.depth, PyData.depthAll, lit_id, lit_www, lit_b, lit_c, lit_p, lit_q, lit_x, lit_d, lit_a, lit_shop, lit_r, lit_z, lit_pq, lit_org, lit_in, lit_a1, lit_b2, sa, sb])
  have e8 : isD [o1, o2] (.v .non) (.v .non) = some (.bl true) := rfl
  have e9 : addD [o1, o2] (.v (T [.str "x"])) (.v host) = some (T [.str "x", .str "www", .str "b", .str "c"]) := by kernel_rfl
  simp [runS, Jv.envOf, fin, noX, sSeq, sAsg, sIf, sPar, sSet, sRet, sNil, sExpr, sNo, tVal, bOr, bNot, bAnd, bYes, eAnd, eOr, eNot, eIf, eBin, eCall, eTup, eCon, eVar, eBlt, eLst, eNeg, eChain, aCons, aNil, aLim, gTp, gNm, gsCons, gsNil, allV, ofOp, R.thenS, R.bind, List.replicate, rn__law_two_right, dn__law_two_right, h1, h2, h3, h4, h5, s1, s2, s3, s4, r1, e1, e2, e4, e5, e6, e7, e8, e9]
end K5
end
section
namespace K5
open PySem Jv
theorem read_in_ok {jar addr name y : D} {st : Sto} {ds : List D} (hl : (lLc [4, 5] (itE (eCall rn_sent_in (aCons (eVar 0) (aCons (eVar 1) aNil)))) (gTp 2 (gsCons (gNm 4) (gsCons (gNm 5) gsNil))) (tVal (eBin eqD (eVar 4) (eVar 2))) (eVar 5)) [some (.v jar), some (.v addr), some (.v name), none, none, none] st = .ok (y :: ds) st) (hs : SeqAt.shaped (D.lst (y :: ds)).py = true) :
    rn_read_in [.v jar, .v addr, .v name] st = .ok (.v y) st := by
  have ne : neD st (.v (.lst (y :: ds))) (.v (.lst [])) = some (.bl true) := by
    have e : PyData.eqv (D.lst (y :: ds)).py (D.lst []).py = false := by simp [D.py, D.pyL, PyData.eqv, PyData.eqvAll]
    have e2 : SeqAt.shaped (D.lst []).py = true := by kernel_rfl
    simp [neD, deref, hs, e, e2]
  simp [runS, Jv.envOf, fin, noX, sSeq, sAsg, sIf, sPar, sSet, sRet, sNil, sExpr, sNo, tVal, bOr, bNot, bAnd, bYes, eAnd, eOr, eNot, eIf, eBin, eCall, eTup, eCon, eVar, eBlt, eLst, eNeg, eChain, aCons, aNil, aLim, gTp, gNm, gsCons, gsNil, allV, ofOp, R.thenS, R.bind, List.replicate, rn_read_in, dn_read_in, hl, ne, ixD, asLst, at0]
/-! ages -/
abbrev hostA : D := T [.str "a", .str "b", .str "c"]
abbrev siteA (a b c : Str) : D := T [T [T [hostA, T [], .bl true], T [T [.str "id", .str a, .non, .non, .bl false], T [.str "id", .str a, hostA, .non, .bl false]]],
  T [T [hostA, T [], .bl true], T [T [.str "id", .str b, near, .non, .bl false], T [.str "id", .str c, .non, .non, .bl true]]],
  T [T [hostA, T [], .bl true], T [T [.str "id", .non, .non, .non, .bl false], T [.str "id", .str c, .non, .non, .bl false]]]]
abbrev k0 : D := T [.str "id", hostA, T [], .bl true]
abbrev k1 : D := T [.str "id", hostA, T [], .bl false]
abbrev dueA (a b c : Str) : D := T [kp k0 c true, kp k1 a false, kp knear b false]
abbrev dueB (a b c : Str) : D := T [kp k1 a false, kp knear b false, kp k0 c false]
theorem ages_ok (w : World) {a b c : Str} (ha : wordB SIG a = true) (hb : wordB SIG b = true) (hc : wordB SIG c = true) (o1 o2 : Ob) : rn__law_ages_right w [.v (.str a), .v (.str b), .v (.str c)] [o1, o2] = tt [o1, o2] := by
  have sB : siteB (siteA a b c) = true := by kernel_rfl
  have sL : siteL (siteA a b c) = [a, a, b, c, c] := by kernel_rfl
  have sV : ∀ x ∈ siteL (siteA a b c), wordB SIG x = true := by rw [sL]; simp [ha, hb, hc]
  have jB : jarK (dueB a b c) = true := by kernel_rfl
  have jL : jarL (dueB a b c) = [a, b, c] := by kernel_rfl
  have jV : ∀ x ∈ jarL (dueB a b c), wordB SIG x = true := by rw [jL]; simp [ha, hb, hc]
  have sa := word_ok ha
  have sb := word_ok hb
  have sc := word_ok hc
  have h1 := behind_ok (row := T [.int 0, .int 1]) (jar := dueA a b c) (st := [o1, o2]) sB sV (by kernel_rfl) (by kernel_rfl)
  have h2 := behind_ok (row := T [.int 0, .int 1, .int 1]) (jar := dueA a b c) (st := [o1, o2]) sB sV (by kernel_rfl) (by kernel_rfl)
  have h3 := behind_ok (row := T [.int 1, .int 0]) (jar := T [kp knear b false, kp k0 a false, kp k1 a false]) (st := [o1, o2]) sB sV (by kernel_rfl) (by kernel_rfl)
  have h4 := behind_ok (row := T [.int 0, .int 1, .int 2]) (jar := dueB a b c) (st := [o1, o2]) sB sV (by kernel_rfl) (by kernel_rfl)
  have h5 := behind_ok (row := T [.int 0, .int 1, .int 2, .int 2]) (jar := dueB a b c) (st := [o1, o2]) sB sV (by kernel_rfl) (by kernel_rfl)
  have s1 := sent_ok (addr := T [hostA, T [.str "q"], .bl false]) (out := T [pr "id" a, pr "id" b, pr "id" c]) (st := [o1, o2]) w jB jV (by kernel_rfl) (by kernel_rfl)
  have r1 := read_ok (addr := T [hostA, T [], .bl true]) (name := .str "id") (out := .str a) (st := [o1, o2]) w jB jV (by kernel_rfl) (by kernel_rfl) (read_in_ok (ds := [.str b, .str c]) (by kernel_rfl) (by simp [SeqAt.shaped, D.py, D.pyL, PyData.canLay0, PyData.canLayAll0, PyData.depth, PyData.depthAll, lit_id, lit_www, lit_b, lit_c, lit_p, lit_q, lit_x, lit_d, lit_a, lit_shop, lit_r, lit_z, lit_pq, lit_org, lit_in, lit_a1, lit_b2, sa, sb, sc]))
  have r2 := read_ok (addr := T [near, T [], .bl true]) (name := .str "id") (out := .str b) (st := [o1, o2]) w jB jV (by kernel_rfl) (by kernel_rfl) (read_in_ok (ds := []) (by kernel_rfl) (by simp [SeqAt.shaped, D.py, D.pyL, PyData.canLay0, PyData.canLayAll0, PyData.depth, PyData.depthAll, lit_id, lit_www, lit_b, lit_c, lit_p, lit_q, lit_x, lit_d, lit_a, lit_shop, lit_r, lit_z, lit_pq, lit_org, lit_in, lit_a1, lit_b2, sa, sb, sc]))
  have e1 := neS [o1, o2] (dueA a b c) (by simp [SeqAt.shaped, D.py, D.pyL, PyData.canLay0, PyData.canLayAll0, PyData.depth, PyData.depthAll, lit_id, lit_www, lit_b, lit_c, lit_p, lit_q, lit_x, lit_d, lit_a, lit_shop, lit_r, lit_z, lit_pq, lit_org, lit_in, lit_a1, lit_b2, sa, sb, sc])
  have e2 := neS [o1, o2] (dueB a b c) (by simp [SeqAt.shaped, D.py, D.pyL, PyData.canLay0, PyData.canLayAll0, PyData.depth, PyData.depthAll, lit_id, lit_www, lit_b, lit_c, lit_p, lit_q, lit_x, lit_d, lit_a, lit_shop, lit_r, lit_z, lit_pq, lit_org, lit_in, lit_a1, lit_b2, sa, sb, sc])
  have e3 := neS [o1, o2] (T [kp knear b false, kp k0 a false, kp k1 a false]) (by simp [SeqAt.shaped, D.py, D.pyL, PyData.canLay0, PyData.canLayAll0, PyData.depth, PyData.depthAll, lit_id, lit_www, lit_b, lit_c, lit_p, lit_q, lit_x, lit_d, lit_a, lit_shop, lit_r, lit_z, lit_pq, lit_org, lit_in, lit_a1, lit_b2, sa, sb, sc])
  have e4 := neS [o1, o2] (T [pr "id" a, pr "id" b, pr "id" c]) (by simp [SeqAt.shaped, D.py, D.pyL, PyData.canLay0, PyData.canLayAll0, PyData.depth, PyData.depthAll, lit_id, lit_www, lit_b, lit_c, lit_p, lit_q, lit_x, lit_d, lit_a, lit_shop, lit_r, lit_z, lit_pq, lit_org, lit_in, lit_a1, lit_b2, sa, sb, sc])
  have e5 := eqS [o1, o2] (.str a) (by simp [SeqAt.shaped, D.py, D.pyL, PyData.canLay0, PyData.canLayAll0, PyData.depth, PyData.depthAll, lit_id, lit_www, lit_b, lit_c, lit_p, lit_q, lit_x, lit_d, lit_a, lit_shop, lit_r, lit_z, lit_pq, lit_org, lit_in, lit_a1, lit_b2, sa])
  have e6 := eqS [o1, o2] (.str b) (by simp [SeqAt.shaped, D.py, D.pyL, PyData.canLay0, PyData.canLayAll0, PyData.depth, PyData.depthAll, lit_id, lit_www, lit_b, lit_c, lit_p, lit_q, lit_x, lit_d, lit_a, lit_shop, lit_r, lit_z, lit_pq, lit_org, lit_in, lit_a1, lit_b2, sb])
  have f1 : slcD [o1, o2] (.v hostA) (some 1) none = some near := by kernel_rfl
  simp [runS, Jv.envOf, fin, noX, sSeq, sAsg, sIf, sPar, sSet, sRet, sNil, sExpr, sNo, tVal, bOr, bNot, bAnd, bYes, eAnd, eOr, eNot, eIf, eBin, eCall, eTup, eCon, eVar, eBlt, eLst, eNeg, eChain, aCons, aNil, aLim, gTp, gNm, gsCons, gsNil, allV, ofOp, R.thenS, R.bind, List.replicate, rn__law_ages_right, dn__law_ages_right, h1, h2, h3, h4, h5, s1, r1, r2, e1, e2, e3, e4, e5, e6, f1, eSlc, pSo, pNo, ixD, asLst, at0, at1, at2]
/-! untaken -/
abbrev far : D := T [.str "shop", .str "b", .str "c"]
abbrev siteU (a b : Str) : D := T [T [T [host, T [], .bl true], T [T [.str "id", .str a, .non, .non, .bl true]]],
  T [T [host, T [], .bl false], T [T [.str "id", .str b, far, .non, .bl false], T [.str "id", .str b, .non, .non, .bl true], T [.str "id", .non, .non, .non, .bl true]]]]
abbrev jarU (a : Str) : D := T [kp alone a true]
theorem untaken_ok (w : World) {a b : Str} (ha : wordB SIG a = true) (hb : wordB SIG b = true) (o1 o2 : Ob) : rn__law_untaken_right w [.v (.str a), .v (.str b)] [o1, o2] = tt [o1, o2] := by
  have sB : siteB (siteU a b) = true := by kernel_rfl
  have sL : siteL (siteU a b) = [a, b, b] := by kernel_rfl
  have sV : ∀ x ∈ siteL (siteU a b), wordB SIG x = true := by rw [sL]; simp [ha, hb]
  have jB : jarK (jarU a) = true := by kernel_rfl
  have jL : jarL (jarU a) = [a] := by kernel_rfl
  have jV : ∀ x ∈ jarL (jarU a), wordB SIG x = true := by rw [jL]; simp [ha]
  have oB : jarK (T []) = true := by kernel_rfl
  have oV : ∀ x ∈ jarL (T []), wordB SIG x = true := fun x hx => nomatch hx
  have sa := word_ok ha
  have h1 := behind_ok (row := T [.int 0]) (jar := jarU a) (st := [o1, o2]) sB sV (by kernel_rfl) (by kernel_rfl)
  have h2 := behind_ok (row := T [.int 0, .int 1]) (jar := jarU a) (st := [o1, o2]) sB sV (by kernel_rfl) (by kernel_rfl)
  have h3 := behind_ok (row := T [.int 1]) (jar := T []) (st := [o1, o2]) sB sV (by kernel_rfl) (by kernel_rfl)
  have h4 := behind_ok (row := T []) (jar := T []) (st := [o1, o2]) sB sV (by kernel_rfl) (by kernel_rfl)
  have s1 := sent_ok (addr := T [host, T [], .bl false]) (out := T []) (st := [o1, o2]) w jB jV (by kernel_rfl) (by kernel_rfl)
  have s2 := sent_ok (addr := T [host, T [.str "x"], .bl true]) (out := T [pr "id" a]) (st := [o1, o2]) w jB jV (by kernel_rfl) (by kernel_rfl)
  have v1 := visited_ok (page := .int 1) (pg := T [T [host, T [], .bl false], T [T [.str "id", .str b, far, .non, .bl false], T [.str "id", .str b, .non, .non, .bl true], T [.str "id", .non, .non, .non, .bl true]]]) (out := jarU a) (st := [o1, o2]) w jB jV sB sV (by kernel_rfl) (by kernel_rfl) (by kernel_rfl)
  have v2 := visited_ok (page := .int 0) (pg := T [T [host, T [], .bl true], T [T [.str "id", .str a, .non, .non, .bl true]]]) (out := jarU a) (st := [o1, o2]) w oB oV sB sV (by kernel_rfl) (by kernel_rfl) (by kernel_rfl)
  have e1 := neS [o1, o2] (jarU a) (by simp [SeqAt.shaped, D.py, D.pyL, PyData.canLay0, PyData.canLayAll0, PyData.depth, PyData.depthAll, lit_id, lit_www, lit_b, lit_c, lit_p, lit_q, lit_x, lit_d, lit_a, lit_shop, lit_r, lit_z, lit_pq, lit_org, lit_in, lit_a1, lit_b2, sa])
  have e2 := neS [o1, o2] (T []) (by simp [SeqAt.shaped, D.py, D.pyL, PyData.canLay0, PyData.canLayAll0, PyData.depth, PyData.depthAll, lit_id, lit_www, lit_b, lit_c, lit_p, lit_q, lit_x, lit_d, lit_a, lit_shop, lit_r, lit_z, lit_pq, lit_org, lit_in, lit_a1, lit_b2, sa])
  have e3 := neS [o1, o2] (T [pr "id" a]) (by simp [SeqAt.shaped, D.py, D.pyL, PyData.canLay0, PyData.canLayAll0, PyData.depth, PyData.depthAll, lit_id, lit_www, lit_b, lit_c, lit_p, lit_q, lit_x, lit_d, lit_a, lit_shop, lit_r, lit_z, lit_pq, lit_org, lit_in, lit_a1, lit_b2, sa])
  have e4 := eqS [o1, o2] (jarU a) (by simp [SeqAt.shaped, D.py, D.pyL, PyData.canLay0, PyData.canLayAll0, PyData.depth, PyData.depthAll, lit_id, lit_www, lit_b, lit_c, lit_p, lit_q, lit_x, lit_d, lit_a, lit_shop, lit_r, lit_z, lit_pq, lit_org, lit_in, lit_a1, lit_b2, sa])
  have e5 := eqS [o1, o2] (T []) (by simp [SeqAt.shaped, D.py, D.pyL, PyData.canLay0, PyData.canLayAll0, PyData.depth, PyData.depthAll, lit_id, lit_www, lit_b, lit_c, lit_p, lit_q, lit_x, lit_d, lit_a, lit_shop, lit_r, lit_z, lit_pq, lit_org, lit_in, lit_a1, lit_b2, sa])
  simp [runS, Jv.envOf, fin, noX, sSeq, sAsg, sIf, sPar, sSet, sRet, sNil, sExpr, sNo, tVal, bOr, bNot, bAnd, bYes, eAnd, eOr, eNot, eIf, eBin, eCall, eTup, eCon, eVar, eBlt, eLst, eNeg, eChain, aCons, aNil, aLim, gTp, gNm, gsCons, gsNil, allV, ofOp, R.thenS, R.bind, List.replicate, rn__law_untaken_right, dn__law_untaken_right, h1, h2, h3, h4, s1, s2, v1, v2, e1, e2, e3, e4, e5]
/-! folders -/
abbrev hostF : D := near
abbrev writesF (a b c : Str) : List D := [T [.str "id", .str a, .non, T [], .bl false], T [.str "id", .str b, near, T [.str "p"], .bl false], T [.str "id", .str c, .non, T [.str "p", .str "q"], .bl true], T [.str "a", .str a, .non, .non, .bl false], T [.str "id", .str b, .non, T [.str "q"], .bl false]]
abbrev siteF (a b c : Str) : D := T [T [T [near, T [.str "p", .str "q", .str "r"], .bl true], T (writesF a b c)]]
abbrev jarF (a b c : Str) : D := T [kp (T [.str "a", near, T [.str "p", .str "q"], .bl true]) a false, kp (T [.str "id", near, T [.str "p", .str "q"], .bl true]) c true,
  kp (T [.str "id", near, T [.str "p"], .bl false]) b false, kp (T [.str "id", near, T [.str "q"], .bl true]) b false, kp (T [.str "id", near, T [], .bl true]) a false]
theorem eqR {st : Sto} {l : Nat} {ds : List D} (h : st[l]? = some (.lst ds)) (hs : SeqAt.shaped (D.lst ds).py = true) : eqD st (.r l) (.v (.lst ds)) = some (.bl true) := by
  have e : PyData.eqv (D.lst ds).py (D.lst ds).py = true := SeqAt.eqv_refl _ (SeqAt.canLay_of_shaped hs)
  simp [eqD, deref, h, hs, e]
theorem folders_ok (w : World) {a b c : Str} (ha : wordB SIG a = true) (hb : wordB SIG b = true) (hc : wordB SIG c = true) (o1 o2 : Ob) : rn__law_folders_right w [.v (.str a), .v (.str b), .v (.str c)] [o1, o2] = tt [o1, o2] := by
  have sB : siteB (siteF a b c) = true := by kernel_rfl
  have sL : siteL (siteF a b c) = [a, b, c, a, b] := by kernel_rfl
  have sV : ∀ x ∈ siteL (siteF a b c), wordB SIG x = true := by rw [sL]; simp [ha, hb, hc]
  have jB : jarK (jarF a b c) = true := by kernel_rfl
  have jL : jarL (jarF a b c) = [a, c, b, b, a] := by kernel_rfl
  have jV : ∀ x ∈ jarL (jarF a b c), wordB SIG x = true := by rw [jL]; simp [ha, hb, hc]
  have sa := word_ok ha
  have sb := word_ok hb
  have sc := word_ok hc
  have h1 := behind_ok (row := T [.int 0]) (jar := jarF a b c) (st := [o1, o2]) sB sV (by kernel_rfl) (by kernel_rfl)
  have s1 := sent_ok (addr := T [near, T [.str "p", .str "q"], .bl true]) (out := T [pr "a" a, pr "id" c, pr "id" b, pr "id" a]) (st := [o1, o2]) w jB jV (by kernel_rfl) (by kernel_rfl)
  have s2 := sent_ok (addr := T [near, T [.str "p", .str "q", .str "z"], .bl false]) (out := T [pr "a" a, pr "id" b, pr "id" a]) (st := [o1, o2]) w jB jV (by kernel_rfl) (by kernel_rfl)
  have s3 := fun o3 => sent_ok (addr := T [near, T [.str "pq"], .bl true]) (out := T [pr "id" a]) (st := [o1, o2, o3]) w jB jV (by kernel_rfl) (by kernel_rfl)
  have r1 := fun o3 => read_ok (addr := T [near, T [.str "p"], .bl true]) (name := .str "id") (out := .str b) (st := [o1, o2, o3]) w jB jV (by kernel_rfl) (by kernel_rfl) (read_in_ok (ds := [.str a]) (by kernel_rfl) (by simp [SeqAt.shaped, D.py, D.pyL, PyData.canLay0, PyData.canLayAll0, PyData.depth, PyData.depthAll, lit_id, lit_www, lit_b, lit_c, lit_p, lit_q, lit_x, lit_d, lit_a, lit_shop, lit_r, lit_z, lit_pq, lit_org, lit_in, lit_a1, lit_b2, sa, sb, sc]))
  have r2 := fun o3 => read_ok (addr := T [near, T [.str "p", .str "q"], .bl true]) (name := .str "id") (out := .str c) (st := [o1, o2, o3]) w jB jV (by kernel_rfl) (by kernel_rfl) (read_in_ok (ds := [.str b, .str a]) (by kernel_rfl) (by simp [SeqAt.shaped, D.py, D.pyL, PyData.canLay0, PyData.canLayAll0, PyData.depth, PyData.depthAll, lit_id, lit_www, lit_b, lit_c, lit_p, lit_q, lit_x, lit_d, lit_a, lit_shop, lit_r, lit_z, lit_pq, lit_org, lit_in, lit_a1, lit_b2, sa, sb, sc]))
  have r3 := fun o3 o4 => read_ok (addr := T [near, T [], .bl true]) (name := .str "a") (out := .non) (st := [o1, o2, o3, o4]) w jB jV (by kernel_rfl) (by kernel_rfl) (by kernel_rfl)
  have e1 := neS [o1, o2] (jarF a b c) (by simp [SeqAt.shaped, D.py, D.pyL, PyData.canLay0, PyData.canLayAll0, PyData.depth, PyData.depthAll, lit_id, lit_www, lit_b, lit_c, lit_p, lit_q, lit_x, lit_d, lit_a, lit_shop, lit_r, lit_z, lit_pq, lit_org, lit_in, lit_a1, lit_b2, sa, sb, sc])
  have e2 := fun o3 => neS [o1, o2, o3] (T [pr "a" a, pr "id" c, pr "id" b, pr "id" a]) (by simp [SeqAt.shaped, D.py, D.pyL, PyData.canLay0, PyData.canLayAll0, PyData.depth, PyData.depthAll, lit_id, lit_www, lit_b, lit_c, lit_p, lit_q, lit_x, lit_d, lit_a, lit_shop, lit_r, lit_z, lit_pq, lit_org, lit_in, lit_a1, lit_b2, sa, sb, sc])
  have e3 := fun o3 => neS [o1, o2, o3] (.lst [T [pr "a" a, pr "id" b, pr "id" a], T [pr "id" a]]) (by simp [SeqAt.shaped, D.py, D.pyL, PyData.canLay0, PyData.canLayAll0, PyData.depth, PyData.depthAll, lit_id, lit_www, lit_b, lit_c, lit_p, lit_q, lit_x, lit_d, lit_a, lit_shop, lit_r, lit_z, lit_pq, lit_org, lit_in, lit_a1, lit_b2, sa, sb, sc])
  have e4 := fun o3 => eqR (st := [o1, o2, o3, .lst [.str b, .str c, .non]]) (l := 3) (ds := [.str b, .str c, .non]) rfl (by simp [SeqAt.shaped, D.py, D.pyL, PyData.canLay0, PyData.canLayAll0, PyData.depth, PyData.depthAll, lit_id, lit_www, lit_b, lit_c, lit_p, lit_q, lit_x, lit_d, lit_a, lit_shop, lit_r, lit_z, lit_pq, lit_org, lit_in, lit_a1, lit_b2, sa, sb, sc])
  have f1 := fun x : D => show slcD [o1, o2, .lst [x, T [pr "a" a, pr "id" b, pr "id" a], T [pr "id" a]]] (.r 2) (some 1) none = some (.lst [T [pr "a" a, pr "id" b, pr "id" a], T [pr "id" a]]) by kernel_rfl
  simp [runS, Jv.envOf, fin, noX, sSeq, sAsg, sIf, sPar, sSet, sRet, sNil, sExpr, sNo, tVal, bOr, bNot, bAnd, bYes, eAnd, eOr, eNot, eIf, eBin, eCall, eTup, eCon, eVar, eBlt, eLst, eNeg, eChain, aCons, aNil, aLim, gTp, gNm, gsCons, gsNil, allV, ofOp, R.thenS, R.bind, List.replicate, rn__law_folders_right, dn__law_folders_right, h1, s1, s2, s3, r1, r2, r3, e1, e2, e3, e4, f1, onV, addT, eNew, eApp, isLst, appG, eSlc, pSo, pNo, ixD, asLst, at0, at1, at2]
end K5
end
section
namespace K5
open PySem Jv
/-! wide -/
theorem sSeq_assoc (f g h : SD) : sSeq f (sSeq g h) = sSeq (sSeq f g) h := by
  funext env st
  cases hf : f env st <;> simp [sSeq, hf]
theorem seq_nx {f g : SD} {env e : Jv.Env} {st s : Sto} (h : f env st = .nx e s) : sSeq f g env st = g e s := by
  simp [sSeq, h]
def nmW (i j : Nat) : Str := ⟨#[105, 100, 97 + i, 118 + j]⟩
def wrW (a : Str) (i j : Nat) : D := T [.str (nmW i j), .str a, .non, T [], .bl false]
def pgW (a : Str) (i : Nat) : D := T [T [hostA, T [], .bl true], T ((List.range 5).map (wrW a i))]
def siteW (a : Str) : D := T ((List.range 5).map (pgW a))
def kpW (a : Str) (i j : Nat) : D := kp (T [.str (nmW i j), hostA, T [], .bl true]) a false
def dueL (a : Str) (k : Nat) : List D := (List.range k).flatMap fun i => (List.range 5).map (kpW a i)
def dueW (a : Str) (k : Nat) : D := T (dueL a k)
def sentL (a : Str) : List D := (List.range 5).flatMap fun i => (List.range 5).map fun j => T [.str (nmW i j), .str a]
def sentW (a : Str) : D := T (sentL a)
def preW : SD := (sSeq (sSeq (sSeq (sSeq (sPar 4 5 (aCons (eTup (aCons (eCon (.str "a")) (aCons (eCon (.str "b")) (aCons (eCon (.str "c")) aNil)))) (aCons (eNew (aLim aNil)) aNil))) (sFor (itRange (aCons (eCon (.int 5)) aNil)) (gNm 1) (sSeq (sSet 6 (eLst (lLc [9] (itRange (aCons (eCon (.int 5)) aNil)) (gNm 9) bYes (eTup (aCons (eBin addD (eBin addD (eCon (.str "id")) (eBin ixD (eCon (.str "abcde")) (eVar 1))) (eBin ixD (eCon (.str "vwxyz")) (eVar 9))) (aCons (eVar 0) (aCons (eCon .non) (aCons (eTup aNil) (aCons (eCon (.bl false)) aNil))))))))) (sExpr (eApp (eVar 5) (aCons (eTup (aCons (eTup (aCons (eVar 4) (aCons (eTup aNil) (aCons (eCon (.bl true)) aNil)))) (aCons (eBlt tupleB (aCons (eVar 6) aNil)) aNil))) aNil)))))) (sSet 2 (eTup aNil))) (sFrzV 5 (sFor (itE (eVar 5)) (gNm 3) (sSet 2 (eBin addD (eVar 2) (eBlt tupleB (aCons (eLst (lLc [11] (itE (eBin ixD (eVar 3) (eCon (.int 1)))) (gNm 11) bYes (eTup (aCons (eTup (aCons (eBin ixD (eVar 11) (eCon (.int 0))) (aCons (eVar 4) (aCons (eTup aNil) (aCons (eCon (.bl true)) aNil))))) (aCons (eVar 0) (aCons (eCon (.bl false)) aNil)))))) aNil))))))) (sPar 7 8 (aCons (eTup aNil) (aCons (eBlt tupleB (aCons (eVar 5) aNil)) aNil))))
def pgsW (a : Str) : D := .lst ((List.range 5).map (pgW a))
def wrsW (a : Str) : D := .lst ((List.range 5).map (wrW a 4))
def envW (a : Str) (far jar : D) : Jv.Env := [some (.v (.str a)), some (.v far), some (.v (dueW a 5)), some (.v (pgW a 4)), some (.v hostA), some (.v (pgsW a)), some (.v (wrsW a)), some (.v jar), some (.v (siteW a)), none, none, none]
theorem preW_ok (a : Str) (o1 o2 : Ob) : preW [some (.v (.str a)), none, none, none, none, none, none, none, none, none, none, none] [o1, o2] = .nx (envW a (.int 4) (dueW a 0)) [o1, o2, .dead] := by kernel_rfl
theorem mem_rep {x a : Str} {n : Nat} (h : x ∈ List.replicate n a) : x = a := (List.mem_replicate.mp h).2
theorem shape_pairs {xs : List D} (h : ∀ d ∈ xs, d.py.canLay0 = true ∧ d.py.depth ≤ 60) : SeqAt.shaped (D.tup xs).py = true := by
  have h1 : ∀ (ys : List D), (∀ d ∈ ys, d.py.canLay0 = true ∧ d.py.depth ≤ 60) → PyData.canLayAll0 (D.pyL ys) = true ∧ PyData.depthAll (D.pyL ys) ≤ 60 := by
    intro ys
    induction ys with
    | nil => intro _; exact ⟨rfl, Nat.zero_le _⟩
    | cons y r ih =>
      intro hy
      have a1 := hy y List.mem_cons_self
      have a2 := ih fun d hd => hy d (List.mem_cons_of_mem _ hd)
      simp only [D.pyL, PyData.canLayAll0, PyData.depthAll, a1.1, a2.1, Bool.and_self, true_and]
      exact Nat.max_le.mpr ⟨a1.2, a2.2⟩
  have h2 := h1 xs h
  simp only [SeqAt.shaped, D.py, PyData.canLay0, PyData.depth, h2.1, Bool.true_and, decide_eq_true_eq]
  omega
theorem nm_ok (i j : Nat) (hi : i < 5) (hj : j < 5) : PyData.strOk (nmW i j) = true := by
  simp [PyData.strOk, nmW]
  omega
theorem dueW_shaped {a : Str} (ha : PyData.strOk a = true) : SeqAt.shaped (dueW a 5).py = true := by
  refine shape_pairs fun d hd => ?_
  simp only [dueL, List.mem_flatMap, List.mem_map, List.mem_range] at hd
  obtain ⟨i, hi, j, hj, rfl⟩ := hd
  have := nm_ok i j hi hj
  simp [SeqAt.shaped, D.py, D.pyL, PyData.canLay0, PyData.canLayAll0, PyData.depth, PyData.depthAll, lit_id, lit_www, lit_b, lit_c, lit_p, lit_q, lit_x, lit_d, lit_a, lit_shop, lit_r, lit_z, lit_pq, lit_org, lit_in, lit_a1, lit_b2, kpW, this, ha]
theorem sentW_shaped {a : Str} (ha : PyData.strOk a = true) : SeqAt.shaped (sentW a).py = true := by
  refine shape_pairs fun d hd => ?_
  simp only [sentL, List.mem_flatMap, List.mem_map, List.mem_range] at hd
  obtain ⟨i, hi, j, hj, rfl⟩ := hd
  have := nm_ok i j hi hj
  simp [SeqAt.shaped, D.py, D.pyL, PyData.canLay0, PyData.canLayAll0, PyData.depth, PyData.depthAll, lit_id, lit_www, lit_b, lit_c, lit_p, lit_q, lit_x, lit_d, lit_a, lit_shop, lit_r, lit_z, lit_pq, lit_org, lit_in, lit_a1, lit_b2, this, ha]
theorem wide_ok (w : World) {a : Str} (ha : wordB SIG a = true) (o1 o2 : Ob) : rn__law_wide_right w [.v (.str a)] [o1, o2] = tt [o1, o2] := by
  have sB : siteB (siteW a) = true := by kernel_rfl
  have sL : siteL (siteW a) = List.replicate 25 a := by kernel_rfl
  have sV : ∀ x ∈ siteL (siteW a), wordB SIG x = true := fun x hx => by rw [sL] at hx; rw [mem_rep hx]; exact ha
  have sa := word_ok ha
  have jB0 : jarK (dueW a 0) = true := by kernel_rfl
  have jL0 : jarL (dueW a 0) = List.replicate 0 a := by kernel_rfl
  have jV0 : ∀ x ∈ jarL (dueW a 0), wordB SIG x = true := fun x hx => by rw [jL0] at hx; rw [mem_rep hx]; exact ha
  have jB1 : jarK (dueW a 1) = true := by kernel_rfl
  have jL1 : jarL (dueW a 1) = List.replicate 5 a := by kernel_rfl
  have jV1 : ∀ x ∈ jarL (dueW a 1), wordB SIG x = true := fun x hx => by rw [jL1] at hx; rw [mem_rep hx]; exact ha
  have jB2 : jarK (dueW a 2) = true := by kernel_rfl
  have jL2 : jarL (dueW a 2) = List.replicate 10 a := by kernel_rfl
  have jV2 : ∀ x ∈ jarL (dueW a 2), wordB SIG x = true := fun x hx => by rw [jL2] at hx; rw [mem_rep hx]; exact ha
  have jB3 : jarK (dueW a 3) = true := by kernel_rfl
  have jL3 : jarL (dueW a 3) = List.replicate 15 a := by kernel_rfl
  have jV3 : ∀ x ∈ jarL (dueW a 3), wordB SIG x = true := fun x hx => by rw [jL3] at hx; rw [mem_rep hx]; exact ha
  have jB4 : jarK (dueW a 4) = true := by kernel_rfl
  have jL4 : jarL (dueW a 4) = List.replicate 20 a := by kernel_rfl
  have jV4 : ∀ x ∈ jarL (dueW a 4), wordB SIG x = true := fun x hx => by rw [jL4] at hx; rw [mem_rep hx]; exact ha
  have jB5 : jarK (dueW a 5) = true := by kernel_rfl
  have jL5 : jarL (dueW a 5) = List.replicate 25 a := by kernel_rfl
  have jV5 : ∀ x ∈ jarL (dueW a 5), wordB SIG x = true := fun x hx => by rw [jL5] at hx; rw [mem_rep hx]; exact ha
  have v0 := visited_ok (page := .int 0) (pg := pgW a 0) (out := dueW a 1) (st := [o1, o2, .dead]) w jB0 jV0 sB sV (by kernel_rfl) (by kernel_rfl) (by kernel_rfl)
  have v1 := visited_ok (page := .int 1) (pg := pgW a 1) (out := dueW a 2) (st := [o1, o2, .dead]) w jB1 jV1 sB sV (by kernel_rfl) (by kernel_rfl) (by kernel_rfl)
  have v2 := visited_ok (page := .int 2) (pg := pgW a 2) (out := dueW a 3) (st := [o1, o2, .dead]) w jB2 jV2 sB sV (by kernel_rfl) (by kernel_rfl) (by kernel_rfl)
  have v3 := visited_ok (page := .int 3) (pg := pgW a 3) (out := dueW a 4) (st := [o1, o2, .dead]) w jB3 jV3 sB sV (by kernel_rfl) (by kernel_rfl) (by kernel_rfl)
  have v4 := visited_ok (page := .int 4) (pg := pgW a 4) (out := dueW a 5) (st := [o1, o2, .dead]) w jB4 jV4 sB sV (by kernel_rfl) (by kernel_rfl) (by kernel_rfl)
  have h1 := behind_ok (row := T [.int 4, .int 3, .int 2, .int 1, .int 0]) (jar := dueW a 5) (st := [o1, o2, .dead]) sB sV (by kernel_rfl) (by kernel_rfl)
  have s1 := sent_ok (addr := T [hostA, T [.str "q"], .bl false]) (out := sentW a) (st := [o1, o2, .dead]) w jB5 jV5 (by kernel_rfl) (by kernel_rfl)
  have e1 := neS [o1, o2, .dead] (dueW a 5) (dueW_shaped sa)
  have e2 := eqS [o1, o2, .dead] (sentW a) (sentW_shaped sa)
  have f1 : lLc [10] (itE (eVar 2)) (gNm 10) bYes (eTup (aCons (eBin ixD (eBin ixD (eVar 10) (eCon (.int 0))) (eCon (.int 0))) (aCons (eVar 0) aNil))) (envW a (.int 4) (dueW a 5)) [o1, o2, .dead] = .ok (sentL a) [o1, o2, .dead] := by kernel_rfl
  have f2 : itRange (aCons (eCon (.int 5)) aNil) (envW a (.int 4) (dueW a 0)) [o1, o2, .dead] = .ok [.int 0, .int 1, .int 2, .int 3, .int 4] [o1, o2, .dead] := by kernel_rfl
  have p := preW_ok a o1 o2
  unfold preW at p
  have l6 : (sFor (itRange (aCons (eCon (.int 5)) aNil)) (gNm 1) (sSet 7 (eCall (rn_visited w) (aCons (eVar 7) (aCons (eVar 8) (aCons (eVar 1) aNil)))))) (envW a (.int 4) (dueW a 0)) [o1, o2, .dead] = .nx (envW a (.int 4) (dueW a 5)) [o1, o2, .dead] := by
    have f2' := f2
    simp only [envW] at f2'
    simp [runS, Jv.envOf, fin, noX, sSeq, sAsg, sIf, sPar, sSet, sRet, sNil, sExpr, sNo, tVal, bOr, bNot, bAnd, bYes, eAnd, eOr, eNot, eIf, eBin, eCall, eTup, eCon, eVar, eBlt, eLst, eNeg, eChain, aCons, aNil, aLim, gTp, gNm, gsCons, gsNil, allV, ofOp, R.thenS, R.bind, List.replicate, envW, sFor, f2', forGo, v0, v1, v2, v3, v4]
  have l7 : (sIf (bOr (tVal (eBin neD (eVar 7) (eVar 2))) (tVal (eBin neD (eCall rn_behind (aCons (eVar 8) (aCons (eTup (aCons (eCon (.int 4)) (aCons (eCon (.int 3)) (aCons (eCon (.int 2)) (aCons (eCon (.int 1)) (aCons (eCon (.int 0)) aNil)))))) aNil))) (eVar 2)))) (sRet (eCon (.bl false))) sNil) (envW a (.int 4) (dueW a 5)) [o1, o2, .dead] = .nx (envW a (.int 4) (dueW a 5)) [o1, o2, .dead] := by
    simp [runS, Jv.envOf, fin, noX, sSeq, sAsg, sIf, sPar, sSet, sRet, sNil, sExpr, sNo, tVal, bOr, bNot, bAnd, bYes, eAnd, eOr, eNot, eIf, eBin, eCall, eTup, eCon, eVar, eBlt, eLst, eNeg, eChain, aCons, aNil, aLim, gTp, gNm, gsCons, gsNil, allV, ofOp, R.thenS, R.bind, List.replicate, envW, h1, e1]
  have l8 : (sRet (eBin eqD (eCall (rn_sent w) (aCons (eVar 7) (aCons (eTup (aCons (eVar 4) (aCons (eTup (aCons (eCon (.str "q")) aNil)) (aCons (eCon (.bl false)) aNil)))) aNil))) (eBlt tupleB (aCons (eLst (lLc [10] (itE (eVar 2)) (gNm 10) bYes (eTup (aCons (eBin ixD (eBin ixD (eVar 10) (eCon (.int 0))) (eCon (.int 0))) (aCons (eVar 0) aNil))))) aNil)))) (envW a (.int 4) (dueW a 5)) [o1, o2, .dead] = .rt (.v (.bl true)) [o1, o2, .dead] := by
    simp only [envW] at f1 ⊢
    have z : D.tup (sentL a) = sentW a := rfl
    simp [runS, Jv.envOf, fin, noX, sSeq, sAsg, sIf, sPar, sSet, sRet, sNil, sExpr, sNo, tVal, bOr, bNot, bAnd, bYes, eAnd, eOr, eNot, eIf, eBin, eCall, eTup, eCon, eVar, eBlt, eLst, eNeg, eChain, aCons, aNil, aLim, gTp, gNm, gsCons, gsNil, allV, ofOp, R.thenS, R.bind, List.replicate, s1, f1, tupleB, asLst, z, e2]
  have body : dn__law_wide_right w [some (.v (.str a)), none, none, none, none, none, none, none, none, none, none, none] [o1, o2] = .rt (.v (.bl true)) [o1, o2, .dead] := by
    unfold dn__law_wide_right
    rw [sSeq_assoc, sSeq_assoc, sSeq_assoc, sSeq_assoc, seq_nx p, seq_nx l6, seq_nx l7, l8]
  simp [runS, Jv.envOf, fin, noX, sSeq, sAsg, sIf, sPar, sSet, sRet, sNil, sExpr, sNo, tVal, bOr, bNot, bAnd, bYes, eAnd, eOr, eNot, eIf, eBin, eCall, eTup, eCon, eVar, eBlt, eLst, eNeg, eChain, aCons, aNil, aLim, gTp, gNm, gsCons, gsNil, allV, ofOp, R.thenS, R.bind, List.replicate, rn__law_wide_right, body]
end K5
end
section
namespace K5
open PySem Jv
/-! what is drawn -/
theorem lg64 {i : Int} (h : i.natAbs < 18446744073709551616) : i.natAbs.log2 < 64 := by
  by_cases z : i.natAbs = 0
  · rw [z]; decide
  · exact (Nat.log2_lt z).mpr h
theorem mul_ok {i j : Int} (st : Sto) (h1 : i.natAbs < 18446744073709551616) (h2 : j.natAbs < 18446744073709551616) : mulD st (.v (.int i)) (.v (.int j)) = some (.int (i * j)) := by
  have a := lg64 h1
  have b := lg64 h2
  show mulT (.int i) (.int j) = _
  simp only [mulT]
  rw [if_pos (by omega)]
theorem mod_ok {i j : Int} (st : Sto) (h : 0 < j) : modD st (.v (.int i)) (.v (.int j)) = some (.int (i % j)) := by
  simp [onV, int2, h]
theorem fdiv_ok {i j : Int} (st : Sto) (h : 0 < j) (h2 : j < 1073741824) : fdivD st (.v (.int i)) (.v (.int j)) = some (.int (i / j)) := by
  simp [onV, int2, h, h2]
theorem add_ok {i j : Int} (st : Sto) : addD st (.v (.int i)) (.v (.int j)) = some (.int (i + j)) := rfl
theorem int_ok {i : Int} (st : Sto) : intB st [.v (.int i)] = some (.int i) := rfl
theorem gt_ok {i j : Int} (st : Sto) : gtD st (.v (.int i)) (.v (.int j)) = some (.bl (decide (j < i))) := rfl
theorem mixed_ok (c k : Int) (h0 : 0 ≤ k) (h1 : k ≤ 1000000) (st : Sto) : ∃ m : Int, 0 ≤ m ∧ m < 2147483629 ∧ rn__law_mixed [.v (.int c), .v (.int k)] st = .ok (.v (.int m)) st := by
  have c0 : 0 ≤ c % 2147483647 := Int.emod_nonneg _ (by decide)
  have c1 : c % 2147483647 < 2147483647 := Int.emod_lt_of_pos _ (by decide)
  have kk : 2 * k * k ≤ 2000000 * 1000000 := Int.mul_le_mul (by omega) h1 h0 (by decide)
  have kk0 : 0 ≤ 2 * k * k := Int.mul_nonneg (by omega) h0
  generalize e1 : c % 2147483647 = c' at *
  have m1 := mul_ok (i := 2) (j := k) st (by decide) (by omega)
  have m2 := mul_ok (i := 2 * k) (j := k) st (by omega) (by omega)
  have m3 := mul_ok (i := c') (j := 48271 + 2 * k * k) st (by omega) (by omega)
  have m4 := mul_ok (i := 69621) (j := k) st (by decide) (by omega)
  have d0 : 0 ≤ (c' * (48271 + 2 * k * k) + 69621 * k + 11) % 2147483647 := Int.emod_nonneg _ (by decide)
  have d1 : (c' * (48271 + 2 * k * k) + 69621 * k + 11) % 2147483647 < 2147483647 := Int.emod_lt_of_pos _ (by decide)
  have m5 := mul_ok (i := (c' * (48271 + 2 * k * k) + 69621 * k + 11) % 2147483647) (j := 69621) st (by omega) (by decide)
  have q1 := mod_ok (i := c) (j := 2147483647) st (by decide)
  have q2 := mod_ok (i := c' * (48271 + 2 * k * k) + 69621 * k + 11) (j := 2147483647) st (by decide)
  have q3 := mod_ok (i := (c' * (48271 + 2 * k * k) + 69621 * k + 11) % 2147483647 * 69621) (j := 2147483629) st (by decide)
  rw [e1] at q1
  refine ⟨(c' * (48271 + 2 * k * k) + 69621 * k + 11) % 2147483647 * 69621 % 2147483629, Int.emod_nonneg _ (by decide), Int.emod_lt_of_pos _ (by decide), ?_⟩
  simp [runS, Jv.envOf, fin, noX, sSeq, sAsg, sIf, sPar, sSet, sRet, sNil, sExpr, sNo, tVal, bOr, bNot, bAnd, bYes, eAnd, eOr, eNot, eIf, eBin, eCall, eTup, eCon, eVar, eBlt, eLst, eNeg, eChain, aCons, aNil, aLim, gTp, gNm, gsCons, gsNil, allV, ofOp, R.thenS, R.bind, List.replicate, rn__law_mixed, dn__law_mixed, int_ok, add_ok, m1, m2, m3, m4, m5, q1, q2, q3]
def stA (ls cs : List Int) (at' : Int) : Sto := [.lst (ls.map .int), .dct [("cells", .v (.lst (cs.map .int))), ("lefts", .r 0), ("at", .v (.int at')), ("room", .v (.int 0))]]
theorem at_nat {α : Type} {xs : List α} {i : Int} (h0 : 0 ≤ i) (h1 : i < xs.length) : L2.ixN xs.length i = some i.toNat := by
  unfold L2.ixN
  rw [if_pos h0, if_pos h1]
theorem at_int {xs : List Int} {i : Int} (h0 : 0 ≤ i) (h1 : i < xs.length) : ∃ v : Int, xs[i.toNat]? = some v ∧ L2.atI (xs.map D.int) i = some (.int v) := by
  have hl : i.toNat < xs.length := by omega
  refine ⟨xs[i.toNat], List.getElem?_eq_getElem hl, ?_⟩
  unfold L2.atI
  rw [at_nat h0 (by simpa using h1)]
  simp [hl]
theorem draw_ok {ls cs : List Int} {a m : Int} (hn : cs.length = ls.length) (hp : 0 < ls.length) (h0 : 0 ≤ a) (h1 : a ≤ 900000) (hm : 0 < m) (hm2 : m < 1073741824) :
    ∃ r ls', 0 ≤ r ∧ r < m ∧ ls'.length = ls.length ∧ rn__law_draw [.r 1, .v (.int m)] (stA ls cs a) = .ok (.v (.int r)) (stA ls' cs (a + 1)) := by
  have i0 : 0 ≤ a % (ls.length : Int) := Int.emod_nonneg _ (by omega)
  have i1 : a % (ls.length : Int) < ls.length := Int.emod_lt_of_pos _ (by omega)
  have g1 : dGet (stA ls cs a) (.r 1) (.v (.str "at")) = .ok (.v (.int a)) (stA ls cs a) := by kernel_rfl
  have g2 : ∀ env, dPut (.r 1) (.v (.str "at")) (.v (.int (a + 1))) env (stA ls cs a) = .nx env (stA ls cs (a + 1)) := fun env => by kernel_rfl
  have g3 : dGet (stA ls cs (a + 1)) (.r 1) (.v (.str "cells")) = .ok (.v (.lst (cs.map .int))) (stA ls cs (a + 1)) := by kernel_rfl
  have g4 : dGet (stA ls cs (a + 1)) (.r 1) (.v (.str "lefts")) = .ok (.r 0) (stA ls cs (a + 1)) := by kernel_rfl
  have g5 : lenB (stA ls cs (a + 1)) [.v (.lst (cs.map .int))] = some (.int ls.length) := by simp [lenB, asLst, hn]
  have g6 := mod_ok (i := a) (j := (ls.length : Int)) (stA ls cs (a + 1)) (by omega)
  obtain ⟨lv, e1, e2⟩ := at_int i0 i1
  obtain ⟨cv, _, c2⟩ := at_int (xs := cs) i0 (by rw [hn]; exact i1)
  generalize hi : a % (ls.length : Int) = i at *
  have g7 : ixD (stA ls cs (a + 1)) (.r 0) (.v (.int i)) = some (.int lv) := by
    have : asLst (stA ls cs (a + 1)) (.r 0) = some (ls.map .int) := rfl
    simp [ixD, this, e2]
  have g8 : ixD (stA ls cs (a + 1)) (.v (.lst (cs.map .int))) (.v (.int i)) = some (.int cv) := by
    simp [ixD, asLst, c2]
  have g9 := gt_ok (i := lv) (j := 0) (stA ls cs (a + 1))
  have st2 : List.length (stA ls cs a) = 2 := rfl
  have tk : ∀ ls', List.take 2 (stA ls' cs (a + 1)) = stA ls' cs (a + 1) := fun _ => rfl
  by_cases hl : 0 < lv
  · have q1 := fdiv_ok (i := lv) (j := m) (stA ls cs (a + 1)) hm hm2
    have q2 : ∀ env, lPut (.r 0) (.v (.int i)) (.v (.int (lv / m))) env (stA ls cs (a + 1)) = .nx env (stA (ls.set i.toNat (lv / m)) cs (a + 1)) := fun env => by
      have hx : L2.ixN (ls.map D.int).length i = some i.toNat := at_nat i0 (by simpa using i1)
      simp only [lPut, stA, List.getElem?_cons_zero, hx, List.set_cons_zero, List.map_set]
    have q3 := mod_ok (i := lv) (j := m) (stA (ls.set i.toNat (lv / m)) cs (a + 1)) hm
    refine ⟨lv % m, ls.set i.toNat (lv / m), Int.emod_nonneg _ (by omega), Int.emod_lt_of_pos _ hm, by simp, ?_⟩
    simp [runS, Jv.envOf, fin, noX, sSeq, sAsg, sIf, sPar, sSet, sRet, sNil, sExpr, sNo, tVal, bOr, bNot, bAnd, bYes, eAnd, eOr, eNot, eIf, eBin, eCall, eTup, eCon, eVar, eBlt, eLst, eNeg, eChain, aCons, aNil, aLim, gTp, gNm, gsCons, gsNil, allV, ofOp, R.thenS, R.bind, List.replicate, rn__law_draw, dn__law_draw, eDGet, sDPut, sLPut, g1, g2, g3, g4, g5, g6, g7, g8, g9, hl, int_ok, add_ok, q1, q2, q3, st2, tk]
  · obtain ⟨n1, n10, n11, n1e⟩ := mixed_ok cv a h0 (by omega) (stA ls cs (a + 1))
    obtain ⟨n2, n20, n21, n2e⟩ := mixed_ok n1 (40 + a) (by omega) (by omega) (stA ls cs (a + 1))
    obtain ⟨n3, n30, n31, n3e⟩ := mixed_ok n2 (7 + a) (by omega) (by omega) (stA ls cs (a + 1))
    have q1 := mul_ok (i := n2) (j := 2147483647) (stA ls cs (a + 1)) (by omega) (by decide)
    have q2 := fdiv_ok (i := n2 * 2147483647 + n3) (j := 64) (stA ls cs (a + 1)) (by decide) (by decide)
    have q3 := mod_ok (i := (n2 * 2147483647 + n3) / 64) (j := m) (stA ls cs (a + 1)) hm
    refine ⟨(n2 * 2147483647 + n3) / 64 % m, ls, Int.emod_nonneg _ (by omega), Int.emod_lt_of_pos _ hm, rfl, ?_⟩
    simp [runS, Jv.envOf, fin, noX, sSeq, sAsg, sIf, sPar, sSet, sRet, sNil, sExpr, sNo, tVal, bOr, bNot, bAnd, bYes, eAnd, eOr, eNot, eIf, eBin, eCall, eTup, eCon, eVar, eBlt, eLst, eNeg, eChain, aCons, aNil, aLim, gTp, gNm, gsCons, gsNil, allV, ofOp, R.thenS, R.bind, List.replicate, rn__law_draw, dn__law_draw, eDGet, sDPut, sLPut, g1, g2, g3, g4, g5, g6, g7, g8, g9, hl, int_ok, add_ok, n1e, n2e, n3e, q1, q2, q3, st2, tk]
end K5
end
section
namespace K5
open PySem Jv
/-! the values -/
abbrev SG : Str := "abcxyz0189"
theorem sg_sig : ∀ c ∈ SG.cps.toList, c ∈ SIG.cps.toList := by decide +kernel
theorem sg_len : SG.cps.toList.length = 10 := by decide +kernel
def one1 (c : Nat) : Str := ⟨#[c]⟩
theorem lc_draw {cs : List Int} {env : Jv.Env} {g : GD} {e : ED} (he : ∀ (d : D) (ls : List Int) (a : Int), cs.length = ls.length → 0 < ls.length → 0 ≤ a → a ≤ 900000 →
      ∃ env1, g (.v d) env = some env1 ∧ ∃ c ls', c ∈ SG.cps.toList ∧ ls'.length = ls.length ∧ e env1 (stA ls cs a) = .ok (.v (.str (one1 c))) (stA ls' cs (a + 1))) :
    ∀ (ds : List D) (ls : List Int) (a : Int) (acc : List D), cs.length = ls.length → 0 < ls.length → 0 ≤ a → a + ds.length ≤ 900000 →
      ∃ (out : List Nat) (ls' : List Int), out.length = ds.length ∧ (∀ c ∈ out, c ∈ SG.cps.toList) ∧ ls'.length = ls.length ∧
        lcGo g bYes e env ds (stA ls cs a) acc = .ok (acc ++ out.map fun c => .str (one1 c)) (stA ls' cs (a + ds.length))
  | [], ls, a, acc, _, _, _, _ => ⟨[], ls, rfl, (fun c hc => nomatch hc), rfl, by simp [lcGo]⟩
  | d :: r, ls, a, acc, h1, h2, h3, h4 => by
    simp only [List.length_cons, Int.natCast_add] at h4
    obtain ⟨env1, e1, c, ls1, hc, hl, e2⟩ := he d ls a h1 h2 h3 (by omega)
    obtain ⟨out, ls', ho, hm, hl', e3⟩ := lc_draw he r ls1 (a + 1) (acc ++ [.str (one1 c)]) (by omega) (by omega) (by omega) (by omega)
    refine ⟨c :: out, ls', by simp [ho], ?_, by omega, ?_⟩
    · intro x hx
      rcases List.mem_cons.mp hx with rfl | hx
      · exact hc
      · exact hm x hx
    · simp only [lcGo, e1, bYes, noX_ok, R.bind_ok, if_true, e2, e3]
      have : a + 1 + (r.length : Int) = a + ((d :: r).length : Nat) := by simp; omega
      rw [this]
      simp
theorem txts_ones : ∀ out : List Nat, txtsD (out.map fun c => D.str (one1 c)) = some (out.map one1)
  | [] => rfl
  | c :: r => by simp [txtsD, txts_ones r]
theorem fold_ones : ∀ (r : List Nat) (acc : Array Nat), (List.foldl (fun acc (p : Str) => acc ++ (Str.ofString "").cps ++ p.cps) acc (r.map one1)).toList = acc.toList ++ r
  | [], acc => by simp
  | c :: r, acc => by
    have e : (Str.ofString "").cps = #[] := by decide +kernel
    simp only [List.map_cons, List.foldl_cons]
    rw [fold_ones r]
    simp [e, one1]
theorem join_ones (out : List Nat) : (Txt.join "" (out.map one1)).cps.toList = out := by
  cases out with
  | nil => rfl
  | cons c r =>
    show (List.foldl (fun acc (p : Str) => acc ++ (Str.ofString "").cps ++ p.cps) (one1 c).cps (r.map one1)).toList = _
    rw [fold_ones]
    simp [one1]
theorem len_ones : ∀ out : List Nat, ((out.map one1).map (·.length)).sum = out.length
  | [] => rfl
  | c :: r => by
    simp only [List.map_cons, List.sum_cons, len_ones r, List.length_cons]
    have : (one1 c).length = 1 := rfl
    omega
theorem cut_list (x : Str) (k : Int) (h : 0 ≤ k) : (L2.cutS x none (some k)).cps.toList = x.cps.toList.take k.toNat := by
  unfold L2.cutS
  have e1 : HT.sIx x.length 0 none = 0 := rfl
  have e2 : HT.sIx x.length x.length (some k) = min k.toNat x.length := by
    show (if k < 0 then _ else _) = _
    rw [if_neg (by omega)]
  rw [e1, e2]
  simp only [List.drop_zero, Nat.sub_zero]
  rw [← List.take_take]
  have : x.cps.toList.take x.length = x.cps.toList := List.take_of_length_le (by simp [Str.length])
  rw [this]
theorem word_of {x : Str} (h1 : 1 ≤ x.cps.toList.length) (h2 : x.cps.toList.length ≤ 6) (h : ∀ c ∈ x.cps.toList, c ∈ SIG.cps.toList) : wordB SIG x = true := by
  simp only [wordB, Bool.and_eq_true, decide_eq_true_eq, List.all_eq_true]
  rw [Array.length_toList] at h1 h2
  exact ⟨⟨h1, h2⟩, h⟩
theorem app_list (x y : Str) : (x ++ y).cps.toList = x.cps.toList ++ y.cps.toList := by
  show (x.cps ++ y.cps).toList = _
  simp
theorem made_ok {out : List Nat} (k : Int) (t : Str) (h1 : out.length ≤ 5) (hk : 0 ≤ k) (ht1 : 1 ≤ t.cps.toList.length) (ht : k.toNat + t.cps.toList.length ≤ 6) (hm : ∀ c ∈ out, c ∈ SG.cps.toList) (hs : ∀ c ∈ t.cps.toList, c ∈ SIG.cps.toList) :
    wordB SIG (L2.cutS (Txt.join "" (out.map one1)) none (some k) ++ t) = true := by
  refine word_of ?_ ?_ ?_
  · rw [app_list, List.length_append]; omega
  · rw [app_list, List.length_append, cut_list _ _ hk, List.length_take]; omega
  · intro c hc
    rw [app_list] at hc
    rcases List.mem_append.mp hc with hc | hc
    · rw [cut_list _ _ hk, join_ones] at hc
      exact sg_sig c (hm c (List.mem_of_mem_take hc))
    · exact hs c hc
theorem values_ok {ls cs : List Int} {a : Int} (hn : cs.length = ls.length) (hp : 0 < ls.length) (h0 : 0 ≤ a) (h1 : a ≤ 800000) :
    ∃ (x y z : Str) (ls' : List Int) (a' : Int), wordB SIG x = true ∧ wordB SIG y = true ∧ wordB SIG z = true ∧ ls'.length = ls.length ∧ a ≤ a' ∧ a' ≤ a + 10 ∧
      rn__law_values [.r 1] (stA ls cs a) = .ok (.v (.lst [.str x, .str y, .str z])) (stA ls' cs a') := by
  obtain ⟨r, ls1, r0, r1, hl1, e1⟩ := draw_ok (m := 5) hn hp h0 (by omega) (by decide) (by decide)
  obtain ⟨n, hn5⟩ : ∃ n : Nat, (n : Int) = 1 + r := ⟨(1 + r).toNat, by omega⟩
  obtain ⟨out, ls2, ho, hm, hl2, e2⟩ := lc_draw (cs := cs) (env := [some (.r 1), some (.v (.str SG)), none, none]) (g := gNm 3) (e := eBin ixD (eVar 1) (eCall rn__law_draw (aCons (eVar 0) (aCons (eCon (.int 10)) aNil)))) (by
    intro d ls a h1 h2 h3 h4
    obtain ⟨q, ls', q0, q1, hl, e⟩ := draw_ok (m := 10) h1 h2 h3 h4 (by decide) (by decide)
    have hq : q.toNat < SG.cps.toList.length := by rw [sg_len]; omega
    refine ⟨_, rfl, SG.cps.toList[q.toNat], ls', List.getElem_mem hq, hl, ?_⟩
    have ix : ixD (stA ls' cs (a + 1)) (.v (.str SG)) (.v (.int q)) = some (.str (one1 SG.cps.toList[q.toNat])) := by
      have l10 : SG.length ≤ 100000 := by decide +kernel
      have ai : L2.atI SG.cps.toList q = some SG.cps.toList[q.toNat] := by
        unfold L2.atI
        rw [at_nat q0 (by rw [sg_len]; exact q1)]
        simp [hq]
      simp [ixD, l10, ai, one1]
    simp [runS, Jv.envOf, fin, noX, sSeq, sAsg, sIf, sPar, sSet, sRet, sNil, sExpr, sNo, tVal, bOr, bNot, bAnd, bYes, eAnd, eOr, eNot, eIf, eBin, eCall, eTup, eCon, eVar, eBlt, eLst, eNeg, eChain, aCons, aNil, aLim, gTp, gNm, gsCons, gsNil, allV, ofOp, R.thenS, R.bind, List.replicate, e, ix]) (rangeL 0 n) ls1 (a + 1) [] (by omega) (by omega) (by omega) (by simp [rangeL]; omega)
  have hlen : out.length = n := by rw [ho]; simp [rangeL]
  refine ⟨_, _, _, ls2, a + 1 + ((rangeL 0 n).length : Nat), made_ok (out := out) 5 "1" (by omega) (by decide) (by decide +kernel) (by decide +kernel) hm (by decide +kernel), made_ok (out := out) 5 "2" (by omega) (by decide) (by decide +kernel) (by decide +kernel) hm (by decide +kernel),
    made_ok (out := out) 4 "33" (by omega) (by decide) (by decide +kernel) (by decide +kernel) hm (by decide +kernel), by omega, by simp [rangeL]; omega, by simp [rangeL]; omega, ?_⟩
  have w1 : (Txt.join "" (out.map one1)).length = out.length := by
    have := congrArg List.length (join_ones out)
    simpa [Str.length] using this
  have rg : ranges [.v (.int (1 + r))] (stA ls1 cs (a + 1)) = .ok (rangeL 0 n) (stA ls1 cs (a + 1)) := by
    simp only [ranges]
    rw [if_pos (by omega), ← hn5]
    simp
  have jn : joinG "" (.v (.lst (out.map fun c => D.str (one1 c)))) (stA ls2 cs (a + 1 + ((rangeL 0 n).length : Nat))) = .ok (.v (.str (Txt.join "" (out.map one1)))) (stA ls2 cs (a + 1 + ((rangeL 0 n).length : Nat))) := by
    simp only [joinG, asLst, txts_ones]
    rw [if_pos ?_]
    rw [len_ones]
    have z : (Str.ofString "").length = 0 := by decide +kernel
    rw [z]
    omega
  have e2' : lcGo (gNm 3) bYes (eBin ixD (eVar 1) (eCall rn__law_draw (aCons (eVar 0) (aCons (eCon (.int 10)) aNil)))) [some (.r 1), some (.v (.str SG)), none, none] (rangeL 0 n) (stA ls1 cs (a + 1)) [] = .ok (out.map fun c => D.str (one1 c)) (stA ls2 cs (a + 1 + ((rangeL 0 n).length : Nat))) := by
    rw [e2]
    simp
  have hr : (rangeL 0 n).length ≤ 100000 := by simp [rangeL]; omega
  have c5 := cut_list (Txt.join "" (out.map one1)) 5 (by decide)
  have s5 : slcD (stA ls2 cs (a + 1 + ((rangeL 0 n).length : Nat))) (.v (.str (Txt.join "" (out.map one1)))) none (some 5) = some (.str (L2.cutS (Txt.join "" (out.map one1)) none (some 5))) := by
    simp only [slcD]
    rw [if_pos (by omega)]
  have s4 : slcD (stA ls2 cs (a + 1 + ((rangeL 0 n).length : Nat))) (.v (.str (Txt.join "" (out.map one1)))) none (some 4) = some (.str (L2.cutS (Txt.join "" (out.map one1)) none (some 4))) := by
    simp only [slcD]
    rw [if_pos (by omega)]
  have ad : ∀ (k : Int) (t : Str) (st : Sto), t.length ≤ 10 → addD st (.v (.str (L2.cutS (Txt.join "" (out.map one1)) none (some k)))) (.v (.str t)) = some (.str (L2.cutS (Txt.join "" (out.map one1)) none (some k) ++ t)) := by
    intro k t st ht
    simp only [onV, addT]
    have := L2.cutS_length (Txt.join "" (out.map one1)) none (some k)
    rw [if_pos (by omega)]
  have a1 := fun st => ad 5 "1" st (by decide +kernel)
  have a2 := fun st => ad 5 "2" st (by decide +kernel)
  have a3 := fun st => ad 4 "33" st (by decide +kernel)
  have st2 : List.length (stA ls cs a) = 2 := rfl
  have tk : ∀ ls' (b : Int), List.take 2 (stA ls' cs b) = stA ls' cs b := fun _ _ => rfl
  simp [runS, Jv.envOf, fin, noX, sSeq, sAsg, sIf, sPar, sSet, sRet, sNil, sExpr, sNo, tVal, bOr, bNot, bAnd, bYes, eAnd, eOr, eNot, eIf, eBin, eCall, eTup, eCon, eVar, eBlt, eLst, eNeg, eChain, aCons, aNil, aLim, gTp, gNm, gsCons, gsNil, allV, ofOp, R.thenS, R.bind, List.replicate, rn__law_values, dn__law_values, eJoin, lLc, itRange, e1, add_ok, rg, wipeE, hr, e2', jn, eSlc, pNo, pSo, s5, s4, a1, a2, a3, st2, tk]
end K5
end
section
namespace K5
open PySem Jv
/-! the law -/
theorem ints_lay : ∀ ns : List Int, PyData.canLayAll0 (D.pyL (ns.map D.int)) = true ∧ PyData.depthAll (D.pyL (ns.map D.int)) = 0
  | [] => ⟨rfl, rfl⟩
  | n :: r => by
    have h := ints_lay r
    simp [D.pyL, D.py, PyData.canLayAll0, PyData.depthAll, PyData.canLay0, PyData.depth, h.1, h.2]
theorem ints_shaped (ns : List Int) : SeqAt.shaped (D.lst (ns.map D.int)).py = true := by
  have h := ints_lay ns
  simp [SeqAt.shaped, D.py, PyData.canLay0, PyData.depth, h.1, h.2]
theorem lc_lefts {env : Jv.Env} {st : Sto} {g : GD} {e : ED} (he : ∀ c : Int, ∃ env1, g (.v (.int c)) env = some env1 ∧ ∃ l : Int, e env1 st = .ok (.v (.int l)) st) : ∀ (cs : List Int) (acc : List D), ∃ ls : List Int, ls.length = cs.length ∧ lcGo g bYes e env (cs.map D.int) st acc = .ok (acc ++ ls.map D.int) st
  | [], acc => ⟨[], rfl, by simp [lcGo]⟩
  | c :: r, acc => by
    obtain ⟨env1, e1, l, e2⟩ := he c
    obtain ⟨ls, h1, h2⟩ := lc_lefts he r (acc ++ [.int l])
    refine ⟨l :: ls, by simp [h1], ?_⟩
    simp only [List.map_cons, lcGo, e1, bYes, noX_ok, R.bind_ok, if_true, e2, h2]
    simp
theorem begin_ok (ns : List Int) (hl : ns.length ≤ 63) : ∃ ls cs : List Int, cs.length = ls.length ∧ 0 < ls.length ∧ rn__law_begin [.v (.lst (ns.map .int))] [] = .ok (.r 1) (stA ls cs 0) := by
  have pw : ∀ st : Sto, powD st (.v (.int 10)) (.v (.int 18)) = some (.int 1000000000000000000) := fun st => by kernel_rfl
  have lf : ∀ (x : D) (cs : List Int), ∃ ls : List Int, ls.length = cs.length ∧ lcGo (gNm 2) bYes (eIf (tVal (eBin geD (eVar 2) (eBin powD (eCon (.int 10)) (eCon (.int 18))))) (eVar 2) (eCon (.int 0))) [some (.v x), some (.v (.lst (cs.map .int))), none] (cs.map D.int) [] [] = .ok (ls.map D.int) [] := by
    intro x cs
    obtain ⟨ls, h1, h2⟩ := lc_lefts (env := [some (.v x), some (.v (.lst (cs.map .int))), none]) (st := []) (g := gNm 2) (e := eIf (tVal (eBin geD (eVar 2) (eBin powD (eCon (.int 10)) (eCon (.int 18))))) (eVar 2) (eCon (.int 0))) (fun c => by
      refine ⟨_, rfl, if 1000000000000000000 ≤ c then c else 0, ?_⟩
      by_cases h : (1000000000000000000 : Int) ≤ c
      · simp [runS, Jv.envOf, fin, noX, sSeq, sAsg, sIf, sPar, sSet, sRet, sNil, sExpr, sNo, tVal, bOr, bNot, bAnd, bYes, eAnd, eOr, eNot, eIf, eBin, eCall, eTup, eCon, eVar, eBlt, eLst, eNeg, eChain, aCons, aNil, aLim, gTp, gNm, gsCons, gsNil, allV, ofOp, R.thenS, R.bind, List.replicate, pw, onV, int2, h]
      · simp [runS, Jv.envOf, fin, noX, sSeq, sAsg, sIf, sPar, sSet, sRet, sNil, sExpr, sNo, tVal, bOr, bNot, bAnd, bYes, eAnd, eOr, eNot, eIf, eBin, eCall, eTup, eCon, eVar, eBlt, eLst, eNeg, eChain, aCons, aNil, aLim, gTp, gNm, gsCons, gsNil, allV, ofOp, R.thenS, R.bind, List.replicate, pw, onV, int2, h]) cs []
    exact ⟨ls, h1, by simpa using h2⟩
  have nd : ∀ x y z u : W, nodupK [("cells", x), ("lefts", y), ("at", z), ("room", u)] = true := fun x y z u => by kernel_rfl
  cases ns with
  | nil =>
    obtain ⟨ls, h1, h2⟩ := lf (.lst []) [0]
    refine ⟨ls, [0], h1.symm, by rw [h1]; decide, ?_⟩
    have ne := neS [] (.lst []) (by kernel_rfl)
    simp only [List.map_cons, List.map_nil] at h2
    simp [runS, Jv.envOf, fin, noX, sSeq, sAsg, sIf, sPar, sSet, sRet, sNil, sExpr, sNo, tVal, bOr, bNot, bAnd, bYes, eAnd, eOr, eNot, eIf, eBin, eCall, eTup, eCon, eVar, eBlt, eLst, eNeg, eChain, aCons, aNil, aLim, gTp, gNm, gsCons, gsNil, allV, ofOp, R.thenS, R.bind, List.replicate, rn__law_begin, dn__law_begin, ne, eDct, kOf, kCons, kNil, eNew, lLc, itE, items, wipeE, h2, nd, stA]
  | cons n r =>
    obtain ⟨ls, h1, h2⟩ := lf (.lst ((n :: r).map .int)) (n :: r)
    refine ⟨ls, n :: r, h1.symm, by rw [h1]; simp, ?_⟩
    have ne : neD [] (.v (.lst (.int n :: r.map .int))) (.v (.lst [])) = some (.bl true) := by
      have e0 := ints_shaped (n :: r)
      have e : PyData.eqv (D.lst (.int n :: r.map .int)).py (D.lst []).py = false := by simp [D.py, D.pyL, PyData.eqv, PyData.eqvAll]
      have e2 : SeqAt.shaped (D.lst []).py = true := by kernel_rfl
      simp only [List.map_cons] at e0
      simp [neD, deref, e0, e, e2]
    have hl' : r.length + 1 ≤ 100000 := by simp at hl; omega
    simp only [List.map_cons] at h2
    simp [runS, Jv.envOf, fin, noX, sSeq, sAsg, sIf, sPar, sSet, sRet, sNil, sExpr, sNo, tVal, bOr, bNot, bAnd, bYes, eAnd, eOr, eNot, eIf, eBin, eCall, eTup, eCon, eVar, eBlt, eLst, eNeg, eChain, aCons, aNil, aLim, gTp, gNm, gsCons, gsNil, allV, ofOp, R.thenS, R.bind, List.replicate, rn__law_begin, dn__law_begin, ne, eDct, kOf, kCons, kNil, eNew, lLc, lBlt, listF, asLst, itE, items, wipeE, h2, nd, stA, hl']
abbrev hostO : D := T [.str "www", .str "shop", .str "org"]
abbrev nearO : D := T [.str "shop", .str "org"]
abbrev pageO : D := T [T [hostO, T [.str "in"], .bl true], T [T [.str "id", .str "a1", nearO, .non, .bl true], T [.str "id", .str "b2", .non, T [.str "in"], .bl false]]]
abbrev dueO : D := T [kp (T [.str "id", hostO, T [.str "in"], .bl true]) "b2" false, kp (T [.str "id", nearO, T [], .bl false]) "a1" true]
theorem turns_ok (w : World) {cs : List Int} {x0 : W} : ∀ (ds : List D) (ls : List Int) (a : Int) (t x y z : Option W), cs.length = ls.length → 0 < ls.length → 0 ≤ a → a + 10 * ds.length ≤ 700000 →
    ∃ (ls' : List Int) (a' : Int) (t' x' y' z' : Option W), forGo (gNm 2) (sSeq (sAsg (eCall rn__law_values (aCons (eVar 1) aNil)) (gTl 3 (gsCons (gNm 7) (gsCons (gNm 8) (gsCons (gNm 9) gsNil))))) (sSeq (sIf (bOr (bNot (tVal (eCall (rn__law_two_right w) (aCons (eVar 7) (aCons (eVar 8) aNil))))) (bNot (tVal (eCall (rn__law_ages_right w) (aCons (eVar 7) (aCons (eVar 8) (aCons (eVar 9) aNil))))))) (sRet (eCon (.bl false))) sNil) (sIf (bOr (bNot (tVal (eCall (rn__law_folders_right w) (aCons (eVar 7) (aCons (eVar 8) (aCons (eVar 9) aNil)))))) (bOr (bNot (tVal (eCall (rn__law_untaken_right w) (aCons (eVar 7) (aCons (eVar 8) aNil))))) (bNot (tVal (eCall (rn__law_wide_right w) (aCons (eVar 7) aNil)))))) (sRet (eCon (.bl false))) sNil))) ds [some x0, some (.r 1), t, none, none, none, none, x, y, z] (stA ls cs a) = .nx [some x0, some (.r 1), t', none, none, none, none, x', y', z'] (stA ls' cs a')
  | [], ls, a, t, x, y, z, _, _, _, _ => ⟨ls, a, t, x, y, z, rfl⟩
  | d :: r, ls, a, t, x, y, z, h1, h2, h3, h4 => by
    simp only [List.length_cons, Int.natCast_add] at h4
    obtain ⟨p, q, s, ls1, a1, hp, hq, hs, hl, b0, b1, e⟩ := values_ok h1 h2 h3 (by omega)
    have t1 : rn__law_two_right w [.v (.str p), .v (.str q)] (stA ls1 cs a1) = tt (stA ls1 cs a1) := two_ok w hp hq _ _
    have t2 : rn__law_ages_right w [.v (.str p), .v (.str q), .v (.str s)] (stA ls1 cs a1) = tt (stA ls1 cs a1) := ages_ok w hp hq hs _ _
    have t3 : rn__law_folders_right w [.v (.str p), .v (.str q), .v (.str s)] (stA ls1 cs a1) = tt (stA ls1 cs a1) := folders_ok w hp hq hs _ _
    have t4 : rn__law_untaken_right w [.v (.str p), .v (.str q)] (stA ls1 cs a1) = tt (stA ls1 cs a1) := untaken_ok w hp hq _ _
    have t5 : rn__law_wide_right w [.v (.str p)] (stA ls1 cs a1) = tt (stA ls1 cs a1) := wide_ok w hp _ _
    obtain ⟨ls', a', t', x', y', z', e'⟩ := turns_ok w (cs := cs) (x0 := x0) r ls1 a1 (some (.v d)) (some (.v (.str p))) (some (.v (.str q))) (some (.v (.str s))) (by omega) (by omega) (by omega) (by omega)
    refine ⟨ls', a', t', x', y', z', ?_⟩
    have step : (sSeq (sAsg (eCall rn__law_values (aCons (eVar 1) aNil)) (gTl 3 (gsCons (gNm 7) (gsCons (gNm 8) (gsCons (gNm 9) gsNil))))) (sSeq (sIf (bOr (bNot (tVal (eCall (rn__law_two_right w) (aCons (eVar 7) (aCons (eVar 8) aNil))))) (bNot (tVal (eCall (rn__law_ages_right w) (aCons (eVar 7) (aCons (eVar 8) (aCons (eVar 9) aNil))))))) (sRet (eCon (.bl false))) sNil) (sIf (bOr (bNot (tVal (eCall (rn__law_folders_right w) (aCons (eVar 7) (aCons (eVar 8) (aCons (eVar 9) aNil)))))) (bOr (bNot (tVal (eCall (rn__law_untaken_right w) (aCons (eVar 7) (aCons (eVar 8) aNil))))) (bNot (tVal (eCall (rn__law_wide_right w) (aCons (eVar 7) aNil)))))) (sRet (eCon (.bl false))) sNil))) [some x0, some (.r 1), some (.v d), none, none, none, none, x, y, z] (stA ls cs a) = .nx [some x0, some (.r 1), some (.v d), none, none, none, none, some (.v (.str p)), some (.v (.str q)), some (.v (.str s))] (stA ls1 cs a1) := by
      simp [runS, Jv.envOf, fin, noX, sSeq, sAsg, sIf, sPar, sSet, sRet, sNil, sExpr, sNo, tVal, bOr, bNot, bAnd, bYes, eAnd, eOr, eNot, eIf, eBin, eCall, eTup, eCon, eVar, eBlt, eLst, eNeg, eChain, aCons, aNil, aLim, gTp, gNm, gsCons, gsNil, allV, ofOp, R.thenS, R.bind, List.replicate, e, gTl, t1, t2, t3, t4, t5]
    have gn : gNm 2 (.v d) [some x0, some (.r 1), t, none, none, none, none, x, y, z] = some [some x0, some (.r 1), some (.v d), none, none, none, none, x, y, z] := rfl
    simp only [forGo, gn, step]
    exact e'
theorem law_ok (w : World) (ns : List Int) (hl : ns.length ≤ 63) : rn_law w [.v (.lst (ns.map .int))] [] = tt [] := by
  obtain ⟨ls, cs, h1, h2, e⟩ := begin_ok ns hl
  have ln : lenB (stA ls cs 0) [.v (.lst (ns.map .int))] = some (.int ns.length) := by simp [lenB, asLst]
  have mn : minB (stA ls cs 0) [.v (.int 3), .v (.int ns.length)] = some (.int (if (ns.length : Int) < 3 then (ns.length : Int) else 3)) := rfl
  obtain ⟨m, hm⟩ : ∃ m : Int, (if (ns.length : Int) < 3 then (ns.length : Int) else 3) = m := ⟨_, rfl⟩
  have m0 : 0 ≤ m ∧ m ≤ 3 := by rw [← hm]; split <;> omega
  rw [hm] at mn
  have rg : ranges [.v (.int (3 + m))] (stA ls cs 0) = .ok (rangeL 0 (3 + m).toNat) (stA ls cs 0) := by
    simp only [ranges]
    rw [if_pos (by omega)]
  obtain ⟨ls', a', t', x', y', z', lp⟩ := turns_ok w (cs := cs) (x0 := .v (.lst (ns.map .int))) (rangeL 0 (3 + m).toNat) ls 0 none none none none h1 h2 (by decide) (by simp [rangeL]; omega)
  have sB : siteB (T [pageO]) = true := by kernel_rfl
  have sL : siteL (T [pageO]) = [(Str.ofString "a1"), (Str.ofString "b2")] := by kernel_rfl
  have va : wordB SIG (Str.ofString "a1") = true := by kernel_rfl
  have vb : wordB SIG (Str.ofString "b2") = true := by kernel_rfl
  have sV : ∀ x ∈ siteL (T [pageO]), wordB SIG x = true := by rw [sL]; simp [va, vb]
  have jB : jarK dueO = true := by kernel_rfl
  have jL : jarL dueO = [(Str.ofString "b2"), (Str.ofString "a1")] := by kernel_rfl
  have jV : ∀ x ∈ jarL dueO, wordB SIG x = true := by rw [jL]; simp [va, vb]
  have b1 : rn_behind [.v (T [pageO]), .v (T [.int 0])] (stA ls' cs a') = .ok (.v dueO) (stA ls' cs a') := behind_ok sB sV (by kernel_rfl) (by kernel_rfl)
  have s1 : rn_sent w [.v dueO, .v (T [hostO, T [.str "in"], .bl true])] (stA ls' cs a') = .ok (.v (T [pr "id" "b2", pr "id" "a1"])) (stA ls' cs a') := sent_ok w jB jV (by kernel_rfl) (by kernel_rfl)
  have e1 := eqS (stA ls' cs a') dueO (by kernel_rfl)
  have e2 := eqS (stA ls' cs a') (T [pr "id" "b2", pr "id" "a1"]) (by kernel_rfl)
  simp [runS, Jv.envOf, fin, noX, sSeq, sAsg, sIf, sPar, sSet, sRet, sNil, sExpr, sNo, tVal, bOr, bNot, bAnd, bYes, eAnd, eOr, eNot, eIf, eBin, eCall, eTup, eCon, eVar, eBlt, eLst, eNeg, eChain, aCons, aNil, aLim, gTp, gNm, gsCons, gsNil, allV, ofOp, R.thenS, R.bind, List.replicate, rn_law, dn_law, e, ln, mn, add_ok, sFor, itRange, rg, lp, b1, s1, e1, e2, ixD, at0]
end K5
end
section
namespace K5
open PySem PySem.Spec L2 PyProof.Rows Jv
def D_is_of : He.DefD := ⟨("is_of", none), "is_of", "is_of", defArgs s_is_of, defBody s_is_of, defScope s_is_of, [], []⟩
def D_is_name : He.DefD := ⟨("is_name", none), "is_name", "is_name", defArgs s_is_name, defBody s_is_name, defScope s_is_name, [], []⟩
def D_are_words : He.DefD := ⟨("are_words", none), "are_words", "are_words", defArgs s_are_words, defBody s_are_words, defScope s_are_words, [], []⟩
def D_is_host : He.DefD := ⟨("is_host", none), "is_host", "is_host", defArgs s_is_host, defBody s_is_host, defScope s_is_host, [], []⟩
def D_is_path : He.DefD := ⟨("is_path", none), "is_path", "is_path", defArgs s_is_path, defBody s_is_path, defScope s_is_path, [], []⟩
def D_is_address : He.DefD := ⟨("is_address", none), "is_address", "is_address", defArgs s_is_address, defBody s_is_address, defScope s_is_address, [], []⟩
def D_is_within : He.DefD := ⟨("is_within", none), "is_within", "is_within", defArgs s_is_within, defBody s_is_within, defScope s_is_within, [], []⟩
def D_is_below : He.DefD := ⟨("is_below", none), "is_below", "is_below", defArgs s_is_below, defBody s_is_below, defScope s_is_below, [], []⟩
def D_is_whole : He.DefD := ⟨("is_whole", none), "is_whole", "is_whole", defArgs s_is_whole, defBody s_is_whole, defScope s_is_whole, [], []⟩
def D_is_value : He.DefD := ⟨("is_value", none), "is_value", "is_value", defArgs s_is_value, defBody s_is_value, defScope s_is_value, [], []⟩
def D_is_write : He.DefD := ⟨("is_write", none), "is_write", "is_write", defArgs s_is_write, defBody s_is_write, defScope s_is_write, [], []⟩
def D_need_site : He.DefD := ⟨("need_site", none), "need_site", "need_site", defArgs s_need_site, defBody s_need_site, defScope s_need_site, [], []⟩
def D_need_page : He.DefD := ⟨("need_page", none), "need_page", "need_page", defArgs s_need_page, defBody s_need_page, defScope s_need_page, [], []⟩
def D_need_name : He.DefD := ⟨("need_name", none), "need_name", "need_name", defArgs s_need_name, defBody s_need_name, defScope s_need_name, [], []⟩
def D_key_in : He.DefD := ⟨("key_in", none), "key_in", "key_in", defArgs s_key_in, defBody s_key_in, defScope s_key_in, [], []⟩
def D_taken_in : He.DefD := ⟨("taken_in", none), "taken_in", "taken_in", defArgs s_taken_in, defBody s_taken_in, defScope s_taken_in, [], []⟩
def D_is_key : He.DefD := ⟨("is_key", none), "is_key", "is_key", defArgs s_is_key, defBody s_is_key, defScope s_is_key, [], []⟩
def D_is_kept : He.DefD := ⟨("is_kept", none), "is_kept", "is_kept", defArgs s_is_kept, defBody s_is_kept, defScope s_is_kept, [], []⟩
def D_rank : He.DefD := ⟨("rank", none), "rank", "rank", defArgs s_rank, defBody s_rank, defScope s_rank, [], []⟩
def D_need_jar : He.DefD := ⟨("need_jar", none), "need_jar", "need_jar", defArgs s_need_jar, defBody s_need_jar, defScope s_need_jar, [], []⟩
def D_need_address : He.DefD := ⟨("need_address", none), "need_address", "need_address", defArgs s_need_address, defBody s_need_address, defScope s_need_address, [], []⟩
def D_need_row : He.DefD := ⟨("need_row", none), "need_row", "need_row", defArgs s_need_row, defBody s_need_row, defScope s_need_row, [], []⟩
def D_after : He.DefD := ⟨("after", none), "after", "after", defArgs s_after, defBody s_after, defScope s_after, [], []⟩
def D_goes : He.DefD := ⟨("goes", none), "goes", "goes", defArgs s_goes, defBody s_goes, defScope s_goes, [], []⟩
def D_sent_in : He.DefD := ⟨("sent_in", none), "sent_in", "sent_in", defArgs s_sent_in, defBody s_sent_in, defScope s_sent_in, [], []⟩
def D_read_in : He.DefD := ⟨("read_in", none), "read_in", "read_in", defArgs s_read_in, defBody s_read_in, defScope s_read_in, [], []⟩
def D_behind_in : He.DefD := ⟨("behind_in", none), "behind_in", "behind_in", defArgs s_behind_in, defBody s_behind_in, defScope s_behind_in, [], []⟩
def D_visited : He.DefD := ⟨("visited", none), "visited", "visited", defArgs s_visited, defBody s_visited, defScope s_visited, [], []⟩
def D_behind : He.DefD := ⟨("behind", none), "behind", "behind", defArgs s_behind, defBody s_behind, defScope s_behind, [], []⟩
def D_sent : He.DefD := ⟨("sent", none), "sent", "sent", defArgs s_sent, defBody s_sent, defScope s_sent, [], []⟩
def D_read : He.DefD := ⟨("read", none), "read", "read", defArgs s_read, defBody s_read, defScope s_read, [], []⟩
def D__law_mixed : He.DefD := ⟨("_law_mixed", none), "_law_mixed", "_law_mixed", defArgs s__law_mixed, defBody s__law_mixed, defScope s__law_mixed, [], []⟩
def D__law_begin : He.DefD := ⟨("_law_begin", none), "_law_begin", "_law_begin", defArgs s__law_begin, defBody s__law_begin, defScope s__law_begin, [], []⟩
def D__law_draw : He.DefD := ⟨("_law_draw", none), "_law_draw", "_law_draw", defArgs s__law_draw, defBody s__law_draw, defScope s__law_draw, [], []⟩
def D__law_of : He.DefD := ⟨("_law_of", none), "_law_of", "_law_of", defArgs s__law_of, defBody s__law_of, defScope s__law_of, [], []⟩
def D__law_values : He.DefD := ⟨("_law_values", none), "_law_values", "_law_values", defArgs s__law_values, defBody s__law_values, defScope s__law_values, [], []⟩
def D__law_two_right : He.DefD := ⟨("_law_two_right", none), "_law_two_right", "_law_two_right", defArgs s__law_two_right, defBody s__law_two_right, defScope s__law_two_right, [], []⟩
def D__law_ages_right : He.DefD := ⟨("_law_ages_right", none), "_law_ages_right", "_law_ages_right", defArgs s__law_ages_right, defBody s__law_ages_right, defScope s__law_ages_right, [], []⟩
def D__law_folders_right : He.DefD := ⟨("_law_folders_right", none), "_law_folders_right", "_law_folders_right", defArgs s__law_folders_right, defBody s__law_folders_right, defScope s__law_folders_right, [], []⟩
def D__law_untaken_right : He.DefD := ⟨("_law_untaken_right", none), "_law_untaken_right", "_law_untaken_right", defArgs s__law_untaken_right, defBody s__law_untaken_right, defScope s__law_untaken_right, [], []⟩
def D__law_wide_right : He.DefD := ⟨("_law_wide_right", none), "_law_wide_right", "_law_wide_right", defArgs s__law_wide_right, defBody s__law_wide_right, defScope s__law_wide_right, [], []⟩
def D_law : He.DefD := ⟨("law", none), "law", "law", defArgs s_law, defBody s_law, defScope s_law, [], []⟩
def fn : List He.DefD := [D_is_of, D_is_name, D_are_words, D_is_host, D_is_path, D_is_address, D_is_within, D_is_below, D_is_whole, D_is_value, D_is_write, D_need_site, D_need_page, D_need_name, D_key_in, D_taken_in, D_is_key, D_is_kept, D_rank, D_need_jar, D_need_address] ++ [D_need_row, D_after, D_goes, D_sent_in, D_read_in, D_behind_in, D_visited, D_behind, D_sent, D_read, D__law_mixed, D__law_begin, D__law_draw, D__law_of, D__law_values, D__law_two_right, D__law_ages_right, D__law_folders_right, D__law_untaken_right, D__law_wide_right, D_law]
def fa1 : List He.Fa := [.glo "is_of", .glo "is_name", .glo "are_words", .glo "is_host", .glo "is_path", .glo "is_address", .glo "is_within", .glo "is_below", .glo "is_whole", .glo "is_value", .glo "is_write", .glo "need_site", .glo "need_page", .glo "need_name", .glo "key_in", .glo "taken_in", .glo "is_key", .glo "is_kept", .glo "rank", .glo "need_jar", .glo "need_address", .glo "need_row", .glo "after", .glo "goes", .glo "sent_in", .glo "read_in", .glo "behind_in", .glo "visited", .glo "behind", .glo "sent", .glo "read", .glo "_law_mixed"]
def fa2 : List He.Fa := [.glo "_law_begin", .glo "_law_draw", .glo "_law_of", .glo "_law_values", .glo "_law_two_right", .glo "_law_ages_right", .glo "_law_folders_right", .glo "_law_untaken_right", .glo "_law_wide_right", .glo "law", .free "len", .int "MOST_SIGNS" 6, .free "str", .free "isinstance", .free "all", .str "LETTERS" "abcdefghijklmnopqrstuvwxyz", .free "tuple", .str "SIGNS" "abcdefghijklmnopqrstuvwxyz0123456789", .int "MOST_LABELS" 5, .int "LEAST_LABELS" 2, .int "MOST_SEGMENTS" 4, .free "bool", .free "int", .int "MOST_PAGES" 5, .free "enumerate", .int "MOST_WRITES" 5, .free "list", .free "sorted", .free "range", .free "min"]
def fa : List He.Fa := fa1 ++ fa2
abbrev Rw5 : PySem.W.OpenRow := PySem.W.OpenLaw.row PySem.Challenge.rw_jarvisits_k05_visits_by_hand
abbrev hk : PySem.W.Hook := He.hookD 4 fa fn
def ob (s : PySem.W.SharedT) : He.AlD := He.obsDG 4 fa fn (HandSHeadRun.getT s)
theorem ob_eq (s : PySem.W.SharedT) : ob s = hk.obs s.abs := He.obsDG_eq (HandSHeadRun.getT_eq s)
def nm1 : List PySem.Str := ["LETTERS", "SIGNS", "MOST_SIGNS", "LEAST_LABELS", "MOST_LABELS", "MOST_SEGMENTS", "is_of", "is_name", "are_words", "is_host", "is_path", "is_address", "is_within", "is_below", "JarError", "BadSite", "BadAddress", "BadRow", "BadName", "BadPage", "BadJar", "MOST_PAGES", "MOST_WRITES", "is_whole", "is_value", "is_write", "need_site", "need_page", "need_name", "key_in"]
def nm2 : List PySem.Str := ["taken_in", "is_key", "is_kept", "rank", "need_jar", "need_address", "need_row", "after", "goes", "sent_in", "read_in", "behind_in", "visited", "behind", "sent", "read", "_law_mixed", "_law_begin", "_law_draw", "_law_of", "_law_values", "_law_two_right", "_law_ages_right", "_law_folders_right", "_law_untaken_right", "_law_wide_right"]
def names : List PySem.Str := nm1 ++ nm2
theorem run (w : World) : HandSHeadRun.RunEq Rw5 (PySem.W.view Rw5.prog [61]) hk ob 20000 names w := by
  intro os
  kernel_rfl
theorem funD_fun {K : PySem.W.Frag} {x qual : Str} {st : Stmt} {f : Addr} {fd : FuncData} (F : FunD K x qual (defArgs st) (defBody st) (defScope st) [] [] f fd) : Fun K x qual st f fd := by
  obtain ⟨oc, od, dV, kV, doc, pm, an, cdv, ct, osl, e, lk, hcd, hd, _⟩ := F.ex
  have hd' : dV = .none := hd.elim (fun z => z.2) (fun z => absurd rfl z.1)
  subst hd'
  exact ⟨⟨oc, od, kV, doc, pm, an, cdv, ct, osl, e, lk, hcd⟩, F.kp⟩
abbrev ct0 : Nat → Value := fun _ => .none
theorem facts {P : Program} {w : World} {K : PySem.W.Frag} {h : Heap} {mg : Str → Option Value} {f : Addr} (X : K.In h) (G : h.Ns mainGlobals mg) (hfa : mg ("law" : Str) = some (.ref f)) (c : He.SaysD fa fn K) :
    ∃ fd : FuncData, (∀ (s : Shared) (v : Value), BindsTo s fd ⟨[v], []⟩ [("script", v)]) ∧ ∀ base : Heap, K.In base → base.Ns mainGlobals mg → FnG P w K mg base CX0 9 f fd ["script"] (spG K ct0 1 (rn_law w)) := by
  have z_len := He.free_ok X G (c.fact 42 (f := .free "len") rfl)
  have m_MOST_SIGNS := He.int_ok X G (c.fact 43 (f := .int "MOST_SIGNS" 6) rfl)
  have z_str := He.free_ok X G (c.fact 44 (f := .free "str") rfl)
  have z_isinstance := He.free_ok X G (c.fact 45 (f := .free "isinstance") rfl)
  have z_all := He.free_ok X G (c.fact 46 (f := .free "all") rfl)
  have m_LETTERS := He.str_ok X G (c.fact 47 (f := .str "LETTERS" "abcdefghijklmnopqrstuvwxyz") rfl)
  have z_tuple := He.free_ok X G (c.fact 48 (f := .free "tuple") rfl)
  have m_SIGNS := He.str_ok X G (c.fact 49 (f := .str "SIGNS" "abcdefghijklmnopqrstuvwxyz0123456789") rfl)
  have m_MOST_LABELS := He.int_ok X G (c.fact 50 (f := .int "MOST_LABELS" 5) rfl)
  have m_LEAST_LABELS := He.int_ok X G (c.fact 51 (f := .int "LEAST_LABELS" 2) rfl)
  have m_MOST_SEGMENTS := He.int_ok X G (c.fact 52 (f := .int "MOST_SEGMENTS" 4) rfl)
  have z_bool := He.free_ok X G (c.fact 53 (f := .free "bool") rfl)
  have z_int := He.free_ok X G (c.fact 54 (f := .free "int") rfl)
  have m_MOST_PAGES := He.int_ok X G (c.fact 55 (f := .int "MOST_PAGES" 5) rfl)
  have z_enumerate := He.free_ok X G (c.fact 56 (f := .free "enumerate") rfl)
  have m_MOST_WRITES := He.int_ok X G (c.fact 57 (f := .int "MOST_WRITES" 5) rfl)
  have z_list := He.free_ok X G (c.fact 58 (f := .free "list") rfl)
  have z_sorted := He.free_ok X G (c.fact 59 (f := .free "sorted") rfl)
  have z_range := He.free_ok X G (c.fact 60 (f := .free "range") rfl)
  have z_min := He.free_ok X G (c.fact 61 (f := .free "min") rfl)
  obtain ⟨fd_is_of, E_is_of⟩ := c.def_ 0 (d := D_is_of) rfl
  have g_is_of := He.glo_ok X G (c.fact 0 (f := .glo "is_of") rfl)
  have F_is_of : Fun K "is_of" "is_of" s_is_of _ fd_is_of := funD_fun E_is_of
  have b_is_of : Binds K fd_is_of ["thing", "signs"] [] := FunD.bindsN E_is_of fun _ _ _ _ _ _ us hl => match us, hl with | [_, _], _ => rfl
  obtain ⟨fd_is_name, E_is_name⟩ := c.def_ 1 (d := D_is_name) rfl
  have g_is_name := He.glo_ok X G (c.fact 1 (f := .glo "is_name") rfl)
  have F_is_name : Fun K "is_name" "is_name" s_is_name _ fd_is_name := funD_fun E_is_name
  have b_is_name : Binds K fd_is_name ["thing"] [] := FunD.bindsN E_is_name fun _ _ _ _ _ _ us hl => match us, hl with | [_], _ => rfl
  obtain ⟨fd_are_words, E_are_words⟩ := c.def_ 2 (d := D_are_words) rfl
  have g_are_words := He.glo_ok X G (c.fact 2 (f := .glo "are_words") rfl)
  have F_are_words : Fun K "are_words" "are_words" s_are_words _ fd_are_words := funD_fun E_are_words
  have b_are_words : Binds K fd_are_words ["thing", "least", "most"] [] := FunD.bindsN E_are_words fun _ _ _ _ _ _ us hl => match us, hl with | [_, _, _], _ => rfl
  obtain ⟨fd_is_host, E_is_host⟩ := c.def_ 3 (d := D_is_host) rfl
  have g_is_host := He.glo_ok X G (c.fact 3 (f := .glo "is_host") rfl)
  have F_is_host : Fun K "is_host" "is_host" s_is_host _ fd_is_host := funD_fun E_is_host
  have b_is_host : Binds K fd_is_host ["thing"] [] := FunD.bindsN E_is_host fun _ _ _ _ _ _ us hl => match us, hl with | [_], _ => rfl
  obtain ⟨fd_is_path, E_is_path⟩ := c.def_ 4 (d := D_is_path) rfl
  have g_is_path := He.glo_ok X G (c.fact 4 (f := .glo "is_path") rfl)
  have F_is_path : Fun K "is_path" "is_path" s_is_path _ fd_is_path := funD_fun E_is_path
  have b_is_path : Binds K fd_is_path ["thing"] [] := FunD.bindsN E_is_path fun _ _ _ _ _ _ us hl => match us, hl with | [_], _ => rfl
  obtain ⟨fd_is_address, E_is_address⟩ := c.def_ 5 (d := D_is_address) rfl
  have g_is_address := He.glo_ok X G (c.fact 5 (f := .glo "is_address") rfl)
  have F_is_address : Fun K "is_address" "is_address" s_is_address _ fd_is_address := funD_fun E_is_address
  have b_is_address : Binds K fd_is_address ["thing"] [] := FunD.bindsN E_is_address fun _ _ _ _ _ _ us hl => match us, hl with | [_], _ => rfl
  obtain ⟨fd_is_within, E_is_within⟩ := c.def_ 6 (d := D_is_within) rfl
  have g_is_within := He.glo_ok X G (c.fact 6 (f := .glo "is_within") rfl)
  have F_is_within : Fun K "is_within" "is_within" s_is_within _ fd_is_within := funD_fun E_is_within
  have b_is_within : Binds K fd_is_within ["host", "other"] [] := FunD.bindsN E_is_within fun _ _ _ _ _ _ us hl => match us, hl with | [_, _], _ => rfl
  obtain ⟨fd_is_below, E_is_below⟩ := c.def_ 7 (d := D_is_below) rfl
  have g_is_below := He.glo_ok X G (c.fact 7 (f := .glo "is_below") rfl)
  have F_is_below : Fun K "is_below" "is_below" s_is_below _ fd_is_below := funD_fun E_is_below
  have b_is_below : Binds K fd_is_below ["path", "other"] [] := FunD.bindsN E_is_below fun _ _ _ _ _ _ us hl => match us, hl with | [_, _], _ => rfl
  obtain ⟨fd_is_whole, E_is_whole⟩ := c.def_ 8 (d := D_is_whole) rfl
  have g_is_whole := He.glo_ok X G (c.fact 8 (f := .glo "is_whole") rfl)
  have F_is_whole : Fun K "is_whole" "is_whole" s_is_whole _ fd_is_whole := funD_fun E_is_whole
  have b_is_whole : Binds K fd_is_whole ["thing", "least", "most"] [] := FunD.bindsN E_is_whole fun _ _ _ _ _ _ us hl => match us, hl with | [_, _, _], _ => rfl
  obtain ⟨fd_is_value, E_is_value⟩ := c.def_ 9 (d := D_is_value) rfl
  have g_is_value := He.glo_ok X G (c.fact 9 (f := .glo "is_value") rfl)
  have F_is_value : Fun K "is_value" "is_value" s_is_value _ fd_is_value := funD_fun E_is_value
  have b_is_value : Binds K fd_is_value ["thing"] [] := FunD.bindsN E_is_value fun _ _ _ _ _ _ us hl => match us, hl with | [_], _ => rfl
  obtain ⟨fd_is_write, E_is_write⟩ := c.def_ 10 (d := D_is_write) rfl
  have g_is_write := He.glo_ok X G (c.fact 10 (f := .glo "is_write") rfl)
  have F_is_write : Fun K "is_write" "is_write" s_is_write _ fd_is_write := funD_fun E_is_write
  have b_is_write : Binds K fd_is_write ["thing"] [] := FunD.bindsN E_is_write fun _ _ _ _ _ _ us hl => match us, hl with | [_], _ => rfl
  obtain ⟨fd_need_site, E_need_site⟩ := c.def_ 11 (d := D_need_site) rfl
  have g_need_site := He.glo_ok X G (c.fact 11 (f := .glo "need_site") rfl)
  have F_need_site : Fun K "need_site" "need_site" s_need_site _ fd_need_site := funD_fun E_need_site
  have b_need_site : Binds K fd_need_site ["thing"] [] := FunD.bindsN E_need_site fun _ _ _ _ _ _ us hl => match us, hl with | [_], _ => rfl
  obtain ⟨fd_need_page, E_need_page⟩ := c.def_ 12 (d := D_need_page) rfl
  have g_need_page := He.glo_ok X G (c.fact 12 (f := .glo "need_page") rfl)
  have F_need_page : Fun K "need_page" "need_page" s_need_page _ fd_need_page := funD_fun E_need_page
  have b_need_page : Binds K fd_need_page ["site", "page"] [] := FunD.bindsN E_need_page fun _ _ _ _ _ _ us hl => match us, hl with | [_, _], _ => rfl
  obtain ⟨fd_need_name, E_need_name⟩ := c.def_ 13 (d := D_need_name) rfl
  have g_need_name := He.glo_ok X G (c.fact 13 (f := .glo "need_name") rfl)
  have F_need_name : Fun K "need_name" "need_name" s_need_name _ fd_need_name := funD_fun E_need_name
  have b_need_name : Binds K fd_need_name ["thing"] [] := FunD.bindsN E_need_name fun _ _ _ _ _ _ us hl => match us, hl with | [_], _ => rfl
  obtain ⟨fd_key_in, E_key_in⟩ := c.def_ 14 (d := D_key_in) rfl
  have g_key_in := He.glo_ok X G (c.fact 14 (f := .glo "key_in") rfl)
  have F_key_in : Fun K "key_in" "key_in" s_key_in _ fd_key_in := funD_fun E_key_in
  have b_key_in : Binds K fd_key_in ["address", "write"] [] := FunD.bindsN E_key_in fun _ _ _ _ _ _ us hl => match us, hl with | [_, _], _ => rfl
  obtain ⟨fd_taken_in, E_taken_in⟩ := c.def_ 15 (d := D_taken_in) rfl
  have g_taken_in := He.glo_ok X G (c.fact 15 (f := .glo "taken_in") rfl)
  have F_taken_in : Fun K "taken_in" "taken_in" s_taken_in _ fd_taken_in := funD_fun E_taken_in
  have b_taken_in : Binds K fd_taken_in ["page"] [] := FunD.bindsN E_taken_in fun _ _ _ _ _ _ us hl => match us, hl with | [_], _ => rfl
  obtain ⟨fd_is_key, E_is_key⟩ := c.def_ 16 (d := D_is_key) rfl
  have g_is_key := He.glo_ok X G (c.fact 16 (f := .glo "is_key") rfl)
  have F_is_key : Fun K "is_key" "is_key" s_is_key _ fd_is_key := funD_fun E_is_key
  have b_is_key : Binds K fd_is_key ["thing"] [] := FunD.bindsN E_is_key fun _ _ _ _ _ _ us hl => match us, hl with | [_], _ => rfl
  obtain ⟨fd_is_kept, E_is_kept⟩ := c.def_ 17 (d := D_is_kept) rfl
  have g_is_kept := He.glo_ok X G (c.fact 17 (f := .glo "is_kept") rfl)
  have F_is_kept : Fun K "is_kept" "is_kept" s_is_kept _ fd_is_kept := funD_fun E_is_kept
  have b_is_kept : Binds K fd_is_kept ["thing"] [] := FunD.bindsN E_is_kept fun _ _ _ _ _ _ us hl => match us, hl with | [_], _ => rfl
  obtain ⟨fd_rank, E_rank⟩ := c.def_ 18 (d := D_rank) rfl
  have g_rank := He.glo_ok X G (c.fact 18 (f := .glo "rank") rfl)
  have F_rank : Fun K "rank" "rank" s_rank _ fd_rank := funD_fun E_rank
  have b_rank : Binds K fd_rank ["kept"] [] := FunD.bindsN E_rank fun _ _ _ _ _ _ us hl => match us, hl with | [_], _ => rfl
  obtain ⟨fd_need_jar, E_need_jar⟩ := c.def_ 19 (d := D_need_jar) rfl
  have g_need_jar := He.glo_ok X G (c.fact 19 (f := .glo "need_jar") rfl)
  have F_need_jar : Fun K "need_jar" "need_jar" s_need_jar _ fd_need_jar := funD_fun E_need_jar
  have b_need_jar : Binds K fd_need_jar ["thing"] [] := FunD.bindsN E_need_jar fun _ _ _ _ _ _ us hl => match us, hl with | [_], _ => rfl
  obtain ⟨fd_need_address, E_need_address⟩ := c.def_ 20 (d := D_need_address) rfl
  have g_need_address := He.glo_ok X G (c.fact 20 (f := .glo "need_address") rfl)
  have F_need_address : Fun K "need_address" "need_address" s_need_address _ fd_need_address := funD_fun E_need_address
  have b_need_address : Binds K fd_need_address ["thing"] [] := FunD.bindsN E_need_address fun _ _ _ _ _ _ us hl => match us, hl with | [_], _ => rfl
  obtain ⟨fd_need_row, E_need_row⟩ := c.def_ 21 (d := D_need_row) rfl
  have g_need_row := He.glo_ok X G (c.fact 21 (f := .glo "need_row") rfl)
  have F_need_row : Fun K "need_row" "need_row" s_need_row _ fd_need_row := funD_fun E_need_row
  have b_need_row : Binds K fd_need_row ["site", "thing"] [] := FunD.bindsN E_need_row fun _ _ _ _ _ _ us hl => match us, hl with | [_, _], _ => rfl
  obtain ⟨fd_after, E_after⟩ := c.def_ 22 (d := D_after) rfl
  have g_after := He.glo_ok X G (c.fact 22 (f := .glo "after") rfl)
  have F_after : Fun K "after" "after" s_after _ fd_after := funD_fun E_after
  have b_after : Binds K fd_after ["jar", "page"] [] := FunD.bindsN E_after fun _ _ _ _ _ _ us hl => match us, hl with | [_, _], _ => rfl
  obtain ⟨fd_goes, E_goes⟩ := c.def_ 23 (d := D_goes) rfl
  have g_goes := He.glo_ok X G (c.fact 23 (f := .glo "goes") rfl)
  have F_goes : Fun K "goes" "goes" s_goes _ fd_goes := funD_fun E_goes
  have b_goes : Binds K fd_goes ["kept", "address"] [] := FunD.bindsN E_goes fun _ _ _ _ _ _ us hl => match us, hl with | [_, _], _ => rfl
  obtain ⟨fd_sent_in, E_sent_in⟩ := c.def_ 24 (d := D_sent_in) rfl
  have g_sent_in := He.glo_ok X G (c.fact 24 (f := .glo "sent_in") rfl)
  have F_sent_in : Fun K "sent_in" "sent_in" s_sent_in _ fd_sent_in := funD_fun E_sent_in
  have b_sent_in : Binds K fd_sent_in ["jar", "address"] [] := FunD.bindsN E_sent_in fun _ _ _ _ _ _ us hl => match us, hl with | [_, _], _ => rfl
  obtain ⟨fd_read_in, E_read_in⟩ := c.def_ 25 (d := D_read_in) rfl
  have g_read_in := He.glo_ok X G (c.fact 25 (f := .glo "read_in") rfl)
  have F_read_in : Fun K "read_in" "read_in" s_read_in _ fd_read_in := funD_fun E_read_in
  have b_read_in : Binds K fd_read_in ["jar", "address", "name"] [] := FunD.bindsN E_read_in fun _ _ _ _ _ _ us hl => match us, hl with | [_, _, _], _ => rfl
  obtain ⟨fd_behind_in, E_behind_in⟩ := c.def_ 26 (d := D_behind_in) rfl
  have g_behind_in := He.glo_ok X G (c.fact 26 (f := .glo "behind_in") rfl)
  have F_behind_in : Fun K "behind_in" "behind_in" s_behind_in _ fd_behind_in := funD_fun E_behind_in
  have b_behind_in : Binds K fd_behind_in ["site", "row"] [] := FunD.bindsN E_behind_in fun _ _ _ _ _ _ us hl => match us, hl with | [_, _], _ => rfl
  obtain ⟨fd_visited, E_visited⟩ := c.def_ 27 (d := D_visited) rfl
  have g_visited := He.glo_ok X G (c.fact 27 (f := .glo "visited") rfl)
  have F_visited : Fun K "visited" "visited" s_visited _ fd_visited := funD_fun E_visited
  have b_visited : Binds K fd_visited ["jar", "site", "page"] [] := FunD.bindsN E_visited fun _ _ _ _ _ _ us hl => match us, hl with | [_, _, _], _ => rfl
  obtain ⟨fd_behind, E_behind⟩ := c.def_ 28 (d := D_behind) rfl
  have g_behind := He.glo_ok X G (c.fact 28 (f := .glo "behind") rfl)
  have F_behind : Fun K "behind" "behind" s_behind _ fd_behind := funD_fun E_behind
  have b_behind : Binds K fd_behind ["site", "row"] [] := FunD.bindsN E_behind fun _ _ _ _ _ _ us hl => match us, hl with | [_, _], _ => rfl
  obtain ⟨fd_sent, E_sent⟩ := c.def_ 29 (d := D_sent) rfl
  have g_sent := He.glo_ok X G (c.fact 29 (f := .glo "sent") rfl)
  have F_sent : Fun K "sent" "sent" s_sent _ fd_sent := funD_fun E_sent
  have b_sent : Binds K fd_sent ["jar", "address"] [] := FunD.bindsN E_sent fun _ _ _ _ _ _ us hl => match us, hl with | [_, _], _ => rfl
  obtain ⟨fd_read, E_read⟩ := c.def_ 30 (d := D_read) rfl
  have g_read := He.glo_ok X G (c.fact 30 (f := .glo "read") rfl)
  have F_read : Fun K "read" "read" s_read _ fd_read := funD_fun E_read
  have b_read : Binds K fd_read ["jar", "address", "name"] [] := FunD.bindsN E_read fun _ _ _ _ _ _ us hl => match us, hl with | [_, _, _], _ => rfl
  obtain ⟨fd__law_mixed, E__law_mixed⟩ := c.def_ 31 (d := D__law_mixed) rfl
  have g__law_mixed := He.glo_ok X G (c.fact 31 (f := .glo "_law_mixed") rfl)
  have F__law_mixed : Fun K "_law_mixed" "_law_mixed" s__law_mixed _ fd__law_mixed := funD_fun E__law_mixed
  have b__law_mixed : Binds K fd__law_mixed ["cell", "k"] [] := FunD.bindsN E__law_mixed fun _ _ _ _ _ _ us hl => match us, hl with | [_, _], _ => rfl
  obtain ⟨fd__law_begin, E__law_begin⟩ := c.def_ 32 (d := D__law_begin) rfl
  have g__law_begin := He.glo_ok X G (c.fact 32 (f := .glo "_law_begin") rfl)
  have F__law_begin : Fun K "_law_begin" "_law_begin" s__law_begin _ fd__law_begin := funD_fun E__law_begin
  have b__law_begin : Binds K fd__law_begin ["script"] [] := FunD.bindsN E__law_begin fun _ _ _ _ _ _ us hl => match us, hl with | [_], _ => rfl
  obtain ⟨fd__law_draw, E__law_draw⟩ := c.def_ 33 (d := D__law_draw) rfl
  have g__law_draw := He.glo_ok X G (c.fact 33 (f := .glo "_law_draw") rfl)
  have F__law_draw : Fun K "_law_draw" "_law_draw" s__law_draw _ fd__law_draw := funD_fun E__law_draw
  have b__law_draw : Binds K fd__law_draw ["state", "many"] [] := FunD.bindsN E__law_draw fun _ _ _ _ _ _ us hl => match us, hl with | [_, _], _ => rfl
  obtain ⟨fd__law_of, E__law_of⟩ := c.def_ 34 (d := D__law_of) rfl
  have g__law_of := He.glo_ok X G (c.fact 34 (f := .glo "_law_of") rfl)
  have F__law_of : Fun K "_law_of" "_law_of" s__law_of _ fd__law_of := funD_fun E__law_of
  have b__law_of : Binds K fd__law_of ["state", "some"] [] := FunD.bindsN E__law_of fun _ _ _ _ _ _ us hl => match us, hl with | [_, _], _ => rfl
  obtain ⟨fd__law_values, E__law_values⟩ := c.def_ 35 (d := D__law_values) rfl
  have g__law_values := He.glo_ok X G (c.fact 35 (f := .glo "_law_values") rfl)
  have F__law_values : Fun K "_law_values" "_law_values" s__law_values _ fd__law_values := funD_fun E__law_values
  have b__law_values : Binds K fd__law_values ["state"] [] := FunD.bindsN E__law_values fun _ _ _ _ _ _ us hl => match us, hl with | [_], _ => rfl
  obtain ⟨fd__law_two_right, E__law_two_right⟩ := c.def_ 36 (d := D__law_two_right) rfl
  have g__law_two_right := He.glo_ok X G (c.fact 36 (f := .glo "_law_two_right") rfl)
  have F__law_two_right : Fun K "_law_two_right" "_law_two_right" s__law_two_right _ fd__law_two_right := funD_fun E__law_two_right
  have b__law_two_right : Binds K fd__law_two_right ["one", "two"] [] := FunD.bindsN E__law_two_right fun _ _ _ _ _ _ us hl => match us, hl with | [_, _], _ => rfl
  obtain ⟨fd__law_ages_right, E__law_ages_right⟩ := c.def_ 37 (d := D__law_ages_right) rfl
  have g__law_ages_right := He.glo_ok X G (c.fact 37 (f := .glo "_law_ages_right") rfl)
  have F__law_ages_right : Fun K "_law_ages_right" "_law_ages_right" s__law_ages_right _ fd__law_ages_right := funD_fun E__law_ages_right
  have b__law_ages_right : Binds K fd__law_ages_right ["one", "two", "three"] [] := FunD.bindsN E__law_ages_right fun _ _ _ _ _ _ us hl => match us, hl with | [_, _, _], _ => rfl
  obtain ⟨fd__law_folders_right, E__law_folders_right⟩ := c.def_ 38 (d := D__law_folders_right) rfl
  have g__law_folders_right := He.glo_ok X G (c.fact 38 (f := .glo "_law_folders_right") rfl)
  have F__law_folders_right : Fun K "_law_folders_right" "_law_folders_right" s__law_folders_right _ fd__law_folders_right := funD_fun E__law_folders_right
  have b__law_folders_right : Binds K fd__law_folders_right ["one", "two", "three"] [] := FunD.bindsN E__law_folders_right fun _ _ _ _ _ _ us hl => match us, hl with | [_, _, _], _ => rfl
  obtain ⟨fd__law_untaken_right, E__law_untaken_right⟩ := c.def_ 39 (d := D__law_untaken_right) rfl
  have g__law_untaken_right := He.glo_ok X G (c.fact 39 (f := .glo "_law_untaken_right") rfl)
  have F__law_untaken_right : Fun K "_law_untaken_right" "_law_untaken_right" s__law_untaken_right _ fd__law_untaken_right := funD_fun E__law_untaken_right
  have b__law_untaken_right : Binds K fd__law_untaken_right ["one", "two"] [] := FunD.bindsN E__law_untaken_right fun _ _ _ _ _ _ us hl => match us, hl with | [_, _], _ => rfl
  obtain ⟨fd__law_wide_right, E__law_wide_right⟩ := c.def_ 40 (d := D__law_wide_right) rfl
  have g__law_wide_right := He.glo_ok X G (c.fact 40 (f := .glo "_law_wide_right") rfl)
  have F__law_wide_right : Fun K "_law_wide_right" "_law_wide_right" s__law_wide_right _ fd__law_wide_right := funD_fun E__law_wide_right
  have b__law_wide_right : Binds K fd__law_wide_right ["one"] [] := FunD.bindsN E__law_wide_right fun _ _ _ _ _ _ us hl => match us, hl with | [_], _ => rfl
  obtain ⟨fd_law, E_law⟩ := c.def_ 41 (d := D_law) rfl
  have g_law := He.glo_ok X G (c.fact 41 (f := .glo "law") rfl)
  have F_law : Fun K "law" "law" s_law _ fd_law := funD_fun E_law
  have e := hfa.symm.trans g_law
  cases e
  have bl := FunD.bindsA (ps := ["script"]) E_law fun _ _ _ _ _ _ us hl => match us, hl with | [_], _ => rfl
  refine ⟨fd_law, fun s v => bl s [v] rfl, fun base hb1 hb2 => ?_⟩
  have C_is_of : Cal P w K mg base ct0 "is_of" 2 1 rn_is_of := cal_mk F_is_of g_is_of b_is_of (ok_is_of F_is_of z_len m_MOST_SIGNS z_str z_isinstance z_all)
  have C_is_name : Cal P w K mg base ct0 "is_name" 1 2 rn_is_name := cal_mk F_is_name g_is_name b_is_name (ok_is_name F_is_name m_LETTERS C_is_of)
  have C_are_words : Cal P w K mg base ct0 "are_words" 3 2 rn_are_words := cal_mk F_are_words g_are_words b_are_words (ok_are_words F_are_words z_len z_tuple z_isinstance m_SIGNS C_is_of z_all)
  have C_is_host : Cal P w K mg base ct0 "is_host" 1 3 rn_is_host := cal_mk F_is_host g_is_host b_is_host (ok_is_host F_is_host m_MOST_LABELS m_LEAST_LABELS C_are_words)
  have C_is_path : Cal P w K mg base ct0 "is_path" 1 3 rn_is_path := cal_mk F_is_path g_is_path b_is_path (ok_is_path F_is_path m_MOST_SEGMENTS C_are_words)
  have C_is_address : Cal P w K mg base ct0 "is_address" 1 4 rn_is_address := cal_mk F_is_address g_is_address b_is_address (ok_is_address F_is_address z_len z_tuple z_isinstance z_bool C_is_path C_is_host)
  have C_is_within : Cal P w K mg base ct0 "is_within" 2 1 rn_is_within := cal_mk F_is_within g_is_within b_is_within (ok_is_within F_is_within z_len)
  have C_is_below : Cal P w K mg base ct0 "is_below" 2 1 rn_is_below := cal_mk F_is_below g_is_below b_is_below (ok_is_below F_is_below z_len)
  have C_is_whole : Cal P w K mg base ct0 "is_whole" 3 1 rn_is_whole := cal_mk F_is_whole g_is_whole b_is_whole (ok_is_whole F_is_whole z_bool z_isinstance z_int)
  have C_is_value : Cal P w K mg base ct0 "is_value" 1 2 rn_is_value := cal_mk F_is_value g_is_value b_is_value (ok_is_value F_is_value m_SIGNS C_is_of)
  have C_is_write : Cal P w K mg base ct0 "is_write" 1 4 rn_is_write := cal_mk F_is_write g_is_write b_is_write (ok_is_write F_is_write C_is_name z_len z_tuple z_isinstance C_is_value C_is_host C_is_path z_bool)
  have C_need_site : Cal P w K mg base ct0 "need_site" 1 5 rn_need_site := cal_mk F_need_site g_need_site b_need_site (ok_need_site F_need_site z_len m_MOST_PAGES z_tuple z_isinstance z_enumerate C_is_address m_MOST_WRITES C_is_write)
  have C_need_page : Cal P w K mg base ct0 "need_page" 2 2 rn_need_page := cal_mk F_need_page g_need_page b_need_page (ok_need_page F_need_page z_len C_is_whole)
  have C_need_name : Cal P w K mg base ct0 "need_name" 1 3 rn_need_name := cal_mk F_need_name g_need_name b_need_name (ok_need_name F_need_name C_is_name)
  have C_key_in : Cal P w K mg base ct0 "key_in" 2 2 rn_key_in := cal_mk F_key_in g_key_in b_key_in (ok_key_in F_key_in C_is_within)
  have C_taken_in : Cal P w K mg base ct0 "taken_in" 1 3 rn_taken_in := cal_mk F_taken_in g_taken_in b_taken_in (ok_taken_in F_taken_in C_key_in)
  have C_is_key : Cal P w K mg base ct0 "is_key" 1 4 rn_is_key := cal_mk F_is_key g_is_key b_is_key (ok_is_key F_is_key C_is_name z_len z_tuple z_isinstance z_bool C_is_path C_is_host)
  have C_is_kept : Cal P w K mg base ct0 "is_kept" 1 5 rn_is_kept := cal_mk F_is_kept g_is_kept b_is_kept (ok_is_kept F_is_kept C_is_key z_len z_tuple z_isinstance z_bool C_is_value)
  have C_rank : Cal P w K mg base ct0 "rank" 1 1 rn_rank := cal_mk F_rank g_rank b_rank (ok_rank F_rank z_len)
  have C_need_jar : Cal P w K mg base ct0 "need_jar" 1 6 (rn_need_jar w) := cal_mk F_need_jar g_need_jar b_need_jar (ok_need_jar F_need_jar z_tuple z_isinstance z_enumerate C_is_kept C_rank)
  have C_need_address : Cal P w K mg base ct0 "need_address" 1 5 rn_need_address := cal_mk F_need_address g_need_address b_need_address (ok_need_address F_need_address C_is_address)
  have C_need_row : Cal P w K mg base ct0 "need_row" 2 2 rn_need_row := cal_mk F_need_row g_need_row b_need_row (ok_need_row F_need_row z_len C_is_whole z_all z_tuple z_isinstance)
  have C_after : Cal P w K mg base ct0 "after" 2 4 rn_after := cal_mk F_after g_after b_after (ok_after F_after z_list C_taken_in z_enumerate z_sorted C_rank z_tuple)
  have C_goes : Cal P w K mg base ct0 "goes" 2 2 rn_goes := cal_mk F_goes g_goes b_goes (ok_goes F_goes C_is_below C_is_within)
  have C_sent_in : Cal P w K mg base ct0 "sent_in" 2 3 rn_sent_in := cal_mk F_sent_in g_sent_in b_sent_in (ok_sent_in F_sent_in C_goes z_tuple)
  have C_read_in : Cal P w K mg base ct0 "read_in" 3 4 rn_read_in := cal_mk F_read_in g_read_in b_read_in (ok_read_in F_read_in C_sent_in)
  have C_behind_in : Cal P w K mg base ct0 "behind_in" 2 5 rn_behind_in := cal_mk F_behind_in g_behind_in b_behind_in (ok_behind_in F_behind_in C_after)
  have C_visited : Cal P w K mg base ct0 "visited" 3 7 (rn_visited w) := cal_mk F_visited g_visited b_visited (ok_visited F_visited C_need_jar C_need_site C_need_page C_after)
  have C_behind : Cal P w K mg base ct0 "behind" 2 6 rn_behind := cal_mk F_behind g_behind b_behind (ok_behind F_behind C_need_site C_need_row C_behind_in)
  have C_sent : Cal P w K mg base ct0 "sent" 2 7 (rn_sent w) := cal_mk F_sent g_sent b_sent (ok_sent F_sent C_need_jar C_need_address C_sent_in)
  have C_read : Cal P w K mg base ct0 "read" 3 7 (rn_read w) := cal_mk F_read g_read b_read (ok_read F_read C_need_jar C_need_address C_need_name C_read_in)
  have C__law_mixed : Cal P w K mg base ct0 "_law_mixed" 2 1 rn__law_mixed := cal_mk F__law_mixed g__law_mixed b__law_mixed (ok__law_mixed F__law_mixed z_int)
  have C__law_begin : Cal P w K mg base ct0 "_law_begin" 1 1 rn__law_begin := cal_mk F__law_begin g__law_begin b__law_begin (ok__law_begin F__law_begin z_list)
  have C__law_draw : Cal P w K mg base ct0 "_law_draw" 2 2 rn__law_draw := cal_mk F__law_draw g__law_draw b__law_draw (ok__law_draw F__law_draw z_int z_len C__law_mixed)
  have C__law_of : Cal P w K mg base ct0 "_law_of" 2 3 rn__law_of := cal_mk F__law_of g__law_of b__law_of (ok__law_of F__law_of z_len C__law_draw)
  have C__law_values : Cal P w K mg base ct0 "_law_values" 1 3 rn__law_values := cal_mk F__law_values g__law_values b__law_values (ok__law_values F__law_values C__law_draw z_range)
  have C__law_two_right : Cal P w K mg base ct0 "_law_two_right" 2 8 (rn__law_two_right w) := cal_mk F__law_two_right g__law_two_right b__law_two_right (ok__law_two_right F__law_two_right C_behind C_sent C_read)
  have C__law_ages_right : Cal P w K mg base ct0 "_law_ages_right" 3 8 (rn__law_ages_right w) := cal_mk F__law_ages_right g__law_ages_right b__law_ages_right (ok__law_ages_right F__law_ages_right C_behind C_sent C_read)
  have C__law_folders_right : Cal P w K mg base ct0 "_law_folders_right" 3 8 (rn__law_folders_right w) := cal_mk F__law_folders_right g__law_folders_right b__law_folders_right (ok__law_folders_right F__law_folders_right C_behind C_sent C_read)
  have C__law_untaken_right : Cal P w K mg base ct0 "_law_untaken_right" 2 8 (rn__law_untaken_right w) := cal_mk F__law_untaken_right g__law_untaken_right b__law_untaken_right (ok__law_untaken_right F__law_untaken_right C_behind C_sent C_visited)
  have C__law_wide_right : Cal P w K mg base ct0 "_law_wide_right" 1 8 (rn__law_wide_right w) := cal_mk F__law_wide_right g__law_wide_right b__law_wide_right (ok__law_wide_right F__law_wide_right z_range z_tuple C_visited C_behind C_sent)
  exact ok_law F_law C__law_begin z_len z_min z_range C__law_values C__law_ages_right C__law_two_right C__law_wide_right C__law_untaken_right C__law_folders_right C_sent C_behind
theorem rl_ints {K : PySem.W.Frag} {ρ : Rho} {H : Hp} : ∀ ns : List Int, RlAll K ρ H (ns.map V.int) (ns.map Jv.D.int)
  | [] => .nil
  | n :: r => .cons (.int n) (rl_ints r)
theorem law_sp {w : World} {K : PySem.W.Frag} {H : Hp} {a : Addr} {ns : List Int} (hl : ns.length ≤ 63) (hS : SqL K H a (ns.map V.int)) : spG K ct0 1 (rn_law w) [.ref a] H (fun v _ => v = .bl true) fun _ _ _ => False := by
  have nm : ∀ b : Addr, ¬ (Rho.mk [] []).mut b := fun b z => z.elim (fun z => nomatch z) (fun z => nomatch z)
  refine ⟨⟨[], []⟩, [], [.v (.lst (ns.map Jv.D.int))], ⟨rfl, (fun l l' a e => by simp at e), (fun l o e => by simp at e), (fun a h => nomatch h), (fun a h => nomatch h), (fun l o e => by simp at e)⟩, .cons (.v (.lst ?_ (rl_ints ns))) .nil, rfl, ?_⟩
  · rcases hS with h | h
    · exact .inl ⟨h, nm a⟩
    · exact .inr h
  · rw [law_ok w ns hl]
    intro ρ' H' b g s r
    cases r with | v r =>
    cases r
    rfl
end K5
open PySem PySem.W PySem.Calls PyProof.Rows
theorem PySem.Challenge.cw_jarvisits_k05_visits_by_hand_holds : PySem.Challenge.rw_jarvisits_k05_visits_by_hand.Holds := by
  w_on; o_law
  refine HandSHeadRun.head_any (r := OpenLaw.row PySem.Challenge.rw_jarvisits_k05_visits_by_hand) (q := view (OpenLaw.row PySem.Challenge.rw_jarvisits_k05_visits_by_hand).prog [61]) (H := K5.hk) (ob := K5.ob) (M := 20000) (loose := K5.names) (d := HandSHeadRun.topDef (OpenLaw.row PySem.Challenge.rw_jarvisits_k05_visits_by_hand).prog 61) (kwd := []) K5.ob_eq
    (by kernel_rfl) (fun s => by kernel_rfl) K5.run (by kernel_rfl) (by kernel_rfl) (by kernel_rfl) (by rfl) (by first | assumption | decide +kernel) (by decide +kernel) ⟨rfl, rfl, rfl, rfl, rfl, by decide +kernel⟩ ?hw ?hc
  case hw => w_witness2
  case hc =>
    refine Jv.walkG (l := PySem.Challenge.rw_jarvisits_k05_visits_by_hand) (n := 63) (k := 9) (x := "script") (CX := L2.CX0) rfl (by decide) (by kernel_rfl) ⟨rfl, by decide, by decide⟩ ?F (fun _ _ _ _ z => z)
    intro w mg fa h Y G hmg0
    obtain ⟨K, KX, c⟩ := Y
    have hmg : mg ("law" : PySem.Str) = some (.ref fa) := by
      have e : (HandSHeadRun.topDef (OpenLaw.row PySem.Challenge.rw_jarvisits_k05_visits_by_hand).prog 61).name = ("law" : PySem.Str) := by kernel_rfl
      rw [← e]
      exact hmg0
    obtain ⟨fd, hb, hF⟩ := K5.facts (P := (PySem.Challenge.rw_jarvisits_k05_visits_by_hand).prog) (w := w) KX G hmg c
    exact ⟨K, fd, Jv.spG K K5.ct0 1 (K5.rn_law w), KX, hb, fun H a ns hl _ hS => K5.law_sp hl hS, hF⟩
end
